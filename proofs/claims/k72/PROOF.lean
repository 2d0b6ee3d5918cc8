import PyProof.Rows.All
import Wide.All
import OpenK.AllK
import Wide.FinOn
import HandS.ForMost
import HandS.ForExc
import HandS.Lambda
import HandS.Defaults
import HandS.TupAny
import HandS.TupMul
import HandS.Wide
import HandS.IsInst
import HandS.SortInts
import KE.DataCmp
import HandS.TryOnly
import HandS.Style
import HandS.Strs
import HandS.Deep
import HandS.ExcIs
import PyProof.ReprRoads
import PyProof.ReprBulk
import PyProof.SumAny
import PyProof.ListOps
import HandS.SetFor
import HandS.EndTab
import HandS.HeadWalk
import HandS.Head0
import HandS.Head1
import HandS.Head2
import HandS.HeadEnd
import HandS.HeadHook1
import HandS.HeadHook2
import HandS.HeadHook3
import HandS.HeadHook4
import PySem.Challenge.RW_inkforall_k72_whole_sizes_that_have_line
-- DLcore
set_option Elab.async false
set_option linter.all false
set_option maxRecDepth 100000
set_option maxHeartbeats 2000000
set_option autoImplicit false
namespace DL
open PySem PySem.Spec L2

/-- a lambda: its text, the cells that it holds -/
structure Clo where
  qual : Str
  params : Arguments
  body : Expr
  scope : Scope
  cells : List (Str × Addr)
/-- what a value is, as a tree: no heap in sight -/
inductive D where
  | non | bl (b : Bool) | int (i : Int) | str (x : Str)
  | lst (xs : List D) | tup (xs : List D) | wt (xs : List D) | scr (ns : List Int)
  | dk (kvs : List (Key × D)) | dt (kvs : List (List Key × D))
  | obj (C : Addr) (fs : List (Str × D))
  | drw | ty (n : String) | cls (C : Addr) | fn (k : Clo) | exc (C : Addr)

/-- the world around: the law's draws (their dict, its two lists), tables of code objects -/
structure Wd (K : PySem.W.Frag) where
  dp : Addr
  lp : Addr
  cp : Addr
  cs : List Int
  T : List (Addr × Str)
  n1 : dp ≠ lp
  n2 : dp ≠ cp
  n3 : lp ≠ cp
section
variable {K : PySem.W.Frag} (W : Wd K)
def drawKv (lp cp : Addr) (r t : Int) : List (Key × V) := [(Sum.inr "large", V.ref lp), (Sum.inr "rest", V.int r), (Sum.inr "cells", V.ref cp), (Sum.inr "turn", V.int t)]
/-- the draws as they stand -/
def DrawOk (H : Hp) : Prop := ∃ (r t : Int) (ls : List Int), H W.dp = some (.dK (drawKv W.lp W.cp r t)) ∧ H W.lp = some (.lst (ls.map V.int)) ∧ H W.cp = some (.lst (W.cs.map V.int))
def Wd.ok (H : Hp) : Prop := DrawOk W H ∧ LamX.Tabs W.T H
def Wd.fv (a : Addr) : Prop := a = W.dp ∨ a = W.lp ∨ a = W.cp
theorem Wd.th {H : Hp} {a : Addr} (h : W.ok H) (v : W.fv a) : ∃ o, H a = some o := by
  obtain ⟨r, t, ls, h1, h2, h3⟩ := h.1
  rcases v with rfl | rfl | rfl
  · exact ⟨_, h1⟩
  · exact ⟨_, h2⟩
  · exact ⟨_, h3⟩
theorem Wd.fvx {H : Hp} {a : Addr} {φ : Heap → Prop} (h : W.ok H) (e : H a = some (.ext φ)) : ¬ W.fv a := by
  obtain ⟨r, t, ls, h1, h2, h3⟩ := h.1
  rintro (rfl | rfl | rfl)
  · rw [h1] at e; cases e
  · rw [h2] at e; cases e
  · rw [h3] at e; cases e
theorem Wd.st {H H' : Hp} (h : W.ok H) (k : ∀ a o, H a = some o → (W.fv a ∨ (∃ ps, o = .tbl ps) ∨ ∃ φ, o = .ext φ) → H' a = some o) : W.ok H' := by
  obtain ⟨⟨r, t, ls, h1, h2, h3⟩, hT⟩ := h
  refine ⟨⟨r, t, ls, k _ _ h1 (.inl (.inl rfl)), k _ _ h2 (.inl (.inr (.inl rfl))), k _ _ h3 (.inl (.inr (.inr rfl)))⟩, fun p hp => ?_⟩
  obtain ⟨ps, a1, a2, a3⟩ := hT p hp
  refine ⟨ps, k _ _ a1 (.inr (.inl ⟨_, rfl⟩)), a2, fun pos cv e => ?_⟩
  obtain ⟨c, e1, e2⟩ := a3 pos cv e
  exact ⟨c, e1, k _ _ e2 (.inr (.inr ⟨_, rfl⟩))⟩
theorem Wd.tabs {H : Hp} (h : W.ok H) : LamX.Tabs W.T H := h.2
theorem Wd.lam {H H' : Hp} (h : W.ok H) (e : LamX.ExtN H H') (t : LamX.Tabs W.T H') : W.ok H' := by
  obtain ⟨⟨r, t', ls, h1, h2, h3⟩, _⟩ := h
  exact ⟨⟨r, t', ls, e _ _ h1 (fun ps z => by cases z), e _ _ h2 (fun ps z => by cases z), e _ _ h3 (fun ps z => by cases z)⟩, t⟩
end
/-- the object of an exception that was caught -/
def ExcO (C : Addr) (a : Addr) : HO := .ext fun h => ∃ o, h.get? a = some o ∧ L2.Zc (.ref C) none o ∧ ∃ vs, o.data = .fields vs

/-- the function object of a lambda; its code object stands at c -/
def FnO (k : Clo) (c a : Addr) : HO := .ext fun h => ∃ pm ctv, h.get? a = some (PySem.W.kla_obj "<lambda>" k.qual k.params k.body k.scope k.cells pm c ctv)
mutual
inductive Rp {K : PySem.W.Frag} (W : Wd K) (B : Hp) : V → D → Prop
  | non : Rp W B .non .non
  | bl (b : Bool) : Rp W B (.bl b) (.bl b)
  | int (i : Int) : Rp W B (.int i) (.int i)
  | str (x : Str) : Rp W B (.str x) (.str x)
  | ty (n : String) : Rp W B (.ty n) (.ty n)
  | drw : Rp W B (.ref W.dp) .drw
  | cls (C : Addr) : Rp W B (.ref C) (.cls C)
  | fn (a c : Addr) (k : Clo) : B a = some (FnO k c a) → B c = some (LamX.CodeO c k.qual) → Rp W B (.ref a) (.fn k)
  | exc (a C : Addr) : B a = some (ExcO C a) → Rp W B (.ref a) (.exc C)
  | lst (a : Addr) (vs : List V) (ds : List D) : B a = some (.lst vs) → Rps W B vs ds → Rp W B (.ref a) (.lst ds)
  | scr (a : Addr) (vs : List V) (ns : List Int) : SqL K B a vs → vs = ns.map V.int → Rp W B (.ref a) (.scr ns)
  | tup (a : Addr) (vs : List V) (ds : List D) : B a = some (.tup vs) → Rps W B vs ds → Rp W B (.ref a) (.tup ds)
  | wt (a : Addr) (vs : List V) (ds : List D) : SqT K B a vs → Rps W B vs ds → Rp W B (.ref a) (.wt ds)
  | dk (a : Addr) (kvs : List (Key × V)) (ds : List (Key × D)) : B a = some (.dK kvs) → kvs.map (·.1) = ds.map (·.1) → Rps W B (kvs.map (·.2)) (ds.map (·.2)) → Rp W B (.ref a) (.dk ds)
  | dt (a : Addr) (kvs : List (List Key × V)) (ds : List (List Key × D)) : B a = some (.dT kvs) → kvs.map (·.1) = ds.map (·.1) → Rps W B (kvs.map (·.2)) (ds.map (·.2)) → Rp W B (.ref a) (.dt ds)
  | obj (a C dx : Addr) (fs : List (Str × V)) (ds : List (Str × D)) : B a = some (.ins C dx fs) → fs.map (·.1) = ds.map (·.1) → Rps W B (fs.map (·.2)) (ds.map (·.2)) → Rp W B (.ref a) (.obj C ds)
inductive Rps {K : PySem.W.Frag} (W : Wd K) (B : Hp) : List V → List D → Prop
  | nil : Rps W B [] []
  | cons (v : V) (d : D) (vs : List V) (ds : List D) : Rp W B v d → Rps W B vs ds → Rps W B (v :: vs) (d :: ds)
end

/-- what stands in the one stands in the other -/
def Sub (B B' : Hp) : Prop := ∀ a o, B a = some o → B' a = some o
theorem Sub.refl (B : Hp) : Sub B B := fun _ _ h => h
theorem Sub.trans {A B C : Hp} (h : Sub A B) (g : Sub B C) : Sub A C := fun a o e => g a o (h a o e)
theorem Sub.new {B : Hp} {p : Addr} {o : HO} (h : B p = none) : Sub B (upd B p o) := fun a u e => by
  rw [upd_ne (ne_of_none e h)]; exact e
theorem Sub.rd {B B' : Hp} {a : Addr} {u : HO} (e : Sub B B') (h : Rd B a u) : Rd B' a u := by
  rcases h with h | ⟨o, h⟩
  · exact .inl (e a _ h)
  · exact .inr ⟨o, e a _ h⟩
theorem Sub.sqL {K : PySem.W.Frag} {B B' : Hp} {a : Addr} {xs : List V} (e : Sub B B') (h : SqL K B a xs) : SqL K B' a xs := by
  rcases h with h | h
  · exact .inl (e.rd h)
  · exact .inr h
theorem Sub.sqT {K : PySem.W.Frag} {B B' : Hp} {a : Addr} {xs : List V} (e : Sub B B') (h : SqT K B a xs) : SqT K B' a xs := by
  rcases h with h | h
  · exact .inl (e.rd h)
  · exact .inr h
theorem Rp.mono {K : PySem.W.Frag} {W : Wd K} {B B' : Hp} {v : V} {d : D} (h : Rp W B v d) (e : Sub B B') : Rp W B' v d :=
  Rp.rec (motive_1 := fun v d _ => Rp W B' v d) (motive_2 := fun vs ds _ => Rps W B' vs ds) .non .bl .int .str .ty .drw .cls (fun a c k h g => .fn a c k (e _ _ h) (e _ _ g)) (fun a C h => .exc a C (e _ _ h))
    (fun a vs ds s _ ih => .lst a vs ds (e _ _ s) ih) (fun a vs ns s h => .scr a vs ns (e.sqL s) h) (fun a vs ds s _ ih => .tup a vs ds (e _ _ s) ih) (fun a vs ds s _ ih => .wt a vs ds (e.sqT s) ih) (fun a kvs ds s k _ ih => .dk a kvs ds (e _ _ s) k ih) (fun a kvs ds s k _ ih => .dt a kvs ds (e _ _ s) k ih)
    (fun a C dx fs ds s k _ ih => .obj a C dx fs ds (e _ _ s) k ih) .nil (fun v d vs ds _ _ i1 i2 => .cons v d vs ds i1 i2) h
theorem Rps.mono {K : PySem.W.Frag} {W : Wd K} {B B' : Hp} {vs : List V} {ds : List D} (h : Rps W B vs ds) (e : Sub B B') : Rps W B' vs ds := by
  induction vs generalizing ds with
  | nil => cases h; exact .nil
  | cons v vs ih => cases h with | cons _ _ _ _ a b => exact .cons _ _ _ _ (a.mono e) (ih b)
theorem Rps.length {K : PySem.W.Frag} {W : Wd K} {B : Hp} {vs : List V} {ds : List D} (h : Rps W B vs ds) : vs.length = ds.length := by
  induction vs generalizing ds with
  | nil => cases h; rfl
  | cons v vs ih => cases h with | cons _ _ _ _ a b => simp [ih b]
theorem Rps.append {K : PySem.W.Frag} {W : Wd K} {B : Hp} {vs ws : List V} {ds es : List D} (h : Rps W B vs ds) (g : Rps W B ws es) : Rps W B (vs ++ ws) (ds ++ es) := by
  induction vs generalizing ds with
  | nil => cases h; exact g
  | cons v vs ih => cases h with | cons _ _ _ _ a b => exact .cons _ _ _ _ a (ih b)
theorem Rps.one {K : PySem.W.Frag} {W : Wd K} {B : Hp} {v : V} {d : D} (h : Rp W B v d) : Rps W B [v] [d] := .cons _ _ _ _ h .nil
theorem Rps.get {K : PySem.W.Frag} {W : Wd K} {B : Hp} {vs : List V} {ds : List D} (h : Rps W B vs ds) {i : Nat} {d : D} (e : ds[i]? = some d) : ∃ v, vs[i]? = some v ∧ Rp W B v d := by
  induction vs generalizing ds i with
  | nil => cases h; simp at e
  | cons v vs ih =>
    cases h with
    | cons _ _ _ _ a b =>
      cases i with
      | zero => simp at e; subst e; exact ⟨_, rfl, a⟩
      | succ i => simp at e; simpa using ih b e
theorem Rps.get' {K : PySem.W.Frag} {W : Wd K} {B : Hp} {vs : List V} {ds : List D} (h : Rps W B vs ds) {i : Nat} {v : V} (e : vs[i]? = some v) : ∃ d, ds[i]? = some d ∧ Rp W B v d := by
  induction vs generalizing ds i with
  | nil => simp at e
  | cons w vs ih =>
    cases h with
    | cons _ _ _ _ a b =>
      cases i with
      | zero => simp at e; subst e; exact ⟨_, rfl, a⟩
      | succ i => simp at e; simpa using ih b e
theorem Rps.set {K : PySem.W.Frag} {W : Wd K} {B : Hp} {vs : List V} {ds : List D} (h : Rps W B vs ds) {v : V} {d : D} (e : Rp W B v d) (i : Nat) : Rps W B (vs.set i v) (ds.set i d) := by
  induction vs generalizing ds i with
  | nil => cases h; exact .nil
  | cons w vs ih =>
    cases h with
    | cons _ _ _ _ a b =>
      cases i with
      | zero => exact .cons _ _ _ _ e b
      | succ i => exact .cons _ _ _ _ a (ih b i)
theorem Rps.take {K : PySem.W.Frag} {W : Wd K} {B : Hp} {vs : List V} {ds : List D} (h : Rps W B vs ds) (n : Nat) : Rps W B (vs.take n) (ds.take n) := by
  induction vs generalizing ds n with
  | nil => cases h; simp; exact .nil
  | cons w vs ih =>
    cases h with
    | cons _ _ _ _ a b =>
      cases n with
      | zero => exact .nil
      | succ n => exact .cons _ _ _ _ a (ih b n)
theorem Rps.drop {K : PySem.W.Frag} {W : Wd K} {B : Hp} {vs : List V} {ds : List D} (h : Rps W B vs ds) (n : Nat) : Rps W B (vs.drop n) (ds.drop n) := by
  induction vs generalizing ds n with
  | nil => cases h; simp; exact .nil
  | cons w vs ih =>
    cases h with
    | cons _ _ _ _ a b =>
      cases n with
      | zero => exact .cons _ _ _ _ a b
      | succ n => exact ih b n

/-! ### growing: all that stood stands, but tables and what the draws change -/
def Solid {K : PySem.W.Frag} (W : Wd K) (a : Addr) (o : HO) : Prop := (∀ ps, o ≠ .tbl ps) ∧ ¬ W.fv a
def plainO : HO → Prop
  | .tbl _ => False
  | .ext _ => False
  | _ => True
structure Grow {K : PySem.W.Frag} (W : Wd K) (H B H' B' : Hp) : Prop where
  ext : ∀ a o, H a = some o → Solid W a o → H' a = some o
  dom : ∀ a, H a ≠ none → H' a ≠ none
  bas : Sub B B'
  new : ∀ a, B' a ≠ none → B a ≠ none ∨ H a = none ∨ ∃ o, H a = some o ∧ ¬ plainO o
  sub : ∀ a o, B' a = some o → H' a = some o ∧ Solid W a o
  wok : W.ok H'
theorem Grow.trans {K : PySem.W.Frag} {W : Wd K} {H B H1 B1 H2 B2 : Hp} (a : Grow W H B H1 B1) (b : Grow W H1 B1 H2 B2) : Grow W H B H2 B2 where
  ext := fun x o h s => b.ext x o (a.ext x o h s) s
  dom := fun x h => b.dom x (a.dom x h)
  bas := a.bas.trans b.bas
  new := fun x h => by
    rcases b.new x h with h1 | h1 | ⟨o1, h1, n1⟩
    · exact a.new x h1
    · right; left
      cases e : H x with
      | none => rfl
      | some o => exact absurd h1 (a.dom x (by rw [e]; simp))
    · right
      cases e : H x with
      | none => exact .inl rfl
      | some o =>
        right
        refine ⟨o, rfl, fun po => ?_⟩
        cases e2 : B2 x with
        | none => exact h e2
        | some u =>
          have := a.ext x o e ⟨fun ps z => (by subst z; exact po), (b.sub x u e2).2.2⟩
          rw [this] at h1; cases h1; exact n1 po
  sub := b.sub
  wok := b.wok
theorem Grow.self {K : PySem.W.Frag} {W : Wd K} {H0 B0 H B : Hp} (g : Grow W H0 B0 H B) : Grow W H B H B :=
  ⟨fun _ _ h _ => h, fun _ h => h, Sub.refl B, fun _ h => .inl h, g.sub, g.wok⟩
theorem wok_upd {K : PySem.W.Frag} {W : Wd K} {H : Hp} {p : Addr} {o : HO} (k : W.ok H) (hp : H p = none ∨ (¬ W.fv p ∧ ∃ u, H p = some u ∧ plainO u)) : W.ok (upd H p o) := by
  refine W.st k fun a u h c => ?_
  have : a ≠ p := by
    rintro rfl
    rcases hp with hp | ⟨nf, u', hu, pl⟩
    · rw [hp] at h; cases h
    · rw [hu] at h; cases h
      rcases c with c | ⟨ps, rfl⟩ | ⟨φ, rfl⟩
      · exact nf c
      · exact pl
      · exact pl
  rw [upd_ne this]; exact h
theorem solid_new {K : PySem.W.Frag} {W : Wd K} {H : Hp} {p : Addr} {o : HO} (k : W.ok H) (hp : H p = none) (ho : ∀ ps, o ≠ .tbl ps) : Solid W p o :=
  ⟨ho, fun z => by obtain ⟨o, e⟩ := W.th k z; rw [hp] at e; cases e⟩
/-- a new object, clean -/
theorem Grow.alloc {K : PySem.W.Frag} {W : Wd K} {H0 B0 H B : Hp} (g : Grow W H0 B0 H B) {p : Addr} {o : HO} (hp : H p = none) (ho : ∀ ps, o ≠ .tbl ps) : Grow W H B (upd H p o) (upd B p o) where
  ext := fun a u h _ => by rw [upd_ne (ne_of_none h hp)]; exact h
  dom := fun a h => by unfold upd; split <;> simp_all
  bas := Sub.new (by
    cases e : B p with
    | none => rfl
    | some u => rw [(g.sub _ _ e).1] at hp; cases hp)
  new := fun a h => by
    by_cases e : a = p
    · subst e; exact .inr (.inl hp)
    · rw [upd_ne e] at h; exact .inl h
  sub := fun a u h => by
    by_cases e : a = p
    · subst e; rw [upd_same] at h; cases h; exact ⟨upd_same, solid_new g.wok hp ho⟩
    · rw [upd_ne e] at h ⊢; exact g.sub a u h
  wok := wok_upd g.wok (.inl hp)
/-- a new object, ours -/
theorem Grow.allocO {K : PySem.W.Frag} {W : Wd K} {H0 B0 H B : Hp} (g : Grow W H0 B0 H B) {p : Addr} {o : HO} (hp : H p = none) : Grow W H B (upd H p o) B where
  ext := fun a u h _ => by rw [upd_ne (ne_of_none h hp)]; exact h
  dom := fun a h => by unfold upd; split <;> simp_all
  bas := Sub.refl B
  new := fun a h => .inl h
  sub := fun a u h => ⟨by rw [upd_ne (ne_of_none (g.sub a u h).1 hp)]; exact (g.sub a u h).1, (g.sub a u h).2⟩
  wok := wok_upd g.wok (.inl hp)

/-! ### the frame's names -/
inductive Sl where
  | un | im (d : D) | ol (ds : List D) | ok (kvs : List (Key × D)) | ot (kvs : List (List Key × D)) | oi (C p : Addr) (fs : List (Str × D))
def Sl.er : Sl → Option D
  | .un => none
  | .im d => some d
  | .ol ds => some (.lst ds)
  | .ok kvs => some (.dk kvs)
  | .ot kvs => some (.dt kvs)
  | .oi C _ fs => some (.obj C fs)
/-- a name's value, and the addresses that are its own -/
inductive SlR {K : PySem.W.Frag} (W : Wd K) (B H : Hp) : Sl → Option V → List Addr → Prop
  | un (v : Option V) : SlR W B H .un v []
  | im (d : D) (v : V) : Rp W B v d → SlR W B H (.im d) (some v) []
  | ol (ds : List D) (p : Addr) (vs : List V) : H p = some (.lst vs) → Rps W B vs ds → SlR W B H (.ol ds) (some (.ref p)) [p]
  | ok (ds : List (Key × D)) (p : Addr) (kvs : List (Key × V)) : H p = some (.dK kvs) → kvs.map (·.1) = ds.map (·.1) → Rps W B (kvs.map (·.2)) (ds.map (·.2)) → SlR W B H (.ok ds) (some (.ref p)) [p]
  | ot (ds : List (List Key × D)) (p : Addr) (kvs : List (List Key × V)) : H p = some (.dT kvs) → kvs.map (·.1) = ds.map (·.1) → Rps W B (kvs.map (·.2)) (ds.map (·.2)) → SlR W B H (.ot ds) (some (.ref p)) [p]
  | oi (C : Addr) (ds : List (Str × D)) (p dx : Addr) (fs : List (Str × V)) : H p = some (.ins C dx fs) → fs.map (·.1) = ds.map (·.1) → Rps W B (fs.map (·.2)) (ds.map (·.2)) → SlR W B H (.oi C p ds) (some (.ref p)) [p]
theorem SlR.there {K : PySem.W.Frag} {W : Wd K} {B H : Hp} {s : Sl} {v : Option V} {f : List Addr} (h : SlR W B H s v f) : ∀ a ∈ f, ∃ o, H a = some o ∧ plainO o := by
  cases h with
  | un => intro a ha; simp at ha
  | im d v r => intro a ha; simp at ha
  | ol ds p vs h r => intro a ha; simp at ha; subst ha; exact ⟨_, h, True.intro⟩
  | ok ds p kvs h q r => intro a ha; simp at ha; subst ha; exact ⟨_, h, True.intro⟩
  | ot ds p kvs h q r => intro a ha; simp at ha; subst ha; exact ⟨_, h, True.intro⟩
  | oi C ds p dx fs h q r => intro a ha; simp at ha; subst ha; exact ⟨_, h, True.intro⟩
theorem SlR.mono {K : PySem.W.Frag} {W : Wd K} {B H B' H' : Hp} {s : Sl} {v : Option V} {f : List Addr} (h : SlR W B H s v f) (e : Sub B B') (k : ∀ a ∈ f, H' a = H a) : SlR W B' H' s v f := by
  cases h with
  | un => exact .un _
  | im d v r => exact .im _ _ (r.mono e)
  | ol ds p vs h r => exact .ol _ _ _ ((k p (by simp)).trans h) (r.mono e)
  | ok ds p kvs h q r => exact .ok _ _ _ ((k p (by simp)).trans h) q (r.mono e)
  | ot ds p kvs h q r => exact .ot _ _ _ ((k p (by simp)).trans h) q (r.mono e)
  | oi C ds p dx fs h q r => exact .oi _ _ _ _ _ ((k p (by simp)).trans h) q (r.mono e)

abbrev EX := Addr → Prop
def noE : EX := fun _ => False
/-- where a body runs: what is kept, what is known, what is wanted of an exception (of its class, and truly) -/
structure Gx (K : PySem.W.Frag) where
  W : Wd K
  H0 : Hp
  B0 : Hp
  E : XK
  Ed : EX
  hE : ∀ C H' B', Ed C → Grow W H0 B0 H' B' → E (.ref C) none H'
structure Sls {K : PySem.W.Frag} (G : Gx K) (Δ : List Sl) (σ : L2.St) (H B : Hp) (fp : Nat → List Addr) : Prop where
  len : Δ.length = σ.length
  at_ : ∀ i s, Δ[i]? = some s → ∃ v, σ[i]? = some v ∧ SlR G.W B H s v (fp i)
  dj : ∀ i j a, a ∈ fp i → a ∈ fp j → i = j
  ou : ∀ i a, a ∈ fp i → B a = none ∧ G.H0 a = none ∧ ¬ G.W.fv a ∧ ∃ o, H a = some o ∧ plainO o
structure DR {K : PySem.W.Frag} (G : Gx K) (Δ : List Sl) (σ : L2.St) (H B : Hp) : Prop where
  gr : Grow G.W G.H0 G.B0 H B
  sl : ∃ fp, Sls G Δ σ H B fp
section
variable {K : PySem.W.Frag} {G : Gx K} {Δ : List Sl} {σ : L2.St} {H B H' B' : Hp}
theorem DR.wok (r : DR G Δ σ H B) : G.W.ok H := r.gr.wok
theorem DR.sub (r : DR G Δ σ H B) : Sub B H := fun a o h => (r.gr.sub a o h).1
theorem DR.free (r : DR G Δ σ H B) {p : Addr} (h : H p = none) : B p = none := by
  cases e : B p with
  | none => rfl
  | some u => rw [(r.gr.sub _ _ e).1] at h; cases h
theorem Sls.grow {fp : Nat → List Addr} (s : Sls G Δ σ H B fp) (g : Grow G.W H B H' B') : Sls G Δ σ H' B' fp := by
  refine ⟨s.len, fun i x e => ?_, s.dj, fun i a ha => ?_⟩
  · obtain ⟨v, e1, e2⟩ := s.at_ i x e
    refine ⟨v, e1, e2.mono g.bas fun a ha => ?_⟩
    obtain ⟨o, ho, pl⟩ := e2.there a ha
    rw [ho]
    exact g.ext a o ho ⟨fun ps z => by subst z; exact pl, (s.ou i a ha).2.2.1⟩
  · obtain ⟨h1, h2, h3, h4⟩ := s.ou i a ha
    obtain ⟨o4, h4, p4⟩ := h4
    refine ⟨?_, h2, h3, o4, g.ext a o4 h4 ⟨fun ps z => (by subst z; exact p4), h3⟩, p4⟩
    cases e : B' a with
    | none => rfl
    | some o =>
      rcases g.new a (by rw [e]; simp) with z | z | ⟨u, z, n⟩
      · exact absurd h1 z
      · rw [h4] at z; cases z
      · rw [h4] at z; cases z; exact absurd p4 n
theorem DR.grow (r : DR G Δ σ H B) (g : Grow G.W H B H' B') : DR G Δ σ H' B' := by
  obtain ⟨fp, s⟩ := r.sl
  exact ⟨r.gr.trans g, fp, s.grow g⟩
theorem DR.get (r : DR G Δ σ H B) {i : Nat} {d : D} (e : Δ[i]? = some (.im d)) : ∃ v, σ[i]? = some (some v) ∧ Rp G.W B v d := by
  obtain ⟨fp, s⟩ := r.sl
  obtain ⟨v, e1, e2⟩ := s.at_ i _ e
  generalize fp i = f at e2
  cases e2 with | im _ v q => exact ⟨v, e1, q⟩
/-- a clean value is stored -/
theorem DR.put (r : DR G Δ σ H B) (i : Nat) {v : V} {d : D} (q : Rp G.W B v d) : DR G (Δ.set i (.im d)) (σ.set i (some v)) H B := by
  obtain ⟨fp, s⟩ := r.sl
  refine ⟨r.gr, fun j => if j = i then [] else fp j, by simp [s.len], fun j x e => ?_, fun j k a h1 h2 => ?_, fun j a h => ?_⟩
  · by_cases hj : j = i
    · subst hj
      have hl : j < Δ.length := by
        have := (List.getElem?_eq_some_iff.mp e).1; simpa using this
      rw [List.getElem?_set_self hl] at e; cases e
      refine ⟨some v, by rw [List.getElem?_set_self (by rw [← s.len]; exact hl)], ?_⟩
      simp only [if_true]
      exact .im _ _ q
    · rw [List.getElem?_set_ne (Ne.symm hj)] at e
      obtain ⟨w, e1, e2⟩ := s.at_ j x e
      refine ⟨w, by rw [List.getElem?_set_ne (Ne.symm hj)]; exact e1, ?_⟩
      simp only [if_neg hj]; exact e2
  · try dsimp only at h1 h2
    split at h1
    · cases h1
    · split at h2
      · cases h2
      · exact s.dj j k a h1 h2
  · try dsimp only at h
    split at h
    · cases h
    · exact s.ou j a h
/-- a name is forgotten -/
theorem DR.wipe1 (r : DR G Δ σ H B) (i : Nat) : DR G (Δ.set i .un) (σ.set i none) H B := by
  obtain ⟨fp, s⟩ := r.sl
  refine ⟨r.gr, fun j => if j = i then [] else fp j, by simp [s.len], fun j x e => ?_, fun j k a h1 h2 => ?_, fun j a h => ?_⟩
  · by_cases hj : j = i
    · subst hj
      have hl : j < Δ.length := by
        have := (List.getElem?_eq_some_iff.mp e).1; simpa using this
      rw [List.getElem?_set_self hl] at e; cases e
      refine ⟨none, by rw [List.getElem?_set_self (by rw [← s.len]; exact hl)], ?_⟩
      simp only [if_true]
      exact .un _
    · rw [List.getElem?_set_ne (Ne.symm hj)] at e
      obtain ⟨w, e1, e2⟩ := s.at_ j x e
      refine ⟨w, by rw [List.getElem?_set_ne (Ne.symm hj)]; exact e1, ?_⟩
      simp only [if_neg hj]; exact e2
  · try dsimp only at h1 h2
    split at h1
    · cases h1
    · split at h2
      · cases h2
      · exact s.dj j k a h1 h2
  · try dsimp only at h
    split at h
    · cases h
    · exact s.ou j a h
/-- an own object of the i-th name is written: all else stays; what it is then -/
theorem DR.write (r : DR G Δ σ H B) {i : Nat} {s s' : Sl} {p : Addr} {o o' : HO} (e : Δ[i]? = some s) (hv : σ[i]? = some (some (.ref p))) (hs : ∀ B H f, SlR G.W B H s (some (.ref p)) f → f = [p])
    (hp : H p = some o) (po : plainO o) (hs' : SlR G.W B (upd H p o') s' (some (.ref p)) [p]) : DR G (Δ.set i s') σ (upd H p o') B := by
  obtain ⟨fp, S⟩ := r.sl
  obtain ⟨v, e1, e2⟩ := S.at_ i s e
  rw [hv] at e1; cases e1
  have hf := hs _ _ _ e2
  have hpi : p ∈ fp i := by rw [hf]; simp
  obtain ⟨b1, b2, b3, b4⟩ := S.ou i p hpi
  refine ⟨⟨fun a u h q => ?_, fun a h => ?_, r.gr.bas, r.gr.new, fun a u h => ?_, wok_upd r.gr.wok (.inr ⟨b3, o, hp, po⟩)⟩, fp, by simp [S.len], fun j x ej => ?_, S.dj, fun j a ha => ?_⟩
  · rw [upd_ne (ne_of_none h b2)]; exact r.gr.ext a u h q
  · unfold upd; split
    · simp
    · exact r.gr.dom a h
  · rw [upd_ne (ne_of_none h b1)]; exact r.gr.sub a u h
  · by_cases hj : j = i
    · subst hj
      have hl : j < Δ.length := (List.getElem?_eq_some_iff.mp e).1
      rw [List.getElem?_set_self hl] at ej; cases ej
      exact ⟨_, hv, by rw [hf]; exact hs'⟩
    · rw [List.getElem?_set_ne (Ne.symm hj)] at ej
      obtain ⟨w, q1, q2⟩ := S.at_ j x ej
      refine ⟨w, q1, q2.mono (Sub.refl _) fun a ha => ?_⟩
      exact upd_ne (fun z => hj (S.dj j i p (z ▸ ha) hpi))
  · obtain ⟨c1, c2, c3, c4⟩ := S.ou j a ha
    refine ⟨c1, c2, c3, ?_⟩
    by_cases z : a = p
    · subst z; exact hs'.there a (by simp)
    · rw [upd_ne z]; exact c4
/-- the i-th name's own object is ours no more -/
theorem DR.freeze (r : DR G Δ σ H B) {i : Nat} {s : Sl} {d : D} (e : Δ[i]? = some s) (er : s.er = some d) : ∃ v B', σ[i]? = some (some v) ∧ Sub B B' ∧ Rp G.W B' v d ∧ DR G (Δ.set i (.im d)) σ H B' := by
  obtain ⟨fp, S⟩ := r.sl
  obtain ⟨v, e1, e2⟩ := S.at_ i s e
  have hl : i < Δ.length := (List.getElem?_eq_some_iff.mp e).1
  -- the case of an own object at p, of the content o
  have main : ∀ (p : Addr) (o : HO), v = some (.ref p) → fp i = [p] → H p = some o → plainO o → (∀ B', Sub B B' → B' p = some o → Rp G.W B' (.ref p) d) →
      ∃ v B', σ[i]? = some (some v) ∧ Sub B B' ∧ Rp G.W B' v d ∧ DR G (Δ.set i (.im d)) σ H B' := by
    intro p o ev hf hp po hr
    subst ev
    have hpi : p ∈ fp i := by rw [hf]; simp
    obtain ⟨b1, b2, b3, b4⟩ := S.ou i p hpi
    have hsub : Sub B (upd B p o) := Sub.new b1
    refine ⟨.ref p, upd B p o, e1, hsub, hr _ hsub upd_same, ⟨r.gr.ext, r.gr.dom, r.gr.bas.trans hsub, fun a h => ?_, fun a u h => ?_, r.gr.wok⟩, fun j => if j = i then [] else fp j, by simp [S.len], fun j x ej => ?_, fun j k a h1 h2 => ?_, fun j a h => ?_⟩
    · by_cases z : a = p
      · subst z; exact .inr (.inl b2)
      · rw [upd_ne z] at h; exact r.gr.new a h
    · by_cases z : a = p
      · subst z; rw [upd_same] at h; cases h
        exact ⟨hp, fun ps q => by subst q; exact po, b3⟩
      · rw [upd_ne z] at h; exact r.gr.sub a u h
    · by_cases hj : j = i
      · subst hj
        rw [List.getElem?_set_self hl] at ej; cases ej
        refine ⟨_, e1, ?_⟩
        simp only [if_true]
        exact .im _ _ (hr _ hsub upd_same)
      · rw [List.getElem?_set_ne (Ne.symm hj)] at ej
        obtain ⟨w, q1, q2⟩ := S.at_ j x ej
        refine ⟨w, q1, ?_⟩
        simp only [if_neg hj]
        exact q2.mono hsub fun a ha => rfl
    · try dsimp only at h1 h2
      split at h1
      · cases h1
      · split at h2
        · cases h2
        · exact S.dj j k a h1 h2
    · try dsimp only at h
      split at h
      · cases h
      · rename_i hj
        obtain ⟨c1, c2, c3, c4⟩ := S.ou j a h
        refine ⟨?_, c2, c3, c4⟩
        rw [upd_ne (show a ≠ p from fun z => hj (S.dj j i a h (by rw [z]; exact hpi)))]; exact c1
  generalize hf : fp i = f at e2 main
  cases e2 with
  | un => cases er
  | im d' v q =>
    cases er
    refine ⟨v, B, e1, Sub.refl _, q, ?_⟩
    have : Δ.set i (.im d) = Δ := by
      apply List.ext_getElem?
      intro j
      by_cases hj : j = i
      · subst hj; rw [List.getElem?_set_self hl, e]
      · rw [List.getElem?_set_ne (Ne.symm hj)]
    rw [this]; exact r
  | ol ds p vs h q => cases er; exact main p _ rfl rfl h trivial fun B' s b => .lst _ _ _ b (q.mono s)
  | ok ds p kvs h k q => cases er; exact main p _ rfl rfl h trivial fun B' s b => .dk _ _ _ b k (q.mono s)
  | ot ds p kvs h k q => cases er; exact main p _ rfl rfl h trivial fun B' s b => .dt _ _ _ b k (q.mono s)
  | oi C ds p dx fs h k q => cases er; exact main p _ rfl rfl h trivial fun B' s b => .obj _ _ _ _ _ b k (q.mono s)
/-- a value that hangs behind the names (the last of longer lists) is stored at the i-th -/
theorem DR.move {s : Sl} {v : V} (r : DR G (Δ ++ [s]) (σ ++ [some v]) H B) {i : Nat} (hi : i < Δ.length) : DR G (Δ.set i s) (σ.set i (some v)) H B := by
  obtain ⟨fp, S⟩ := r.sl
  have hl : Δ.length = σ.length := by have := S.len; simpa using this
  refine ⟨r.gr, fun j => if j = i then fp Δ.length else if j < Δ.length then fp j else [], by simp [hl], fun j x e => ?_, fun j k a h1 h2 => ?_, fun j a h => ?_⟩
  · by_cases hj : j = i
    · subst hj
      rw [List.getElem?_set_self hi] at e; cases e
      obtain ⟨w, q1, q2⟩ := S.at_ Δ.length s (by rw [List.getElem?_append_right (Nat.le_refl _)]; simp)
      rw [hl, List.getElem?_append_right (Nat.le_refl _)] at q1
      simp at q1; subst q1
      refine ⟨_, by rw [List.getElem?_set_self (by omega)], ?_⟩
      simp only [if_true]; exact q2
    · rw [List.getElem?_set_ne (Ne.symm hj)] at e
      have hj2 : j < Δ.length := (List.getElem?_eq_some_iff.mp e).1
      obtain ⟨w, q1, q2⟩ := S.at_ j x (by rw [List.getElem?_append_left hj2]; exact e)
      rw [List.getElem?_append_left (by omega)] at q1
      refine ⟨w, by rw [List.getElem?_set_ne (Ne.symm hj)]; exact q1, ?_⟩
      simp only [if_neg hj, if_pos hj2]; exact q2
  · try dsimp only at h1 h2
    split at h1
    · rename_i z; subst z
      split at h2
      · rename_i z; exact z.symm
      · split at h2
        · rename_i z; have := S.dj _ _ a h1 h2; omega
        · cases h2
    · split at h1
      · split at h2
        · rename_i z; have := S.dj _ _ a h1 h2; omega
        · split at h2
          · exact S.dj _ _ a h1 h2
          · cases h2
      · cases h1
  · try dsimp only at h
    split at h
    · exact S.ou _ a h
    · split at h
      · exact S.ou _ a h
      · cases h
/-- what hangs behind is let go -/
theorem DR.drop {s : Sl} {w : Option V} (r : DR G (Δ ++ [s]) (σ ++ [w]) H B) : DR G Δ σ H B := by
  obtain ⟨fp, S⟩ := r.sl
  have hl : Δ.length = σ.length := by have := S.len; simpa using this
  refine ⟨r.gr, fun j => if j < Δ.length then fp j else [], hl, fun j x e => ?_, fun j k a h1 h2 => ?_, fun j a h => ?_⟩
  · have hj2 : j < Δ.length := (List.getElem?_eq_some_iff.mp e).1
    obtain ⟨w, q1, q2⟩ := S.at_ j x (by rw [List.getElem?_append_left hj2]; exact e)
    rw [List.getElem?_append_left (by omega)] at q1
    exact ⟨w, q1, by simp only [if_pos hj2]; exact q2⟩
  · try dsimp only at h1 h2
    split at h1
    · split at h2
      · exact S.dj _ _ a h1 h2
      · cases h2
    · cases h1
  · try dsimp only at h
    split at h
    · exact S.ou _ a h
    · cases h
/-- a clean value hangs behind -/
theorem DR.hang (r : DR G Δ σ H B) {v : V} {d : D} (q : Rp G.W B v d) : DR G (Δ ++ [.im d]) (σ ++ [some v]) H B := by
  obtain ⟨fp, S⟩ := r.sl
  refine ⟨r.gr, fun j => if j < Δ.length then fp j else [], by simp [S.len], fun j x e => ?_, fun j k a h1 h2 => ?_, fun j a h => ?_⟩
  · by_cases hj : j < Δ.length
    · rw [List.getElem?_append_left hj] at e
      obtain ⟨w, q1, q2⟩ := S.at_ j x e
      refine ⟨w, by rw [List.getElem?_append_left (by rw [← S.len]; exact hj)]; exact q1, ?_⟩
      simp only [if_pos hj]; exact q2
    · rw [List.getElem?_append_right (by omega)] at e
      have : j - Δ.length = 0 := by
        cases h : j - Δ.length with
        | zero => rfl
        | succ n => rw [h] at e; simp at e
      rw [this] at e; simp at e; subst e
      refine ⟨_, by rw [List.getElem?_append_right (by rw [← S.len]; omega), ← S.len, this]; rfl, ?_⟩
      simp only [if_neg hj]; exact .im _ _ q
  · try dsimp only at h1 h2
    split at h1
    · split at h2
      · exact S.dj _ _ a h1 h2
      · cases h2
    · cases h1
  · try dsimp only at h
    split at h
    · exact S.ou _ a h
    · cases h
/-- a new object of ours hangs behind -/
theorem DR.hangO (r : DR G Δ σ H B) {p : Addr} {o : HO} {s : Sl} (hp : H p = none) (hs : SlR G.W B (upd H p o) s (some (.ref p)) [p]) : DR G (Δ ++ [s]) (σ ++ [some (.ref p)]) (upd H p o) B := by
  have r2 := r.grow (r.gr.allocO (o := o) hp)
  obtain ⟨fp, S⟩ := r2.sl
  obtain ⟨fp0, S0⟩ := r.sl
  have nf : ¬ G.W.fv p := (solid_new (o := HO.own p) r.wok hp (fun _ => by simp)).2
  have n0 : G.H0 p = none := by
    cases e : G.H0 p with
    | none => rfl
    | some u => exact absurd hp (r.gr.dom p (by rw [e]; simp))
  have np : ∀ j a, a ∈ fp0 j → a ≠ p := fun j a ha z => by
    obtain ⟨o, h, _⟩ := (S0.ou j a ha).2.2.2
    rw [z, hp] at h; cases h
  refine ⟨r2.gr, fun j => if j < Δ.length then fp0 j else if j = Δ.length then [p] else [], by simp [S.len], fun j x e => ?_, fun j k a h1 h2 => ?_, fun j a h => ?_⟩
  · by_cases hj : j < Δ.length
    · rw [List.getElem?_append_left hj] at e
      obtain ⟨w, q1, q2⟩ := S0.at_ j x e
      refine ⟨w, by rw [List.getElem?_append_left (by rw [← S.len]; exact hj)]; exact q1, ?_⟩
      simp only [if_pos hj]; exact q2.mono (Sub.refl _) fun a ha => upd_ne (np j a ha)
    · rw [List.getElem?_append_right (by omega)] at e
      have z : j - Δ.length = 0 := by
        cases h : j - Δ.length with
        | zero => rfl
        | succ n => rw [h] at e; simp at e
      rw [z] at e; simp at e; subst e
      refine ⟨_, by rw [List.getElem?_append_right (by rw [← S.len]; omega), ← S.len, z]; rfl, ?_⟩
      simp only [if_neg hj, if_pos (show j = Δ.length by omega)]; exact hs
  · try dsimp only at h1 h2
    split at h1
    · split at h2
      · exact S0.dj _ _ a h1 h2
      · split at h2
        · simp at h2; exact absurd h2 (np _ a h1)
        · cases h2
    · split at h1
      · simp at h1
        split at h2
        · exact absurd h1 (np _ a h2)
        · split at h2
          · omega
          · cases h2
      · cases h1
  · try dsimp only at h
    split at h
    · obtain ⟨c1, c2, c3, c4⟩ := S0.ou j a h
      exact ⟨c1, c2, c3, by rw [upd_ne (np j a h)]; exact c4⟩
    · split at h
      · simp at h; subst h
        exact ⟨r.free hp, n0, nf, hs.there a (by simp)⟩
      · cases h
end
end DL
-- DLG
set_option Elab.async false
set_option linter.all false
set_option maxRecDepth 100000
set_option maxHeartbeats 2000000
set_option autoImplicit false
namespace DL
open PySem PySem.Spec L2
open PyProof.Rows hiding St
/-! ### the room of a call, with the knowledge that no repr is under way -/
structure Room (k : Nat) (A : Around) : Prop where
  r : L2.Room k A
  gd : A.guards = some []
namespace Room
variable {k : Nat} {A : Around}
theorem mono {j : Nat} (h : DL.Room j A) (l : k ≤ j) : DL.Room k A := ⟨h.r.mono l, h.gd⟩
theorem deeper (h : DL.Room (k + 1) A) (env : Env) : DL.Room k (A.deeper env) := ⟨h.r.deeper env, h.gd⟩
theorem hd (h : DL.Room k A) : A.handled = none := h.r.hd
theorem dp (h : DL.Room k A) : A.depth + 3 * k + 5 < recursionLimit := h.r.dp
theorem un (h : DL.Room k A) : A.units + 16 * k + 200 < cLine := h.r.un
theorem depth (h : DL.Room k A) : A.depth < recursionLimit := h.r.depth
theorem units (h : DL.Room k A) : A.units + 64 < cLine := h.r.units
theorem make (h : DL.Room (k + 1) A) (C : Addr) (us : List Value) (kw : List (Str × Value)) : DL.Room k (A.under (.builtin "type.__call__" ⟨.ref C :: us, kw⟩)) := ⟨h.r.make C us kw, by
  show pushGuards (Code.guards (.builtin "type.__call__" ⟨.ref C :: us, kw⟩)) A.guards = some []
  have e : Code.guards (.builtin "type.__call__" ⟨.ref C :: us, kw⟩) = [] := if_neg (by show ¬ guardIds.contains "type.__call__" = true; decide)
  rw [e]
  exact h.gd⟩
end Room
theorem hu_of {A : Around} {k : Nat} (hr : DL.Room k A) : A.units + 1 < cLine := L2.hu_of hr.r
/-- a def keeps its promise wherever no repr is under way -/
structure FnOk (P : Program) (w : World) (K : PySem.W.Frag) (mg : Str → Option Value) (base : Heap) (CX : CXT) (k : Nat) (f : Addr) (fd : FuncData) (ps : List Str) (sp : Sp) : Prop where
  len : ∀ vs H Q E, sp vs H Q E → vs.length = ps.length
  run : ∀ (A : Around) (outer : List Env) (s : Shared) (H : Hp) (args : Args) (us : List Value) (vs : List V) (Q : VK) (E : XK), DL.Room k A → Env0 P w K mg base A outer s H → BindsTo s fd args (ps.zip us) → Vals vs us → sp vs H Q E → codeAny (model P w) A (.call (.ref f) args) (CR CX outer P w H s Q E) s
theorem FnOk.mono {P : Program} {w : World} {K : PySem.W.Frag} {mg : Str → Option Value} {base : Heap} {CX : CXT} {j k : Nat} {f : Addr} {fd : FuncData} {ps : List Str} {sp : Sp} (F : DL.FnOk P w K mg base CX j f fd ps sp) (h : j ≤ k) : DL.FnOk P w K mg base CX k f fd ps sp :=
  ⟨F.len, fun A outer s H args us vs Q E hr => F.run A outer s H args us vs Q E (hr.mono h)⟩
theorem fund_ok {P : Program} {w : World} {K : PySem.W.Frag} {mg : Str → Option Value} {base : Heap} {x qual : Str} {params : Arguments} {body : List Stmt} {scope : Scope} {dvs : List V} {kws : List (Str × V)} {f : Addr} {fd : FuncData} {CX : CXT} {N ps : List Str} {k : Nat} {sp : Sp}
    (F : FunD K x qual params body scope dvs kws f fd) (S : FnScope N ps scope) (len : ∀ vs H Q E, sp vs H Q E → vs.length = ps.length)
    (hbody : ∀ (cdv : Value) (A : Around) (outer : List Env) (s : Shared) (H : Hp) (vs : List V) (Q : VK) (E : XK), DL.Room k (A.deeper (envOfC qual scope s.heap.objs.size f cdv)) → sp vs H Q E → ∃ t, PSs (cxOf CX P w K mg base N qual scope f cdv A outer s H E) body t ∧ t { nx := fun _ H' => Q .non H', rt := Q } (start N vs) H) :
    DL.FnOk P w K mg base CX (k + 1) f fd ps sp := by
  obtain ⟨oc, od, dV, kV, doc, pm, an, cdv, ct, osl, rfl, lk, hcd, _, _⟩ := F.ex
  exact ⟨len, fun A outer s H args us vs Q E hr e0 hb r h => LamX.run_ofS lk hcd S hr.r e0 hb r (len _ _ _ _ h) fun hr' => hbody cdv A outer s H vs Q E ⟨hr', hr.gd⟩ h⟩
section
variable {X : Cx} {CX : CXT} {k : Nat} {f C : Addr} {fd : FuncData} {ps ks : List Str} {sp : Sp} {dvs : List V} {ds : List Value} {E : XK} {x : Str} {p pos : Pos} {e : Expr} {es : List Expr} {kws : List Keyword} {t tk : TA}
theorem run_fn {pins : List (Addr × Obj)} {σ : L2.St} {H : Hp} {s : Shared} {Q : VK} {us : List Value} {vs : List V} (F : DL.FnOk X.prog X.w X.K X.mg X.base CX k f fd ps sp) (hr : DL.Room k X.A) (hb : Binds X.K fd ps ds) (hd : Vals dvs ds) (hx : Passes CX X E) (I : Inv X pins σ H s) (r : Vals vs us) (h : sp (vs ++ dvs) H Q E) : wpAny (model X.prog X.w) X.A (call (.ref f) us) (EP X pins σ Q) X.xe s := by
  have r2 := r.append hd
  refine wpAny_call (codeAny_mono (F.run X.A X.stack s H ⟨us, []⟩ (us ++ ds) (vs ++ dvs) Q E hr I.env0 (hb s us I.kIn (by rw [← r2.length]; exact F.len _ _ _ _ h)) r2 h) fun r s' hq => ?_)
  match r, hq with
  | .error e, hq => exact hx pins σ H s e s' I hq
  | .ok (.ret u), hq => exact I.after hq
theorem run_fnk {pins : List (Addr × Obj)} {σ : L2.St} {H : Hp} {s : Shared} {Q : VK} {us ws : List Value} {vs zs : List V} {g : List Value → List Value → List Value} {gV : List V → List V → List V} (F : DL.FnOk X.prog X.w X.K X.mg X.base CX k f fd ps sp) (hr : DL.Room k X.A) (hb : KBinds X.K fd ps ks g gV) (hx : Passes CX X E) (I : Inv X pins σ H s) (r : Vals vs us) (rz : Vals zs ws)
    (h : sp (gV vs zs) H Q E) : wpAny (model X.prog X.w) X.A (call (.ref f) us (ks.zip ws)) (EP X pins σ Q) X.xe s := by
  have r2 := hb.rel r rz
  refine wpAny_call (codeAny_mono (F.run X.A X.stack s H ⟨us, ks.zip ws⟩ (g us ws) (gV vs zs) Q E hr I.env0 (hb.to s us ws I.kIn (by rw [← r2.length]; exact F.len _ _ _ _ h)) r2 h) fun r s' hq => ?_)
  match r, hq with
  | .error e, hq => exact hx pins σ H s e s' I hq
  | .ok (.ret u), hq => exact I.after hq
theorem pe_call (F : DL.FnOk X.prog X.w X.K X.mg X.base CX k f fd ps sp) (hr : DL.Room k X.A) (hg : Gl X x) (hm : X.mg x = some (.ref f)) (hk : PySem.W.keepIn X.K (.ref f) = true) (hb : Binds X.K fd ps ds) (hd : Vals dvs ds) (hx : Passes CX X E) (ha : PA X (e :: es) t)
    (hdb : (x == ("__debug__" : Str)) = false := by decide) (he : starEach (e :: es) X.env = (false, eval e X.env) :: starEach es X.env := by rfl) (hpl : (backTo pos (starEach es X.env)).any (·.1) = false := by rfl) : PE X (.Call (.Name x p) (e :: es) [] pos) (tCall sp dvs E t) :=
  ⟨fun pins s σ H Q I h => wpAny_Call_Name_kw (ld_glob I hg hm (PySem.W.callWith_K (h₀ := X.base) I.ok.mod.kin hk (thn (ha.run pos pins s σ H _ I h) fun us s1 ⟨vs, H1, I1, r, q⟩ => ⟨I1.kIn, DL.run_fn F hr hb hd hx I1 r q⟩) he hpl) hdb)⟩
theorem pe_call0 (F : DL.FnOk X.prog X.w X.K X.mg X.base CX k f fd ps sp) (hr : DL.Room k X.A) (hg : Gl X x) (hm : X.mg x = some (.ref f)) (hk : PySem.W.keepIn X.K (.ref f) = true) (hb : Binds X.K fd ps ds) (hd : Vals dvs ds) (hx : Passes CX X E) (hdb : (x == ("__debug__" : Str)) = false := by decide) :
    PE X (.Call (.Name x p) [] [] pos) (tCall sp dvs E tNil) := ⟨fun pins s σ H Q I h => wpAny_Call_Name_kw (ld_glob I hg hm (PySem.W.callWith_K0 I.kIn hk (DL.run_fn (us := []) F hr hb hd hx I .nil h)) hdb)⟩
/-- with keywords; places may be none -/
theorem pe_callKs {g : List Value → List Value → List Value} {gV : List V → List V → List V} (F : DL.FnOk X.prog X.w X.K X.mg X.base CX k f fd ps sp) (hr : DL.Room k X.A) (hg : Gl X x) (hm : X.mg x = some (.ref f)) (hk : PySem.W.keepIn X.K (.ref f) = true) (hb : KBinds X.K fd ps ks g gV) (hx : Passes CX X E) (ha : PA X (e :: es) t) (hkw : PK X kws tk)
    (hall : (backToKw pos (keywordEach kws X.env)).all (·.1.isSome) = true := by rfl) (hks : (backToKw pos (keywordEach kws X.env)).filterMap (·.1) = ks := by rfl) (hdb : (x == ("__debug__" : Str)) = false := by decide) (he : starEach (e :: es) X.env = (false, eval e X.env) :: starEach es X.env := by rfl)
    (hpl : ((backTo pos (starEach (e :: es) X.env)).any (·.1) || (backToKw pos (keywordEach kws X.env)).any (·.1.isNone)) = false := by rfl) : PE X (.Call (.Name x p) (e :: es) kws pos) (tCallK sp gV E t tk) := by
  refine ⟨fun pins s σ H Q I h => wpAny_Call_Name_kw (ld_glob I hg hm ?_ hdb)⟩
  refine PySem.W.callWith_KW (h₀ := X.base) I.ok.mod.kin hk hall (thn (ha.run pos pins s σ H _ I h) fun us s1 ⟨vs, H1, I1, r, q⟩ => thn (hkw.run pos pins s1 σ H1 _ I1 q) fun ws s2 ⟨zs, H2, I2, rz, q2⟩ => ⟨I2.kIn, ?_⟩) hpl he
  rw [hks]
  exact DL.run_fnk F hr hb hx I2 r rz q2
theorem run_make {pins : List (Addr × Obj)} {σ : L2.St} {H : Hp} {s : Shared} {Q : VK} {us : List Value} {vs : List V} (M : Mk X.K C f) (F : DL.FnOk X.prog X.w X.K X.mg X.base CX k f fd ps sp) (hr : DL.Room (k + 1) X.A) (hb : Binds X.K fd ps ds) (hd : Vals dvs ds) (hx : Passes CX X E) (I : Inv X pins σ H s) (r : Vals vs us)
    (h : ∀ x dx, H x = none → H dx = none → dx ≠ x → sp (.ref x :: (vs ++ dvs)) (upd (upd H dx (.own x)) x (.ins C dx [])) (fun v H2 => v = .non ∧ Q (.ref x) H2) E) : wpAny (model X.prog X.w) X.A (call (.ref C) us) (EP X pins σ Q) X.xe s := by
  have hq := h (s.heap.objs.size + 1) s.heap.objs.size (I.hok.fresh (Nat.le_succ _)) (I.hok.fresh (Nat.le_refl _)) (Nat.ne_of_lt (Nat.lt_succ_self _))
  have I2 := Inv.made (C := C) I
  have r2 : Vals (V.ref (s.heap.objs.size + 1) :: (vs ++ dvs)) (Value.ref (s.heap.objs.size + 1) :: (us ++ ds)) := .cons rfl (r.append hd)
  have hl : (Value.ref (s.heap.objs.size + 1) :: us ++ ds).length = ps.length := r2.length.symm.trans (F.len _ _ _ _ hq)
  refine wpAny_call (make_map (f := f) I.kIn M.makes M.init (beq_iff_eq.mp M.fn) (codeAny_mono (F.run _ X.stack _ _ ⟨Value.ref (s.heap.objs.size + 1) :: us, []⟩ (Value.ref (s.heap.objs.size + 1) :: (us ++ ds)) _ _ E (hr.make C us []) (I2.env0.make C us []) (hb _ (Value.ref (s.heap.objs.size + 1) :: us) I2.kIn hl) r2 hq) fun r s' hq' => ?_))
  match r, hq' with
  | .error e, hq' => exact hx pins σ _ _ e s' I2 hq'
  | .ok (.ret u), hq' =>
    obtain ⟨v, H', I3, rv, ev, q3⟩ := I2.after hq'
    subst ev
    exact ⟨rv, ⟨V.ref (s.heap.objs.size + 1), H', I3, rfl, q3⟩⟩
theorem pe_make (M : Mk X.K C f) (F : DL.FnOk X.prog X.w X.K X.mg X.base CX k f fd ps sp) (hr : DL.Room (k + 1) X.A) (hg : Gl X x) (hm : X.mg x = some (.ref C)) (hb : Binds X.K fd ps ds) (hd : Vals dvs ds) (hx : Passes CX X E) (ha : PA X (e :: es) t) (hdb : (x == ("__debug__" : Str)) = false := by decide)
    (he : starEach (e :: es) X.env = (false, eval e X.env) :: starEach es X.env := by rfl) (hpl : (backTo pos (starEach es X.env)).any (·.1) = false := by rfl) : PE X (.Call (.Name x p) (e :: es) [] pos) (tMake C sp dvs E t) :=
  ⟨fun pins s σ H Q I h => wpAny_Call_Name_kw (ld_glob I hg hm (PySem.W.callWith_K (h₀ := X.base) I.ok.mod.kin M.kp (thn (ha.run pos pins s σ H _ I h) fun us s1 ⟨vs, H1, I1, r, q⟩ => ⟨I1.kIn, DL.run_make M F hr hb hd hx I1 r q⟩) he hpl) hdb)⟩
end
end DL
-- DLjudge
set_option Elab.async false
set_option linter.all false
set_option maxRecDepth 100000
set_option maxHeartbeats 2000000
set_option autoImplicit false
namespace DL
open PySem PySem.Spec L2

/-! ### readings over trees -/
abbrev DTE := List Sl → (D → List Sl → Prop) → EX → Prop
/-- an operand: a value, or a name whose value is read when the operation comes -/
abbrev Od := Sum D Nat
abbrev DTO := List Sl → (Od → List Sl → Prop) → EX → Prop
abbrev DTM := List Sl → (Sl → List Sl → Prop) → EX → Prop
abbrev DTT := List Sl → (Bool → List Sl → Prop) → EX → Prop
abbrev DTA := List Sl → (List D → List Sl → Prop) → EX → Prop
structure DEnds where
  nx : List Sl → Prop
  rt : D → Prop
  bk : List Sl → Prop := fun _ => False
  ct : List Sl → Prop := fun _ => False
abbrev DTS := DEnds → List Sl → EX → Prop
section
variable {K : PySem.W.Frag}
def upE (G : Gx K) (t : DTE) : TE := fun σ H Q => ∃ Δ B Qd, DR G Δ σ H B ∧ t Δ Qd G.Ed ∧ ∀ d Δ' v H' B', Qd d Δ' → DR G Δ' σ H' B' → Sub B B' → Rp G.W B' v d → Q v H'
def upM (G : Gx K) (t : DTM) : TE := fun σ H Q => ∃ Δ B Qd, DR G Δ σ H B ∧ t Δ Qd G.Ed ∧ ∀ s Δ' v H' B', Qd s Δ' → DR G (Δ' ++ [s]) (σ ++ [some v]) H' B' → Sub B B' → Q v H'
def OdV (W : Wd K) (B : Hp) (σ : L2.St) : Od → V → Prop
  | .inl d, v => Rp W B v d
  | .inr i, v => σ[i]? = some (some v)
def upO (G : Gx K) (t : DTO) : TE := fun σ H Q => ∃ Δ B Qd, DR G Δ σ H B ∧ t Δ Qd G.Ed ∧ ∀ o Δ' v H' B', Qd o Δ' → DR G Δ' σ H' B' → Sub B B' → OdV G.W B' σ o v → Q v H'
def upAO (G : Gx K) (t : List Sl → (List Od → List Sl → Prop) → EX → Prop) : TA := fun σ H Q => ∃ Δ B Qd, DR G Δ σ H B ∧ t Δ Qd G.Ed ∧ ∀ os Δ' vs H' B', Qd os Δ' → DR G Δ' σ H' B' → Sub B B' → Paired (OdV G.W B' σ) os vs → Q vs H'
def upT (G : Gx K) (t : DTT) : TT := fun σ H Q => ∃ Δ B Qd, DR G Δ σ H B ∧ t Δ Qd G.Ed ∧ ∀ b Δ' H' B', Qd b Δ' → DR G Δ' σ H' B' → Sub B B' → Q b H'
def upA (G : Gx K) (t : DTA) : TA := fun σ H Q => ∃ Δ B Qd, DR G Δ σ H B ∧ t Δ Qd G.Ed ∧ ∀ ds Δ' vs H' B', Qd ds Δ' → DR G Δ' σ H' B' → Sub B B' → Rps G.W B' vs ds → Q vs H'
def upS (G : Gx K) (t : DTS) : TS := fun D σ H => ∃ Δ B N, DR G Δ σ H B ∧ t N Δ G.Ed ∧
  (∀ Δ' σ' H' B', N.nx Δ' → DR G Δ' σ' H' B' → Sub B B' → D.nx σ' H') ∧ (∀ Δ' σ' H' B', N.bk Δ' → DR G Δ' σ' H' B' → Sub B B' → D.bk σ' H') ∧ (∀ Δ' σ' H' B', N.ct Δ' → DR G Δ' σ' H' B' → Sub B B' → D.ct σ' H') ∧
  (∀ d v H' B', N.rt d → Grow G.W G.H0 G.B0 H' B' → Sub B B' → Rp G.W B' v d → D.rt v H')
end

/-! ### names and constants -/
def dVar (i : Nat) : DTE := fun Δ Q _ => ∃ s d, Δ[i]? = some s ∧ s.er = some d ∧ Q d (Δ.set i (.im d))
def dC (d : D) : DTE := fun Δ Q _ => Q d Δ
def dTst (t : DTE) : DTT := fun Δ Q E => t Δ (fun d Δ1 => ∃ b, d = .bl b ∧ Q b Δ1) E
def dAnd (t u : DTT) : DTT := fun Δ Q E => t Δ (fun b Δ1 => if b = true then u Δ1 Q E else Q false Δ1) E
def dOr (t u : DTT) : DTT := fun Δ Q E => t Δ (fun b Δ1 => if b = true then Q true Δ1 else u Δ1 Q E) E
def dNot (t : DTT) : DTT := fun Δ Q E => t Δ (fun b Δ1 => Q (!b) Δ1) E
def dAndV (ta tb : DTE) : DTE := fun Δ Q E => ta Δ (fun x Δ1 => ∃ c, x = .bl c ∧ if c = true then tb Δ1 Q E else Q (.bl false) Δ1) E
def dOrV (ta tb : DTE) : DTE := fun Δ Q E => ta Δ (fun x Δ1 => ∃ c, x = .bl c ∧ if c = true then Q (.bl true) Δ1 else tb Δ1 Q E) E
def dNotV (ta : DTE) : DTE := fun Δ Q E => ta Δ (fun x Δ1 => ∃ c, x = .bl c ∧ Q (.bl (!c)) Δ1) E
def dIf (t : DTT) (ta tb : DTE) : DTE := fun Δ Q E => t Δ (fun c Δ1 => if c = true then ta Δ1 Q E else tb Δ1 Q E) E
def dNil : DTA := fun Δ Q _ => Q [] Δ
def dCons (ta : DTE) (tr : DTA) : DTA := fun Δ Q E => ta Δ (fun x Δ1 => tr Δ1 (fun xs Δ2 => Q (x :: xs) Δ2) E) E

section
variable {X : Cx} {G : Gx X.K} {a b c : Expr} {rest : List Expr} {pos : Pos}
theorem PE.imp {e : Expr} {t u : TE} (h : PE X e t) (i : ∀ σ H Q, u σ H Q → t σ H Q) : PE X e u := ⟨fun p s σ H Q I q => h.run p s σ H Q I (i σ H Q q)⟩
theorem PT.imp {e : Expr} {t u : TT} (h : PT X e t) (i : ∀ σ H Q, u σ H Q → t σ H Q) : PT X e u := ⟨fun p s σ H Q I q => h.run p s σ H Q I (i σ H Q q)⟩
theorem PW.imp {e : Expr} {t u : TT} (h : PW X e t) (i : ∀ σ H Q, u σ H Q → t σ H Q) : PW X e u := ⟨fun w p s σ H Q I q => h.run w p s σ H Q I (i σ H Q q)⟩
theorem PA.imp {e : List Expr} {t u : TA} (h : PA X e t) (i : ∀ σ H Q, u σ H Q → t σ H Q) : PA X e u := ⟨fun w p s σ H Q I q => h.run w p s σ H Q I (i σ H Q q)⟩
theorem PS.imp {e : Stmt} {t u : TS} (h : PS X e t) (i : ∀ D σ H, u D σ H → t D σ H) : PS X e u := ⟨fun p s σ H D I q => h.run p s σ H D I (i D σ H q)⟩
theorem PSs.imp {e : List Stmt} {t u : TS} (h : PSs X e t) (i : ∀ D σ H, u D σ H → t D σ H) : PSs X e u := ⟨fun p s σ H D I q => h.run p s σ H D I (i D σ H q)⟩

theorem de_var (i : Nat) {x : Str} (hN : X.N[i]? = some x := by rfl) (hv : Vis X.env.scope x := by first | exact Or.inl rfl | exact Or.inr (Or.inl rfl) | exact Or.inr (Or.inr rfl)) (hd : (x == ("__debug__" : Str)) = false := by decide)
    (hcd : (x == ("__classdict__" : Str)) = false := by decide) : PE X (.Name x pos) (upE G (dVar i)) := PE.imp (pe_var hN hv hd hcd) fun σ H Q ⟨Δ, B, Qd, r, ⟨s, d, e1, e2, q⟩, k⟩ => by
  obtain ⟨v, B', e, sb, rp, r'⟩ := r.freeze e1 e2
  exact ⟨v, e, k _ _ _ _ _ q r' sb rp⟩
theorem de_c {e : Expr} {v : V} {d : D} (h : PE X e (tC v)) (hd : ∀ B, Rp G.W B v d) : PE X e (upE G (dC d)) := PE.imp h fun σ H Q ⟨Δ, B, Qd, r, q, k⟩ => k _ _ _ _ _ q r (Sub.refl _) (hd _)
theorem de_int {i j} : PE X (.Constant (.int i) j pos) (upE G (dC (.int i))) := de_c pe_int fun _ => .int _
theorem de_bl {i j} : PE X (.Constant (.bool i) j pos) (upE G (dC (.bl i))) := de_c pe_bl fun _ => .bl _
theorem de_non {j} : PE X (.Constant .none j pos) (upE G (dC .non)) := de_c pe_non fun _ => .non
theorem de_str {x j} : PE X (.Constant (.str x) j pos) (upE G (dC (.str x))) := de_c pe_str fun _ => .str _


theorem Rp.bl_inv {K : PySem.W.Frag} {W : Wd K} {B : Hp} {v : V} {k : Bool} (h : Rp W B v (.bl k)) : v = .bl k := by cases h; rfl
/-- a value that is a truth, as a test -/
theorem dt_val {ta : DTE} (h : PE X a (upE G ta)) (he : ∀ whole, isTrue a X.env whole = (do let v ← whole; standAt a.pos; holding [v] (truthy v)) := by intro _; rfl) : PT X a (upT G (dTst ta)) :=
  PT.imp (pt_val h he) fun σ H Q ⟨Δ, B, Qd, r1, q, k⟩ => ⟨Δ, B, _, r1, q, fun d Δ1 v H1 B1 ⟨bb, e, qd⟩ r1 s1 rp => by subst e; cases rp; exact ⟨bb, rfl, k _ _ _ _ qd r1 s1⟩⟩
theorem dw_and1 {ta : DTT} (ha : PT X a (upT G ta)) : PW X (.BoolOp .And [a] pos) (upT G ta) := pw_and1 ha
theorem dw_or1 {ta : DTT} (ha : PT X a (upT G ta)) : PW X (.BoolOp .Or [a] pos) (upT G ta) := pw_or1 ha
theorem dw_and {ta tb : DTT} (ha : PT X a (upT G ta)) (hb : PW X (.BoolOp .And (b :: rest) pos) (upT G tb)) : PW X (.BoolOp .And (a :: b :: rest) pos) (upT G (dAnd ta tb)) :=
  PW.imp (pw_and ha hb) fun σ H Q ⟨Δ, B, Qd, r1, q, k⟩ => ⟨Δ, B, _, r1, q, fun bb Δ1 H1 B1 q1 r1 s1 => by
    cases bb with
    | true => exact ⟨Δ1, B1, _, r1, q1, fun b2 Δ2 H2 B2 q2 r2 s2 => k _ _ _ _ q2 r2 (s1.trans s2)⟩
    | false => exact k _ _ _ _ q1 r1 s1⟩
theorem dw_or {ta tb : DTT} (ha : PT X a (upT G ta)) (hb : PW X (.BoolOp .Or (b :: rest) pos) (upT G tb)) : PW X (.BoolOp .Or (a :: b :: rest) pos) (upT G (dOr ta tb)) :=
  PW.imp (pw_or ha hb) fun σ H Q ⟨Δ, B, Qd, r1, q, k⟩ => ⟨Δ, B, _, r1, q, fun bb Δ1 H1 B1 q1 r1 s1 => by
    cases bb with
    | true => exact k _ _ _ _ q1 r1 s1
    | false => exact ⟨Δ1, B1, _, r1, q1, fun b2 Δ2 H2 B2 q2 r2 s2 => k _ _ _ _ q2 r2 (s1.trans s2)⟩⟩
theorem dt_not {ta : DTT} (ha : PT X a (upT G ta)) : PT X (.UnaryOp .Not a pos) (upT G (dNot ta)) :=
  PT.imp (pt_not ha) fun σ H Q ⟨Δ, B, Qd, r1, q, k⟩ => ⟨Δ, B, _, r1, q, fun bb Δ1 H1 B1 q1 r1 s1 => k _ _ _ _ q1 r1 s1⟩
theorem de_one {op} {ta : DTE} (h : PE X a (upE G ta)) : PE X (.BoolOp op [a] pos) (upE G ta) := pe_one h
theorem de_and {ta tb : DTE} (ha : PE X a (upE G ta)) (hb : PE X (.BoolOp .And (b :: rest) pos) (upE G tb)) : PE X (.BoolOp .And (a :: b :: rest) pos) (upE G (dAndV ta tb)) :=
  PE.imp (pe_and ha hb) fun σ H Q ⟨Δ, B, Qd, r1, q, k⟩ => ⟨Δ, B, _, r1, q, fun d Δ1 v H1 B1 ⟨bb, e, q1⟩ r1 s1 rp => by
    subst e; cases rp
    refine ⟨bb, rfl, ?_⟩
    cases bb with
    | true => exact ⟨Δ1, B1, _, r1, q1, fun d2 Δ2 v2 H2 B2 q2 r2 s2 p2 => k _ _ _ _ _ q2 r2 (s1.trans s2) p2⟩
    | false => exact k _ _ _ _ _ q1 r1 s1 (.bl _)⟩
theorem de_or {ta tb : DTE} (ha : PE X a (upE G ta)) (hb : PE X (.BoolOp .Or (b :: rest) pos) (upE G tb)) : PE X (.BoolOp .Or (a :: b :: rest) pos) (upE G (dOrV ta tb)) :=
  PE.imp (pe_or ha hb) fun σ H Q ⟨Δ, B, Qd, r1, q, k⟩ => ⟨Δ, B, _, r1, q, fun d Δ1 v H1 B1 ⟨bb, e, q1⟩ r1 s1 rp => by
    subst e; cases rp
    refine ⟨bb, rfl, ?_⟩
    cases bb with
    | true => exact k _ _ _ _ _ q1 r1 s1 (.bl _)
    | false => exact ⟨Δ1, B1, _, r1, q1, fun d2 Δ2 v2 H2 B2 q2 r2 s2 p2 => k _ _ _ _ _ q2 r2 (s1.trans s2) p2⟩⟩
theorem de_not {ta : DTE} (ha : PE X a (upE G ta)) : PE X (.UnaryOp .Not a pos) (upE G (dNotV ta)) :=
  PE.imp (pe_not ha) fun σ H Q ⟨Δ, B, Qd, r1, q, k⟩ => ⟨Δ, B, _, r1, q, fun d Δ1 v H1 B1 ⟨bb, e, q1⟩ r1 s1 rp => by
    subst e; cases rp
    exact ⟨bb, rfl, k _ _ _ _ _ q1 r1 s1 (.bl _)⟩⟩
theorem de_if {tc : DTT} {ta tb : DTE} (hc : PT X c (upT G tc)) (ha : PE X a (upE G ta)) (hb : PE X b (upE G tb)) : PE X (.IfExp c a b pos) (upE G (dIf tc ta tb)) :=
  PE.imp (pe_ifExp hc ha hb) fun σ H Q ⟨Δ, B, Qd, r1, q, k⟩ => ⟨Δ, B, _, r1, q, fun bb Δ1 H1 B1 q1 r1 s1 => by
    cases bb with
    | true => exact ⟨Δ1, B1, _, r1, q1, fun d2 Δ2 v2 H2 B2 q2 r2 s2 p2 => k _ _ _ _ _ q2 r2 (s1.trans s2) p2⟩
    | false => exact ⟨Δ1, B1, _, r1, q1, fun d2 Δ2 v2 H2 B2 q2 r2 s2 p2 => k _ _ _ _ _ q2 r2 (s1.trans s2) p2⟩⟩
theorem da_nil : PA X [] (upA G dNil) := PA.imp pa_nil fun σ H Q ⟨Δ, B, Qd, r1, q, k⟩ => k _ _ _ _ _ q r1 (Sub.refl _) .nil
theorem da_cons {e : Expr} {es : List Expr} {ta : DTE} {tr : DTA} (ha : PE X e (upE G ta)) (hr : PA X es (upA G tr)) (hs : starEach (e :: es) X.env = (false, eval e X.env) :: starEach es X.env := by rfl) : PA X (e :: es) (upA G (dCons ta tr)) :=
  PA.imp (pa_cons ha hr hs) fun σ H Q ⟨Δ, B, Qd, r1, q, k⟩ => ⟨Δ, B, _, r1, q, fun d Δ1 v H1 B1 q1 r1 s1 rp => ⟨Δ1, B1, _, r1, q1, fun ds Δ2 vs H2 B2 q2 r2 s2 rps => k _ _ _ _ _ q2 r2 (s1.trans s2) (.cons _ _ _ _ (rp.mono s2) rps)⟩⟩

end

/-! ### the promise of a def, over trees -/
abbrev SpD := List D → (D → Prop) → EX → Prop
def upSp {K : PySem.W.Frag} (W : Wd K) (sp : SpD) : Sp := fun vs H Q E => ∃ B ds Qd Ed, Grow W H B H B ∧ Rps W B vs ds ∧ sp ds Qd Ed ∧ (∀ d v H' B', Qd d → Grow W H B H' B' → Rp W B' v d → Q v H') ∧
  ∀ C H' B', Ed C → Grow W H B H' B' → E (.ref C) none H'
def dFnD (sp : SpD) (dvs : List D) (ta : DTA) : DTE := fun Δ Q E => ta Δ (fun ds Δ1 => sp (ds ++ dvs) (fun d => Q d Δ1) E) E
section
variable {X : Cx} {G : Gx X.K} {pos : Pos}
theorem up_sp {sp : SpD} {Δ : List Sl} {σ : L2.St} {H B : Hp} {vs : List V} {ds : List D} {Qd : D → Prop} {Q : VK} (r : DR G Δ σ H B) (rps : Rps G.W B vs ds) (h : sp ds Qd G.Ed)
    (k : ∀ d v H' B', Qd d → DR G Δ σ H' B' → Sub B B' → Rp G.W B' v d → Q v H') : upSp G.W sp vs H Q G.E :=
  ⟨B, ds, Qd, G.Ed, r.gr.self, rps, h, fun d v H' B' q g rp => k d v H' B' q (r.grow g) g.bas rp, fun C H' B' hC g => G.hE C H' B' hC (r.gr.trans g)⟩
theorem de_callD {CX : CXT} {k : Nat} {f : Addr} {fd : FuncData} {ps : List Str} {sp : SpD} {dvs : List V} {dds : List D} {dus : List Value} {x : Str} {p : Pos} {e : Expr} {es : List Expr} {ta : DTA} (F : FnOk X.prog X.w X.K X.mg X.base CX k f fd ps (upSp G.W sp)) (hr : Room k X.A) (hg : Gl X x) (hm : X.mg x = some (.ref f))
    (hk : PySem.W.keepIn X.K (.ref f) = true) (hb : Binds X.K fd ps dus) (hd : Vals dvs dus) (hdd : ∀ B, Rps G.W B dvs dds) (hx : Passes CX X G.E) (ha : PA X (e :: es) (upA G ta)) (hdb : (x == ("__debug__" : Str)) = false := by decide)
    (he : starEach (e :: es) X.env = (false, eval e X.env) :: starEach es X.env := by rfl) (hpl : (backTo pos (starEach es X.env)).any (·.1) = false := by rfl) : PE X (.Call (.Name x p) (e :: es) [] pos) (upE G (dFnD sp dds ta)) :=
  PE.imp (pe_call F hr hg hm hk hb hd hx ha hdb he hpl) fun σ H Q ⟨Δ, B, Qd, r1, q, k⟩ => ⟨Δ, B, _, r1, q, fun ds Δ1 vs H1 B1 q1 r1 s1 rps =>
    up_sp r1 (rps.append (hdd _)) q1 fun d v H' B' q r' s rp => k _ _ _ _ _ q r' (s1.trans s) rp⟩
theorem de_callD0 {CX : CXT} {k : Nat} {f : Addr} {fd : FuncData} {ps : List Str} {sp : SpD} {dvs : List V} {dds : List D} {dus : List Value} {x : Str} {p : Pos} (F : FnOk X.prog X.w X.K X.mg X.base CX k f fd ps (upSp G.W sp)) (hr : Room k X.A) (hg : Gl X x) (hm : X.mg x = some (.ref f))
    (hk : PySem.W.keepIn X.K (.ref f) = true) (hb : Binds X.K fd ps dus) (hd : Vals dvs dus) (hdd : ∀ B, Rps G.W B dvs dds) (hx : Passes CX X G.E) (hdb : (x == ("__debug__" : Str)) = false := by decide) : PE X (.Call (.Name x p) [] [] pos) (upE G (dFnD sp dds dNil)) :=
  PE.imp (pe_call0 F hr hg hm hk hb hd hx hdb) fun σ H Q ⟨Δ, B, Qd, r1, q, k⟩ => up_sp r1 (hdd _) q fun d v H' B' q r' s rp => k _ _ _ _ _ q r' s rp
end

/-! ### statements -/
def dSeq (t u : DTS) : DTS := fun N Δ E => t { N with nx := fun Δ' => u N Δ' E } Δ E
def dNext : DTS := fun N Δ _ => N.nx Δ
def dBrk : DTS := fun N Δ _ => N.bk Δ
def dCnt : DTS := fun N Δ _ => N.ct Δ
def dDrop (t : DTE) : DTS := fun N Δ E => t Δ (fun _ Δ1 => N.nx Δ1) E
def dRet (t : DTE) : DTS := fun N Δ E => t Δ (fun d _ => N.rt d) E
def dRetN : DTS := fun N _ _ => N.rt .non
def dIfS (c : DTT) (t u : DTS) : DTS := fun N Δ E => c Δ (fun b Δ1 => if b = true then t N Δ1 E else u N Δ1 E) E
def dNever : DTS := fun _ _ _ => False
/-- name = value -/
def dSet (i : Nat) (t : DTE) : DTS := fun N Δ E => t Δ (fun d Δ1 => N.nx (Δ1.set i (.im d))) E
/-- name = value that may be the name's own -/
def dSetM (i : Nat) (t : DTM) : DTS := fun N Δ E => t Δ (fun s Δ1 => i < Δ1.length ∧ N.nx (Δ1.set i s)) E
def dRaise (C : Addr) : DTS := fun _ _ E => E C
section
variable {X : Cx} {G : Gx X.K} {st : Stmt} {rest : List Stmt} {pos : Pos} {e : Expr}
theorem dss_nil : PSs X [] (upS G dNext) := PSs.imp pss_nil fun N σ H ⟨Δ, B, M, r, q, k, _⟩ => k _ _ _ _ q r (Sub.refl _)
theorem dss_cons {t u : DTS} (h1 : PS X st (upS G t)) (h2 : PSs X rest (upS G u)) : PSs X (st :: rest) (upS G (dSeq t u)) :=
  PSs.imp (pss_cons h1 h2) fun N σ H ⟨Δ, B, M, r, q, k1, k2, k3, k4⟩ => ⟨Δ, B, _, r, q, fun Δ1 σ1 H1 B1 q1 r1 s1 => ⟨Δ1, B1, M, r1, q1, fun a b c d x y z => k1 a b c d x y (s1.trans z), fun a b c d x y z => k2 a b c d x y (s1.trans z), fun a b c d x y z => k3 a b c d x y (s1.trans z), fun a b c d x y z => k4 a b c d x y (s1.trans z)⟩, k2, k3, k4⟩
theorem dss_one {t : DTS} (h1 : PS X st (upS G t)) : PSs X [st] (upS G t) := pss_one h1
theorem ds_pass : PS X (.Pass pos) (upS G dNext) := PS.imp ps_pass fun N σ H ⟨Δ, B, M, r, q, k, _⟩ => k _ _ _ _ q r (Sub.refl _)
theorem ds_break : PS X (.Break pos) (upS G dBrk) := PS.imp ps_break fun N σ H ⟨Δ, B, M, r, q, _, k, _⟩ => k _ _ _ _ q r (Sub.refl _)
theorem ds_continue : PS X (.Continue pos) (upS G dCnt) := PS.imp ps_continue fun N σ H ⟨Δ, B, M, r, q, _, _, k, _⟩ => k _ _ _ _ q r (Sub.refl _)
theorem ds_expr {t : DTE} (he : PE X e (upE G t)) (hs : swapsWith e none pos.line X.env = pure false := by rfl) : PS X (.Expr e pos) (upS G (dDrop t)) :=
  PS.imp (ps_expr he hs) fun N σ H ⟨Δ, B, M, r, q, k, _⟩ => ⟨Δ, B, _, r, q, fun d Δ1 v H1 B1 q1 r1 s1 _ => k _ _ _ _ q1 r1 s1⟩
theorem ds_ret {t : DTE} (he : PE X e (upE G t)) : PS X (.Return (some e) pos) (upS G (dRet t)) :=
  PS.imp (ps_ret he) fun N σ H ⟨Δ, B, M, r, q, _, _, _, k⟩ => ⟨Δ, B, _, r, q, fun d Δ1 v H1 B1 q1 r1 s1 rp => k _ _ _ _ q1 r1.gr s1 rp⟩
theorem ds_retN : PS X (.Return none pos) (upS G dRetN) := PS.imp ps_retN fun N σ H ⟨Δ, B, M, r, q, _, _, _, k⟩ => k _ _ _ _ q r.gr (Sub.refl _) .non
theorem ds_if {c : Expr} {a b : List Stmt} {tc : DTT} {t u : DTS} (hc : PT X c (upT G tc)) (ha : PSs X a (upS G t)) (hb : PSs X b (upS G u)) : PS X (.If c a b pos) (upS G (dIfS tc t u)) :=
  PS.imp (ps_if hc ha hb) fun N σ H ⟨Δ, B, M, r, q, k1, k2, k3, k4⟩ => ⟨Δ, B, _, r, q, fun bb Δ1 H1 B1 q1 r1 s1 => by
    cases bb with
    | true => exact ⟨Δ1, B1, M, r1, q1, fun a b c d x y z => k1 a b c d x y (s1.trans z), fun a b c d x y z => k2 a b c d x y (s1.trans z), fun a b c d x y z => k3 a b c d x y (s1.trans z), fun a b c d x y z => k4 a b c d x y (s1.trans z)⟩
    | false => exact ⟨Δ1, B1, M, r1, q1, fun a b c d x y z => k1 a b c d x y (s1.trans z), fun a b c d x y z => k2 a b c d x y (s1.trans z), fun a b c d x y z => k3 a b c d x y (s1.trans z), fun a b c d x y z => k4 a b c d x y (s1.trans z)⟩⟩
theorem ds_never : PS X st (upS G dNever) := PS.imp ps_never fun N σ H ⟨Δ, B, M, r, q, _⟩ => q
theorem dss_never {sts : List Stmt} : PSs X sts (upS G dNever) := PSs.imp pss_never fun N σ H ⟨Δ, B, M, r, q, _⟩ => q
theorem ds_set {i : Nat} {x : Str} {t : DTE} {pos' : Pos} (hN : X.N.Nodup) (he : PE X e (upE G t)) (hi : X.N[i]? = some x := by rfl) (hx : Loc X.env.scope x := by first | exact Or.inl rfl | exact Or.inr rfl) (hs : swapsWith e (some (.Name x pos')) pos.line X.env = pure false := by rfl)
    (hf : X.fn x = true ∨ X.env.scope.names.lookup x = some .local := by first | exact .inl rfl | exact .inr rfl | assumption) : PS X (.Assign [.Name x pos'] e pos) (upS G (dSet i t)) :=
  PS.imp (ps_set hN hi hx he hs hf) fun N σ H ⟨Δ, B, M, r, q, k, _⟩ => ⟨Δ, B, _, r, q, fun d Δ1 v H1 B1 q1 r1 s1 rp => k _ _ _ _ q1 (r1.put i rp) s1⟩
theorem ds_setM {i : Nat} {x : Str} {t : DTM} {pos' : Pos} (hN : X.N.Nodup) (he : PE X e (upM G t)) (hi : X.N[i]? = some x := by rfl) (hx : Loc X.env.scope x := by first | exact Or.inl rfl | exact Or.inr rfl) (hs : swapsWith e (some (.Name x pos')) pos.line X.env = pure false := by rfl)
    (hf : X.fn x = true ∨ X.env.scope.names.lookup x = some .local := by first | exact .inl rfl | exact .inr rfl | assumption) : PS X (.Assign [.Name x pos'] e pos) (upS G (dSetM i t)) :=
  PS.imp (ps_set hN hi hx he hs hf) fun N σ H ⟨Δ, B, M, r, q, k, _⟩ => ⟨Δ, B, _, r, q, fun s Δ1 v H1 B1 ⟨hl, q1⟩ r1 s1 => k _ _ _ _ q1 (r1.move hl) s1⟩
end
end DL
-- DLops
set_option Elab.async false
set_option linter.all false
set_option maxRecDepth 100000
set_option maxHeartbeats 2000000
set_option autoImplicit false
namespace DL
open PySem PySem.Spec L2
open PyProof.Rows (b2i)

/-! ### values that an operation reads, values that it makes -/
section
variable {K : PySem.W.Frag}
def RpH (W : Wd K) (B H : Hp) (v : V) (d : D) : Prop := ∃ s f, SlR W B H s (some v) f ∧ s.er = some d
structure NewV (W : Wd K) (H B H' B' : Hp) (s : Sl) (v : V) : Prop where
  gr : Grow W H B H' B'
  sl : ∃ f, SlR W B' H' s (some v) f ∧ ∀ a ∈ f, H a = none ∧ B' a = none
variable {W : Wd K} {B H : Hp} {v : V}
theorem RpH.of {d : D} (h : Rp W B v d) : RpH W B H v d := ⟨_, _, .im _ _ h, rfl⟩
theorem RpH.lst {ds : List D} (h : RpH W B H v (.lst ds)) (sb : Sub B H) : ∃ a vs, v = .ref a ∧ H a = some (.lst vs) ∧ Rps W B vs ds := by
  obtain ⟨s, f, h, e⟩ := h
  cases h with
  | un => cases e
  | im d v q => cases e; cases q with | lst a vs _ e q => exact ⟨a, vs, rfl, sb _ _ e, q⟩
  | ol _ p vs h q => cases e; exact ⟨p, vs, rfl, h, q⟩
  | ok _ p kvs h _ q => cases e
  | ot _ p kvs h _ q => cases e
  | oi _ _ p dx fs h _ q => cases e
theorem RpH.dk {ds : List (Key × D)} (h : RpH W B H v (.dk ds)) (sb : Sub B H) : ∃ a kvs, v = .ref a ∧ H a = some (.dK kvs) ∧ kvs.map (·.1) = ds.map (·.1) ∧ Rps W B (kvs.map (·.2)) (ds.map (·.2)) := by
  obtain ⟨s, f, h, e⟩ := h
  cases h with
  | un => cases e
  | im d v q => cases e; cases q with | dk a kvs _ e k q => exact ⟨a, kvs, rfl, sb _ _ e, k, q⟩
  | ol _ p vs h q => cases e
  | ok _ p kvs h k q => cases e; exact ⟨p, kvs, rfl, h, k, q⟩
  | ot _ p kvs h _ q => cases e
  | oi _ _ p dx fs h _ q => cases e
theorem RpH.dt {ds : List (List Key × D)} (h : RpH W B H v (.dt ds)) (sb : Sub B H) : ∃ a kvs, v = .ref a ∧ H a = some (.dT kvs) ∧ kvs.map (·.1) = ds.map (·.1) ∧ Rps W B (kvs.map (·.2)) (ds.map (·.2)) := by
  obtain ⟨s, f, h, e⟩ := h
  cases h with
  | un => cases e
  | im d v q => cases e; cases q with | dt a kvs _ e k q => exact ⟨a, kvs, rfl, sb _ _ e, k, q⟩
  | ol _ p vs h q => cases e
  | ok _ p kvs h k q => cases e
  | ot _ p kvs h k q => cases e; exact ⟨p, kvs, rfl, h, k, q⟩
  | oi _ _ p dx fs h _ q => cases e
theorem RpH.obj {C : Addr} {ds : List (Str × D)} (h : RpH W B H v (.obj C ds)) (sb : Sub B H) : ∃ a dx fs, v = .ref a ∧ H a = some (.ins C dx fs) ∧ fs.map (·.1) = ds.map (·.1) ∧ Rps W B (fs.map (·.2)) (ds.map (·.2)) := by
  obtain ⟨s, f, h, e⟩ := h
  cases h with
  | un => cases e
  | im d v q => cases e; cases q with | obj a C dx fs _ e k q => exact ⟨a, dx, fs, rfl, sb _ _ e, k, q⟩
  | ol _ p vs h q => cases e
  | ok _ p kvs h k q => cases e
  | ot _ p kvs h k q => cases e
  | oi _ _ p dx fs h k q => cases e; exact ⟨_, dx, fs, rfl, h, k, q⟩
/-- what is neither a list, a dict nor an object is clean -/
def D.flat : D → Bool
  | .lst _ => false
  | .dk _ => false
  | .dt _ => false
  | .obj _ _ => false
  | _ => true
theorem RpH.rp {d : D} (h : RpH W B H v d) (hd : d.flat = true) : Rp W B v d := by
  obtain ⟨s, f, h, e⟩ := h
  cases h with
  | un => cases e
  | im d v q => cases e; exact q
  | ol _ p vs h q => cases e; cases hd
  | ok _ p kvs h k q => cases e; cases hd
  | ot _ p kvs h k q => cases e; cases hd
  | oi _ _ p dx fs h k q => cases e; cases hd
theorem RpH.int {i : Int} (h : RpH W B H v (.int i)) : v = .int i := by cases h.rp rfl; rfl
theorem RpH.bl {i : Bool} (h : RpH W B H v (.bl i)) : v = .bl i := by cases h.rp rfl; rfl
theorem RpH.str {i : Str} (h : RpH W B H v (.str i)) : v = .str i := by cases h.rp rfl; rfl
theorem RpH.non (h : RpH W B H v .non) : v = .non := by cases h.rp rfl; rfl
theorem RpH.tup {ds : List D} (h : RpH W B H v (.tup ds)) (sb : Sub B H) : ∃ a vs, v = .ref a ∧ H a = some (.tup vs) ∧ Rps W B vs ds := by
  cases h.rp rfl with | tup a vs _ e q => exact ⟨a, vs, rfl, sb _ _ e, q⟩
theorem RpH.wt {ds : List D} (h : RpH W B H v (.wt ds)) (sb : Sub B H) : ∃ a vs, v = .ref a ∧ SqT K H a vs ∧ Rps W B vs ds := by
  cases h.rp rfl with | wt a vs _ e q => exact ⟨a, vs, rfl, sb.sqT e, q⟩
theorem RpH.scr {ns : List Int} (h : RpH W B H v (.scr ns)) (sb : Sub B H) : ∃ a vs, v = .ref a ∧ SqL K H a vs ∧ vs = ns.map V.int := by
  cases h.rp rfl with | scr a vs _ e q => exact ⟨a, vs, rfl, sb.sqL e, q⟩
theorem Grow.sb {H0 B0 : Hp} (g : Grow W H0 B0 H B) : Sub B H := fun a o e => (g.sub a o e).1
theorem NewV.clean {H0 B0 : Hp} (g : Grow W H0 B0 H B) {d : D} (h : Rp W B v d) : NewV W H B H B (.im d) v := ⟨g.self, [], .im _ _ h, fun _ z => by cases z⟩
theorem NewV.lst {H0 B0 : Hp} (g : Grow W H0 B0 H B) {p : Addr} {vs : List V} {ds : List D} (hp : H p = none) (r : Rps W B vs ds) : NewV W H B (upd H p (.lst vs)) B (.ol ds) (.ref p) :=
  ⟨g.allocO hp, [p], .ol _ _ _ upd_same r, fun a ha => by
    simp at ha; subst ha
    refine ⟨hp, ?_⟩
    cases e : B a with
    | none => rfl
    | some u => rw [g.sb _ _ e] at hp; cases hp⟩
theorem NewV.dk {H0 B0 : Hp} (g : Grow W H0 B0 H B) {p : Addr} {vs : List (Key × V)} {ds : List (Key × D)} (hp : H p = none) (k : vs.map (·.1) = ds.map (·.1)) (r : Rps W B (vs.map (·.2)) (ds.map (·.2))) : NewV W H B (upd H p (.dK vs)) B (.ok ds) (.ref p) :=
  ⟨g.allocO hp, [p], .ok _ _ _ upd_same k r, fun a ha => by
    simp at ha; subst ha
    refine ⟨hp, ?_⟩
    cases e : B a with
    | none => rfl
    | some u => rw [g.sb _ _ e] at hp; cases hp⟩
theorem NewV.dt {H0 B0 : Hp} (g : Grow W H0 B0 H B) {p : Addr} {vs : List (List Key × V)} {ds : List (List Key × D)} (hp : H p = none) (k : vs.map (·.1) = ds.map (·.1)) (r : Rps W B (vs.map (·.2)) (ds.map (·.2))) : NewV W H B (upd H p (.dT vs)) B (.ot ds) (.ref p) :=
  ⟨g.allocO hp, [p], .ot _ _ _ upd_same k r, fun a ha => by
    simp at ha; subst ha
    refine ⟨hp, ?_⟩
    cases e : B a with
    | none => rfl
    | some u => rw [g.sb _ _ e] at hp; cases hp⟩
theorem NewV.tup {H0 B0 : Hp} (g : Grow W H0 B0 H B) {p : Addr} {vs : List V} {ds : List D} (hp : H p = none) (r : Rps W B vs ds) : NewV W H B (upd H p (.tup vs)) (upd B p (.tup vs)) (.im (.tup ds)) (.ref p) := by
  have g1 := g.alloc (o := .tup vs) hp (fun _ z => by cases z)
  exact ⟨g1, [], .im _ _ (.tup _ _ _ upd_same (r.mono g1.bas)), fun _ z => by cases z⟩
end
section
variable {K : PySem.W.Frag} {G : Gx K} {Δ : List Sl} {σ : L2.St} {H B H' B' : Hp}
theorem DR.hangS (r : DR G Δ σ H B) {s : Sl} {v : V} (n : NewV G.W H B H' B' s v) : DR G (Δ ++ [s]) (σ ++ [some v]) H' B' := by
  obtain ⟨f, hs, hf⟩ := n.sl
  obtain ⟨fp, S0⟩ := r.sl
  have S := S0.grow n.gr
  have nw : ∀ a ∈ f, G.H0 a = none ∧ ¬ G.W.fv a := fun a ha => ⟨by
    cases e : G.H0 a with
    | none => rfl
    | some u => exact absurd (hf a ha).1 (r.gr.dom a (by rw [e]; simp)), (solid_new (o := HO.own a) r.wok (hf a ha).1 (fun _ => by simp)).2⟩
  have np : ∀ j a, a ∈ fp j → a ∉ f := fun j a ha z => by
    obtain ⟨o, h, _⟩ := (S0.ou j a ha).2.2.2
    rw [(hf a z).1] at h; cases h
  refine ⟨r.gr.trans n.gr, fun j => if j < Δ.length then fp j else if j = Δ.length then f else [], by simp [S.len], fun j x e => ?_, fun j k a h1 h2 => ?_, fun j a h => ?_⟩
  · by_cases hj : j < Δ.length
    · rw [List.getElem?_append_left hj] at e
      obtain ⟨w, q1, q2⟩ := S.at_ j x e
      refine ⟨w, by rw [List.getElem?_append_left (by rw [← S.len]; exact hj)]; exact q1, ?_⟩
      simp only [if_pos hj]; exact q2
    · rw [List.getElem?_append_right (by omega)] at e
      have z : j - Δ.length = 0 := by
        cases h : j - Δ.length with
        | zero => rfl
        | succ n => rw [h] at e; simp at e
      rw [z] at e; simp at e; subst e
      refine ⟨_, by rw [List.getElem?_append_right (by rw [← S.len]; omega), ← S.len, z]; rfl, ?_⟩
      simp only [if_neg hj, if_pos (show j = Δ.length by omega)]; exact hs
  · try dsimp only at h1 h2
    split at h1
    · split at h2
      · exact S.dj _ _ a h1 h2
      · split at h2
        · exact absurd h2 (np _ a h1)
        · cases h2
    · split at h1
      · split at h2
        · exact absurd h1 (np _ a h2)
        · split at h2
          · omega
          · cases h2
      · cases h1
  · try dsimp only at h
    split at h
    · exact S.ou j a h
    · split at h
      · exact ⟨(hf a h).2, (nw a h).1, (nw a h).2, hs.there a h⟩
      · cases h
/-- what hangs behind becomes clean -/
theorem DR.unhang {s : Sl} {v : V} {d : D} (r : DR G (Δ ++ [s]) (σ ++ [some v]) H B) (e : s.er = some d) : ∃ B', Sub B B' ∧ Rp G.W B' v d ∧ DR G Δ σ H B' := by
  have hl : Δ.length = σ.length := by obtain ⟨fp, S⟩ := r.sl; have := S.len; simpa using this
  obtain ⟨w, B', e1, sb, rp, r'⟩ := r.freeze (i := Δ.length) (s := s) (by rw [List.getElem?_append_right (Nat.le_refl _)]; simp) e
  rw [hl, List.getElem?_append_right (Nat.le_refl _)] at e1
  simp at e1; subst e1
  refine ⟨B', sb, rp, ?_⟩
  have e2 : (Δ ++ [s]).set Δ.length (Sl.im d) = Δ ++ [Sl.im d] := by simp
  rw [e2] at r'
  exact r'.drop
end

/-! ### from one kind of reading to another -/
def res (Δ : List Sl) : Od → Option D
  | .inl d => some d
  | .inr i => (Δ[i]?).bind Sl.er
def dClean (t : DTM) : DTE := fun Δ Q E => t Δ (fun s Δ' => ∃ d, s.er = some d ∧ Q d Δ') E
def dIm (t : DTE) : DTM := fun Δ Q E => t Δ (fun d Δ' => Q (.im d) Δ') E
def dO (t : DTE) : DTO := fun Δ Q E => t Δ (fun d Δ' => Q (.inl d) Δ') E
def dB (i : Nat) : DTO := fun Δ Q _ => (∃ s d, Δ[i]? = some s ∧ s.er = some d) ∧ Q (.inr i) Δ
abbrev DTAO := List Sl → (List Od → List Sl → Prop) → EX → Prop
def dNilO : DTAO := fun Δ Q _ => Q [] Δ
def dConsO (ta : DTO) (tr : DTAO) : DTAO := fun Δ Q E => ta Δ (fun x Δ1 => tr Δ1 (fun xs Δ2 => Q (x :: xs) Δ2) E) E
section
variable {X : Cx} {G : Gx X.K} {a b c : Expr} {rest : List Expr} {pos : Pos}
theorem de_of_m {e : Expr} {t : DTM} (h : PE X e (upM G t)) : PE X e (upE G (dClean t)) := PE.imp h fun σ H Q ⟨Δ, B, Qd, r, q, k⟩ => ⟨Δ, B, _, r, q, fun s Δ' v H' B' ⟨d, e, qd⟩ r' sb => by
  obtain ⟨B2, s2, rp, r2⟩ := r'.unhang e
  exact k _ _ _ _ _ qd r2 (sb.trans s2) rp⟩
theorem dm_of_e {e : Expr} {t : DTE} (h : PE X e (upE G t)) : PE X e (upM G (dIm t)) := PE.imp h fun σ H Q ⟨Δ, B, Qd, r, q, k⟩ => ⟨Δ, B, _, r, q, fun d Δ' v H' B' qd r' sb rp => k _ _ _ _ _ qd (r'.hang rp) sb⟩
theorem do_of_e {e : Expr} {t : DTE} (h : PE X e (upE G t)) : PE X e (upO G (dO t)) := PE.imp h fun σ H Q ⟨Δ, B, Qd, r, q, k⟩ => ⟨Δ, B, _, r, q, fun d Δ' v H' B' qd r' sb rp => k _ _ _ _ _ qd r' sb rp⟩
theorem do_name (i : Nat) {x : Str} (hN : X.N[i]? = some x := by rfl) (hv : Vis X.env.scope x := by first | exact Or.inl rfl | exact Or.inr (Or.inl rfl) | exact Or.inr (Or.inr rfl)) (hd : (x == ("__debug__" : Str)) = false := by decide)
    (hcd : (x == ("__classdict__" : Str)) = false := by decide) : PE X (.Name x pos) (upO G (dB i)) := PE.imp (pe_var hN hv hd hcd) fun σ H Q ⟨Δ, B, Qd, r, ⟨⟨s, d, e1, e2⟩, q⟩, k⟩ => by
  obtain ⟨fp, S⟩ := r.sl
  obtain ⟨v, h1, h2⟩ := S.at_ i s e1
  generalize fp i = f at h2
  have : ∃ w, v = some w := by
    cases h2 with
    | un => cases e2
    | im d v q => exact ⟨_, rfl⟩
    | ol _ p vs h q => exact ⟨_, rfl⟩
    | ok _ p kvs h k q => exact ⟨_, rfl⟩
    | ot _ p kvs h k q => exact ⟨_, rfl⟩
    | oi _ _ p dx fs h k q => exact ⟨_, rfl⟩
  obtain ⟨w, rfl⟩ := this
  exact ⟨w, h1, k (.inr i) _ _ _ _ q r (Sub.refl _) h1⟩
theorem dao_nil : PA X [] (upAO G dNilO) := PA.imp pa_nil fun σ H Q ⟨Δ, B, Qd, r1, q, k⟩ => k _ _ _ _ _ q r1 (Sub.refl _) .nil
theorem OdV.mono {K : PySem.W.Frag} {W : Wd K} {B B' : Hp} {σ : L2.St} {o : Od} {v : V} (h : OdV W B σ o v) (s : Sub B B') : OdV W B' σ o v := by
  cases o with
  | inl d => exact Rp.mono h s
  | inr i => exact h
theorem dao_cons {e : Expr} {es : List Expr} {ta : DTO} {tr : DTAO} (ha : PE X e (upO G ta)) (hr : PA X es (upAO G tr)) (hs : starEach (e :: es) X.env = (false, eval e X.env) :: starEach es X.env := by rfl) : PA X (e :: es) (upAO G (dConsO ta tr)) :=
  PA.imp (pa_cons ha hr hs) fun σ H Q ⟨Δ, B, Qd, r1, q, k⟩ => ⟨Δ, B, _, r1, q, fun o Δ1 v H1 B1 q1 r1 s1 rp => ⟨Δ1, B1, _, r1, q1, fun os Δ2 vs H2 B2 q2 r2 s2 rps => k _ _ _ _ _ q2 r2 (s1.trans s2) (.cons (rp.mono s2) rps)⟩⟩
theorem OdV.res {Δ : List Sl} {σ : L2.St} {H B : Hp} (r : DR G Δ σ H B) {o : Od} {v : V} {d : D} (h : OdV G.W B σ o v) (e : res Δ o = some d) : RpH G.W B H v d := by
  cases o with
  | inl x => simp only [DL.res, Option.some.injEq] at e; subst e; exact .of h
  | inr i =>
    have e : (Δ[i]?).bind Sl.er = some d := e
    cases hs : Δ[i]? with
    | none => rw [hs] at e; cases e
    | some s =>
      rw [hs] at e
      obtain ⟨fp, S⟩ := r.sl
      obtain ⟨w, h1, h2⟩ := S.at_ i s hs
      have h : σ[i]? = some (some v) := h
      rw [h] at h1; cases h1
      exact ⟨s, _, h2, e⟩

/-! ### operators -/
def R2M (W : Wd X.K) (r : R2) (rd : D → D → (Sl → Prop) → Prop) : Prop := ∀ (H0 B0 H B : Hp) (x y : V) (dx dy : D) (Qd : Sl → Prop) (Q : VK), Grow W H0 B0 H B → RpH W B H x dx → RpH W B H y dy → rd dx dy Qd →
  (∀ s v H' B', Qd s → NewV W H B H' B' s v → Q v H') → r x y H Q
def R2B (W : Wd X.K) (r : R2) (rd : D → D → (Bool → Prop) → Prop) : Prop := ∀ (H0 B0 H B : Hp) (x y : V) (dx dy : D) (Qd : Bool → Prop) (Q : VK), Grow W H0 B0 H B → RpH W B H x dx → RpH W B H y dy → rd dx dy Qd →
  (∀ b, Qd b → Q (.bl b) H) → r x y H Q
end
def two (Δ : List Sl) (x y : Od) (P : D → D → Prop) : Prop := ∃ d e, res Δ x = some d ∧ res Δ y = some e ∧ P d e
def dOpM (rd : D → D → (Sl → Prop) → Prop) (ta tb : DTO) : DTM := fun Δ Q E => ta Δ (fun x Δ1 => tb Δ1 (fun y Δ2 => two Δ2 x y fun d e => rd d e fun s => Q s Δ2) E) E
def dCmpE (rd : D → D → (Bool → Prop) → Prop) (ta tb : DTO) : DTE := fun Δ Q E => ta Δ (fun x Δ1 => tb Δ1 (fun y Δ2 => two Δ2 x y fun d e => rd d e fun b => Q (.bl b) Δ2) E) E
def dCmpT (rd : D → D → (Bool → Prop) → Prop) (ta tb : DTO) : DTT := fun Δ Q E => ta Δ (fun x Δ1 => tb Δ1 (fun y Δ2 => two Δ2 x y fun d e => rd d e fun b => Q b Δ2) E) E
/-- a < b < c -/
def dChainE (rd rd' : D → D → (Bool → Prop) → Prop) (ta tb tc : DTO) : DTE := fun Δ Q E => ta Δ (fun x Δ1 => tb Δ1 (fun y Δ2 => two Δ2 x y fun d e => rd d e fun b => if b = true then tc Δ2 (fun z Δ3 => two Δ3 y z fun e f => rd' e f fun b' => Q (.bl b') Δ3) E else Q (.bl false) Δ2) E) E
section
variable {X : Cx} {G : Gx X.K} {a b c : Expr} {rest : List Expr} {pos : Pos}
theorem dm_op {op : Operator} {r : R2} {rd : D → D → (Sl → Prop) → Prop} {ta tb : DTO} (ho : OpR X (binaryOp op) r) (hr : R2M G.W r rd) (ha : PE X a (upO G ta)) (hb : PE X b (upO G tb)) : PE X (.BinOp a op b pos) (upM G (dOpM rd ta tb)) :=
  PE.imp (pe_op ho ha hb) fun σ H Q ⟨Δ, B, Qd, r1, q, k⟩ => ⟨Δ, B, _, r1, q, fun d1 Δ1 v1 H1 B1 q1 r1 s1 p1 => ⟨Δ1, B1, _, r1, q1, fun d2 Δ2 v2 H2 B2 ⟨d, e, e1, e2, q2⟩ r2 s2 p2 =>
    hr _ _ _ _ _ _ _ _ _ _ r2.gr ((p1.mono s2).res r2 e1) (p2.res r2 e2) q2 fun s v H' B' qd n => k _ _ _ _ _ qd (r2.hangS n) ((s1.trans s2).trans n.gr.bas)⟩⟩
theorem de_cmp {op : CmpOp} {r : R2} {rd : D → D → (Bool → Prop) → Prop} {ta tb : DTO} (ho : OpR X (compareOp op) r) (hr : R2B G.W r rd) (ha : PE X a (upO G ta)) (hb : PE X b (upO G tb)) (hm : behindInMarks op b = false := by first | exact nomark _ | rfl) : PE X (.Compare a [op] [b] pos) (upE G (dCmpE rd ta tb)) :=
  PE.imp (pe_cmpR ho ha hb hm) fun σ H Q ⟨Δ, B, Qd, r1, q, k⟩ => ⟨Δ, B, _, r1, q, fun d1 Δ1 v1 H1 B1 q1 r1 s1 p1 => ⟨Δ1, B1, _, r1, q1, fun d2 Δ2 v2 H2 B2 ⟨d, e, e1, e2, q2⟩ r2 s2 p2 =>
    hr _ _ _ _ _ _ _ _ _ _ r2.gr ((p1.mono s2).res r2 e1) (p2.res r2 e2) q2 fun bb qd => k _ _ _ _ _ qd r2 (s1.trans s2) (.bl _)⟩⟩
theorem dt_cmp {op : CmpOp} {r : R2} {rd : D → D → (Bool → Prop) → Prop} {ta tb : DTO} (ho : OpR X (compareOp op) r) (hr : R2B G.W r rd) (ha : PE X a (upO G ta)) (hb : PE X b (upO G tb)) (hm : behindInMarks op b = false := by first | exact nomark _ | rfl) : PT X (.Compare a [op] [b] pos) (upT G (dCmpT rd ta tb)) :=
  PT.imp (pt_cmpR ho ha hb hm) fun σ H Q ⟨Δ, B, Qd, r1, q, k⟩ => ⟨Δ, B, _, r1, q, fun d1 Δ1 v1 H1 B1 q1 r1 s1 p1 => ⟨Δ1, B1, _, r1, q1, fun d2 Δ2 v2 H2 B2 ⟨d, e, e1, e2, q2⟩ r2 s2 p2 =>
    hr _ _ _ _ _ _ _ _ _ _ r2.gr ((p1.mono s2).res r2 e1) (p2.res r2 e2) q2 fun bb qd => ⟨bb, rfl, k _ _ _ _ qd r2 (s1.trans s2)⟩⟩⟩
theorem de_chain {op op' : CmpOp} {r r' : R2} {rd rd' : D → D → (Bool → Prop) → Prop} {ta tb tc : DTO} (ho : OpR X (compareOp op) r) (ho' : OpR X (compareOp op') r') (hr : R2B G.W r rd) (hr' : R2B G.W r' rd') (ha : PE X a (upO G ta)) (hb : PE X b (upO G tb)) (hc : PE X c (upO G tc)) (hm : lastMarks [op, op'] [b, c] = false := by with_unfolding_all rfl) : PE X (.Compare a [op, op'] [b, c] pos) (upE G (dChainE rd rd' ta tb tc)) :=
  PE.imp (pe_chain ho ho' ha hb hc hm) fun σ H Q ⟨Δ, B, Qd, r1, q, k⟩ => ⟨Δ, B, _, r1, q, fun d1 Δ1 v1 H1 B1 q1 r1 s1 p1 => ⟨Δ1, B1, _, r1, q1, fun d2 Δ2 v2 H2 B2 ⟨d, e, e1, e2, q2⟩ r2 s2 p2 =>
    hr _ _ _ _ _ _ _ _ _ _ r2.gr ((p1.mono s2).res r2 e1) (p2.res r2 e2) q2 fun bb qd => ⟨bb, rfl, by
      cases bb with
      | true => exact ⟨Δ2, B2, _, r2, qd, fun d3 Δ3 v3 H3 B3 ⟨d, e, e1, e2, q3⟩ r3 s3 p3 => hr' _ _ _ _ _ _ _ _ _ _ r3.gr ((p2.mono s3).res r3 e1) (p3.res r3 e2) q3 fun b3 qd => k _ _ _ _ _ qd r3 ((s1.trans s2).trans s3) (.bl _)⟩
      | false => exact k _ _ _ _ _ qd r2 (s1.trans s2) (.bl _)⟩⟩⟩
end
end DL
-- DLrules
set_option Elab.async false
set_option linter.all false
set_option maxRecDepth 100000
set_option maxHeartbeats 2000000
set_option autoImplicit false
namespace DL
open PySem PySem.Spec L2
open PyProof.Rows hiding St

section
variable {X : Cx} {W : Wd X.K}
/-! ### + and * -/
def rdAdd : D → D → (Sl → Prop) → Prop
  | .int i, .int j, Q => Q (.im (.int (i + j)))
  | .int i, .bl k, Q => Q (.im (.int (i + b2i k)))
  | .str x, .str y, Q => x.length + y.length ≤ sizeLine ∧ Q (.im (.str (x ++ y)))
  | .lst xs, .lst ys, Q => xs.length + ys.length ≤ sizeLine ∧ Q (.ol (xs ++ ys))
  | .tup xs, .tup ys, Q => xs.length + ys.length ≤ sizeLine ∧ Q (.im (.tup (xs ++ ys)))
  | _, _, _ => False
abbrev orR (r r' : R2) : R2 := fun x y H Q => r x y H Q ∨ r' x y H Q
def rAdd5 (K : PySem.W.Frag) : R2 := orR (rI0 fun i j => .int (i + j)) (orR (fun x y H Q => ∃ i k, x = .int i ∧ y = .bl k ∧ Q (.int (i + b2i k)) H) (orR (fun x y H Q => ∃ i j, x = .str i ∧ y = .str j ∧ i.length + j.length ≤ sizeLine ∧ Q (.str (i ++ j)) H) (orR rCat (rCatA K))))
theorem op_add5 : OpR X (binaryOp .Add) (rAdd5 X.K) := op_add.or (op_add_ib.or (op_add_str.or (op_cat.or op_catA)))
theorem Rps.nil_iff {K : PySem.W.Frag} {W : Wd K} {B : Hp} {vs : List V} {ds : List D} (h : Rps W B vs ds) : vs = [] ↔ ds = [] := by
  have := h.length
  rw [← List.length_eq_zero_iff, ← List.length_eq_zero_iff, this]
theorem r2_add : R2M W (rAdd5 X.K) rdAdd := by
  intro H0 B0 H B x y dx dy Qd Q g rx ry h k
  unfold rdAdd at h
  split at h
  · obtain rfl := rx.int; obtain rfl := ry.int; exact .inl ⟨_, _, rfl, rfl, k _ _ _ _ h (.clean g (.int _))⟩
  · obtain rfl := rx.int; obtain rfl := ry.bl; exact .inr (.inl ⟨_, _, rfl, rfl, k _ _ _ _ h (.clean g (.int _))⟩)
  · obtain rfl := rx.str; obtain rfl := ry.str; exact .inr (.inr (.inl ⟨_, _, rfl, rfl, h.1, k _ _ _ _ h.2 (.clean g (.str _))⟩))
  · obtain ⟨hz, h⟩ := h
    obtain ⟨a, vs, rfl, e1, q1⟩ := rx.lst g.sb
    obtain ⟨b, ws, rfl, e2, q2⟩ := ry.lst g.sb
    exact .inr (.inr (.inr (.inl ⟨a, b, vs, ws, rfl, rfl, e1, e2, by rw [q1.length, q2.length]; exact hz, fun p hp => k _ _ _ _ h (.lst g hp (q1.append q2))⟩)))
  · obtain ⟨hz, h⟩ := h
    obtain ⟨a, vs, rfl, e1, q1⟩ := rx.tup g.sb
    obtain ⟨b, ws, rfl, e2, q2⟩ := ry.tup g.sb
    refine .inr (.inr (.inr (.inr ⟨a, b, vs, ws, rfl, rfl, .of e1, .of e2, by rw [q1.length, q2.length]; exact hz, fun z => ?_, fun _ z => ?_, fun _ _ p hp => k _ _ _ _ h (.tup g hp (q1.append q2))⟩)))
    · have := q1.nil_iff.mp z
      subst this
      exact k _ _ _ _ h (.clean g (ry.rp rfl))
    · have := q2.nil_iff.mp z
      subst this
      rw [List.append_nil] at h
      exact k _ _ _ _ h (.clean g (rx.rp rfl))
  · exact h.elim
def rdMul : D → D → (Sl → Prop) → Prop
  | .int i, .int j, Q => CMul i j ∧ Q (.im (.int (i * j)))
  | .lst xs, .int k, Q => -(2 ^ 63) ≤ k ∧ k < 2 ^ 63 ∧ xs.length * k.toNat ≤ sizeLine ∧ Q (.ol (List.replicate k.toNat xs).flatten)
  | .tup xs, .int k, Q => xs ≠ [] ∧ 2 ≤ k ∧ k ≤ 1000 ∧ xs.length ≤ 1000 ∧ Q (.im (.tup (List.replicate k.toNat xs).flatten))
  | _, _, _ => False
def rMul3 (K : PySem.W.Frag) : R2 := orR (rI CMul fun i j => .int (i * j)) (orR rRep (rRepT K))
theorem op_mul3 : OpR X (binaryOp .Mult) (rMul3 X.K) := op_mul.or (op_rep.or op_repT)
theorem Rps.rep {K : PySem.W.Frag} {W : Wd K} {B : Hp} {vs : List V} {ds : List D} (h : Rps W B vs ds) (n : Nat) : Rps W B (List.replicate n vs).flatten (List.replicate n ds).flatten := by
  induction n with
  | zero => exact .nil
  | succ n ih => simp only [List.replicate_succ, List.flatten_cons]; exact h.append ih
theorem r2_mul : R2M W (rMul3 X.K) rdMul := by
  intro H0 B0 H B x y dx dy Qd Q g rx ry h k
  unfold rdMul at h
  split at h
  · obtain rfl := rx.int; obtain rfl := ry.int; exact .inl ⟨_, _, rfl, rfl, h.1, k _ _ _ _ h.2 (.clean g (.int _))⟩
  · obtain ⟨h1, h2, h3, h⟩ := h
    obtain ⟨a, vs, rfl, e1, q1⟩ := rx.lst g.sb
    obtain rfl := ry.int
    exact .inr (.inl ⟨a, _, vs, rfl, rfl, e1, h1, h2, by rw [q1.length]; exact h3, fun p hp => k _ _ _ _ h (.lst g hp (q1.rep _))⟩)
  · obtain ⟨h0, h1, h2, h3, h⟩ := h
    obtain ⟨a, vs, rfl, e1, q1⟩ := rx.tup g.sb
    obtain rfl := ry.int
    exact .inr (.inr ⟨a, _, vs, rfl, rfl, .of e1, fun z => h0 (q1.nil_iff.mp z), h1, h2, by rw [q1.length]; exact h3, fun p hp => k _ _ _ _ h (.tup g hp (q1.rep _))⟩)
  · exact h.elim
/-! ### ints -/
def rdI (C : Int → Int → Prop) (f : Int → Int → Int) : D → D → (Sl → Prop) → Prop
  | .int i, .int j, Q => C i j ∧ Q (.im (.int (f i j)))
  | _, _, _ => False
theorem r2_int {C : Int → Int → Prop} {f : Int → Int → Int} : R2M W (rI C fun i j => .int (f i j)) (rdI C f) := by
  intro H0 B0 H B x y dx dy Qd Q g rx ry h k
  unfold rdI at h
  split at h
  · obtain rfl := rx.int; obtain rfl := ry.int; exact ⟨_, _, rfl, rfl, h.1, k _ _ _ _ h.2 (.clean g (.int _))⟩
  · exact h.elim
def rdI0 (f : Int → Int → Int) : D → D → (Sl → Prop) → Prop
  | .int i, .int j, Q => Q (.im (.int (f i j)))
  | _, _, _ => False
theorem r2_int0 {f : Int → Int → Int} : R2M W (rI0 fun i j => .int (f i j)) (rdI0 f) := by
  intro H0 B0 H B x y dx dy Qd Q g rx ry h k
  unfold rdI0 at h
  split at h
  · obtain rfl := rx.int; obtain rfl := ry.int; exact ⟨_, _, rfl, rfl, k _ _ _ _ h (.clean g (.int _))⟩
  · exact h.elim
def rdC (f : Int → Int → Bool) : D → D → (Bool → Prop) → Prop
  | .int i, .int j, Q => Q (f i j)
  | _, _, _ => False
theorem r2_cmp0 {f : Int → Int → Bool} : R2B W (rI0 fun i j => .bl (f i j)) (rdC f) := by
  intro H0 B0 H B x y dx dy Qd Q g rx ry h k
  unfold rdC at h
  split at h
  · obtain rfl := rx.int; obtain rfl := ry.int; exact ⟨_, _, rfl, rfl, k _ h⟩
  · exact h.elim
abbrev rdSub := rdI0 fun i j => i - j
abbrev rdMod := rdI (fun _ j => 0 < j) fun i j => i % j
abbrev rdDiv := rdI CDiv fun i j => i / j
abbrev rdDivW := rdI CDivW fun i j => i / j
abbrev rdPow := rdI CPow fun i j => i ^ j.toNat
abbrev rdShl := rdI CPow fun i j => i * 2 ^ j.toNat
abbrev rdShr := rdI (fun _ j => 0 ≤ j) fun i j => i / 2 ^ j.toNat
abbrev rdBand := rdI0 fun i j => Builtin.bitAnd i j
abbrev rdBor := rdI0 fun i j => Builtin.bitOr i j
abbrev rdLt := rdC fun i j => decide (i < j)
abbrev rdLe := rdC fun i j => decide (i ≤ j)
abbrev rdGt := rdC fun i j => decide (j < i)
abbrev rdGe := rdC fun i j => decide (j ≤ i)
/-! ### is None -/
def isNon : D → Bool
  | .non => true
  | _ => false
def rdIsN : D → D → (Bool → Prop) → Prop
  | x, .non, Q => Q (DL.isNon x)
  | _, _, _ => False
def rdNotN : D → D → (Bool → Prop) → Prop
  | x, .non, Q => Q (!DL.isNon x)
  | _, _, _ => False
theorem RpH.non_iff {K : PySem.W.Frag} {W : Wd K} {B H : Hp} {v : V} {d : D} (h : RpH W B H v d) : decide (v = .non) = DL.isNon d := by
  obtain ⟨s, f, h, e⟩ := h
  cases h with
  | un => cases e
  | im d v q => cases e; cases q <;> simp [DL.isNon]
  | ol _ p vs h q => cases e; simp [DL.isNon]
  | ok _ p kvs h k q => cases e; simp [DL.isNon]
  | ot _ p kvs h k q => cases e; simp [DL.isNon]
  | oi _ _ p dx fs h k q => cases e; simp [DL.isNon]
theorem r2_isN : R2B W (fun x y H Q => y = .non ∧ Q (.bl (decide (x = .non))) H) rdIsN := by
  intro H0 B0 H B x y dx dy Qd Q g rx ry h k
  unfold rdIsN at h
  split at h
  · obtain rfl := ry.non
    refine ⟨rfl, ?_⟩
    rw [rx.non_iff]; exact k _ h
  · exact h.elim
theorem r2_notN : R2B W (fun x y H Q => y = .non ∧ Q (.bl (!decide (x = .non))) H) rdNotN := by
  intro H0 B0 H B x y dx dy Qd Q g rx ry h k
  unfold rdNotN at h
  split at h
  · obtain rfl := ry.non
    refine ⟨rfl, ?_⟩
    rw [rx.non_iff]; exact k _ h
  · exact h.elim
end

/-! ### == of data -/
mutual
def toPy : D → PyData
  | .bl b => .bool b
  | .int i => .int i
  | .str x => .str x
  | .lst xs => .list (toPys xs)
  | .tup xs => .tuple (toPys xs)
  | .wt xs => .tuple (toPys xs)
  | _ => .none
def toPys : List D → List PyData
  | [] => []
  | x :: xs => toPy x :: toPys xs
end
mutual
def isPy : D → Bool
  | .non => true
  | .bl _ => true
  | .int _ => true
  | .str _ => true
  | .lst xs => isPys xs
  | .tup xs => isPys xs
  | .wt xs => isPys xs
  | _ => false
def isPys : List D → Bool
  | [] => true
  | x :: xs => isPy x && isPys xs
end
section
variable {K : PySem.W.Frag} {W : Wd K} {B : Hp}
mutual
theorem Rp.dp {H : Hp} (sb : Sub B H) : ∀ (d : D) (v : V), isPy d = true → Rp W B v d → Dp K H v (toPy d)
  | .non, v, _, h => by cases h; exact .non
  | .bl b, v, _, h => by cases h; exact .bl b
  | .int i, v, _, h => by cases h; exact .int i
  | .str x, v, _, h => by cases h; exact .str x
  | .lst ds, v, p, h => by
    cases h with
    | lst a vs _ e q => exact .lst (.of (sb _ _ e)) (Rps.dp sb ds vs (by simpa [isPy] using p) q)
  | .tup ds, v, p, h => by
    cases h with
    | tup a vs _ e q => exact .tup (.of (sb _ _ e)) (Rps.dp sb ds vs (by simpa [isPy] using p) q)
  | .wt ds, v, p, h => by
    cases h with
    | wt a vs _ e q => exact .tup (sb.sqT e) (Rps.dp sb ds vs (by simpa [isPy] using p) q)
  | .scr _, _, p, _ => by simp [isPy] at p
  | .dk _, _, p, _ => by simp [isPy] at p
  | .dt _, _, p, _ => by simp [isPy] at p
  | .obj _ _, _, p, _ => by simp [isPy] at p
  | .drw, _, p, _ => by simp [isPy] at p
  | .ty _, _, p, _ => by simp [isPy] at p
  | .cls _, _, p, _ => by simp [isPy] at p
  | .fn _, _, p, _ => by simp [isPy] at p
  | .exc _, _, p, _ => by simp [isPy] at p
theorem Rps.dp {H : Hp} (sb : Sub B H) : ∀ (ds : List D) (vs : List V), isPys ds = true → Rps W B vs ds → DpAll K H vs (toPys ds)
  | [], vs, _, h => by cases h; exact .nil
  | d :: ds, vs, p, h => by
    cases h with
    | cons v _ vs _ a b =>
      have p' : isPy d = true ∧ isPys ds = true := by simpa [isPys] using p
      exact .cons (Rp.dp sb d v p'.1 a) (Rps.dp sb ds vs p'.2 b)
end
theorem RpH.dp {H : Hp} (sb : Sub B H) {d : D} {v : V} (p : isPy d = true) (h : RpH W B H v d) : Dp K H v (toPy d) := by
  cases d with
  | lst ds =>
    obtain ⟨a, vs, rfl, e, q⟩ := h.lst sb
    exact .lst (.of e) (Rps.dp sb ds vs (by simpa [isPy] using p) q)
  | dk _ => simp [isPy] at p
  | dt _ => simp [isPy] at p
  | obj _ _ => simp [isPy] at p
  | _ => exact Rp.dp sb _ _ p (h.rp rfl)
end
def eqD (x y : D) : Bool := PyData.eqv (toPy x) (toPy y)
structure OkEq (x : D) : Prop where
  py : isPy x = true
  sh : SeqAt.shaped (toPy x) = true
def rdEq : D → D → (Bool → Prop) → Prop := fun x y Q => OkEq x ∧ OkEq y ∧ Q (eqD x y)
def rdNe : D → D → (Bool → Prop) → Prop := fun x y Q => OkEq x ∧ OkEq y ∧ Q (!eqD x y)
section
variable {X : Cx} {W : Wd X.K}
theorem r2_eq : R2B W (rEqD X.K) rdEq := by
  intro H0 B0 H B x y dx dy Qd Q g rx ry ⟨⟨p1, s1⟩, ⟨p2, s2⟩, h⟩ k
  exact ⟨_, _, rx.dp g.sb p1, ry.dp g.sb p2, s1, s2, k _ h⟩
theorem r2_ne : R2B W (rNeD X.K) rdNe := by
  intro H0 B0 H B x y dx dy Qd Q g rx ry ⟨⟨p1, s1⟩, ⟨p2, s2⟩, h⟩ k
  exact ⟨_, _, rx.dp g.sb p1, ry.dp g.sb p2, s1, s2, k _ h⟩

/-! ### x[i] -/
theorem ix_dict (hu : X.A.units + 1 < cLine) : IxR X (fun x y H Q => ∃ a v, x = .ref a ∧ DGet H a y (some v) ∧ Q v H) := by
  intro value slice pins s σ H x y v u Q I rx ry ⟨a, z, ex, g, q⟩ hs
  subst ex
  obtain rfl : v = Value.ref a := rx
  have hT := dict_typeIs I g
  have fin : wpAny (model X.prog X.w) X.A (subscripted slice false (.ref a) u) (fun r s₃ => wpAny (model X.prog X.w) X.A (letTemporaryGo value (.ref a) r >>= fun _ => pure r) (EP X pins σ Q) X.xe s₃) X.xe s := by
    rw [hs]
    exact wpAny_operating (d_getItem hu I g ry fun w' s3 I3 rw' => wpAny_bind (wpAny_letTemporaryGo (wpAny_pure ⟨z, H, I3, rw', q⟩)))
  unfold subscriptTail
  refine wpAny_bind ?_
  rw [getitemInPython_of_ne hT.not_modules]
  refine wpAny_bind (wpAny_specialOf hT PySem.F.slot_dict_getitem.lookup ?_)
  first
    | exact wpAny_pure (wpAny_bind fin)
    | exact wpAny_bind (wpAny_pure (wpAny_bind fin))
    | exact wpAny_bind fin
def rIx4 (K : PySem.W.Frag) : R2 := orR (rIx K) (fun x y H Q => ∃ a v, x = .ref a ∧ DGet H a y (some v) ∧ Q v H)
theorem ix_all (hu : X.A.units + 1 < cLine) : IxR X (rIx4 X.K) := ix_seq.or (ix_dict hu)
end
/-- a dict's key -/
def D.key : D → Option Key
  | .int i => some (.inl i)
  | .str x => some (.inr x)
  | _ => none
def D.keys : List D → Option (List Key)
  | [] => some []
  | d :: ds => match d.key, D.keys ds with
    | some k, some ks => some (k :: ks)
    | _, _ => none
def D.keyT : D → Option (List Key)
  | .tup ds => D.keys ds
  | _ => none
theorem D.key_flat {d : D} {y : Key} (e : d.key = some y) : d.flat = true := by
  cases d <;> simp_all [D.key, D.flat]
theorem D.keyT_flat {d : D} {y : List Key} (e : d.keyT = some y) : d.flat = true := by
  cases d <;> simp_all [D.keyT, D.flat]
def val {κ : Type} [DecidableEq κ] (kvs : List (κ × D)) (k : κ) : Option D := (kvs.find? fun kv => decide (kv.1 = k)).map (·.2)
def put {κ : Type} [DecidableEq κ] (kvs : List (κ × D)) (k : κ) (v : D) : List (κ × D) :=
  if (kvs.any fun kv => decide (kv.1 = k)) = true then kvs.map (fun kv => if kv.1 = k then (kv.1, v) else kv) else kvs ++ [(k, v)]
def at_ {α : Type} (xs : List α) (i : Int) : Option α := atI xs i
def rdIx : D → D → (D → Prop) → Prop
  | .lst xs, .int i, Q => ∃ d, atI xs i = some d ∧ Q d
  | .tup xs, .int i, Q => ∃ d, atI xs i = some d ∧ Q d
  | .wt xs, .int i, Q => ∃ d, atI xs i = some d ∧ Q d
  | .str x, .int i, Q => x.length ≤ sizeLine ∧ ∃ c, atI x.cps.toList i = some c ∧ Q (.str ⟨#[c]⟩)
  | .dk kvs, k, Q => ∃ y d, k.key = some y ∧ val kvs y = some d ∧ Q d
  | .dt kvs, k, Q => ∃ y d, k.keyT = some y ∧ val kvs y = some d ∧ Q d
  | _, _, _ => False
section
variable {K : PySem.W.Frag} {W : Wd K} {B : Hp}
theorem Rps.atI {vs : List V} {ds : List D} (h : Rps W B vs ds) {i : Int} {d : D} (e : L2.atI ds i = some d) : ∃ v, L2.atI vs i = some v ∧ Rp W B v d := by
  unfold L2.atI at e ⊢
  rw [h.length]
  cases hx : ixN ds.length i with
  | none => rw [hx] at e; cases e
  | some j => rw [hx] at e; exact h.get e
theorem find_pair {κ : Type} [DecidableEq κ] : ∀ {kvs : List (κ × V)} {ds : List (κ × D)}, kvs.map (·.1) = ds.map (·.1) → Rps W B (kvs.map (·.2)) (ds.map (·.2)) → ∀ (k : κ), (∀ d, val ds k = some d → ∃ v, valV kvs k = some v ∧ Rp W B v d) ∧ (val ds k = none → valV kvs k = none)
  | [], [], _, _, k => ⟨fun d e => (by cases e), fun _ => rfl⟩
  | [], _ :: _, h, _, _ => by simp at h
  | _ :: _, [], h, _, _ => by simp at h
  | (k1, v) :: kvs, (k2, d) :: ds, h, r, k => by
    have hk : k1 = k2 ∧ kvs.map (·.1) = ds.map (·.1) := by simpa using h
    obtain ⟨rfl, hk⟩ := hk
    cases r with
    | cons _ _ _ _ a b =>
      have ih := find_pair hk b k
      unfold val valV at ih ⊢
      by_cases e : k1 = k
      · simp only [List.find?_cons, e, decide_true, Option.map_some]
        exact ⟨fun d' q => (by cases q; exact ⟨v, rfl, a⟩), fun q => (by cases q)⟩
      · simp only [List.find?_cons, e, decide_false]
        exact ih
theorem key_inv {d : D} {v : V} {y : Key} (h : Rp W B v d) (e : d.key = some y) : v = kV y := by
  cases d <;> simp only [D.key, Option.some.injEq, reduceCtorEq] at e
  · subst e; cases h; rfl
  · subst e; cases h; rfl
theorem keys_inv : ∀ {ds : List D} {vs : List V} {ks : List Key}, Rps W B vs ds → D.keys ds = some ks → vs = ks.map kV
  | [], vs, ks, h, e => by cases h; cases e; rfl
  | d :: ds, vs, ks, h, e => by
    cases h with
    | cons v _ vs _ a b =>
      unfold D.keys at e
      split at e
      · rename_i k ks' e1 e2
        cases e
        rw [key_inv a e1, keys_inv b e2]; rfl
      · cases e
theorem keyT_inv {d : D} {v : V} {ks : List Key} (h : Rp W B v d) (e : d.keyT = some ks) : ∃ b, v = .ref b ∧ B b = some (.tup (ks.map kV)) := by
  cases d <;> simp only [D.keyT, reduceCtorEq] at e
  cases h with
  | tup a vs _ e1 q => exact ⟨a, rfl, by rw [e1, keys_inv q e]⟩
end
section
variable {X : Cx} {G : Gx X.K} {a b : Expr} {pos : Pos}
def R2V (W : Wd X.K) (r : R2) (rd : D → D → (D → Prop) → Prop) : Prop := ∀ (H0 B0 H B : Hp) (x y : V) (dx dy : D) (Qd : D → Prop) (Q : VK), Grow W H0 B0 H B → RpH W B H x dx → RpH W B H y dy → rd dx dy Qd →
  (∀ d v, Qd d → Rp W B v d → Q v H) → r x y H Q
theorem r2_ix {W : Wd X.K} : R2V W (rIx4 X.K) rdIx := by
  intro H0 B0 H B x y dx dy Qd Q g rx ry h k
  unfold rdIx at h
  split at h
  · obtain ⟨d, e, h⟩ := h
    obtain ⟨a, vs, rfl, e1, q1⟩ := rx.lst g.sb
    obtain rfl := ry.int
    obtain ⟨v, e2, rv⟩ := q1.atI e
    exact .inl (.inl ⟨a, vs, _, v, rfl, rfl, .of e1, e2, k _ _ h rv⟩)
  · obtain ⟨d, e, h⟩ := h
    obtain ⟨a, vs, rfl, e1, q1⟩ := rx.tup g.sb
    obtain rfl := ry.int
    obtain ⟨v, e2, rv⟩ := q1.atI e
    exact .inl (.inr (.inl ⟨a, vs, _, v, rfl, rfl, .of e1, e2, k _ _ h rv⟩))
  · obtain ⟨d, e, h⟩ := h
    obtain ⟨a, vs, rfl, e1, q1⟩ := rx.wt g.sb
    obtain rfl := ry.int
    obtain ⟨v, e2, rv⟩ := q1.atI e
    exact .inl (.inr (.inl ⟨a, vs, _, v, rfl, rfl, e1, e2, k _ _ h rv⟩))
  · obtain ⟨hz, c, e, h⟩ := h
    obtain rfl := rx.str
    obtain rfl := ry.int
    exact .inl (.inr (.inr ⟨_, _, c, rfl, rfl, hz, e, k _ _ h (.str _)⟩))
  · obtain ⟨y, d, e1, e2, h⟩ := h
    obtain ⟨a, kvs, rfl, e3, ek, q⟩ := rx.dk g.sb
    obtain ⟨v, e4, rv⟩ := (find_pair ek q y).1 d e2
    have hy := key_inv (ry.rp (D.key_flat e1)) e1
    exact .inr ⟨a, v, rfl, .inl ⟨kvs, y, .inl e3, hy, e4.symm⟩, k _ _ h rv⟩
  · obtain ⟨y, d, e1, e2, h⟩ := h
    obtain ⟨a, kvs, rfl, e3, ek, q⟩ := rx.dt g.sb
    obtain ⟨v, e4, rv⟩ := (find_pair ek q y).1 d e2
    obtain ⟨b, rfl, hb⟩ := keyT_inv (ry.rp (D.keyT_flat e1)) e1
    exact .inr ⟨a, v, rfl, .inr ⟨kvs, y, b, .inl e3, rfl, g.sb _ _ hb, e4.symm⟩, k _ _ h rv⟩
  · exact h.elim
def dIx (ta tb : DTO) : DTE := fun Δ Q E => ta Δ (fun x Δ1 => tb Δ1 (fun y Δ2 => two Δ2 x y fun d e => rdIx d e fun z => Q z Δ2) E) E
theorem de_ix {ta tb : DTO} (hu : X.A.units + 1 < cLine) (ha : PE X a (upO G ta)) (hb : PE X b (upO G tb)) (hs : PlainIx b := by exact fun _ _ => rfl) : PE X (.Subscript a b pos) (upE G (dIx ta tb)) :=
  PE.imp (pe_ix (ix_all hu) ha hb hs) fun σ H Q ⟨Δ, B, Qd, r1, q, k⟩ => ⟨Δ, B, _, r1, q, fun d1 Δ1 v1 H1 B1 q1 r1 s1 p1 => ⟨Δ1, B1, _, r1, q1, fun d2 Δ2 v2 H2 B2 ⟨d, e, e1, e2, q2⟩ r2 s2 p2 =>
    r2_ix _ _ _ _ _ _ _ _ _ _ r2.gr ((p1.mono s2).res r2 e1) (p2.res r2 e2) q2 fun z v qd rv => k _ _ _ _ _ qd r2 (s1.trans s2) rv⟩⟩
/-! ### x[i:j] -/
def dNoPart : List Sl → (Option Int → List Sl → Prop) → EX → Prop := fun Δ Q _ => Q none Δ
def dPart (t : DTO) : List Sl → (Option Int → List Sl → Prop) → EX → Prop := fun Δ Q E => t Δ (fun x Δ1 => ∃ i, res Δ1 x = some (.int i) ∧ Q (some i) Δ1) E
abbrev DTP := List Sl → (Option Int → List Sl → Prop) → EX → Prop
def upP {K : PySem.W.Frag} (G : Gx K) (t : DTP) : TO := fun σ H Q => ∃ Δ B Qd, DR G Δ σ H B ∧ t Δ Qd G.Ed ∧ ∀ o Δ' H' B', Qd o Δ' → DR G Δ' σ H' B' → Sub B B' → Q o H'
theorem PO.imp {e : Option Expr} {t u : TO} (h : PO X e t) (i : ∀ σ H Q, u σ H Q → t σ H Q) : PO X e u := ⟨fun p s σ H Q I q => h.run p s σ H Q I (i σ H Q q)⟩
theorem dp_none : PO X none (upP G dNoPart) := PO.imp po_none fun σ H Q ⟨Δ, B, Qd, r, q, k⟩ => k _ _ _ _ q r (Sub.refl _)
theorem dp_some {e : Expr} {t : DTO} (h : PE X e (upO G t)) : PO X (some e) (upP G (dPart t)) := PO.imp (po_some h) fun σ H Q ⟨Δ, B, Qd, r, q, k⟩ => ⟨Δ, B, _, r, q, fun o Δ1 v H1 B1 ⟨i, e, q1⟩ r1 s1 p1 => ⟨i, (p1.res r1 e).int, k _ _ _ _ q1 r1 s1⟩⟩
def cut {α : Type} (xs : List α) (lo hi : Option Int) : List α := (xs.drop (HT.sIx xs.length 0 lo)).take (HT.sIx xs.length xs.length hi - HT.sIx xs.length 0 lo)
def rdSl : D → Option Int → Option Int → (Sl → Prop) → Prop
  | .lst xs, lo, hi, Q => Q (.ol (cut xs lo hi))
  | .tup xs, lo, hi, Q => Q (.im (.tup (cut xs lo hi)))
  | .str x, lo, hi, Q => x.length ≤ sizeLine ∧ Q (.im (.str (cutS x lo hi)))
  | _, _, _, _ => False
def rSl3 (K : PySem.W.Frag) : V → Option Int → Option Int → Hp → VK → Prop := fun x lo hi H Q => rSlL K x lo hi H Q ∨ (rSlA K x lo hi H Q ∨ rSlS x lo hi H Q)
theorem sl_all : L2.SlR X (rSl3 X.K) := sl_list.or (sl_tupA.or sl_str)
def dSl (t : DTO) (tl th : DTP) : DTM := fun Δ Q E => t Δ (fun x Δ1 => tl Δ1 (fun l Δ2 => th Δ2 (fun u Δ3 => ∃ d, res Δ3 x = some d ∧ rdSl d l u fun s => Q s Δ3) E) E) E
theorem cut_all {xs : List V} {ds : List D} {K : PySem.W.Frag} {W : Wd K} {B : Hp} (h : Rps W B xs ds) (lo hi : Option Int) : Rps W B (cutV xs lo hi) (cut ds lo hi) := by
  unfold cutV cut
  rw [h.length]
  exact (h.drop _).take _
theorem r_sl {W : Wd X.K} {H0 B0 H B : Hp} {x : V} {d : D} {lo hi : Option Int} {Qd : Sl → Prop} {Q : VK} (g : Grow W H0 B0 H B) (rx : RpH W B H x d) (h : rdSl d lo hi Qd) (k : ∀ s v H' B', Qd s → NewV W H B H' B' s v → Q v H') : rSl3 X.K x lo hi H Q := by
  unfold rdSl at h
  split at h
  · obtain ⟨a, vs, rfl, e1, q1⟩ := rx.lst g.sb
    exact .inl ⟨a, vs, rfl, .of e1, fun p hp => k _ _ _ _ h (.lst g hp (cut_all q1 _ _))⟩
  · obtain ⟨a, vs, rfl, e1, q1⟩ := rx.tup g.sb
    refine .inr (.inl ⟨a, vs, rfl, .of e1, fun ⟨z1, z2⟩ => ?_, fun _ p hp => k _ _ _ _ h (.tup g hp (cut_all q1 _ _))⟩)
    have : ∀ xs : List D, vs.length = xs.length → cut xs lo hi = xs := fun xs hl => by
      unfold cut
      rw [← hl, z1, z2]
      simp [hl]
    rw [this _ q1.length] at h
    exact k _ _ _ _ h (.clean g (rx.rp rfl))
  · obtain rfl := rx.str
    exact .inr (.inr ⟨_, rfl, h.1, k _ _ _ _ h.2 (.clean g (.str _))⟩)
  · exact h.elim
theorem dm_slice {e : Expr} {lo hi : Option Expr} {t : DTO} {tl th : DTP} {p2 : Pos} (he : PE X e (upO G t)) (hl : PO X lo (upP G tl)) (hh : PO X hi (upP G th)) : PE X (.Subscript e (.Slice lo hi none p2) pos) (upM G (dSl t tl th)) :=
  PE.imp (pe_slice sl_all he hl hh) fun σ H Q ⟨Δ, B, Qd, r1, q, k⟩ => ⟨Δ, B, _, r1, q, fun o1 Δ1 v1 H1 B1 q1 r1 s1 p1 => ⟨Δ1, B1, _, r1, q1, fun l Δ2 H2 B2 q2 r2 s2 => ⟨Δ2, B2, _, r2, q2, fun u Δ3 H3 B3 ⟨d, e, q3⟩ r3 s3 =>
    r_sl r3.gr ((p1.mono (s2.trans s3)).res r3 e) q3 fun s v H' B' qd n => k _ _ _ _ _ qd (r3.hangS n) (((s1.trans s2).trans s3).trans n.gr.bas)⟩⟩⟩
/-! ### displays -/
def dTup (t : DTA) : DTE := fun Δ Q E => t Δ (fun ds Δ1 => ds.length ≤ sizeLine ∧ Q (.tup ds) Δ1) E
def dLst (t : DTA) : DTM := fun Δ Q E => t Δ (fun ds Δ1 => ds.length ≤ sizeLine ∧ Q (.ol ds) Δ1) E
theorem de_tup {es : List Expr} {t : DTA} {x1} (h : PA X es (upA G t)) : PE X (.Tuple es x1 pos) (upE G (dTup t)) :=
  PE.imp (pe_tup h) fun σ H Q ⟨Δ, B, Qd, r, q, k⟩ => ⟨Δ, B, _, r, q, fun ds Δ1 vs H1 B1 ⟨hz, q1⟩ r1 s1 rps => ⟨by rw [rps.length]; exact hz, fun p hp => by
    have g1 := r1.gr.alloc (o := .tup vs) hp (fun _ z => by cases z)
    exact k _ _ _ _ _ q1 (r1.grow g1) (s1.trans g1.bas) (.tup _ _ _ upd_same (rps.mono g1.bas))⟩⟩
theorem dm_lst {es : List Expr} {t : DTA} (h : PA X es (upA G t)) : PE X (.List es pos) (upM G (dLst t)) :=
  PE.imp (pe_lst h) fun σ H Q ⟨Δ, B, Qd, r, q, k⟩ => ⟨Δ, B, _, r, q, fun ds Δ1 vs H1 B1 ⟨hz, q1⟩ r1 s1 rps => ⟨by rw [rps.length]; exact hz, fun p hp => by
    have n := NewV.lst r1.gr hp rps
    exact k _ _ _ _ _ q1 (r1.hangS n) (s1.trans n.gr.bas)⟩⟩
theorem PE.or {e : Expr} {t u : TE} (h : PE X e t) (g : PE X e u) : PE X e (fun σ H Q => t σ H Q ∨ u σ H Q) := ⟨fun p s σ H Q I q => q.elim (h.run p s σ H Q I) (g.run p s σ H Q I)⟩
/-- {}: for keys that are ints and texts, or tuples of such -/
def dDict0 : DTM := fun Δ Q _ => Q (.ok []) Δ ∨ Q (.ot []) Δ
theorem dm_dict0 : PE X (.Dict [] [] pos) (upM G dDict0) :=
  PE.imp (PE.or pe_dnewK pe_dnewT) fun σ H Q ⟨Δ, B, Qd, r, q, k⟩ => by
    rcases q with q | q
    · exact .inl fun p hp => by
        have n := NewV.dk (ds := []) (vs := []) r.gr hp rfl .nil
        exact k _ _ _ _ _ q (r.hangS n) n.gr.bas
    · exact .inr fun p hp => by
        have n := NewV.dt (ds := []) (vs := []) r.gr hp rfl .nil
        exact k _ _ _ _ _ q (r.hangS n) n.gr.bas
end
end DL
-- DLloop
set_option Elab.async false
set_option linter.all false
set_option maxRecDepth 100000
set_option maxHeartbeats 2000000
set_option autoImplicit false
namespace DL
open PySem PySem.Spec L2
open PyProof.Rows hiding St

/-! ### targets -/
abbrev DTG := D → List Sl → (List Sl → Prop) → Prop
abbrev DTGs := List D → List Sl → (List Sl → Prop) → Prop
section
variable {K : PySem.W.Frag}
/-- but for the slots S the frame's names stand as they stood -/
def Keeps (S : List Nat) (σ σ' : L2.St) : Prop := ∀ vs : List Nat, (∀ i ∈ S, i ∈ vs) → wipe σ' vs = wipe σ vs
def upG (G : Gx K) (S : List Nat) (t : DTG) : TG := fun v σ H Q => ∃ Δ B d Qd, DR G Δ σ H B ∧ Rp G.W B v d ∧ t d Δ Qd ∧ ∀ Δ' σ' H' B', Qd Δ' → DR G Δ' σ' H' B' → Sub B B' → Keeps S σ σ' → Q σ' H'
def upGs (G : Gx K) (S : List Nat) (t : DTGs) : TGs := fun vs σ H Q => ∃ Δ B ds Qd, DR G Δ σ H B ∧ Rps G.W B vs ds ∧ t ds Δ Qd ∧ ∀ Δ' σ' H' B', Qd Δ' → DR G Δ' σ' H' B' → Sub B B' → Keeps S σ σ' → Q σ' H'
theorem wipe_set {σ : L2.St} {i : Nat} {x : Option V} : ∀ {vs : List Nat}, i ∈ vs → wipe (σ.set i x) vs = wipe σ vs
  | [], h => by cases h
  | v :: vs, h => by
    unfold wipe
    by_cases hv : i ∈ vs
    · rw [wipe_set hv]
    · have e : i = v := by
        rcases List.mem_cons.mp h with e | e
        · exact e
        · exact absurd e hv
      subst e
      have : wipe (σ.set i x) vs = (wipe σ vs).set i x := by
        clear h
        induction vs with
        | nil => rfl
        | cons w ws ih =>
          have h1 : i ≠ w := fun z => hv (by simp [z])
          have h2 : i ∉ ws := fun z => hv (by simp [z])
          unfold wipe
          rw [ih h2, List.set_comm _ _ h1]
      rw [this, List.set_set]
end
def dgName (i : Nat) : DTG := fun d Δ Q => Q (Δ.set i (.im d))
def dgNil : DTGs := fun ds Δ Q => ds = [] ∧ Q Δ
def dgCons (t : DTG) (u : DTGs) : DTGs := fun ds Δ Q => ∃ d r, ds = d :: r ∧ t d Δ fun Δ' => u r Δ' Q
def dgTup (n : Nat) (t : DTGs) : DTG := fun d Δ Q => ∃ ds, (d = .tup ds ∨ d = .lst ds) ∧ ds.length = n ∧ t ds Δ Q
theorem PG.imp {X : Cx} {e : Expr} {t u : TG} (h : PG X e t) (i : ∀ v σ H Q, u v σ H Q → t v σ H Q) : PG X e u := ⟨fun p s σ H v w Q I r q => h.run p s σ H v w Q I r (i v σ H Q q)⟩
theorem PGs.imp {X : Cx} {e : List Expr} {t u : TGs} (h : PGs X e t) (i : ∀ v σ H Q, u v σ H Q → t v σ H Q) : PGs X e u := ⟨fun p s σ H v w Q I r q => h.run p s σ H v w Q I r (i v σ H Q q)⟩
theorem PG.or {X : Cx} {e : Expr} {t u : TG} (h : PG X e t) (g : PG X e u) : PG X e (fun v σ H Q => t v σ H Q ∨ u v σ H Q) := ⟨fun p s σ H v w Q I r q => q.elim (h.run p s σ H v w Q I r) (g.run p s σ H v w Q I r)⟩
section
variable {X : Cx} {G : Gx X.K} {pos : Pos}
theorem dg_name {i : Nat} {x : Str} (hN : X.N.Nodup) (hi : X.N[i]? = some x := by rfl) (hx : Loc X.env.scope x := by first | exact Or.inl rfl | exact Or.inr rfl) (hf : X.fn x = true ∨ X.env.scope.names.lookup x = some .local := by first | exact .inl rfl | exact .inr rfl | assumption) : PG X (.Name x pos) (upG G [i] (dgName i)) :=
  PG.imp (pg_name hN hi hx hf) fun v σ H Q ⟨Δ, B, d, Qd, r, rp, q, k⟩ => k _ _ _ _ q (r.put i rp) (Sub.refl _) fun vs h => wipe_set (h i (by simp))
theorem dgs_nil : PGs X [] (upGs G [] dgNil) := PGs.imp pgs_nil fun v σ H Q ⟨Δ, B, ds, Qd, r, rp, ⟨e, q⟩, k⟩ => by subst e; cases rp; exact ⟨rfl, k _ _ _ _ q r (Sub.refl _) fun _ _ => rfl⟩
theorem dgs_cons {e : Expr} {es : List Expr} {t : DTG} {u : DTGs} {S S' : List Nat} (h1 : PG X e (upG G S t)) (h2 : PGs X es (upGs G S' u)) (hs : (assignEach (e :: es) X.env).map (·.2) = assign e X.env :: (assignEach es X.env).map (·.2) := by rfl) : PGs X (e :: es) (upGs G (S ++ S') (dgCons t u)) :=
  PGs.imp (pgs_cons h1 h2 hs) fun v σ H Q ⟨Δ, B, ds, Qd, r, rp, ⟨d, rr, e, q⟩, k⟩ => by
    subst e
    cases rp with
    | cons v _ vs _ a b =>
      refine ⟨v, vs, rfl, Δ, B, d, _, r, a, q, fun Δ1 σ1 H1 B1 q1 r1 s1 w1 => ⟨Δ1, B1, rr, Qd, r1, b.mono s1, q1, fun a b c d x y z w => k a b c d x y (s1.trans z) fun vs hv => ?_⟩⟩
      rw [w vs (fun i hi => hv i (by simp [hi])), w1 vs (fun i hi => hv i (by simp [hi]))]
theorem dg_tup {es : List Expr} {kk : Nat} {t : DTGs} {n : Nat} {S : List Nat} (hc : X.calm = true) (h : PGs X es (upGs G S t)) (hn : (assignEach es X.env).length = n := by rfl) (hst : (assignEach es X.env).findIdx? (·.1) = none := by rfl) : PG X (.Tuple es kk pos) (upG G S (dgTup n t)) :=
  PG.imp (PG.or (pg_tup hc h hn hst) (pg_lst hc h hn hst)) fun v σ H Q ⟨Δ, B, d, Qd, r, rp, ⟨ds, e, hl, q⟩, k⟩ => by
    rcases e with e | e
    · subst e
      cases rp with
      | tup a vs _ e1 q1 => exact .inl ⟨a, vs, rfl, .of (r.sub _ _ e1), by rw [q1.length]; exact hl, Δ, B, ds, Qd, r, q1, q, k⟩
    · subst e
      cases rp with
      | lst a vs _ e1 q1 => exact .inr ⟨a, vs, rfl, .of (r.sub _ _ e1), by rw [q1.length]; exact hl, Δ, B, ds, Qd, r, q1, q, k⟩
end
/-- target = value -/
def dAsg (t : DTE) (g : DTG) : DTS := fun N Δ E => t Δ (fun d Δ1 => g d Δ1 N.nx) E
theorem ds_asg {X : Cx} {G : Gx X.K} {pos : Pos} {tg e : Expr} {t : DTE} {g : DTG} {S : List Nat} (he : PE X e (upE G t)) (hg : PG X tg (upG G S g)) (hs : swapsWithSole [tg] e pos.line X.env = pure false := by rfl) (hw : swappedStores [tg] e X.env = pure none := by rfl)
    (h1 : (assignEach [tg] X.env).map (·.2) = [assign tg X.env] := by rfl) : PS X (.Assign [tg] e pos) (upS G (dAsg t g)) :=
  PS.imp (ps_asg he hg hs hw h1) fun N σ H ⟨Δ, B, M, r, q, k, _⟩ => ⟨Δ, B, _, r, q, fun d Δ1 v H1 B1 q1 r1 s1 rp => ⟨Δ1, B1, d, _, r1, rp, q1, fun a b c d x y z _ => k a b c d x y (s1.trans z)⟩⟩

/-! ### what is walked -/
structure ItD {K : PySem.W.Frag} (W : Wd K) (B : Hp) (ds : List D) (J : It) : Prop where
  stop : ∀ {i H0 B0 H1 B1}, Grow W H0 B0 H1 B1 → Sub B B1 → ds.length ≤ i → J.stop i H1
  go : ∀ {i H0 B0 H1 B1}, Grow W H0 B0 H1 B1 → Sub B B1 → i < ds.length → J.go i H1
  yld : ∀ {i H0 B0 H1 B1 x H2}, Grow W H0 B0 H1 B1 → Sub B B1 → i < ds.length → J.yld i H1 x H2 → ∃ B2 d, ds[i]? = some d ∧ Grow W H1 B1 H2 B2 ∧ Rp W B2 x d
abbrev DTI := List Sl → (List D → List Sl → Prop) → EX → Prop
def upI {K : PySem.W.Frag} (G : Gx K) (t : DTI) : TI := fun σ H R => ∃ Δ B Qd, DR G Δ σ H B ∧ t Δ Qd G.Ed ∧ ∀ ds Δ' J H' B', Qd ds Δ' → DR G Δ' σ H' B' → Sub B B' → ItD G.W B' ds J → R J H'
section
variable {K : PySem.W.Frag} {W : Wd K} {B : Hp}
theorem ItD.list {a : Addr} {vs : List V} {ds : List D} (e : B a = some (.lst vs)) (q : Rps W B vs ds) : ItD W B ds (Itl K a) where
  stop := fun g s hi => ⟨vs, .of (g.sb _ _ (s _ _ e)), by rw [q.length]; exact hi⟩
  go := fun g s hi => by
    obtain ⟨v, hv, _⟩ := q.get (List.getElem?_eq_getElem hi)
    exact ⟨vs, v, .of (g.sb _ _ (s _ _ e)), hv⟩
  yld := fun g s hi ⟨h1, h2⟩ => by
    subst h1
    obtain ⟨d, hd, rp⟩ := q.get' (h2 vs (.of (g.sb _ _ (s _ _ e))))
    exact ⟨_, d, hd, g.self, rp.mono s⟩
theorem ItD.tuple {a : Addr} {vs : List V} {ds : List D} (e : SqT K B a vs) (q : Rps W B vs ds) : ItD W B ds (Itt K a) where
  stop := fun g s hi => ⟨vs, (s.trans g.sb).sqT e, by rw [q.length]; exact hi⟩
  go := fun g s hi => by
    obtain ⟨v, hv, _⟩ := q.get (List.getElem?_eq_getElem hi)
    exact ⟨vs, v, (s.trans g.sb).sqT e, hv⟩
  yld := fun g s hi ⟨h1, h2⟩ => by
    subst h1
    obtain ⟨d, hd, rp⟩ := q.get' (h2 vs ((s.trans g.sb).sqT e))
    exact ⟨_, d, hd, g.self, rp.mono s⟩
def rngD (lo : Int) (n : Nat) : List D := (List.range n).map fun (i : Nat) => D.int (lo + i)
theorem rngD_length (lo : Int) (n : Nat) : (rngD lo n).length = n := by simp [rngD]
theorem rngD_get {lo : Int} {n i : Nat} (h : i < n) : (rngD lo n)[i]? = some (.int (lo + i)) := by simp [rngD, h]
theorem ItD.range {lo : Int} {n : Nat} : ItD W B (rngD lo n) (Itr lo n) where
  stop := fun g s hi => by rw [rngD_length] at hi; exact hi
  go := fun g s hi => by rw [rngD_length] at hi; exact hi
  yld := fun g s hi ⟨h1, h2⟩ => by
    subst h1; subst h2
    rw [rngD_length] at hi
    exact ⟨_, _, rngD_get hi, g.self, .int _⟩
end
theorem PI.imp {X : Cx} {tg e : Expr} {t u : TI} (h : PI X tg e t) (i : ∀ σ H Q, u σ H Q → t σ H Q) : PI X tg e u := ⟨fun p s σ H R I q => h.run p s σ H R I (i σ H R q)⟩
/-- a list or a tuple -/
theorem pi_seq {X : Cx} {tg l : Expr} {tl : TE} (hl : PE X l tl) : PI X tg l (fun σ H R => tl σ H fun x H1 => (∃ a, x = .ref a ∧ (∃ xs, SqL X.K H1 a xs) ∧ R (Itl X.K a) H1) ∨ ∃ a, x = .ref a ∧ (∃ xs, SqT X.K H1 a xs) ∧ R (Itt X.K a) H1) := by
  constructor
  intro pins s σ H R I h
  refine thn (hl.run pins s σ H _ I h) ?_
  rintro v s1 ⟨x, H1, I1, r1, q1⟩
  have new : ∀ (o : Obj) (b : Addr), b ∈ [s1.heap.objs.size] → FpOk X pins H1 b := fun o b hb => by
    obtain rfl : b = s1.heap.objs.size := by simpa using hb
    exact I1.fpOk (Nat.le_refl _) (I1.hok.fresh (Nat.le_refl _))
  have grown : ∀ o : Obj, Inv X pins σ H1 { s1 with heap := s1.heap.push o } := fun o => I1.kept (t' := s1.toks) fun b ob e => Heap.get?_push_of_some _ e
  rcases q1 with ⟨a, e, ⟨xs, hq⟩, q⟩ | ⟨a, e, ⟨xs, hq⟩, q⟩
  · subst e
    cases r1
    obtain ⟨its, rv, p, hz⟩ := I1.list hq
    exact wpAny_pyIter_list p.isList ⟨_, _, _, _, H1, rfl, grown _, turn_list a _, ⟨_, Heap.get?_push_size _ rfl, rfl, rfl⟩, new default, q⟩
  · subst e
    cases r1
    obtain ⟨its, rv, p, hz⟩ := I1.tuple hq
    exact wpAny_pyIter_tuple (show s1.heap.IsTuple a its.toArray from p) ⟨_, _, _, _, H1, rfl, grown _, turn_tuple a _, ⟨_, Heap.get?_push_size _ rfl, rfl, rfl⟩, new default, q⟩
def itemsD : D → Option (List D)
  | .lst ds => some ds
  | .tup ds => some ds
  | .wt ds => some ds
  | _ => none
def dSeqI (t : DTE) : DTI := fun Δ Q E => t Δ (fun d Δ1 => ∃ ds, itemsD d = some ds ∧ Q ds Δ1) E
def dRng1 (t : DTA) : DTI := fun Δ Q E => t Δ (fun ds Δ1 => ∃ j, ds = [.int j] ∧ -(2 ^ 62) ≤ j ∧ j < 2 ^ 62 ∧ Q (rngD 0 j.toNat) Δ1) E
def dRng2 (t : DTA) : DTI := fun Δ Q E => t Δ (fun ds Δ1 => ∃ i j, ds = [.int i, .int j] ∧ (-(2 ^ 62) ≤ i ∧ i < 2 ^ 62 ∧ -(2 ^ 62) ≤ j ∧ j < 2 ^ 62) ∧ Q (rngD i (j - i).toNat) Δ1) E
section
variable {X : Cx} {G : Gx X.K} {pos : Pos} {tg : Expr}
theorem di_seq {e : Expr} {t : DTE} (h : PE X e (upE G t)) : PI X tg e (upI G (dSeqI t)) := PI.imp (pi_seq h) fun σ H R ⟨Δ, B, Qd, r, q, k⟩ => ⟨Δ, B, _, r, q, fun d Δ1 v H1 B1 ⟨ds, e, q1⟩ r1 s1 rp => by
  cases d <;> simp only [itemsD, Option.some.injEq, reduceCtorEq] at e
  case lst =>
    subst e
    cases rp with | lst a vs _ e1 rs => exact .inl ⟨a, rfl, ⟨vs, .of (r1.sub _ _ e1)⟩, k _ _ _ _ _ q1 r1 s1 (.list e1 rs)⟩
  case tup =>
    subst e
    cases rp with | tup a vs _ e1 rs => exact .inr ⟨a, rfl, ⟨vs, .of (r1.sub _ _ e1)⟩, k _ _ _ _ _ q1 r1 s1 (.tuple (.of e1) rs)⟩
  case wt =>
    subst e
    cases rp with | wt a vs _ e1 rs => exact .inr ⟨a, rfl, ⟨vs, r1.sub.sqT e1⟩, k _ _ _ _ _ q1 r1 s1 (.tuple e1 rs)⟩⟩
theorem Rps.int1 {K : PySem.W.Frag} {W : Wd K} {B : Hp} {vs : List V} {i : Int} (h : Rps W B vs [.int i]) : vs = [.int i] := by
  cases h with | cons _ _ _ _ a b => cases a; cases b; rfl
theorem Rps.int2 {K : PySem.W.Frag} {W : Wd K} {B : Hp} {vs : List V} {i j : Int} (h : Rps W B vs [.int i, .int j]) : vs = [.int i, .int j] := by
  cases h with | cons _ _ _ _ a b => cases a; rw [b.int1]
theorem di_range1 {a : Expr} {t : DTA} {p : Pos} (hg : Gl X "range") (hm : X.mg "range" = none) (ha : PA X [a] (upA G t)) (hs : starEach [a] X.env = [(false, eval a X.env)] := by rfl) : PI X tg (.Call (.Name "range" p) [a] [] pos) (upI G (dRng1 t)) :=
  PI.imp (pi_range1 hg hm ha hs) fun σ H R ⟨Δ, B, Qd, r, q, k⟩ => ⟨Δ, B, _, r, q, fun ds Δ1 vs H1 B1 ⟨j, e, h1, h2, q1⟩ r1 s1 rps => by subst e; exact ⟨j, rps.int1, h1, h2, k _ _ _ _ _ q1 r1 s1 .range⟩⟩
theorem di_range2 {a b : Expr} {t : DTA} {p : Pos} (hg : Gl X "range") (hm : X.mg "range" = none) (ha : PA X [a, b] (upA G t)) (hs : starEach [a, b] X.env = [(false, eval a X.env), (false, eval b X.env)] := by rfl) (hs2 : starEach [b] X.env = [(false, eval b X.env)] := by rfl) : PI X tg (.Call (.Name "range" p) [a, b] [] pos) (upI G (dRng2 t)) :=
  PI.imp (pi_range2 hg hm ha hs hs2) fun σ H R ⟨Δ, B, Qd, r, q, k⟩ => ⟨Δ, B, _, r, q, fun ds Δ1 vs H1 B1 ⟨i, j, e, hh, q1⟩ r1 s1 rps => by subst e; exact ⟨i, j, rps.int2, hh, k _ _ _ _ _ q1 r1 s1 .range⟩⟩
end

/-! ### for -/
def dFor (ti : DTI) (g : DTG) (tb : DTS) : DTS := fun N Δ E => ti Δ (fun ds Δ1 => ∃ Iv : Nat → List Sl → Prop, Iv 0 Δ1 ∧
  (∀ i d Δ2, ds[i]? = some d → Iv i Δ2 → g d Δ2 fun Δ3 => tb { nx := Iv (i + 1), ct := Iv (i + 1), bk := N.nx, rt := N.rt } Δ3 E) ∧ ∀ Δ2, Iv ds.length Δ2 → N.nx Δ2) E
theorem ds_for {X : Cx} {G : Gx X.K} {pos : Pos} {tg iter : Expr} {body : List Stmt} {ti : DTI} {g : DTG} {tb : DTS} {S : List Nat} (hp : PassesOwn (model X.prog X.w) X.A X.env X.xe) (hc : X.calm = true) (hi : PI X tg iter (upI G ti)) (hg : PG X tg (upG G S g)) (hb : PSs X body (upS G tb))
    (hs : ∀ x, foldedSetIterable iter X.env x = pure x := by intro _; rfl) : PS X (.For tg iter body [] pos) (upS G (dFor ti g tb)) :=
  PS.imp (ps_for hp hc hi hg hb hs) fun N σ H ⟨Δ, B, M, r, q, k1, k2, k3, k4⟩ => ⟨Δ, B, _, r, q, fun ds Δ1 J H1 B1 ⟨Iv, i0, turn, fin⟩ r1 s1 it => by
    refine ⟨fun i m σ' H' => ∃ Δ' B', m = ds.length - i ∧ i ≤ ds.length ∧ DR G Δ' σ' H' B' ∧ Sub B1 B' ∧ Iv i Δ', ⟨_, Δ1, B1, rfl, Nat.zero_le _, r1, Sub.refl _, i0⟩, ?_⟩
    rintro i m σ2 H2 ⟨Δ2, B2, rfl, hi, r2, s2, q2⟩
    by_cases hl : i < ds.length
    · refine .inr ⟨it.go r2.gr s2 hl, fun σ' H' => ∃ Δ' B', DR G Δ' σ' H' B' ∧ Sub B1 B' ∧ Iv (i + 1) Δ', fun σ' H' ⟨Δ', B', a, b, c⟩ => ⟨_, by omega, Δ', B', rfl, hl, a, b, c⟩, fun x H3 y => ?_⟩
      obtain ⟨B3, d, hd, g3, rp⟩ := it.yld r2.gr s2 hl y
      have r3 := r2.grow g3
      refine ⟨Δ2, B3, d, _, r3, rp, turn i d Δ2 hd q2, fun Δ4 σ4 H4 B4 q4 r4 s4 _ => ?_⟩
      have s5 := (s2.trans g3.bas).trans s4
      exact ⟨Δ4, B4, _, r4, q4, fun a b c d x y z => ⟨a, d, y, s5.trans z, x⟩, fun a b c d x y z => k1 a b c d x y (s1.trans (s5.trans z)), fun a b c d x y z => ⟨a, d, y, s5.trans z, x⟩, fun a b c d x y z w => k4 a b c d x y (s1.trans (s5.trans z)) w⟩
    · have e : i = ds.length := by omega
      subst e
      exact .inl ⟨it.stop r2.gr s2 (Nat.le_refl _), k1 _ _ _ _ (fin _ q2) r2 (s1.trans s2)⟩⟩
/-! ### while -/
def dWhile (c : DTT) (tb : DTS) : DTS := fun N Δ E => ∃ Iv : Nat → List Sl → Prop, (∃ m, Iv m Δ) ∧ ∀ m Δ1, Iv m Δ1 → c Δ1 (fun b Δ2 => if b = true then tb { nx := fun Δ' => ∃ m', m' < m ∧ Iv m' Δ', ct := fun Δ' => ∃ m', m' < m ∧ Iv m' Δ', bk := N.nx, rt := N.rt } Δ2 E else N.nx Δ2) E
theorem ds_while {X : Cx} {G : Gx X.K} {pos : Pos} {c : Expr} {body : List Stmt} {tc : DTT} {tb : DTS} (hp : PassesOwn (model X.prog X.w) X.A X.env X.xe) (hc : PT X c (upT G tc)) (hb : PSs X body (upS G tb)) : PS X (.While c body [] pos) (upS G (dWhile tc tb)) :=
  PS.imp (ps_while hp hc hb) fun N σ H ⟨Δ, B, M, r, ⟨Iv, ⟨m0, i0⟩, turn⟩, k1, k2, k3, k4⟩ => by
    refine ⟨fun m σ' H' => ∃ Δ' B', DR G Δ' σ' H' B' ∧ Sub B B' ∧ Iv m Δ', ⟨m0, Δ, B, r, Sub.refl _, i0⟩, ?_⟩
    rintro m σ1 H1 ⟨Δ1, B1, r1, s1, q1⟩
    refine ⟨Δ1, B1, _, r1, turn m Δ1 q1, fun b Δ2 H2 B2 q2 r2 s2 => ?_⟩
    cases b with
    | true =>
      refine ⟨fun σ' H' => ∃ m', m' < m ∧ ∃ Δ' B', DR G Δ' σ' H' B' ∧ Sub B B' ∧ Iv m' Δ', fun σ' H' h => h, Δ2, B2, _, r2, q2, ?_, ?_, ?_, ?_⟩
      · exact fun a b c d ⟨m', hm, x⟩ y z => ⟨m', hm, a, d, y, (s1.trans s2).trans z, x⟩
      · exact fun a b c d x y z => k1 a b c d x y ((s1.trans s2).trans z)
      · exact fun a b c d ⟨m', hm, x⟩ y z => ⟨m', hm, a, d, y, (s1.trans s2).trans z, x⟩
      · exact fun a b c d x y z w => k4 a b c d x y ((s1.trans s2).trans z) w
    | false => exact k1 _ _ _ _ q2 r2 (s1.trans s2)

/-! ### comprehensions -/
def wipeD (Δ : List Sl) : List Nat → List Sl
  | [] => Δ
  | v :: vs => (wipeD Δ vs).set v .un
section
variable {K : PySem.W.Frag} {G : Gx K} {Δ : List Sl} {σ σ' : L2.St} {H B : Hp}
theorem DR.wipeA (r : DR G Δ σ H B) : ∀ vs : List Nat, DR G (wipeD Δ vs) (wipe σ vs) H B
  | [] => r
  | v :: vs => (DR.wipeA r vs).wipe1 v
/-- the frame as it was: the block's own names are forgotten -/
theorem DR.unwipe (r : DR G Δ σ' H B) {vs : List Nat} (e : wipe σ' vs = wipe σ vs) : DR G (wipeD Δ vs) σ H B := by
  have r1 := r.wipeA vs
  obtain ⟨fp, S⟩ := r1.sl
  have hl : σ'.length = σ.length := by have := congrArg List.length e; rwa [wipe_length, wipe_length] at this
  refine ⟨r1.gr, fp, by rw [S.len, wipe_length, hl], fun i s hs => ?_, S.dj, S.ou⟩
  obtain ⟨v, h1, h2⟩ := S.at_ i s hs
  have hi : i < σ.length := by
    have := (List.getElem?_eq_some_iff.mp h1).1
    rw [wipe_length] at this; omega
  by_cases hv : i ∈ vs
  · have un : ∀ (vs : List Nat), i ∈ vs → (wipeD Δ vs)[i]? = some s → s = .un := by
      intro vs
      induction vs with
      | nil => intro h; cases h
      | cons w ws ih =>
        intro h hs
        unfold wipeD at hs
        by_cases hw : w = i
        · subst hw
          by_cases hq : w < (wipeD Δ ws).length
          · rw [List.getElem?_set_self hq] at hs; cases hs; rfl
          · rw [List.getElem?_eq_none (by simpa using hq)] at hs; cases hs
        · rw [List.getElem?_set_ne hw] at hs
          exact ih ((List.mem_cons.mp h).resolve_left (fun z => hw z.symm)) hs
    have := un vs hv hs
    subst this
    refine ⟨σ[i], by simp [hi], ?_⟩
    generalize fp i = f at h2
    cases h2; exact .un _
  · refine ⟨v, ?_, h2⟩
    rw [e] at h1
    have out : ∀ {vs : List Nat}, i ∉ vs → (wipe σ vs)[i]? = σ[i]? := by
      intro vs
      induction vs with
      | nil => intro _; rfl
      | cons w ws ih =>
        intro h
        unfold wipe
        rw [List.getElem?_set_ne (fun z => h (by simp [z])), ih (fun z => h (by simp [z]))]
    rw [out hv] at h1
    exact h1
/-- nothing leaves by an exception -/
abbrev nox {K : PySem.W.Frag} (W : Wd K) (H0 B0 : Hp) : Gx K := ⟨W, H0, B0, fun _ _ _ => False, noE, fun _ _ _ h => h.elim⟩
abbrev gd {K : PySem.W.Frag} (G : Gx K) (L : Addr) (vs : List V) : Gx K := nox G.W (upd G.H0 L (.lst vs)) G.B0
/-- a list of ours that hangs behind, held while something else runs -/
theorem DR.hold {p : Addr} {ds : List D} (r : DR G (Δ ++ [.ol ds]) (σ ++ [some (.ref p)]) H B)   : ∃ vs, H p = some (.lst vs) ∧ Rps G.W B vs ds ∧ G.H0 p = none ∧ G.B0 p = none ∧ ¬ G.W.fv p ∧ DR (gd G p vs) Δ σ H B := by
  obtain ⟨fp, S⟩ := r.sl
  have hl : Δ.length = σ.length := by have := S.len; simpa using this
  obtain ⟨v, h1, h2⟩ := S.at_ Δ.length (.ol ds) (by rw [List.getElem?_append_right (Nat.le_refl _)]; simp)
  rw [hl, List.getElem?_append_right (Nat.le_refl _)] at h1
  simp at h1; subst h1
  have hp : p ∈ fp Δ.length ∧ ∃ vs, H p = some (.lst vs) ∧ Rps G.W B vs ds := by
    generalize hf : fp Δ.length = f
    rw [hf] at h2
    cases h2 with | ol _ _ vs e q => exact ⟨by simp, vs, e, q⟩
  obtain ⟨hp, vs, e, q⟩ := hp
  obtain ⟨c1, c2, c3, c4⟩ := S.ou _ _ hp
  have r0 := r.drop
  have b0 : G.B0 p = none := by
    cases x : G.B0 p with
    | none => rfl
    | some u => rw [r.gr.bas _ _ x] at c1; cases c1
  refine ⟨vs, e, q, c2, b0, c3, ⟨fun a u h s => ?_, fun a h => ?_, r.gr.bas, fun a h => ?_, r.gr.sub, r.gr.wok⟩, fun j => if j < Δ.length then fp j else [], hl, fun j x ej => ?_, fun j k a h1 h2 => ?_, fun j a h => ?_⟩
  · by_cases z : a = p
    · subst z
      have h : upd G.H0 a (.lst vs) a = some u := h
      rw [upd_same] at h; cases h; exact e
    · have h : upd G.H0 p (.lst vs) a = some u := h
      rw [upd_ne z] at h; exact r.gr.ext a u h s
  · by_cases z : a = p
    · subst z; rw [e]; simp
    · have h : upd G.H0 p (.lst vs) a ≠ none := h
      rw [upd_ne z] at h; exact r.gr.dom a h
  · by_cases z : a = p
    · subst z; exact absurd c1 h
    · refine (r.gr.new a h).imp id (Or.imp (fun h => ?_) fun ⟨u, h, n⟩ => ⟨u, ?_, n⟩)
      · show upd G.H0 p (.lst vs) a = none
        rw [upd_ne z]; exact h
      · show upd G.H0 p (.lst vs) a = some u
        rw [upd_ne z]; exact h
  · have hj : j < Δ.length := (List.getElem?_eq_some_iff.mp ej).1
    obtain ⟨w, q1, q2⟩ := S.at_ j x (by rw [List.getElem?_append_left hj]; exact ej)
    rw [List.getElem?_append_left (by omega)] at q1
    exact ⟨w, q1, by simp only [if_pos hj]; exact q2⟩
  · try dsimp only at h1 h2
    split at h1
    · split at h2
      · exact S.dj _ _ a h1 h2
      · cases h2
    · cases h1
  · try dsimp only at h
    split at h
    · rename_i hj
      obtain ⟨d1, d2, d3, d4⟩ := S.ou j a h
      refine ⟨d1, ?_, d3, d4⟩
      show upd G.H0 p (.lst vs) a = none
      rw [upd_ne (fun z => by have := S.dj j _ a h (z ▸ hp); omega)]; exact d2
    · cases h
theorem DR.unhold {p : Addr} {vs : List V} {ds : List D} (r : DR (gd G p vs) Δ σ H B) (h0 : G.H0 p = none) (b0 : G.B0 p = none) (nf : ¬ G.W.fv p) (q : Rps G.W B vs ds) : H p = some (.lst vs) ∧ DR G (Δ ++ [.ol ds]) (σ ++ [some (.ref p)]) H B := by
  obtain ⟨fp, S⟩ := r.sl
  have e : H p = some (.lst vs) := r.gr.ext p _ (show upd G.H0 p (.lst vs) p = _ from upd_same) ⟨fun _ z => (by cases z), nf⟩
  have bp : B p = none := by
    cases x : B p with
    | none => rfl
    | some u =>
      rcases r.gr.new p (by rw [x]; simp) with h | h | ⟨u, h, n⟩
      · exact absurd b0 h
      · have h : upd G.H0 p (.lst vs) p = none := h
        rw [upd_same] at h; cases h
      · have h : upd G.H0 p (.lst vs) p = some u := h
        rw [upd_same] at h; cases h; exact absurd True.intro n
  have up : ∀ a u, G.H0 a = some u → upd G.H0 p (.lst vs) a = some u := fun a u z => by rw [upd_ne (ne_of_none z h0)]; exact z
  have dn : ∀ a, upd G.H0 p (.lst vs) a = none → a ≠ p ∧ G.H0 a = none := fun a z => by
    have z1 : a ≠ p := fun w => by subst w; rw [upd_same] at z; cases z
    rw [upd_ne z1] at z
    exact ⟨z1, z⟩
  have hl := S.len
  refine ⟨e, ⟨fun a u h s => r.gr.ext a u (up a u h) s, fun a h => ?_, r.gr.bas, fun a h => ?_, r.gr.sub, r.gr.wok⟩, fun j => if j < Δ.length then fp j else if j = Δ.length then [p] else [], by simp [hl], fun j x ej => ?_, fun j k a h1 h2 => ?_, fun j a h => ?_⟩
  · cases w : G.H0 a with
    | none => exact absurd w h
    | some u => exact r.gr.dom a (by show upd G.H0 p (.lst vs) a ≠ none; rw [up a u w]; simp)
  · rcases r.gr.new a h with h | h | ⟨u, h, n⟩
    · exact .inl h
    · exact .inr (.inl (dn a h).2)
    · by_cases z : a = p
      · subst z; exact .inr (.inl h0)
      · have h : upd G.H0 p (.lst vs) a = some u := h
        rw [upd_ne z] at h; exact .inr (.inr ⟨u, h, n⟩)
  · by_cases hj : j < Δ.length
    · rw [List.getElem?_append_left hj] at ej
      obtain ⟨w, q1, q2⟩ := S.at_ j x ej
      refine ⟨w, by rw [List.getElem?_append_left (by rw [← hl]; exact hj)]; exact q1, ?_⟩
      simp only [if_pos hj]; exact q2
    · rw [List.getElem?_append_right (by omega)] at ej
      have z : j - Δ.length = 0 := by
        cases h : j - Δ.length with
        | zero => rfl
        | succ n => rw [h] at ej; simp at ej
      rw [z] at ej; simp at ej; subst ej
      refine ⟨_, by rw [List.getElem?_append_right (by rw [← hl]; omega), ← hl, z]; rfl, ?_⟩
      simp only [if_neg hj, if_pos (show j = Δ.length by omega)]
      exact .ol _ _ _ e q
  · have np : ∀ j a, a ∈ fp j → a ≠ p := fun j a ha => (dn a (S.ou j a ha).2.1).1
    try dsimp only at h1 h2
    split at h1
    · split at h2
      · exact S.dj _ _ a h1 h2
      · split at h2
        · simp at h2; exact absurd h2 (np _ a h1)
        · cases h2
    · split at h1
      · simp at h1
        split at h2
        · exact absurd h1 (np _ a h2)
        · split at h2
          · omega
          · cases h2
      · cases h1
  · try dsimp only at h
    split at h
    · obtain ⟨d1, d2, d3, d4⟩ := S.ou j a h
      exact ⟨d1, (dn a d2).2, d3, d4⟩
    · split at h
      · simp at h; subst h
        exact ⟨bp, h0, nf, _, e, True.intro⟩
      · cases h
end
def dLC (own : List Nat) (ti : DTI) (g : DTG) (tt : DTT) (te : DTE) : DTM := fun Δ Q E => ti Δ (fun ds Δ1 => ∃ Iv : Nat → List D → List Sl → Prop, Iv 0 [] (wipeD Δ1 own) ∧
  (∀ i d acc Δ2, ds[i]? = some d → Iv i acc Δ2 → g d Δ2 fun Δ3 => tt Δ3 (fun b Δ4 => if b = true then te Δ4 (fun e Δ5 => acc.length < sizeLine ∧ Iv (i + 1) (acc ++ [e]) (wipeD Δ5 own)) noE else Iv (i + 1) acc (wipeD Δ4 own)) noE) ∧
  ∀ acc Δ2, Iv ds.length acc Δ2 → Q (.ol acc) Δ2) E

def PTs.imp {X : Cx} {e : List Expr} {t u : TT} (h : PTs X e t) (i : ∀ σ H Q, u σ H Q → t σ H Q) : PTs X e u := ⟨fun p s σ H Q I q => h.run p s σ H Q I (i σ H Q q)⟩
def dYes : DTT := fun Δ Q _ => Q true Δ
theorem dts_nil {X : Cx} {G : Gx X.K} : PTs X [] (upT G dYes) := PTs.imp pts_nil fun σ H Q ⟨Δ, B, Qd, r, q, k⟩ => k _ _ _ _ q r (Sub.refl _)
theorem dts_one {X : Cx} {G : Gx X.K} {c : Expr} {t : DTT} (h : PT X c (upT G t)) : PTs X [c] (upT G t) := pts_one h
theorem Keeps.own {S vs : List Nat} {σ σ' : L2.St} (h : Keeps S σ σ') (hs : ∀ i ∈ S, i ∈ vs) : wipe σ' vs = wipe σ vs := h vs hs
theorem wipe_wipe {σ : L2.St} : ∀ vs : List Nat, wipe (wipe σ vs) vs = wipe σ vs
  | [] => rfl
  | v :: vs => by
    have h : ∀ (ws : List Nat) (τ : L2.St) (i : Nat), wipe (τ.set i none) ws = (wipe τ ws).set i none := by
      intro ws
      induction ws with
      | nil => intro τ i; rfl
      | cons w ws ih =>
        intro τ i
        unfold wipe
        rw [ih]
        by_cases e : i = w
        · subst e; rfl
        · rw [List.set_comm _ _ e]
    show (wipe ((wipe σ vs).set v none) vs).set v none = (wipe σ vs).set v none
    rw [h, List.set_set, wipe_wipe vs]
theorem wipeD_idem {Δ : List Sl} : ∀ vs : List Nat, wipeD (wipeD Δ vs) vs = wipeD Δ vs
  | [] => rfl
  | v :: vs => by
    have h : ∀ (ws : List Nat) (τ : List Sl) (i : Nat), wipeD (τ.set i .un) ws = (wipeD τ ws).set i .un := by
      intro ws
      induction ws with
      | nil => intro τ i; rfl
      | cons w ws ih =>
        intro τ i
        unfold wipeD
        rw [ih]
        by_cases e : i = w
        · subst e; rfl
        · rw [List.set_comm _ _ e]
    show (wipeD ((wipeD Δ vs).set v .un) vs).set v .un = (wipeD Δ vs).set v .un
    rw [h, List.set_set, wipeD_idem vs]
theorem DR.more {K : PySem.W.Frag} {G : Gx K} {Δ : List Sl} {σ : L2.St} {H B : Hp} {L : Addr} {vs : List V} {ds : List D} {y : V} {d : D} (r : DR (gd G L vs) Δ σ H B) (h0 : G.H0 L = none) (b0 : G.B0 L = none) (nf : ¬ G.W.fv L) (q : Rps G.W B vs ds) (ry : Rp G.W B y d) :
    H L = some (.lst vs) ∧ DR (gd G L (vs ++ [y])) Δ σ (upd H L (.lst (vs ++ [y]))) B := by
  obtain ⟨e, r1⟩ := r.unhold h0 b0 nf q
  have hl : Δ.length = σ.length := by obtain ⟨fp, S⟩ := r.sl; exact S.len
  have q2 := q.append (Rps.one ry)
  have r2 := r1.write (i := Δ.length) (s := .ol ds) (s' := .ol (ds ++ [d])) (p := L) (o' := .lst (vs ++ [y])) (by rw [List.getElem?_append_right (Nat.le_refl _)]; simp)
    (by rw [hl, List.getElem?_append_right (Nat.le_refl _)]; simp) (fun B H f h => by cases h; rfl) e True.intro (.ol _ _ _ upd_same q2)
  have e2 : (Δ ++ [Sl.ol ds]).set Δ.length (.ol (ds ++ [d])) = Δ ++ [.ol (ds ++ [d])] := by simp
  rw [e2] at r2
  obtain ⟨ws, e3, q3, _, _, _, r3⟩ := r2.hold
  rw [upd_same] at e3
  cases e3
  exact ⟨e, r3⟩
section
variable {X : Cx} {G : Gx X.K} {pos : Pos}
theorem lc_up {own : List Nat} {S : List Nat} {ti : DTI} {g : DTG} {tt : DTT} {te : DTE} (hS : ∀ i ∈ S, i ∈ own) {σ : L2.St} {H : Hp} {Q : VK} (h : upM G (dLC own ti g tt te) σ H Q)
    {gH : TG} {ttH : TT} {teH : TE}
    (hg : ∀ (H0 B0 : Hp) v σ H Q, upG (nox G.W H0 B0) S g v σ H Q → gH v σ H Q)
    (ht : ∀ (H0 B0 : Hp) σ H Q, upT (nox G.W H0 B0) tt σ H Q → ttH σ H Q)
    (he : ∀ (H0 B0 : Hp) σ H Q, upE (nox G.W H0 B0) te σ H Q → teH σ H Q) : tLc (upI G ti) gH ttH teH own σ H Q := by
  obtain ⟨Δ, B, Qd, r, q, k⟩ := h
  refine ⟨Δ, B, _, r, q, fun ds Δ1 J H1 B1 ⟨Iv, i0, turn, fin⟩ r1 s1 it L hL => ?_⟩
  have n1 := NewV.lst (ds := []) r1.gr hL .nil
  obtain ⟨vs0, e0, q0, h0, b0, nf, rg⟩ := ((r1.wipeA own).hangS n1).hold
  have ev : vs0 = [] := by rw [upd_same] at e0; cases e0; rfl
  subst ev
  refine ⟨fun i m H' => ∃ Δ' B' acc vs, m = ds.length - i ∧ i ≤ ds.length ∧ DR (gd G L vs) Δ' (wipe σ own) H' B' ∧ Rps G.W B' vs acc ∧ Sub B1 B' ∧ Iv i acc Δ' ∧ wipeD Δ' own = Δ',
    ⟨_, wipeD Δ1 own, B1, [], [], rfl, Nat.zero_le _, rg, .nil, Sub.refl _, i0, wipeD_idem own⟩, ?_⟩
  rintro i m H2 ⟨Δ2, B2, acc, vs, rfl, hi, r2, q2, s2, v2, w2⟩
  by_cases hl : i < ds.length
  · refine .inr ⟨it.go r2.gr s2 hl, fun H' => ∃ Δ' B' acc vs, DR (gd G L vs) Δ' (wipe σ own) H' B' ∧ Rps G.W B' vs acc ∧ Sub B1 B' ∧ Iv (i + 1) acc Δ' ∧ wipeD Δ' own = Δ', fun H' ⟨Δ', B', acc, vs, h⟩ => ⟨_, by omega, Δ', B', acc, vs, rfl, hl, h⟩, fun x H3 y => ?_⟩
    obtain ⟨B3, d, hd, g3, rp⟩ := it.yld r2.gr s2 hl y
    have r3 := r2.grow g3
    have q3 := q2.mono g3.bas
    refine hg _ _ _ _ _ _ ⟨Δ2, B3, d, _, r3, rp, turn i d acc Δ2 hd v2, fun Δ4 σ4 H4 B4 q4 r4 s4 kp => ?_⟩
    have we2 : wipe σ4 own = wipe σ own := (kp own hS).trans (wipe_wipe own)
    refine ⟨we2, ht _ _ _ _ _ ⟨Δ4, B4, _, r4, q4, fun b Δ5 H5 B5 q5 r5 s5 => ?_⟩⟩
    have we3 : wipe σ4 own = wipe (wipe σ own) own := kp own hS
    cases b with
    | true =>
      refine he _ _ _ _ _ ⟨Δ5, B5, _, r5, q5, fun e Δ6 z H6 B6 ⟨hz, q6⟩ r6 s6 rz => ?_⟩
      have q7 := ((q3.mono s4).mono s5).mono s6
      obtain ⟨e7, r7⟩ := r6.more h0 b0 nf q7 rz
      refine ⟨vs, e7, by rw [q7.length]; exact hz, wipeD Δ6 own, B6, acc ++ [e], vs ++ [z], r7.unwipe we3, q7.append (Rps.one rz), (((s2.trans g3.bas).trans s4).trans s5).trans s6, q6, wipeD_idem own⟩
    | false => exact ⟨wipeD Δ5 own, B5, acc, vs, r5.unwipe we3, (q3.mono s4).mono s5, ((s2.trans g3.bas).trans s4).trans s5, q5, wipeD_idem own⟩
  · have e : i = ds.length := by omega
    subst e
    refine .inl ⟨it.stop r2.gr s2 (Nat.le_refl _), ?_⟩
    have r5 := r2.unwipe (σ := σ) (vs := own) (wipe_wipe own)
    rw [w2] at r5
    obtain ⟨e5, r6⟩ := r5.unhold h0 b0 nf q2
    exact k _ _ _ _ _ (fin _ _ v2) r6 (s1.trans s2)
end
end DL
-- DLfun
set_option Elab.async false
set_option linter.all false
set_option maxRecDepth 100000
set_option maxHeartbeats 2000000
set_option autoImplicit false
namespace DL
open PySem PySem.Spec L2
open PyProof.Rows hiding St

section
variable {X : Cx} {G : Gx X.K} {pos : Pos}
/-! ### comprehensions, as rules -/
theorem dm_lc {elt tg iter : Expr} {ifs : List Expr} {scope : Scope} {own : List (Str × Nat)} {S : List Nat} {ti : DTI} {g : DTG} {tt : DTT} {te : DTE} (hc : X.calm = true) (hN : X.N.Nodup) (hi : PI X tg iter (upI G ti)) (ok : BlkOk X.N X.env.scope scope own)
    (hg : ∀ (s : Shared) (H : Hp) (C : Addr) (cl : List (Str × Addr)) (fp : List Addr) (H0 B0 : Hp), PG (X.blk s H scope (compEnvC scope cl C X.env) fp) tg (upG (nox G.W H0 B0) S g))
    (ht : ∀ (s : Shared) (H : Hp) (C : Addr) (cl : List (Str × Addr)) (fp : List Addr) (H0 B0 : Hp), PTs (X.blk s H scope (compEnvC scope cl C X.env) fp) ifs (upT (nox G.W H0 B0) tt))
    (he : ∀ (s : Shared) (H : Hp) (C : Addr) (cl : List (Str × Addr)) (fp : List Addr) (H0 B0 : Hp), PE (X.blk s H scope (compEnvC scope cl C X.env) fp) elt (upE (nox G.W H0 B0) te))
    (hS : ∀ i ∈ S, i ∈ own.map (·.2) := by decide) (hs : ∀ x, foldedSetIterable iter X.env x = pure x := by intro _; rfl) : PE X (.ListComp elt [⟨tg, iter, ifs, 0⟩] scope pos) (upM G (dLC (own.map (·.2)) ti g tt te)) :=
  PE.imp (pe_lc (g := fun v σ H Q => ∃ H0 B0, upG (nox G.W H0 B0) S g v σ H Q) (tt := fun σ H Q => ∃ H0 B0, upT (nox G.W H0 B0) tt σ H Q) (te := fun σ H Q => ∃ H0 B0, upE (nox G.W H0 B0) te σ H Q) hc hN hi ok
    (fun s H C cl fp => ⟨fun p s' σ H' v u Q I r ⟨H0, B0, q⟩ => (hg s H C cl fp H0 B0).run p s' σ H' v u Q I r q⟩)
    (fun s H C cl fp => ⟨fun p s' σ H' Q I ⟨H0, B0, q⟩ => (ht s H C cl fp H0 B0).run p s' σ H' Q I q⟩)
    (fun s H C cl fp => ⟨fun p s' σ H' Q I ⟨H0, B0, q⟩ => (he s H C cl fp H0 B0).run p s' σ H' Q I q⟩) hs)
    fun σ H Q h => lc_up hS h (fun H0 B0 _ _ _ _ q => ⟨H0, B0, q⟩) (fun H0 B0 _ _ _ q => ⟨H0, B0, q⟩) (fun H0 B0 _ _ _ q => ⟨H0, B0, q⟩)
theorem ds_setLC {i : Nat} {y : Str} {py : Pos} {elt tg iter : Expr} {ifs : List Expr} {scope : Scope} {own : List (Str × Nat)} {S : List Nat} {spos : Pos} {ti : DTI} {g : DTG} {tt : DTT} {te : DTE} (hc : X.calm = true) (hN : X.N.Nodup) (hi : PI X tg iter (upI G ti)) (ok : BlkOk X.N X.env.scope scope own)
    (hg : ∀ (s : Shared) (H : Hp) (C : Addr) (cl : List (Str × Addr)) (fp : List Addr) (H0 B0 : Hp), PG (X.blk s H scope (compEnvC scope cl C X.env) fp) tg (upG (nox G.W H0 B0) S g))
    (ht : ∀ (s : Shared) (H : Hp) (C : Addr) (cl : List (Str × Addr)) (fp : List Addr) (H0 B0 : Hp), PTs (X.blk s H scope (compEnvC scope cl C X.env) fp) ifs (upT (nox G.W H0 B0) tt))
    (he : ∀ (s : Shared) (H : Hp) (C : Addr) (cl : List (Str × Addr)) (fp : List Addr) (H0 B0 : Hp), PE (X.blk s H scope (compEnvC scope cl C X.env) fp) elt (upE (nox G.W H0 B0) te))
    (hsw : swapsWith (.ListComp elt [⟨tg, iter, ifs, 0⟩] scope pos) (some (.Name y py)) spos.line X.env = pure true) (hyl : X.env.scope.names.lookup y = some .local := by rfl) (hy : X.N[i]? = some y := by rfl)
    (hS : ∀ i ∈ S, i ∈ own.map (·.2) := by decide) (hs : ∀ x, foldedSetIterable iter X.env x = pure x := by intro _; rfl) : PS X (.Assign [.Name y py] (.ListComp elt [⟨tg, iter, ifs, 0⟩] scope pos) spos) (upS G (dSetM i (dLC (own.map (·.2)) ti g tt te))) :=
  PS.imp (ps_setLc (g := fun v σ H Q => ∃ H0 B0, upG (nox G.W H0 B0) S g v σ H Q) (tt := fun σ H Q => ∃ H0 B0, upT (nox G.W H0 B0) tt σ H Q) (te := fun σ H Q => ∃ H0 B0, upE (nox G.W H0 B0) te σ H Q) hc hN hy hyl hsw hi ok
    (fun s H C cl fp => ⟨fun p s' σ H' v u Q I r ⟨H0, B0, q⟩ => (hg s H C cl fp H0 B0).run p s' σ H' v u Q I r q⟩)
    (fun s H C cl fp => ⟨fun p s' σ H' Q I ⟨H0, B0, q⟩ => (ht s H C cl fp H0 B0).run p s' σ H' Q I q⟩)
    (fun s H C cl fp => ⟨fun p s' σ H' Q I ⟨H0, B0, q⟩ => (he s H C cl fp H0 B0).run p s' σ H' Q I q⟩) hs)
    fun N σ H ⟨Δ, B, M, r, q, k, _⟩ => lc_up hS (Q := fun x H1 => gName i x σ H1 N.nx) ⟨Δ, B, _, r, q, fun s Δ1 v H1 B1 ⟨hl, q1⟩ r1 s1 => k _ _ _ _ q1 (r1.move hl) s1⟩ (fun H0 B0 _ _ _ _ q => ⟨H0, B0, q⟩) (fun H0 B0 _ _ _ q => ⟨H0, B0, q⟩) (fun H0 B0 _ _ _ q => ⟨H0, B0, q⟩)

/-! ### what changes a name's own list -/
def ownL (Δ : List Sl) (i : Nat) (ds : List D) : Prop := Δ[i]? = some (.ol ds)
theorem DR.ol {K : PySem.W.Frag} {G : Gx K} {Δ : List Sl} {σ : L2.St} {H B : Hp} {i : Nat} {ds : List D} (r : DR G Δ σ H B) (e : Δ[i]? = some (.ol ds)) : ∃ p vs, σ[i]? = some (some (.ref p)) ∧ H p = some (.lst vs) ∧ Rps G.W B vs ds := by
  obtain ⟨fp, S⟩ := r.sl
  obtain ⟨v, h1, h2⟩ := S.at_ i _ e
  generalize fp i = f at h2
  cases h2 with | ol _ p vs e q => exact ⟨p, vs, h1, e, q⟩
theorem DR.setL {K : PySem.W.Frag} {G : Gx K} {Δ : List Sl} {σ : L2.St} {H B : Hp} {i : Nat} {ds ds' : List D} {p : Addr} {vs vs' : List V} (r : DR G Δ σ H B) (e : Δ[i]? = some (.ol ds)) (hv : σ[i]? = some (some (.ref p))) (hp : H p = some (.lst vs)) (q : Rps G.W B vs' ds') :
    DR G (Δ.set i (.ol ds')) σ (upd H p (.lst vs')) B :=
  r.write e hv (fun B H f h => by cases h; rfl) hp True.intro (.ol _ _ _ upd_same q)
/-- x.append(e) -/
def dAppend (i : Nat) (t : DTA) : DTS := fun N Δ E => (∃ ds0, Δ[i]? = some (.ol ds0)) ∧ t Δ (fun es Δ1 => ∃ e ds, es = [e] ∧ Δ1[i]? = some (.ol ds) ∧ ds.length < sizeLine ∧ N.nx (Δ1.set i (.ol (ds ++ [e])))) E
theorem ds_append (i : Nat) {x : Str} {a : Expr} {p apos cpos : Pos} {t : DTA} (ha : PA X [a] (upA G t)) (hN : X.N[i]? = some x := by rfl) (hv : Vis X.env.scope x := by first | exact Or.inl rfl | exact Or.inr (Or.inl rfl) | exact Or.inr (Or.inr rfl))
    (hd : (x == ("__debug__" : Str)) = false := by decide) (hcd : (x == ("__classdict__" : Str)) = false := by decide)
    (hbase : attributeBase (.Name x p) "append" X.env (eval (.Name x p) X.env) = eval (.Name x p) X.env := by rfl)
    (hfew : ((backTo cpos (starEach [a] X.env)).all (fun x => !x.1) && (backToKw cpos (keywordEach [] X.env)).all (fun x => x.1.isSome)
      && decide ([a].length + ([] : List Keyword).length + (if ([] : List Keyword).isEmpty then 0 else 1) < 30)) = true := by rfl)
    (hline : (apos.endLine == cpos.line) = true := by rfl) (hst : starEach [a] X.env = (false, eval a X.env) :: starEach [] X.env := by rfl) (hplain : (backTo cpos (starEach [] X.env)).any (·.1) = false := by rfl)
    (hs : swapsWith (.Call (.Attribute (.Name x p) "append" apos) [a] [] cpos) none pos.line X.env = pure false := by rfl) :
    PS X (.Expr (.Call (.Attribute (.Name x p) "append" apos) [a] [] cpos) pos) (upS G (dAppend i t)) :=
  PS.imp (ps_expr (pe_bm PySem.F.plainAttrs_list PySem.F.slot_list_append PySem.F.type_list_append mt_append (pe_var hN hv hd hcd) ha hbase hfew hline hst hplain) hs) fun N σ H ⟨Δ, B, M, r, ⟨⟨ds0, e0⟩, q⟩, k, _⟩ => by
    obtain ⟨p0, vs0, h1, h2, _⟩ := r.ol e0
    refine ⟨.ref p0, h1, .inl ⟨rfl, vs0, .of h2⟩, Δ, B, _, r, q, ?_⟩
    rintro es Δ1 vs H1 B1 ⟨e, ds, rfl, e1, hz, q1⟩ r1 s1 rps
    obtain ⟨p1, ws, g1, g2, g3⟩ := r1.ol e1
    rw [h1] at g1; cases g1
    cases rps with
    | cons v _ _ _ ra rb =>
      cases rb
      exact ⟨p0, ws, v, rfl, rfl, g2, by rw [g3.length]; exact hz, k _ _ _ _ q1 (r1.setL e1 h1 g2 (g3.append (Rps.one ra))) s1⟩
/-- x.pop() -/
def dPop (i : Nat) : DTE := fun Δ Q _ => ∃ ds d, Δ[i]? = some (.ol ds) ∧ ds.getLast? = some d ∧ Q d (Δ.set i (.ol ds.dropLast))
theorem de_pop (i : Nat) {x : Str} {p apos cpos : Pos} (hN : X.N[i]? = some x := by rfl) (hv : Vis X.env.scope x := by first | exact Or.inl rfl | exact Or.inr (Or.inl rfl) | exact Or.inr (Or.inr rfl))
    (hd : (x == ("__debug__" : Str)) = false := by decide) (hcd : (x == ("__classdict__" : Str)) = false := by decide)
    (hbase : attributeBase (.Name x p) "pop" X.env (eval (.Name x p) X.env) = eval (.Name x p) X.env := by rfl) (hline : (apos.endLine == cpos.line) = true := by rfl) :
    PE X (.Call (.Attribute (.Name x p) "pop" apos) [] [] cpos) (upE G (dPop i)) :=
  PE.imp (pe_bm0 PySem.F.plainAttrs_list PySem.F.slot_list_pop PySem.F.type_list_pop mt_pop (pe_var hN hv hd hcd) hbase hline) fun σ H Q ⟨Δ, B, Qd, r, ⟨ds, d, e0, el, q⟩, k⟩ => by
    obtain ⟨p0, vs0, h1, h2, h3⟩ := r.ol e0
    rw [List.getLast?_eq_getElem?] at el
    obtain ⟨v, hv2, rv⟩ := h3.get el
    refine ⟨.ref p0, h1, .inl ⟨rfl, vs0, .of h2⟩, p0, vs0, v, rfl, rfl, h2, by rw [h3.length]; exact hv2, k _ _ _ _ _ q (r.setL e0 h1 h2 ?_) (Sub.refl _) rv⟩
    rw [List.dropLast_eq_take, List.dropLast_eq_take, h3.length]
    exact h3.take _

/-! ### x[k] = e -/
theorem PS.or {st : Stmt} {t u : TS} (h : PS X st t) (g : PS X st u) : PS X st (fun D σ H => t D σ H ∨ u D σ H) := ⟨fun p s σ H D I q => q.elim (h.run p s σ H D I) (g.run p s σ H D I)⟩
end
theorem put_pair {K : PySem.W.Frag} {W : Wd K} {B : Hp} {κ : Type} [DecidableEq κ] {kvs : List (κ × V)} {ds : List (κ × D)} (h : kvs.map (·.1) = ds.map (·.1)) (r : Rps W B (kvs.map (·.2)) (ds.map (·.2))) (k : κ) {v : V} {d : D} (rv : Rp W B v d) :
    (putK kvs k v).map (·.1) = (put ds k d).map (·.1) ∧ Rps W B ((putK kvs k v).map (·.2)) ((put ds k d).map (·.2)) := by
  have ha : (kvs.any fun kv => decide (kv.1 = k)) = ds.any fun kv => decide (kv.1 = k) := by
    have e1 : (kvs.any fun kv => decide (kv.1 = k)) = (kvs.map (·.1)).any fun x => decide (x = k) := by rw [List.any_map]; rfl
    have e2 : (ds.any fun kv => decide (kv.1 = k)) = (ds.map (·.1)).any fun x => decide (x = k) := by rw [List.any_map]; rfl
    rw [e1, e2, h]
  unfold putK put
  rw [ha]
  split
  · rename_i hq
    clear hq ha
    induction kvs generalizing ds with
    | nil =>
      cases ds with
      | nil => exact ⟨rfl, .nil⟩
      | cons _ _ => simp at h
    | cons p kvs ih =>
      cases ds with
      | nil => simp at h
      | cons q ds =>
        have hk : p.1 = q.1 ∧ kvs.map (·.1) = ds.map (·.1) := by simpa using h
        cases r with
        | cons _ _ _ _ a b =>
          obtain ⟨i1, i2⟩ := ih hk.2 b
          simp only [List.map_cons]
          refine ⟨?_, ?_⟩
          · rw [i1]
            congr 1
            rw [← hk.1]
            split <;> simp [hk.1]
          · rw [← hk.1]
            split
            · exact .cons _ _ _ _ rv i2
            · exact .cons _ _ _ _ a i2
  · simp only [List.map_append, List.map_cons, List.map_nil]
    exact ⟨by rw [h], r.append (Rps.one rv)⟩
/-- the value first, then the key -/
def dSetIx (i : Nat) (tv tk : DTE) : DTS := fun N Δ E =>
  ((∃ ds0, Δ[i]? = some (.ol ds0)) ∧ tv Δ (fun d Δ1 => tk Δ1 (fun k Δ2 => ∃ ds j n, Δ2[i]? = some (.ol ds) ∧ k = .int j ∧ ixN ds.length j = some n ∧ N.nx (Δ2.set i (.ol (ds.set n d)))) E) E) ∨
  (((∃ ds0, Δ[i]? = some (.ok ds0)) ∧ tv Δ (fun d Δ1 => tk Δ1 (fun k Δ2 => ∃ ds y, Δ2[i]? = some (.ok ds) ∧ k.key = some y ∧ ds.length < sizeLine ∧ N.nx (Δ2.set i (.ok (put ds y d)))) E) E) ∨
  ((∃ ds0, Δ[i]? = some (.ot ds0)) ∧ tv Δ (fun d Δ1 => tk Δ1 (fun k Δ2 => ∃ ds y, Δ2[i]? = some (.ot ds) ∧ k.keyT = some y ∧ ds.length < sizeLine ∧ N.nx (Δ2.set i (.ot (put ds y d)))) E) E))
section
variable {X : Cx} {G : Gx X.K} {pos : Pos}
theorem DR.okd {K : PySem.W.Frag} {G : Gx K} {Δ : List Sl} {σ : L2.St} {H B : Hp} {i : Nat} {ds : List (Key × D)} (r : DR G Δ σ H B) (e : Δ[i]? = some (.ok ds)) : ∃ p kvs, σ[i]? = some (some (.ref p)) ∧ H p = some (.dK kvs) ∧ kvs.map (·.1) = ds.map (·.1) ∧ Rps G.W B (kvs.map (·.2)) (ds.map (·.2)) := by
  obtain ⟨fp, S⟩ := r.sl
  obtain ⟨v, h1, h2⟩ := S.at_ i _ e
  generalize fp i = f at h2
  cases h2 with | ok _ p vs e k q => exact ⟨p, vs, h1, e, k, q⟩
theorem DR.otd {K : PySem.W.Frag} {G : Gx K} {Δ : List Sl} {σ : L2.St} {H B : Hp} {i : Nat} {ds : List (List Key × D)} (r : DR G Δ σ H B) (e : Δ[i]? = some (.ot ds)) : ∃ p kvs, σ[i]? = some (some (.ref p)) ∧ H p = some (.dT kvs) ∧ kvs.map (·.1) = ds.map (·.1) ∧ Rps G.W B (kvs.map (·.2)) (ds.map (·.2)) := by
  obtain ⟨fp, S⟩ := r.sl
  obtain ⟨v, h1, h2⟩ := S.at_ i _ e
  generalize fp i = f at h2
  cases h2 with | ot _ p vs e k q => exact ⟨p, vs, h1, e, k, q⟩
theorem ds_setIx (i : Nat) {x : Str} {k e : Expr} {p sp : Pos} {tv tk : DTE} (hu : X.A.units + 1 < cLine) (he : PE X e (upE G tv)) (hk : PE X k (upE G tk)) (hN : X.N[i]? = some x := by rfl) (hv : Vis X.env.scope x := by first | exact Or.inl rfl | exact Or.inr (Or.inl rfl) | exact Or.inr (Or.inr rfl))
    (hd : (x == ("__debug__" : Str)) = false := by decide) (hcd : (x == ("__classdict__" : Str)) = false := by decide)
    (hs : swapsWith e (some (.Subscript (.Name x p) k sp)) pos.line X.env = pure false := by rfl) (hs2 : swapsWithSole [.Subscript (.Name x p) k sp] e pos.line X.env = pure false := by rfl) (hw : swappedStores [.Subscript (.Name x p) k sp] e X.env = pure none := by rfl)
    (h1 : (assignEach [.Subscript (.Name x p) k sp] X.env).map (·.2) = [assign (.Subscript (.Name x p) k sp) X.env] := by rfl)
    (ha : ∀ v, assign (.Subscript (.Name x p) k sp) X.env v = (do
      let ov ← holding [v] (eval (.Name x p) X.env)
      let iv ← holding [v, ov] (eval k X.env)
      standAt sp
      holding [v, ov, iv] (setItem ov iv v)
      release [v, ov, iv] []) := by intro _; rfl) : PS X (.Assign [.Subscript (.Name x p) k sp] e pos) (upS G (dSetIx i tv tk)) :=
  PS.imp (PS.or (ps_asg he (pg_sub (pe_var hN hv hd hcd) hk set_list ha) hs2 hw h1) (ps_dput hu (pe_var hN hv hd hcd) hk he hs)) fun N σ H ⟨Δ, B, M, r, q, k, _⟩ => by
    rcases q with ⟨⟨ds0, e0⟩, q⟩ | ⟨⟨ds0, e0⟩, q⟩ | ⟨⟨ds0, e0⟩, q⟩
    · refine .inl ⟨Δ, B, _, r, q, fun d Δ1 v H1 B1 q1 r1 s1 rv => ?_⟩
      obtain ⟨p0, vs0, g1, g2, _⟩ := r.ol e0
      refine ⟨.ref p0, g1, Δ1, B1, _, r1, q1, ?_⟩
      rintro kd Δ2 kv H2 B2 ⟨ds, j, n, e2, rfl, hj, q2⟩ r2 s2 rk
      cases rk
      obtain ⟨p1, ws, f1, f2, f3⟩ := r2.ol e2
      rw [g1] at f1; cases f1
      exact ⟨p0, ws, j, n, rfl, rfl, f2, by rw [f3.length]; exact hj, k _ _ _ _ q2 (r2.setL e2 g1 f2 (f3.set (rv.mono s2) n)) (s1.trans s2)⟩
    · refine .inr ⟨Δ, B, _, r, q, fun d Δ1 v H1 B1 q1 r1 s1 rv => ?_⟩
      obtain ⟨p0, vs0, g1, g2, _⟩ := r.okd e0
      refine ⟨.ref p0, g1, Δ1, B1, _, r1, q1, ?_⟩
      rintro kd Δ2 kv H2 B2 ⟨ds, y, e2, ek, hz, q2⟩ r2 s2 rk
      obtain ⟨p1, ws, f1, f2, f3, f4⟩ := r2.okd e2
      rw [g1] at f1; cases f1
      have hl : ws.length = ds.length := by have := congrArg List.length f3; simpa using this
      obtain ⟨a1, a2⟩ := put_pair f3 f4 y (rv.mono s2)
      exact ⟨p0, _, rfl, .inl ⟨ws, y, f2, key_inv rk ek, by rw [hl]; exact hz, rfl⟩, k _ _ _ _ q2 (r2.write e2 g1 (fun B H f h => by cases h; rfl) f2 True.intro (.ok _ _ _ upd_same a1 a2)) (s1.trans s2)⟩
    · refine .inr ⟨Δ, B, _, r, q, fun d Δ1 v H1 B1 q1 r1 s1 rv => ?_⟩
      obtain ⟨p0, vs0, g1, g2, _⟩ := r.otd e0
      refine ⟨.ref p0, g1, Δ1, B1, _, r1, q1, ?_⟩
      rintro kd Δ2 kv H2 B2 ⟨ds, y, e2, ek, hz, q2⟩ r2 s2 rk
      obtain ⟨p1, ws, f1, f2, f3, f4⟩ := r2.otd e2
      rw [g1] at f1; cases f1
      have hl : ws.length = ds.length := by have := congrArg List.length f3; simpa using this
      obtain ⟨a1, a2⟩ := put_pair f3 f4 y (rv.mono s2)
      obtain ⟨b, rfl, hb⟩ := keyT_inv rk ek
      exact ⟨p0, _, rfl, .inr ⟨ws, y, b, f2, rfl, r2.sub _ _ hb, by rw [hl]; exact hz, rfl⟩, k _ _ _ _ q2 (r2.write e2 g1 (fun B H f h => by cases h; rfl) f2 True.intro (.ot _ _ _ upd_same a1 a2)) (s1.trans s2)⟩
end

/-! ### raise, calls, defs -/
section
variable {X : Cx} {G : Gx X.K} {pos : Pos}
theorem ds_raise {e : Expr} {C : Addr} (hc : X.calm = true) (tk : Takes X (fun c d _ H => G.E c d H)) (he : PMk X e (fun _ H Q => Q (.ref C) none H)) : PS X (.Raise (some e) none pos) (upS G (dRaise C)) :=
  PS.imp (ps_raise hc tk he) fun N σ H ⟨Δ, B, M, r, q, _⟩ => G.hE C H B q r.gr
/-- what a callee lets out goes out of this body -/
theorem pass_up (tk : Takes X (fun c d _ H => G.E c d H)) : Passes (L2.CX X.prog X.w) X G.E := passes_call tk fun _ _ _ _ h => h
theorem pass_no {W : Wd X.K} {H0 B0 : Hp} : Passes (L2.CX X.prog X.w) X (nox W H0 B0).E := passL
end
/-- the promise of a def, over trees: only for lists of the right length -/
def SpD.ar (n : Nat) (sp : SpD) : SpD := fun ds Q E => ds.length = n ∧ sp ds Q E
def startD (n : Nat) (ds : List D) : List Sl := ds.map .im ++ List.replicate (n - ds.length) .un
theorem Sls.start {K : PySem.W.Frag} {G : Gx K} {H B : Hp} {vs : List V} {ds : List D} {N : List Str} (h : Rps G.W B vs ds) : Sls G (startD N.length ds) (L2.start N vs) H B (fun _ => []) where
  len := by unfold startD L2.start; rw [List.length_append, List.length_append, List.length_map, List.length_map, List.length_replicate, List.length_replicate, h.length]
  at_ := fun i s e => by
    unfold startD at e
    unfold L2.start
    by_cases hi : i < ds.length
    · rw [List.getElem?_append_left (by simpa using hi), List.getElem?_map] at e
      rw [List.getElem?_append_left (by simpa [h.length] using hi), List.getElem?_map]
      obtain ⟨v, h1, h2⟩ := h.get (List.getElem?_eq_getElem hi)
      rw [List.getElem?_eq_getElem hi] at e
      simp at e; subst e
      rw [h1]
      exact ⟨some v, rfl, .im _ _ h2⟩
    · rw [List.getElem?_append_right (by simpa using hi), List.getElem?_replicate] at e
      split at e
      · cases e
        rename_i hj
        have hj : i - ds.length < N.length - ds.length := by simpa using hj
        refine ⟨none, ?_, .un _⟩
        rw [List.getElem?_append_right (by rw [List.length_map, h.length]; omega), List.getElem?_replicate, if_pos (by rw [List.length_map, h.length]; exact hj)]
      · cases e
  dj := fun i j a h => by cases h
  ou := fun i a h => by cases h
section
variable {P : Program} {w : World} {K : PySem.W.Frag} {mg : Str → Option Value} {base : Heap}
abbrev cxB (P : Program) (w : World) (K : PySem.W.Frag) (mg : Str → Option Value) (base : Heap) (N : List Str) (qual : Str) (st : Stmt) (f : Addr) (cdv : Value) (A : Around) (outer : List Env) (s : Shared) (H : Hp) (E : XK) : Cx :=
  cxOf (L2.CX P w) P w K mg base N qual (defScope st) f cdv A outer s H E
/-- THE RULE for a def -/
theorem fn_ok {x qual : Str} {st : Stmt} {f : Addr} {fd : FuncData} {N ps : List Str} {k : Nat} {sp : SpD} {t : DTS} {dvs : List V} {kws : List (Str × V)} (F : FunD K x qual (defArgs st) (defBody st) (defScope st) dvs kws f fd) (S : FnScope N ps (defScope st))
    (hbody : ∀ (W : Wd K) (cdv : Value) (A : Around) (outer : List Env) (s : Shared) (H B : Hp) (E : XK) (Ed : EX) (hE : ∀ C H' B', Ed C → Grow W H B H' B' → E (.ref C) none H'), Room k (A.deeper (envOfC qual (defScope st) s.heap.objs.size f cdv)) →
      PSs (cxB P w K mg base N qual st f cdv A outer s H E) (defBody st) (upS (⟨W, H, B, E, Ed, hE⟩ : Gx K) t))
    (hsp : ∀ ds Q E, sp ds Q E → ds.length = ps.length ∧ t { nx := fun _ => Q .non, rt := Q } (startD N.length ds) E) (W : Wd K) : FnOk P w K mg base (L2.CX P w) (k + 1) f fd ps (upSp W sp) := by
  refine fund_ok F (CX := L2.CX P w) S (fun vs H Q E ⟨B, ds, Qd, Ed, g, r, h, _⟩ => r.length.trans (hsp _ _ _ h).1) fun cdv A outer s H vs Q E hr ⟨B, ds, Qd, Ed, g, r, h, k1, k2⟩ => ?_
  refine ⟨_, hbody W cdv A outer s H B E Ed k2 hr, startD N.length ds, B, _, ⟨g, _, Sls.start r⟩, (hsp _ _ _ h).2, fun Δ' σ' H' B' q r' sb => k1 .non .non H' B' q r'.gr .non, fun _ _ _ _ q => q.elim, fun _ _ _ _ q => q.elim, fun d v H' B' q g' sb rp => k1 d v H' B' q g' rp⟩
end

/-! ### objects -/
section
variable {X : Cx} {G : Gx X.K} {pos : Pos}
/-- a field read; T: of which classes -/
def dFld (T : Addr → Prop) (f : Str) (ta : DTO) : DTE := fun Δ Q E => ta Δ (fun x Δ1 => ∃ C fs d, res Δ1 x = some (.obj C fs) ∧ T C ∧ fs.lookup f = some d ∧ Q d Δ1) E
theorem lookup_pair {K : PySem.W.Frag} {W : Wd K} {B : Hp} : ∀ {fs : List (Str × V)} {ds : List (Str × D)}, fs.map (·.1) = ds.map (·.1) → Rps W B (fs.map (·.2)) (ds.map (·.2)) → ∀ (f : Str), (∀ d, ds.lookup f = some d → ∃ v, fs.lookup f = some v ∧ Rp W B v d) ∧ (ds.lookup f = none → fs.lookup f = none)
  | [], [], _, _, f => ⟨fun d e => (by cases e), fun _ => rfl⟩
  | [], _ :: _, h, _, _ => by simp at h
  | _ :: _, [], h, _, _ => by simp at h
  | (k1, v) :: kvs, (k2, d) :: ds, h, r, f => by
    have hk : k1 = k2 ∧ kvs.map (·.1) = ds.map (·.1) := by simpa using h
    obtain ⟨rfl, hk⟩ := hk
    cases r with
    | cons _ _ _ _ a b =>
      have ih := lookup_pair hk b f
      simp only [List.lookup_cons]
      cases e : f == k1 with
      | true => exact ⟨fun d' q => (by cases q; exact ⟨v, rfl, a⟩), fun q => (by cases q)⟩
      | false => exact ih
theorem de_fld {e : Expr} {f : Str} {T : Addr → Prop} {ta : DTO} (hT : ∀ C, T C → Cls X.K C ∧ NoAttr X.K C f) (he : PE X e (upO G ta)) (hb : attributeBase e f X.env (eval e X.env) = eval e X.env := by rfl) : PE X (.Attribute e f pos) (upE G (dFld T f ta)) :=
  PE.imp (pe_fld he hb) fun σ H Q ⟨Δ, B, Qd, r, q, k⟩ => ⟨Δ, B, _, r, q, fun o Δ1 v H1 B1 ⟨C, ds, d, e1, t, l, q1⟩ r1 s1 p1 => by
    obtain ⟨a, dx, fs, ev, h1, h2, h3⟩ := (p1.res r1 e1).obj r1.sub
    subst ev
    obtain ⟨z, hz, rz⟩ := (lookup_pair h2 h3 f).1 d l
    exact ⟨a, C, dx, fs, z, rfl, h1, (hT C t).1, (hT C t).2, hz, k _ _ _ _ _ q1 r1 s1 rz⟩⟩
def putD (f : Str) (v : D) : List (Str × D) → List (Str × D)
  | [] => [(f, v)]
  | (g, w) :: r => if g = f then (f, v) :: r else (g, w) :: putD f v r
theorem putF_pair {K : PySem.W.Frag} {W : Wd K} {B : Hp} {f : Str} {v : V} {d : D} (rv : Rp W B v d) : ∀ {fs : List (Str × V)} {ds : List (Str × D)}, fs.map (·.1) = ds.map (·.1) → Rps W B (fs.map (·.2)) (ds.map (·.2)) → (putF f v fs).map (·.1) = (putD f d ds).map (·.1) ∧ Rps W B ((putF f v fs).map (·.2)) ((putD f d ds).map (·.2))
  | [], [], _, _ => ⟨rfl, Rps.one rv⟩
  | [], _ :: _, h, _ => by simp at h
  | _ :: _, [], h, _ => by simp at h
  | (k1, w) :: kvs, (k2, e) :: ds, h, r => by
    have hk : k1 = k2 ∧ kvs.map (·.1) = ds.map (·.1) := by simpa using h
    obtain ⟨rfl, hk⟩ := hk
    cases r with
    | cons _ _ _ _ a b =>
      obtain ⟨i1, i2⟩ := putF_pair rv hk b
      unfold putF putD
      split
      · rename_i z
        exact ⟨by simp [hk, z], .cons _ _ _ _ rv b⟩
      · exact ⟨by simp [i1], .cons _ _ _ _ a i2⟩
/-- self.f = e, self our own (in __init__) -/
def dFldSet (i : Nat) (T : Addr → Prop) (f : Str) (t : DTE) : DTS := fun N Δ E => t Δ (fun d Δ1 => ∃ C p fs, Δ1[i]? = some (.oi C p fs) ∧ T C ∧ fs.length < 1000 ∧ N.nx (Δ1.set i (.oi C p (putD f d fs)))) E
theorem DR.oid {K : PySem.W.Frag} {G : Gx K} {Δ : List Sl} {σ : L2.St} {H B : Hp} {i : Nat} {C p : Addr} {ds : List (Str × D)} (r : DR G Δ σ H B) (e : Δ[i]? = some (.oi C p ds)) : ∃ dx fs, σ[i]? = some (some (.ref p)) ∧ H p = some (.ins C dx fs) ∧ fs.map (·.1) = ds.map (·.1) ∧ Rps G.W B (fs.map (·.2)) (ds.map (·.2)) := by
  obtain ⟨fp, S⟩ := r.sl
  obtain ⟨v, h1, h2⟩ := S.at_ i _ e
  generalize fp i = f at h2
  cases h2 with | oi _ _ _ dx fs e k q => exact ⟨dx, fs, h1, e, k, q⟩
theorem ds_fld (i : Nat) {x f : Str} {T : Addr → Prop} {e : Expr} {p p' : Pos} {t : DTE} (hT : ∀ C, T C → Cls X.K C ∧ NoAttr X.K C f) (he : PE X e (upE G t)) (hN : X.N[i]? = some x := by rfl) (hv : Vis X.env.scope x := by first | exact Or.inl rfl | exact Or.inr (Or.inl rfl) | exact Or.inr (Or.inr rfl))
    (hd : (x == ("__debug__" : Str)) = false := by decide) (hcd : (x == ("__classdict__" : Str)) = false := by decide) (hs : swapsWith e (some (.Attribute (.Name x p) f p')) pos.line X.env = pure false := by rfl) :
    PS X (.Assign [.Attribute (.Name x p) f p'] e pos) (upS G (dFldSet i T f t)) :=
  PS.imp (ps_fld (pe_var hN hv hd hcd) he hs) fun N σ H ⟨Δ, B, M, r, q, k, _⟩ => ⟨Δ, B, _, r, q, fun d Δ1 v H1 B1 ⟨C, p0, ds, e1, t, hz, q1⟩ r1 s1 rv => by
    obtain ⟨dx, fs, h1, h2, h3, h4⟩ := r1.oid e1
    have hl : fs.length = ds.length := by have := congrArg List.length h3; simpa using this
    obtain ⟨a1, a2⟩ := putF_pair rv h3 h4 (f := f)
    exact ⟨.ref p0, h1, p0, C, dx, fs, rfl, h2, (hT C t).1, (hT C t).2, by rw [hl]; exact hz, k _ _ _ _ q1 (r1.write e1 h1 (fun B H f h => by cases h; rfl) h2 True.intro (.oi _ _ _ _ _ upd_same a1 a2)) s1⟩⟩
end
end DL
-- DLcall
set_option Elab.async false
set_option linter.all false
set_option maxRecDepth 100000
set_option maxHeartbeats 2000000
set_option autoImplicit false
namespace DL
open PySem PySem.Spec L2
open PyProof.Rows hiding St

/-! ### values of ours in a row: a, b = x, y -/
section
variable {K : PySem.W.Frag}
theorem Grow.less {W : Wd K} {H0 H0' B0 H B : Hp} (g : Grow W H0' B0 H B) (s : Sub H0 H0') : Grow W H0 B0 H B where
  ext := fun a o h q => g.ext a o (s a o h) q
  dom := fun a h => g.dom a (by
    cases e : H0 a with
    | none => exact absurd e h
    | some o => rw [s a o e]; simp)
  bas := g.bas
  new := fun a h => by
    rcases g.new a h with z | z | ⟨o, z, n⟩
    · exact .inl z
    · right; left
      cases e : H0 a with
      | none => rfl
      | some o => rw [s a o e] at z; cases z
    · right
      cases e : H0 a with
      | none => exact .inl rfl
      | some u => rw [s a u e] at z; cases z; exact .inr ⟨_, rfl, n⟩
  sub := g.sub
  wok := g.wok
def Gx.more (G : Gx K) (H0' : Hp) (s : Sub G.H0 H0') : Gx K := ⟨G.W, H0', G.B0, G.E, G.Ed, fun C H' B' h g => G.hE C H' B' h (g.less s)⟩
theorem DR.holdS {G : Gx K} {Δ : List Sl} {σ : L2.St} {H B : Hp} {s : Sl} {v : V} (r : DR G (Δ ++ [s]) (σ ++ [some v]) H B) :
    ∃ H0' hs, DR (G.more H0' hs) Δ σ H B ∧ ∀ Δ2 σ2 H2 B2, Sub B B2 → DR (G.more H0' hs) Δ2 σ2 H2 B2 → DR G (Δ2 ++ [s]) (σ2 ++ [some v]) H2 B2 := by
  obtain ⟨fp, S⟩ := r.sl
  have hl : Δ.length = σ.length := by have := S.len; simpa using this
  obtain ⟨v', h1, h2⟩ := S.at_ Δ.length s (by rw [List.getElem?_append_right (Nat.le_refl _)]; simp)
  rw [hl, List.getElem?_append_right (Nat.le_refl _)] at h1
  simp at h1; subst h1
  generalize hf : fp Δ.length = f at h2
  -- an object p of ours of the content o
  have main : ∀ (p : Addr) (o : HO), f = [p] → v = .ref p → H p = some o → plainO o → (∀ B2 H2, Sub B B2 → H2 p = some o → SlR G.W B2 H2 s (some (.ref p)) [p]) →
      ∃ H0' hs, DR (G.more H0' hs) Δ σ H B ∧ ∀ Δ2 σ2 H2 B2, Sub B B2 → DR (G.more H0' hs) Δ2 σ2 H2 B2 → DR G (Δ2 ++ [s]) (σ2 ++ [some v]) H2 B2 := by
    intro p o ef ev e po again
    subst ev
    have hp : p ∈ fp Δ.length := by rw [hf, ef]; simp
    obtain ⟨c1, c2, c3, c4⟩ := S.ou _ _ hp
    refine ⟨upd G.H0 p o, Sub.new c2, ?_, ?_⟩
    · refine ⟨⟨fun a u h q => ?_, fun a h => ?_, r.gr.bas, fun a h => ?_, r.gr.sub, r.gr.wok⟩, fun j => if j < Δ.length then fp j else [], hl, fun j x ej => ?_, fun j k a h1 h2 => ?_, fun j a h => ?_⟩
      · by_cases z : a = p
        · subst z
          have h : upd G.H0 a o a = some u := h
          rw [upd_same] at h; cases h; exact e
        · have h : upd G.H0 p o a = some u := h
          rw [upd_ne z] at h; exact r.gr.ext a u h q
      · by_cases z : a = p
        · subst z; rw [e]; simp
        · have h : upd G.H0 p o a ≠ none := h
          rw [upd_ne z] at h; exact r.gr.dom a h
      · by_cases z : a = p
        · subst z; exact absurd c1 h
        · refine (r.gr.new a h).imp id (Or.imp (fun h => ?_) fun ⟨u, h, n⟩ => ⟨u, ?_, n⟩)
          · show upd G.H0 p o a = none
            rw [upd_ne z]; exact h
          · show upd G.H0 p o a = some u
            rw [upd_ne z]; exact h
      · have hj : j < Δ.length := (List.getElem?_eq_some_iff.mp ej).1
        obtain ⟨w, q1, q2⟩ := S.at_ j x (by rw [List.getElem?_append_left hj]; exact ej)
        rw [List.getElem?_append_left (by omega)] at q1
        exact ⟨w, q1, by simp only [if_pos hj]; exact q2⟩
      · try dsimp only at h1 h2
        split at h1
        · split at h2
          · exact S.dj _ _ a h1 h2
          · cases h2
        · cases h1
      · try dsimp only at h
        split at h
        · rename_i hj
          obtain ⟨d1, d2, d3, d4⟩ := S.ou j a h
          refine ⟨d1, ?_, d3, d4⟩
          show upd G.H0 p o a = none
          rw [upd_ne (fun z => by have := S.dj j _ a h (z ▸ hp); omega)]; exact d2
        · cases h
    · intro Δ2 σ2 H2 B2 sb r2
      obtain ⟨fp2, S2⟩ := r2.sl
      have e2 : H2 p = some o := r2.gr.ext p _ (show upd G.H0 p o p = _ from upd_same) ⟨fun ps z => (by subst z; exact po), c3⟩
      have b0 : G.B0 p = none := by
        cases x : G.B0 p with
        | none => rfl
        | some u => rw [r.gr.bas _ _ x] at c1; cases c1
      have bp : B2 p = none := by
        cases x : B2 p with
        | none => rfl
        | some u =>
          rcases r2.gr.new p (by rw [x]; simp) with h | h | ⟨u, h, n⟩
          · exact absurd b0 h
          · have h : upd G.H0 p o p = none := h
            rw [upd_same] at h; cases h
          · have h : upd G.H0 p o p = some u := h
            rw [upd_same] at h; cases h; exact absurd po n
      have dn : ∀ a, upd G.H0 p o a = none → a ≠ p ∧ G.H0 a = none := fun a z => by
        have z1 : a ≠ p := fun w => by subst w; rw [upd_same] at z; cases z
        rw [upd_ne z1] at z
        exact ⟨z1, z⟩
      have hl2 := S2.len
      refine ⟨Grow.less r2.gr (Sub.new c2), fun j => if j < Δ2.length then fp2 j else if j = Δ2.length then [p] else [], by simp [hl2], fun j x ej => ?_, fun j k a h1 h2 => ?_, fun j a h => ?_⟩
      · by_cases hj : j < Δ2.length
        · rw [List.getElem?_append_left hj] at ej
          obtain ⟨w, q1, q2⟩ := S2.at_ j x ej
          refine ⟨w, by rw [List.getElem?_append_left (by rw [← hl2]; exact hj)]; exact q1, ?_⟩
          simp only [if_pos hj]; exact q2
        · rw [List.getElem?_append_right (by omega)] at ej
          have z : j - Δ2.length = 0 := by
            cases h : j - Δ2.length with
            | zero => rfl
            | succ n => rw [h] at ej; simp at ej
          rw [z] at ej; simp at ej; subst ej
          refine ⟨_, by rw [List.getElem?_append_right (by rw [← hl2]; omega), ← hl2, z]; rfl, ?_⟩
          simp only [if_neg hj, if_pos (show j = Δ2.length by omega)]
          exact again _ _ sb e2
      · have np : ∀ j a, a ∈ fp2 j → a ≠ p := fun j a ha => (dn a (S2.ou j a ha).2.1).1
        try dsimp only at h1 h2
        split at h1
        · split at h2
          · exact S2.dj _ _ a h1 h2
          · split at h2
            · simp at h2; exact absurd h2 (np _ a h1)
            · cases h2
        · split at h1
          · simp at h1
            split at h2
            · exact absurd h1 (np _ a h2)
            · split at h2
              · omega
              · cases h2
          · cases h1
      · try dsimp only at h
        split at h
        · obtain ⟨d1, d2, d3, d4⟩ := S2.ou j a h
          exact ⟨d1, (dn a d2).2, d3, d4⟩
        · split at h
          · simp at h; subst h
            exact ⟨bp, c2, c3, _, e2, po⟩
          · cases h
  cases h2 with
  | un =>
    refine ⟨G.H0, Sub.refl _, r.drop, fun Δ2 σ2 H2 B2 sb r2 => ?_⟩
    have h3 := DR.hang (G := G) r2 (v := .non) (d := .non) .non
    have h4 := h3.wipe1 Δ2.length
    have hl2 : Δ2.length = σ2.length := by obtain ⟨fp2, S2⟩ := r2.sl; exact S2.len
    have e1 : (Δ2 ++ [Sl.im D.non]).set Δ2.length .un = Δ2 ++ [.un] := by simp
    have e2 : (σ2 ++ [some V.non]).set Δ2.length none = σ2 ++ [none] := by rw [hl2]; simp
    rw [e1, e2] at h4
    obtain ⟨fp4, S4⟩ := h4.sl
    refine ⟨h4.gr, fun j => if j < Δ2.length then fp4 j else [], by simp [hl2], fun j x ej => ?_, fun j k a h1 h2 => ?_, fun j a h => ?_⟩
    · by_cases hj : j < Δ2.length
      · rw [List.getElem?_append_left hj] at ej
        obtain ⟨w, q1, q2⟩ := S4.at_ j x (by rw [List.getElem?_append_left hj]; exact ej)
        rw [List.getElem?_append_left (by rw [← hl2]; exact hj)] at q1
        exact ⟨w, by rw [List.getElem?_append_left (by rw [← hl2]; exact hj)]; exact q1, by simp only [if_pos hj]; exact q2⟩
      · rw [List.getElem?_append_right (by omega)] at ej
        have z : j - Δ2.length = 0 := by
          cases h : j - Δ2.length with
          | zero => rfl
          | succ n => rw [h] at ej; simp at ej
        rw [z] at ej; simp at ej; subst ej
        exact ⟨_, by rw [List.getElem?_append_right (by rw [← hl2]; omega), ← hl2, z]; rfl, by simp only [if_neg hj]; exact .un _⟩
    · try dsimp only at h1 h2
      split at h1
      · split at h2
        · exact S4.dj _ _ a h1 h2
        · cases h2
      · cases h1
    · try dsimp only at h
      split at h
      · exact S4.ou _ a h
      · cases h
  | im d _ q => exact ⟨G.H0, Sub.refl _, r.drop, fun Δ2 σ2 H2 B2 sb r2 => DR.hang (G := G) r2 (q.mono sb)⟩
  | ol ds p vs e q => exact main p _ rfl rfl e True.intro fun B2 H2 sb e2 => .ol _ _ _ e2 (q.mono sb)
  | ok ds p vs e k q => exact main p _ rfl rfl e True.intro fun B2 H2 sb e2 => .ok _ _ _ e2 k (q.mono sb)
  | ot ds p vs e k q => exact main p _ rfl rfl e True.intro fun B2 H2 sb e2 => .ot _ _ _ e2 k (q.mono sb)
  | oi C ds p dx fs e k q => exact main p _ rfl rfl e True.intro fun B2 H2 sb e2 => .oi _ _ _ _ _ e2 k (q.mono sb)
abbrev DTMA := List Sl → (List Sl → List Sl → Prop) → EX → Prop
def upMA (G : Gx K) (t : DTMA) : TA := fun σ H Q => ∃ Δ B Qd, DR G Δ σ H B ∧ t Δ Qd G.Ed ∧ ∀ ss Δ' vs H' B', Qd ss Δ' → DR G (Δ' ++ ss.reverse) (σ ++ (vs.map some).reverse) H' B' → ss.length = vs.length → Sub B B' → Q vs H'
end
def dNilM : DTMA := fun Δ Q _ => Q [] Δ
def dConsM (t : DTM) (tr : DTMA) : DTMA := fun Δ Q E => t Δ (fun s Δ1 => tr Δ1 (fun ss Δ2 => Q (s :: ss) Δ2) E) E
section
variable {X : Cx} {G : Gx X.K} {pos : Pos}
theorem dma_nil : PA X [] (upMA G dNilM) := PA.imp pa_nil fun σ H Q ⟨Δ, B, Qd, r, q, k⟩ => k [] Δ [] H B q (by simpa using r) rfl (Sub.refl _)
theorem dma_cons {e : Expr} {es : List Expr} {t : DTM} {tr : DTMA} (ha : PE X e (upM G t)) (hr : ∀ (H0' : Hp) (hs : Sub G.H0 H0'), PA X es (upMA (G.more H0' hs) tr)) (hs : starEach (e :: es) X.env = (false, eval e X.env) :: starEach es X.env := by rfl) : PA X (e :: es) (upMA G (dConsM t tr)) :=
  PA.imp (pa_cons (t := fun σ H Q => ∃ H0' hs, upMA (G.more H0' hs) tr σ H Q) ha ⟨fun pos p s σ H Q I ⟨H0', hs, q⟩ => (hr H0' hs).run pos p s σ H Q I q⟩ hs) fun σ H Q ⟨Δ, B, Qd, r, q, k⟩ => ⟨Δ, B, _, r, q, fun s Δ1 v H1 B1 q1 r1 s1 => by
    obtain ⟨H0', hh, r2, back⟩ := r1.holdS
    refine ⟨H0', hh, Δ1, B1, _, r2, q1, fun ss Δ2 vs H2 B2 q2 r3 hl s2 => k (s :: ss) Δ2 (v :: vs) H2 B2 q2 ?_ (by simp [hl]) (s1.trans s2)⟩
    have r4 := back _ _ _ _ s2 r3
    simpa [List.append_assoc] using r4⟩
theorem set_app {α : Type} {xs ys : List α} {i : Nat} {x : α} (h : i < xs.length) : (xs ++ ys).set i x = xs.set i x ++ ys := by
  rw [List.set_append_left _ _ h]
def dPar2 (i j : Nat) (t : DTMA) : DTS := fun N Δ E => t Δ (fun ss Δ1 => ∃ s1 s2, ss = [s1, s2] ∧ i < Δ1.length ∧ j < Δ1.length ∧ N.nx ((Δ1.set i s1).set j s2)) E
def dPar3 (i j l : Nat) (t : DTMA) : DTS := fun N Δ E => t Δ (fun ss Δ1 => ∃ s1 s2 s3, ss = [s1, s2, s3] ∧ i < Δ1.length ∧ j < Δ1.length ∧ l < Δ1.length ∧ N.nx (((Δ1.set i s1).set j s2).set l s3)) E
theorem ds_par2 {i j : Nat} {x y : Str} {a b : Expr} {t : DTMA} {px py pt : Pos} {kt k2 pt2} (hc : X.calm = true) (hN : X.N.Nodup) (ha : PA X [a, b] (upMA G t)) (hi : X.N[i]? = some x := by rfl) (hj : X.N[j]? = some y := by rfl) (hij : i ≠ j := by decide)
    (hx : X.env.scope.names.lookup x = some .local := by rfl) (hy : X.env.scope.names.lookup y = some .local := by rfl)
    (hw : swappedStores [.Tuple [.Name x px, .Name y py] kt pt] (.Tuple [a, b] k2 pt2) X.env = pure (some [x, y]) := by rfl)
    (hs : swapsWithSole [.Tuple [.Name x px, .Name y py] kt pt] (.Tuple [a, b] k2 pt2) pos.line X.env = pure false := by rfl) :
    PS X (.Assign [.Tuple [.Name x px, .Name y py] kt pt] (.Tuple [a, b] k2 pt2) pos) (upS G (dPar2 i j t)) :=
  PS.imp (ps_par hc hN hi hj hij hx hy ha hw hs) fun N σ H ⟨Δ, B, M, r, q, k, _⟩ => ⟨Δ, B, _, r, q, fun ss Δ1 vs H1 B1 ⟨s1, s2, e, hi1, hj1, q1⟩ r1 hl s => by
    subst e
    match vs, hl with
    | [v1, v2], _ =>
      have hl1 : Δ1.length = σ.length := by obtain ⟨fp, S⟩ := r1.sl; have := S.len; simpa using this
      have r2 : DR G ((Δ1 ++ [s2]) ++ [s1]) ((σ ++ [some v2]) ++ [some v1]) H1 B1 := by simpa using r1
      have r3 := r2.move (i := i) (by simp; omega)
      rw [set_app hi1, set_app (by omega)] at r3
      exact ⟨v1, v2, rfl, k _ _ _ _ q1 (r3.move (i := j) (by simpa using hj1)) s⟩⟩
theorem ds_par3 {i j l : Nat} {x y z : Str} {a b c : Expr} {t : DTMA} {px py pz pt : Pos} {kt k2 pt2} (hc : X.calm = true) (hN : X.N.Nodup) (ha : PA X [a, b, c] (upMA G t)) (hi : X.N[i]? = some x := by rfl) (hj : X.N[j]? = some y := by rfl) (hl : X.N[l]? = some z := by rfl) (hij : i ≠ j := by decide) (hil : i ≠ l := by decide) (hjl : j ≠ l := by decide)
    (hx : X.env.scope.names.lookup x = some .local := by rfl) (hy : X.env.scope.names.lookup y = some .local := by rfl) (hz : X.env.scope.names.lookup z = some .local := by rfl)
    (hw : swappedStores [.Tuple [.Name x px, .Name y py, .Name z pz] kt pt] (.Tuple [a, b, c] k2 pt2) X.env = pure (some [x, y, z]) := by rfl)
    (hs : swapsWithSole [.Tuple [.Name x px, .Name y py, .Name z pz] kt pt] (.Tuple [a, b, c] k2 pt2) pos.line X.env = pure false := by rfl) :
    PS X (.Assign [.Tuple [.Name x px, .Name y py, .Name z pz] kt pt] (.Tuple [a, b, c] k2 pt2) pos) (upS G (dPar3 i j l t)) :=
  PS.imp (ps_par3 hc hN hi hj hl hij hil hjl hx hy hz ha hw hs) fun N σ H ⟨Δ, B, M, r, q, k, _⟩ => ⟨Δ, B, _, r, q, fun ss Δ1 vs H1 B1 ⟨s1, s2, s3, e, hi1, hj1, hl1, q1⟩ r1 hl s => by
    subst e
    match vs, hl with
    | [v1, v2, v3], _ =>
      have hl2 : Δ1.length = σ.length := by obtain ⟨fp, S⟩ := r1.sl; have := S.len; simpa using this
      have r2 : DR G ((Δ1 ++ [s3] ++ [s2]) ++ [s1]) ((σ ++ [some v3] ++ [some v2]) ++ [some v1]) H1 B1 := by simpa using r1
      have r3 := r2.move (i := i) (by simp; omega)
      rw [set_app (by simp; omega), set_app hi1, set_app (by simp; omega), set_app (by omega)] at r3
      have r4 := r3.move (i := j) (by simp; omega)
      rw [set_app (by simpa using hj1), set_app (by simp; omega)] at r4
      exact ⟨v1, v2, v3, rfl, k _ _ _ _ q1 (r4.move (i := l) (by simpa using hl1)) s⟩⟩
end
end DL
-- DLblt
set_option Elab.async false
set_option linter.all false
set_option maxRecDepth 100000
set_option maxHeartbeats 2000000
set_option autoImplicit false
namespace DL
open PySem PySem.Spec L2
open PyProof.Rows hiding St

/-! ### built-ins by name, over trees -/
def dBlt (rd : List D → (Sl → Prop) → Prop) (t : DTAO) : DTM := fun Δ Q E => t Δ (fun os Δ1 => ∃ ds, os.map (res Δ1) = ds.map some ∧ rd ds fun s => Q s Δ1) E
inductive RpHs {K : PySem.W.Frag} (W : Wd K) (B H : Hp) : List V → List D → Prop
  | nil : RpHs W B H [] []
  | cons (v : V) (d : D) (vs : List V) (ds : List D) : RpH W B H v d → RpHs W B H vs ds → RpHs W B H (v :: vs) (d :: ds)
def RcM {K : PySem.W.Frag} (W : Wd K) (r : List V → Hp → VK → Prop) (rd : List D → (Sl → Prop) → Prop) : Prop := ∀ (H0 B0 H B : Hp) (vs : List V) (ds : List D) (Qd : Sl → Prop) (Q : VK), Grow W H0 B0 H B → RpHs W B H vs ds → rd ds Qd →
  (∀ s v H' B', Qd s → NewV W H B H' B' s v → Q v H') → r vs H Q
section
variable {X : Cx} {G : Gx X.K} {pos : Pos}
theorem rps_of {Δ : List Sl} {σ : L2.St} {H B : Hp} (r : DR G Δ σ H B) : ∀ {os : List Od} {vs : List V} {ds : List D}, Paired (OdV G.W B σ) os vs → os.map (res Δ) = ds.map some → RpHs G.W B H vs ds
  | [], _, [], .nil, _ => .nil
  | [], _, _ :: _, .nil, e => by simp at e
  | _ :: _, _, [], .cons _ _, e => by simp at e
  | o :: os, _, d :: ds, .cons a b, e => by
    have e2 : res Δ o = some d ∧ os.map (res Δ) = ds.map some := by simpa using e
    exact .cons _ _ _ _ (OdV.res r a e2.1) (rps_of r b e2.2)
theorem dm_callB {x : Str} {p : Pos} {e : Expr} {es : List Expr} {id : String} {r : List V → Hp → VK → Prop} {rd : List D → (Sl → Prop) → Prop} {ta : DTAO} (hc : CallR X (.builtin id) r) (hr : RcM G.W r rd) (hg : Gl X x) (hm : X.mg x = none) (hv : bootBuiltins x = some (.builtin id)) (ha : PA X (e :: es) (upAO G ta))
    (hn : x ≠ "__name__" := by decide) (hdb : (x == ("__debug__" : Str)) = false := by decide)
    (he : starEach (e :: es) X.env = (false, eval e X.env) :: starEach es X.env := by rfl) (hpl : (backTo pos (starEach es X.env)).any (·.1) = false := by rfl) : PE X (.Call (.Name x p) (e :: es) [] pos) (upM G (dBlt rd ta)) :=
  PE.imp (pe_callB hc hg hm hv ha hn hdb he hpl) fun σ H Q ⟨Δ, B, Qd, r1, q, k⟩ => ⟨Δ, B, _, r1, q, fun os Δ1 vs H1 B1 ⟨ds, e, q1⟩ r1 s1 rps =>
    hr _ _ _ _ _ _ _ _ r1.gr (rps_of r1 rps e) q1 fun s v H' B' qd n => k _ _ _ _ _ qd (r1.hangS n) (s1.trans n.gr.bas)⟩
theorem dm_callTy {x : Str} {p : Pos} {e : Expr} {es : List Expr} {T : String} {r : List V → Hp → VK → Prop} {rd : List D → (Sl → Prop) → Prop} {ta : DTAO} (hc : CallR X (.type T) r) (hr : RcM G.W r rd) (hg : Gl X x) (hm : X.mg x = none) (hv : bootBuiltins x = some (.type T)) (ha : PA X (e :: es) (upAO G ta))
    (hn : x ≠ "__name__" := by decide) (hdb : (x == ("__debug__" : Str)) = false := by decide)
    (he : starEach (e :: es) X.env = (false, eval e X.env) :: starEach es X.env := by rfl) (hpl : (backTo pos (starEach es X.env)).any (·.1) = false := by rfl) : PE X (.Call (.Name x p) (e :: es) [] pos) (upM G (dBlt rd ta)) :=
  PE.imp (pe_callTy hc hg hm hv ha hn hdb he hpl) fun σ H Q ⟨Δ, B, Qd, r1, q, k⟩ => ⟨Δ, B, _, r1, q, fun os Δ1 vs H1 B1 ⟨ds, e, q1⟩ r1 s1 rps =>
    hr _ _ _ _ _ _ _ _ r1.gr (rps_of r1 rps e) q1 fun s v H' B' qd n => k _ _ _ _ _ qd (r1.hangS n) (s1.trans n.gr.bas)⟩
abbrev orC (r r' : List V → Hp → VK → Prop) : List V → Hp → VK → Prop := fun vs H Q => r vs H Q ∨ r' vs H Q
theorem CallR.or {f : Value} {r r' : List V → Hp → VK → Prop} (h : CallR X f r) (g : CallR X f r') : CallR X f (orC r r') := fun p s σ H vs us Q I rv q => q.elim (h p s σ H vs us Q I rv) (g p s σ H vs us Q I rv)
end
section
variable {K : PySem.W.Frag} {W : Wd K} {B H : Hp} {v : V} {vs : List V}
theorem RpHs.one {d : D} (h : RpHs W B H vs [d]) : ∃ v, vs = [v] ∧ RpH W B H v d := by
  cases h with | cons v _ _ _ a b => cases b; exact ⟨v, rfl, a⟩
theorem RpHs.two {d e : D} (h : RpHs W B H vs [d, e]) : ∃ v w, vs = [v, w] ∧ RpH W B H v d ∧ RpH W B H w e := by
  cases h with | cons v _ _ _ a b => obtain ⟨w, rfl, c⟩ := b.one; exact ⟨v, w, rfl, a, c⟩
end
/-! ### len -/
def rdLen : List D → (Sl → Prop) → Prop
  | [.lst xs], Q => Q (.im (.int xs.length))
  | [.tup xs], Q => Q (.im (.int xs.length))
  | [.wt xs], Q => Q (.im (.int xs.length))
  | [.scr xs], Q => Q (.im (.int xs.length))
  | [.dk kvs], Q => Q (.im (.int kvs.length))
  | [.str x], Q => x.length ≤ sizeLine ∧ Q (.im (.int x.length))
  | _, _ => False
section
variable {X : Cx}
def rLen2 (K : PySem.W.Frag) : List V → Hp → VK → Prop := orC (fun xs H Q => ∃ x n, xs = [x] ∧ LenV K x H n ∧ Q (.int n) H) (fun xs H Q => ∃ (a : Addr) (kvs : List (Key × V)), xs = [.ref a] ∧ H a = some (.dK kvs) ∧ Q (.int kvs.length) H)
theorem call_len2 : CallR X (.builtin "len") (rLen2 X.K) := CallR.or call_len call_lenD
variable {W : Wd X.K}
theorem rc_len : RcM W (rLen2 X.K) rdLen := by
  intro H0 B0 H B vs ds Qd Q g r h k
  unfold rdLen at h
  split at h
  · obtain ⟨v, rfl, a⟩ := r.one
    obtain ⟨p, ws, rfl, e, q⟩ := a.lst g.sb
    exact .inl ⟨_, _, rfl, .inl ⟨ws, .of e, q.length.symm⟩, k _ _ _ _ h (.clean g (.int _))⟩
  · obtain ⟨v, rfl, a⟩ := r.one
    obtain ⟨p, ws, rfl, e, q⟩ := a.tup g.sb
    exact .inl ⟨_, _, rfl, .inr ⟨ws, .of e, q.length.symm⟩, k _ _ _ _ h (.clean g (.int _))⟩
  · obtain ⟨v, rfl, a⟩ := r.one
    obtain ⟨p, ws, rfl, e, q⟩ := a.wt g.sb
    exact .inl ⟨_, _, rfl, .inr ⟨ws, e, q.length.symm⟩, k _ _ _ _ h (.clean g (.int _))⟩
  · obtain ⟨v, rfl, a⟩ := r.one
    obtain ⟨p, ws, rfl, e, q⟩ := a.scr g.sb
    exact .inl ⟨_, _, rfl, .inl ⟨ws, e, by rw [q, List.length_map]⟩, k _ _ _ _ h (.clean g (.int _))⟩
  · obtain ⟨v, rfl, a⟩ := r.one
    obtain ⟨p, ws, rfl, e, q1, q2⟩ := a.dk g.sb
    have hl := congrArg List.length q1
    rw [List.length_map, List.length_map] at hl
    refine .inr ⟨_, ws, rfl, e, ?_⟩
    rw [hl]; exact k _ _ _ _ h (.clean g (.int _))
  · obtain ⟨v, rfl, a⟩ := r.one
    obtain rfl := a.str
    exact .inl ⟨_, _, rfl, ⟨h.1, rfl⟩, k _ _ _ _ h.2 (.clean g (.int _))⟩
  · exact h.elim
/-! ### min, max, abs, int -/
def rdMin2 : List D → (Sl → Prop) → Prop
  | [.int i, .int j], Q => Q (.im (.int (if j < i then j else i)))
  | _, _ => False
def rdMax2 : List D → (Sl → Prop) → Prop
  | [.int i, .int j], Q => Q (.im (.int (if j > i then j else i)))
  | _, _ => False
theorem rc_min2 : RcM W (fun xs H Q => ∃ i j, xs = [.int i, .int j] ∧ Q (.int (if j < i then j else i)) H) rdMin2 := by
  intro H0 B0 H B vs ds Qd Q g r h k
  unfold rdMin2 at h
  split at h
  · obtain ⟨v, w, rfl, a, b⟩ := r.two
    obtain rfl := a.int; obtain rfl := b.int
    exact ⟨_, _, rfl, k _ _ _ _ h (.clean g (.int _))⟩
  · exact h.elim
theorem rc_max2 : RcM W (fun xs H Q => ∃ i j, xs = [.int i, .int j] ∧ Q (.int (if j > i then j else i)) H) rdMax2 := by
  intro H0 B0 H B vs ds Qd Q g r h k
  unfold rdMax2 at h
  split at h
  · obtain ⟨v, w, rfl, a, b⟩ := r.two
    obtain rfl := a.int; obtain rfl := b.int
    exact ⟨_, _, rfl, k _ _ _ _ h (.clean g (.int _))⟩
  · exact h.elim
def rdAbs : List D → (Sl → Prop) → Prop
  | [.int i], Q => Q (.im (.int (if i < 0 then -i else i)))
  | _, _ => False
theorem rc_abs : RcM W (fun xs H Q => ∃ i, xs = [.int i] ∧ Q (.int (if i < 0 then -i else i)) H) rdAbs := by
  intro H0 B0 H B vs ds Qd Q g r h k
  unfold rdAbs at h
  split at h
  · obtain ⟨v, rfl, a⟩ := r.one
    obtain rfl := a.int
    exact ⟨_, rfl, k _ _ _ _ h (.clean g (.int _))⟩
  · exact h.elim
def rdInt : List D → (Sl → Prop) → Prop
  | [.int i], Q => Q (.im (.int i))
  | [.bl b], Q => Q (.im (.int (if b then 1 else 0)))
  | _, _ => False
theorem rc_int : RcM W (fun xs H Q => (∃ i, xs = [.int i] ∧ Q (.int i) H) ∨ ∃ k, xs = [.bl k] ∧ Q (.int (if k then 1 else 0)) H) rdInt := by
  intro H0 B0 H B vs ds Qd Q g r h k
  unfold rdInt at h
  split at h
  · obtain ⟨v, rfl, a⟩ := r.one
    obtain rfl := a.int
    exact .inl ⟨_, rfl, k _ _ _ _ h (.clean g (.int _))⟩
  · obtain ⟨v, rfl, a⟩ := r.one
    obtain rfl := a.bl
    exact .inr ⟨_, rfl, k _ _ _ _ h (.clean g (.int _))⟩
  · exact h.elim
/-! ### tuple, list -/
def rdTuple : List D → (Sl → Prop) → Prop
  | [.lst xs], Q => Q (.im (.tup xs))
  | [.tup xs], Q => Q (.im (.tup xs))
  | _, _ => False
theorem rc_tuple : RcM W (fun xs H Q => ∃ p ys, xs = [.ref p] ∧ ((SqL X.K H p ys ∧ ∀ l, H l = none → Q (.ref l) (upd H l (.tup ys))) ∨ (SqT X.K H p ys ∧ Q (.ref p) H))) rdTuple := by
  intro H0 B0 H B vs ds Qd Q g r h k
  unfold rdTuple at h
  split at h
  · obtain ⟨v, rfl, a⟩ := r.one
    obtain ⟨p, ws, rfl, e, q⟩ := a.lst g.sb
    exact ⟨p, ws, rfl, .inl ⟨.of e, fun l hl => k _ _ _ _ h (.tup g hl q)⟩⟩
  · obtain ⟨v, rfl, a⟩ := r.one
    obtain ⟨p, ws, rfl, e, q⟩ := a.tup g.sb
    exact ⟨p, ws, rfl, .inr ⟨.of e, k _ _ _ _ h (.clean g (a.rp rfl))⟩⟩
  · exact h.elim
def rdList : List D → (Sl → Prop) → Prop
  | [.lst xs], Q => Q (.ol xs)
  | [.tup xs], Q => Q (.ol xs)
  | [.wt xs], Q => Q (.ol xs)
  | _, _ => False
theorem rc_list : RcM W (fun xs H Q => ∃ p ys, xs = [.ref p] ∧ (SqL X.K H p ys ∨ SqT X.K H p ys) ∧ ∀ l, H l = none → Q (.ref l) (upd H l (.lst ys))) rdList := by
  intro H0 B0 H B vs ds Qd Q g r h k
  unfold rdList at h
  split at h
  · obtain ⟨v, rfl, a⟩ := r.one
    obtain ⟨p, ws, rfl, e, q⟩ := a.lst g.sb
    exact ⟨p, ws, rfl, .inl (.of e), fun l hl => k _ _ _ _ h (.lst g hl q)⟩
  · obtain ⟨v, rfl, a⟩ := r.one
    obtain ⟨p, ws, rfl, e, q⟩ := a.tup g.sb
    exact ⟨p, ws, rfl, .inr (.of e), fun l hl => k _ _ _ _ h (.lst g hl q)⟩
  · obtain ⟨v, rfl, a⟩ := r.one
    obtain ⟨p, ws, rfl, e, q⟩ := a.wt g.sb
    exact ⟨p, ws, rfl, .inr e, fun l hl => k _ _ _ _ h (.lst g hl q)⟩
  · exact h.elim
/-! ### lists of ints, of truths -/
theorem Rps.ints_inv {K : PySem.W.Frag} {W : Wd K} {B : Hp} : ∀ {ns : List Int} {vs : List V}, Rps W B vs (ns.map D.int) → vs = ns.map V.int
  | [], _, h => by cases h; rfl
  | n :: ns, _, h => by cases h with | cons _ _ _ _ a b => cases a; rw [Rps.ints_inv b]; rfl
theorem Rps.bls_inv {K : PySem.W.Frag} {W : Wd K} {B : Hp} : ∀ {ns : List Bool} {vs : List V}, Rps W B vs (ns.map D.bl) → vs = ns.map V.bl
  | [], _, h => by cases h; rfl
  | n :: ns, _, h => by cases h with | cons _ _ _ _ a b => cases a; rw [Rps.bls_inv b]; rfl
theorem Rps.intsOf {K : PySem.W.Frag} {W : Wd K} {B : Hp} : ∀ ns : List Int, Rps W B (ns.map V.int) (ns.map D.int)
  | [] => .nil
  | n :: ns => .cons _ _ _ _ (.int n) (Rps.intsOf ns)
def rdSum : List D → (Sl → Prop) → Prop
  | [.lst xs], Q => ∃ ns : List Int, xs = ns.map D.int ∧ Q (.im (.int ns.sum))
  | _, _ => False
theorem rc_sum : RcM W (rSum X.K) rdSum := by
  intro H0 B0 H B vs ds Qd Q g r h k
  unfold rdSum at h
  split at h
  · obtain ⟨ns, rfl, h⟩ := h
    obtain ⟨v, rfl, a⟩ := r.one
    obtain ⟨p, ws, rfl, e, q⟩ := a.lst g.sb
    exact ⟨p, ns, rfl, .of (by rw [e, q.ints_inv]), k _ _ _ _ h (.clean g (.int _))⟩
  · exact h.elim
def rdAll : List D → (Sl → Prop) → Prop
  | [.lst xs], Q => ∃ ns : List Bool, xs = ns.map D.bl ∧ Q (.im (.bl (ns.all id)))
  | _, _ => False
theorem rc_all : RcM W (rAll X.K) rdAll := by
  intro H0 B0 H B vs ds Qd Q g r h k
  unfold rdAll at h
  split at h
  · obtain ⟨ns, rfl, h⟩ := h
    obtain ⟨v, rfl, a⟩ := r.one
    obtain ⟨p, ws, rfl, e, q⟩ := a.lst g.sb
    exact ⟨p, ns, rfl, .of (by rw [e, q.bls_inv]), k _ _ _ _ h (.clean g (.bl _))⟩
  · exact h.elim
def rdAny : List D → (Sl → Prop) → Prop
  | [.lst xs], Q => ∃ ns : List Bool, xs = ns.map D.bl ∧ Q (.im (.bl (ns.any id)))
  | _, _ => False
theorem rc_any : RcM W (rAny X.K) rdAny := by
  intro H0 B0 H B vs ds Qd Q g r h k
  unfold rdAny at h
  split at h
  · obtain ⟨ns, rfl, h⟩ := h
    obtain ⟨v, rfl, a⟩ := r.one
    obtain ⟨p, ws, rfl, e, q⟩ := a.lst g.sb
    exact ⟨p, ns, rfl, .of (by rw [e, q.bls_inv]), k _ _ _ _ h (.clean g (.bl _))⟩
  · exact h.elim
def rdSortI : List D → (Sl → Prop) → Prop
  | [.lst xs], Q => ∃ ns : List Int, xs = ns.map D.int ∧ ∀ ns' : List Int, ns'.Perm ns → ns'.Pairwise (· ≤ ·) → Q (.ol (ns'.map D.int))
  | _, _ => False
theorem rc_sortI : RcM W (rSortedI X.K) rdSortI := by
  intro H0 B0 H B vs ds Qd Q g r h k
  unfold rdSortI at h
  split at h
  · obtain ⟨ns, rfl, h⟩ := h
    obtain ⟨v, rfl, a⟩ := r.one
    obtain ⟨p, ws, rfl, e, q⟩ := a.lst g.sb
    exact ⟨p, ns, rfl, .of (by rw [e, q.ints_inv]), fun ns' l h1 h2 hl => k _ _ _ _ (h ns' h1 h2) (.lst g hl (Rps.intsOf ns'))⟩
  · exact h.elim
/-! ### isinstance: of a type, of a class -/
def tyN : D → Option String
  | .non => some "NoneType"
  | .bl _ => some "bool"
  | .int _ => some "int"
  | .str _ => some "str"
  | .lst _ => some "list"
  | .tup _ => some "tuple"
  | .dk _ => some "dict"
  | .dt _ => some "dict"
  | _ => none
theorem RpH.tyX {K : PySem.W.Frag} {W : Wd K} {B H : Hp} {v : V} {d : D} {n : String} (h : RpH W B H v d) (sb : Sub B H) (e : tyN d = some n) : TyX K H v (.type n) := by
  cases d <;> simp only [tyN, Option.some.injEq, reduceCtorEq] at e
  case non => subst e; obtain rfl := h.non; exact .base .non
  case bl => subst e; obtain rfl := h.bl; exact .base (.bl _)
  case int => subst e; obtain rfl := h.int; exact .base (.int _)
  case str => subst e; obtain rfl := h.str; exact .base (.str _)
  case lst => subst e; obtain ⟨a, vs, rfl, e, _⟩ := h.lst sb; exact .base (.lst e)
  case tup => subst e; obtain ⟨a, vs, rfl, e, _⟩ := h.tup sb; exact .base (.tup e)
  case dk =>
    subst e; obtain ⟨a, vs, rfl, e, _⟩ := h.dk sb; exact .base (.dK e)
  case dt =>
    subst e; obtain ⟨a, vs, rfl, e, _⟩ := h.dt sb; exact .base (.dT e)
def rdIsi : List D → (Sl → Prop) → Prop
  | [d, .ty T], Q => ∃ n b, tyN d = some n ∧ kitB n T = some b ∧ Q (.im (.bl b))
  | _, _ => False
theorem RpH.ty {K : PySem.W.Frag} {W : Wd K} {B H : Hp} {v : V} {n : String} (h : RpH W B H v (.ty n)) : v = .ty n := by cases h.rp rfl; rfl
theorem rc_isi : RcM W (rIsi X.K) rdIsi := by
  intro H0 B0 H B vs ds Qd Q g r h k
  unfold rdIsi at h
  split at h
  · obtain ⟨n, b, e1, e2, h⟩ := h
    obtain ⟨v, w, rfl, a, c⟩ := r.two
    obtain rfl := c.ty
    exact ⟨v, _, _, _, b, rfl, .ty _, a.tyX g.sb e1, kit_ty e2, k _ _ _ _ h (.clean g (.bl _))⟩
  · exact h.elim
end
end DL
-- DLmore
set_option Elab.async false
set_option linter.all false
set_option maxRecDepth 100000
set_option maxHeartbeats 2000000
set_option autoImplicit false
namespace DL
open PySem PySem.Spec L2
open PyProof.Rows hiding St

section
variable {X : Cx} {G : Gx X.K} {pos : Pos}
/-! ### -n -/
def dNeg (t : DTO) : DTE := fun Δ Q E => t Δ (fun x Δ1 => ∃ i, res Δ1 x = some (.int i) ∧ Q (.int (-i)) Δ1) E
theorem de_neg {a : Expr} {t : DTO} (ha : PE X a (upO G t)) : PE X (.UnaryOp .USub a pos) (upE G (dNeg t)) :=
  PE.imp (pe_un un_neg ha) fun σ H Q ⟨Δ, B, Qd, r, q, k⟩ => ⟨Δ, B, _, r, q, fun o Δ1 v H1 B1 ⟨i, e, q1⟩ r1 s1 p1 => ⟨i, (p1.res r1 e).int, k _ _ _ _ _ q1 r1 s1 (.int _)⟩⟩
/-! ### a if t else b, of ours -/
def dIfM (t : DTT) (ta tb : DTM) : DTM := fun Δ Q E => t Δ (fun c Δ1 => if c = true then ta Δ1 Q E else tb Δ1 Q E) E
theorem dm_if {c a b : Expr} {tc : DTT} {ta tb : DTM} (hc : PT X c (upT G tc)) (ha : PE X a (upM G ta)) (hb : PE X b (upM G tb)) : PE X (.IfExp c a b pos) (upM G (dIfM tc ta tb)) :=
  PE.imp (pe_ifExp hc ha hb) fun σ H Q ⟨Δ, B, Qd, r1, q, k⟩ => ⟨Δ, B, _, r1, q, fun bb Δ1 H1 B1 q1 r1 s1 => by
    cases bb with
    | true => exact ⟨Δ1, B1, _, r1, q1, fun s Δ2 v2 H2 B2 q2 r2 s2 => k _ _ _ _ _ q2 r2 (s1.trans s2)⟩
    | false => exact ⟨Δ1, B1, _, r1, q1, fun s Δ2 v2 H2 B2 q2 r2 s2 => k _ _ _ _ _ q2 r2 (s1.trans s2)⟩⟩
/-! ### in -/
def rInDct : R2 := fun x y H Q => ∃ a o, y = .ref a ∧ DGet H a x o ∧ Q (.bl o.isSome) H
def rNotInDct : R2 := fun x y H Q => ∃ a o, y = .ref a ∧ DGet H a x o ∧ Q (.bl (!o.isSome)) H
theorem op_inDct (hu : X.A.units + 1 < cLine) : OpR X (compareOp .In) rInDct := by
  intro pins s σ H x y v u Q I rx ry ⟨a, o, ey, g, q⟩
  subst ey
  obtain rfl : u = Value.ref a := ry
  exact d_in hu I g rx fun s3 I3 => ⟨.bl o.isSome, H, I3, rfl, q⟩
theorem op_notInDct (hu : X.A.units + 1 < cLine) : OpR X (compareOp .NotIn) rNotInDct := by
  intro pins s σ H x y v u Q I rx ry ⟨a, o, ey, g, q⟩
  subst ey
  obtain rfl : u = Value.ref a := ry
  exact d_notIn hu I g rx fun s3 I3 => ⟨.bl (!o.isSome), H, I3, rfl, q⟩
/-- in a list: by ==; in a tuple: flat things alone -/
def rdIn : D → D → (Bool → Prop) → Prop
  | x, .dk kvs, Q => ∃ y, x.key = some y ∧ Q (val kvs y).isSome
  | x, .dt kvs, Q => ∃ y, x.keyT = some y ∧ Q (val kvs y).isSome
  | x, .lst ys, Q => OkEq x ∧ OkEq (.lst ys) ∧ Q (ys.any fun z => eqD z x)
  | _, _, _ => False
def rIn3 (K : PySem.W.Frag) : R2 := orR rInDct (rInD K)
def rNotIn3 (K : PySem.W.Frag) : R2 := orR rNotInDct (rNotInD K)
theorem op_in3 (hu : X.A.units + 65 < cLine) : OpR X (compareOp .In) (rIn3 X.K) := (op_inDct (by omega)).or (op_inD hu)
theorem op_notIn3 (hu : X.A.units + 65 < cLine) : OpR X (compareOp .NotIn) (rNotIn3 X.K) := (op_notInDct (by omega)).or (op_notInD hu)
theorem find_isSome {K : PySem.W.Frag} {W : Wd K} {B : Hp} {κ : Type} [DecidableEq κ] {kvs : List (κ × V)} {ds : List (κ × D)} (h : kvs.map (·.1) = ds.map (·.1)) (r : Rps W B (kvs.map (·.2)) (ds.map (·.2))) (y : κ) : (valV kvs y).isSome = (val ds y).isSome := by
  have t := find_pair h r y
  cases hv : val ds y with
  | none => rw [t.2 hv]; rfl
  | some d =>
    obtain ⟨v, hv2, _⟩ := t.1 d hv
    rw [hv2]; rfl
theorem toPys_map : ∀ ys : List D, toPys ys = ys.map toPy
  | [] => rfl
  | y :: ys => by unfold toPys; rw [toPys_map ys]; rfl
theorem r2_in {W : Wd X.K} : R2B W (rIn3 X.K) rdIn := by
  intro H0 B0 H B x y dx dy Qd Q g rx ry h k
  unfold rdIn at h
  split at h
  · obtain ⟨y, e, h⟩ := h
    obtain ⟨a, kvs, rfl, e1, e2, q⟩ := ry.dk g.sb
    have hy := key_inv (rx.rp (D.key_flat e)) e
    refine .inl ⟨a, valV kvs y, rfl, .inl ⟨kvs, y, .inl e1, hy, rfl⟩, ?_⟩
    rw [find_isSome e2 q y]; exact k _ h
  · obtain ⟨y, e, h⟩ := h
    obtain ⟨a, kvs, rfl, e1, e2, q⟩ := ry.dt g.sb
    obtain ⟨b, rfl, hb⟩ := keyT_inv (rx.rp (D.keyT_flat e)) e
    refine .inl ⟨a, valV kvs y, rfl, .inr ⟨kvs, y, b, .inl e1, rfl, g.sb _ _ hb, rfl⟩, ?_⟩
    rw [find_isSome e2 q y]; exact k _ h
  · obtain ⟨⟨p1, s1⟩, ⟨p2, s2⟩, h⟩ := h
    have hd := ry.dp g.sb p2
    simp only [toPy] at hd s2
    refine .inr ⟨_, _, rx.dp g.sb p1, hd, s1, s2, ?_⟩
    rw [toPys_map, List.any_map]
    exact k _ h
  · exact h.elim
def rdNotIn : D → D → (Bool → Prop) → Prop := fun x y Q => rdIn x y fun b => Q (!b)
theorem r2_notIn {W : Wd X.K} : R2B W (rNotIn3 X.K) rdNotIn := by
  intro H0 B0 H B x y dx dy Qd Q g rx ry h k
  unfold rdNotIn rdIn at h
  split at h
  · obtain ⟨y, e, h⟩ := h
    obtain ⟨a, kvs, rfl, e1, e2, q⟩ := ry.dk g.sb
    have hy := key_inv (rx.rp (D.key_flat e)) e
    refine .inl ⟨a, valV kvs y, rfl, .inl ⟨kvs, y, .inl e1, hy, rfl⟩, ?_⟩
    rw [find_isSome e2 q y]; exact k _ h
  · obtain ⟨y, e, h⟩ := h
    obtain ⟨a, kvs, rfl, e1, e2, q⟩ := ry.dt g.sb
    obtain ⟨b, rfl, hb⟩ := keyT_inv (rx.rp (D.keyT_flat e)) e
    refine .inl ⟨a, valV kvs y, rfl, .inr ⟨kvs, y, b, .inl e1, rfl, g.sb _ _ hb, rfl⟩, ?_⟩
    rw [find_isSome e2 q y]; exact k _ h
  · obtain ⟨⟨p1, s1⟩, ⟨p2, s2⟩, h⟩ := h
    have hd := ry.dp g.sb p2
    simp only [toPy] at hd s2
    refine .inr ⟨_, _, rx.dp g.sb p1, hd, s1, s2, ?_⟩
    rw [toPys_map, List.any_map]
    exact k _ h
  · exact h.elim
/-! ### f(k = v, ..) -/
def dFnK (sp : SpD) (gD : List D → List D → List D) (t tk : DTA) : DTE := fun Δ Q E => t Δ (fun ds Δ1 => tk Δ1 (fun es Δ2 => sp (gD ds es) (fun d => Q d Δ2) E) E) E
def dFn (sp : SpD) (t : DTA) : DTE := fun Δ Q E => t Δ (fun ds Δ1 => sp ds (fun d => Q d Δ1) E) E
theorem de_fn {CX : CXT} {k : Nat} {f : Addr} {fd : FuncData} {ps : List Str} {sp : SpD} {x : Str} {p : Pos} {e : Expr} {es : List Expr} {ta : DTA} (F : FnOk X.prog X.w X.K X.mg X.base CX k f fd ps (upSp G.W sp)) (hr : Room k X.A) (hm : X.mg x = some (.ref f))
    (hk : PySem.W.keepIn X.K (.ref f) = true) (hb : Binds X.K fd ps []) (hx : Passes CX X G.E) (ha : PA X (e :: es) (upA G ta)) (hg : Gl X x := by rfl) (hdb : (x == ("__debug__" : Str)) = false := by decide)
    (he : starEach (e :: es) X.env = (false, eval e X.env) :: starEach es X.env := by rfl) (hpl : (backTo pos (starEach es X.env)).any (·.1) = false := by rfl) : PE X (.Call (.Name x p) (e :: es) [] pos) (upE G (DL.dFn sp ta)) :=
  PE.imp (pe_call F hr hg hm hk hb .nil hx ha hdb he hpl) fun σ H Q ⟨Δ, B, Qd, r1, q, k⟩ => ⟨Δ, B, _, r1, q, fun ds Δ1 vs H1 B1 q1 r1 s1 rps => by
    show upSp G.W sp (vs ++ []) H1 Q G.E
    rw [List.append_nil]
    exact up_sp r1 rps q1 fun d v H' B' q r' s rp => k _ _ _ _ _ q r' (s1.trans s) rp⟩
theorem de_fn0 {CX : CXT} {k : Nat} {f : Addr} {fd : FuncData} {ps : List Str} {sp : SpD} {x : Str} {p : Pos} (F : FnOk X.prog X.w X.K X.mg X.base CX k f fd ps (upSp G.W sp)) (hr : Room k X.A) (hm : X.mg x = some (.ref f))
    (hk : PySem.W.keepIn X.K (.ref f) = true) (hb : Binds X.K fd ps []) (hx : Passes CX X G.E) (hg : Gl X x := by rfl) (hdb : (x == ("__debug__" : Str)) = false := by decide) : PE X (.Call (.Name x p) [] [] pos) (upE G (DL.dFn sp dNil)) :=
  PE.imp (pe_call0 F hr hg hm hk hb .nil hx hdb) fun σ H Q ⟨Δ, B, Qd, r1, q, k⟩ => up_sp r1 .nil q fun d v H' B' q r' s rp => k _ _ _ _ _ q r' s rp
/-- f(k = v, ..), all by keywords or the first ones by place -/
theorem de_fnK {CX : CXT} {k : Nat} {f : Addr} {fd : FuncData} {ps ks : List Str} {sp : SpD} {x : Str} {p : Pos} {e : Expr} {es : List Expr} {kws : List Keyword} {t tk : DTA} {g : List Value → List Value → List Value} {gV : List V → List V → List V} {gD : List D → List D → List D}
    (F : FnOk X.prog X.w X.K X.mg X.base CX k f fd ps (upSp G.W sp)) (hr : Room k X.A) (hm : X.mg x = some (.ref f)) (hk : PySem.W.keepIn X.K (.ref f) = true) (hb : KBinds X.K fd ps ks g gV) (hgD : ∀ B vs ds ws es, Rps G.W B vs ds → Rps G.W B ws es → Rps G.W B (gV vs ws) (gD ds es)) (hx : Passes CX X G.E)
    (ha : PA X (e :: es) (upA G t)) (hkw : PK X kws (upA G tk)) (hg : Gl X x := by rfl) (hall : (backToKw pos (keywordEach kws X.env)).all (·.1.isSome) = true := by rfl) (hks : (backToKw pos (keywordEach kws X.env)).filterMap (·.1) = ks := by rfl)
    (hdb : (x == ("__debug__" : Str)) = false := by decide) (he : starEach (e :: es) X.env = (false, eval e X.env) :: starEach es X.env := by rfl)
    (hpl : ((backTo pos (starEach (e :: es) X.env)).any (·.1) || (backToKw pos (keywordEach kws X.env)).any (·.1.isNone)) = false := by rfl) : PE X (.Call (.Name x p) (e :: es) kws pos) (upE G (dFnK sp gD t tk)) :=
  PE.imp (pe_callKs F hr hg hm hk hb hx ha hkw hall hks hdb he hpl) fun σ H Q ⟨Δ, B, Qd, r1, q, k⟩ => ⟨Δ, B, _, r1, q, fun ds Δ1 vs H1 B1 q1 r1 s1 rps => ⟨Δ1, B1, _, r1, q1, fun es Δ2 ws H2 B2 q2 r2 s2 rqs =>
    up_sp r2 (hgD _ _ _ _ _ (rps.mono s2) rqs) q2 fun d v H' B' q r' s rp => k _ _ _ _ _ q r' ((s1.trans s2).trans s) rp⟩⟩
theorem PK.imp {e : List Keyword} {t u : TA} (h : PK X e t) (i : ∀ σ H Q, u σ H Q → t σ H Q) : PK X e u := ⟨fun w p s σ H Q I q => h.run w p s σ H Q I (i σ H Q q)⟩
theorem dk_nil : PK X [] (upA G dNil) := PK.imp pk_nil fun σ H Q ⟨Δ, B, Qd, r1, q, k⟩ => k _ _ _ _ _ q r1 (Sub.refl _) .nil
theorem dk_cons {nm : Option Str} {e : Expr} {kpos : Pos} {kws : List Keyword} {ta : DTE} {tr : DTA} (ha : PE X e (upE G ta)) (hr : PK X kws (upA G tr)) : PK X (⟨nm, e, kpos⟩ :: kws) (upA G (dCons ta tr)) :=
  PK.imp (pk_cons ha hr) fun σ H Q ⟨Δ, B, Qd, r1, q, k⟩ => ⟨Δ, B, _, r1, q, fun d Δ1 v H1 B1 q1 r1 s1 rp => ⟨Δ1, B1, _, r1, q1, fun ds Δ2 vs H2 B2 q2 r2 s2 rps => k _ _ _ _ _ q2 r2 (s1.trans s2) (.cons _ _ _ _ (rp.mono s2) rps)⟩⟩

/-! ### C(..): a new object by its __init__ -/
/-- what an __init__ makes of its arguments: the object's fields -/
abbrev SpI := List D → (List (Str × D) → Prop) → EX → Prop
def without (H : Hp) (a : Addr) : Hp := fun b => if b = a then none else H b
def upSpI {K : PySem.W.Frag} (W : Wd K) (C : Addr) (sp : SpI) : Sp := fun vs H Q E => ∃ a dx vs' B ds Qd Ed, vs = .ref a :: vs' ∧ H a = some (.ins C dx []) ∧ ¬ W.fv a ∧ Grow W (without H a) B H B ∧ B a = none ∧ Rps W B vs' ds ∧ sp ds Qd Ed ∧
  (∀ dx' fs fsD H' B', Qd fsD → H' a = some (.ins C dx' fs) → fs.map (·.1) = fsD.map (·.1) → Rps W B' (fs.map (·.2)) (fsD.map (·.2)) → Grow W (without H a) B H' B' → Q .non H') ∧ ∀ Cx H' B', Ed Cx → Grow W (without H a) B H' B' → E (.ref Cx) none H'
def dMake (C : Addr) (sp : SpI) (t : DTA) : DTE := fun Δ Q E => t Δ (fun ds Δ1 => sp ds (fun fs => Q (.obj C fs) Δ1) E) E
theorem de_make {CX : CXT} {k : Nat} {f C : Addr} {fd : FuncData} {ps : List Str} {sp : SpI} {x : Str} {p : Pos} {e : Expr} {es : List Expr} {ta : DTA} (M : Mk X.K C f) (F : FnOk X.prog X.w X.K X.mg X.base CX k f fd ps (upSpI G.W C sp)) (hr : Room (k + 1) X.A) (hm : X.mg x = some (.ref C))
    (hb : Binds X.K fd ps []) (hx : Passes CX X G.E) (ha : PA X (e :: es) (upA G ta)) (hg : Gl X x := by rfl) (hdb : (x == ("__debug__" : Str)) = false := by decide)
    (he : starEach (e :: es) X.env = (false, eval e X.env) :: starEach es X.env := by rfl) (hpl : (backTo pos (starEach es X.env)).any (·.1) = false := by rfl) : PE X (.Call (.Name x p) (e :: es) [] pos) (upE G (dMake C sp ta)) :=
  PE.imp (pe_make M F hr hg hm hb .nil hx ha hdb he hpl) fun σ H Q ⟨Δ, B, Qd, r1, q, k⟩ => ⟨Δ, B, _, r1, q, fun ds Δ1 vs H1 B1 q1 r1 s1 rps => by
    intro y dx hy hdx hne
    show upSpI G.W C sp (.ref y :: (vs ++ [])) _ _ _
    rw [List.append_nil]
    have b1 : B1 y = none := r1.free hy
    have g1 := r1.gr.allocO (o := .own y) hdx
    have hy2 : upd H1 dx (.own y) y = none := by rw [upd_ne (Ne.symm hne)]; exact hy
    have g2 := (r1.gr.trans g1).allocO (o := .ins C dx []) hy2
    have nf : ¬ G.W.fv y := (solid_new (o := .own y) r1.wok hy (fun _ => by simp)).2
    have wo : ∀ H2 : Hp, H2 = upd (upd H1 dx (.own y)) y (.ins C dx []) → Sub H1 (without H2 y) := fun H2 e a o h => by
      subst e
      unfold without
      have n1 : a ≠ y := ne_of_none h hy
      rw [if_neg n1, upd_ne n1, upd_ne (ne_of_none h hdx)]; exact h
    refine ⟨y, dx, vs, B1, ds, _, G.Ed, rfl, upd_same, nf, ?_, b1, rps, q1, ?_, ?_⟩
    · refine ⟨fun a o h s => ?_, fun a h => ?_, Sub.refl _, fun a h => .inl h, g2.sub, g2.wok⟩
      · unfold without at h
        split at h
        · cases h
        · exact h
      · unfold without at h
        split at h
        · exact absurd rfl h
        · exact h
    · intro dx' fs fsD H' B' qd h1 h2 h3 g3
      have g4 : Grow G.W H1 B1 H' B' := g3.less (wo _ rfl)
      have by' : B' y = none ∨ B' y ≠ none := by cases B' y <;> simp
      refine ⟨rfl, ?_⟩
      rcases by' with hB | hB
      · have hn : G.H0 y = none := by
          cases e : G.H0 y with
          | none => rfl
          | some o => exact absurd hy (r1.gr.dom y (by rw [e]; simp))
        have sb : Sub B' (upd B' y (.ins C dx' fs)) := Sub.new hB
        have g5 : Grow G.W H1 B1 H' (upd B' y (.ins C dx' fs)) := ⟨g4.ext, g4.dom, g4.bas.trans sb, fun a h => by
          by_cases z : a = y
          · subst z; exact .inr (.inl hy)
          · rw [upd_ne z] at h; exact g4.new a h, fun a o h => by
          by_cases z : a = y
          · subst z; rw [upd_same] at h; cases h; exact ⟨h1, fun ps z => (by cases z), nf⟩
          · rw [upd_ne z] at h; exact g4.sub a o h, g4.wok⟩
        exact k _ _ _ _ _ qd (r1.grow g5) (s1.trans g5.bas) (.obj _ _ _ _ _ upd_same h2 (h3.mono sb))
      · have e : B' y = some (.ins C dx' fs) := by
          cases z : B' y with
          | none => exact absurd z hB
          | some o => rw [← h1, (g4.sub _ _ z).1]
        exact k _ _ _ _ _ qd (r1.grow g4) (s1.trans g4.bas) (.obj _ _ _ _ _ e h2 h3)
    · intro Cx H' B' hC g3
      exact G.hE Cx H' B' hC (r1.gr.trans (g3.less (wo _ rfl)))⟩
end
section
variable {P : Program} {w : World} {K : PySem.W.Frag} {mg : Str → Option Value} {base : Heap}
def startI (a C : Addr) (n : Nat) (ds : List D) : List Sl := .oi C a [] :: (ds.map .im ++ List.replicate (n - ds.length - 1) .un)
/-- THE RULE for an __init__ -/
theorem init_ok {x qual : Str} {st : Stmt} {f C : Addr} {fd : FuncData} {N ps : List Str} {k : Nat} {sp : SpI} {t : DTS} {dvs : List V} {kws : List (Str × V)} (F : FunD K x qual (defArgs st) (defBody st) (defScope st) dvs kws f fd) (S : FnScope N ps (defScope st))
    (hbody : ∀ (W : Wd K) (cdv : Value) (A : Around) (outer : List Env) (s : Shared) (H H0 B : Hp) (E : XK) (Ed : EX) (hE : ∀ C H' B', Ed C → Grow W H0 B H' B' → E (.ref C) none H'), Room k (A.deeper (envOfC qual (defScope st) s.heap.objs.size f cdv)) →
      PSs (cxB P w K mg base N qual st f cdv A outer s H E) (defBody st) (upS (⟨W, H0, B, E, Ed, hE⟩ : Gx K) t))
    (hsp : ∀ a ds Q E, sp ds Q E → ds.length + 1 = ps.length ∧ t { nx := fun Δ => ∃ fs, Δ[0]? = some (.oi C a fs) ∧ Q fs, rt := fun _ => False } (startI a C N.length ds) E) (hN : ps.length ≤ N.length) (W : Wd K) : FnOk P w K mg base (L2.CX P w) (k + 1) f fd ps (upSpI W C sp) := by
  refine fund_ok F (CX := L2.CX P w) S (fun vs H Q E ⟨a, dx, vs', B, ds, Qd, Ed, ev, h1, nf, g, ba, r, h, _⟩ => by rw [ev, List.length_cons, r.length]; exact (hsp a _ _ _ h).1) fun cdv A outer s H vs Q E hr ⟨a, dx, vs', B, ds, Qd, Ed, ev, h1, nf, g, ba, r, h, k1, k2⟩ => ?_
  subst ev
  obtain ⟨hl, ht⟩ := hsp a _ _ _ h
  have wa : without H a a = none := by unfold without; rw [if_pos rfl]
  refine ⟨_, hbody W cdv A outer s H (without H a) B E Ed k2 hr, startI a C N.length ds, B, _, ⟨g, fun j => if j = 0 then [a] else [], ?_, ?_, ?_, ?_⟩, ht, ?_, fun _ _ _ _ q => q.elim, fun _ _ _ _ q => q.elim, fun _ _ _ _ q => q.elim⟩
  · unfold startI L2.start
    have := r.length
    simp only [List.length_cons, List.length_append, List.length_map, List.length_replicate]
    omega
  · intro i s0 e
    unfold startI at e
    cases i with
    | zero =>
      simp at e; subst e
      exact ⟨_, rfl, .oi _ _ _ dx [] h1 rfl .nil⟩
    | succ i =>
      have e : (ds.map Sl.im ++ List.replicate (N.length - ds.length - 1) Sl.un)[i]? = some s0 := by simpa using e
      have e2 : (L2.start N (.ref a :: vs'))[i + 1]? = (vs'.map some ++ List.replicate (N.length - (vs'.length + 1)) none)[i]? := by unfold L2.start; simp
      rw [e2]
      simp only [Nat.succ_ne_zero, if_false]
      by_cases hi : i < ds.length
      · rw [List.getElem?_append_left (by simpa using hi), List.getElem?_map] at e
        rw [List.getElem?_append_left (by simpa [r.length] using hi), List.getElem?_map]
        obtain ⟨v, h1, h2⟩ := r.get (List.getElem?_eq_getElem hi)
        rw [List.getElem?_eq_getElem hi] at e
        simp at e; subst e
        rw [h1]
        exact ⟨some v, rfl, .im _ _ h2⟩
      · rw [List.getElem?_append_right (by simpa using hi), List.getElem?_replicate] at e
        split at e
        · cases e
          rename_i hj
          have hj : i - ds.length < N.length - ds.length - 1 := by simpa using hj
          refine ⟨none, ?_, .un _⟩
          rw [List.getElem?_append_right (by rw [List.length_map, r.length]; omega), List.getElem?_replicate, if_pos (by rw [List.length_map, r.length]; omega)]
        · cases e
  · intro i j b h1 h2
    try dsimp only at h1 h2
    split at h1
    · split at h2
      · omega
      · cases h2
    · cases h1
  · intro i b hb
    try dsimp only at hb
    split at hb
    · simp at hb; subst hb
      exact ⟨ba, wa, nf, _, h1, True.intro⟩
    · cases hb
  · intro Δ' σ' H' B' ⟨fs, e, q⟩ r' sb
    obtain ⟨dx', fsV, e1, e2, e3, e4⟩ := r'.oid e
    exact k1 dx' fsV fs H' B' q e2 e3 e4 r'.gr
end
end DL
-- DLlc2
set_option Elab.async false
set_option linter.all false
set_option maxRecDepth 100000
set_option maxHeartbeats 2000000
set_option autoImplicit false
namespace DL
open PySem PySem.Spec L2
open PyProof.Rows hiding St

def dLC2 (own own1 : List Nat) (ti : DTI) (g : DTG) (tt : DTT) (ti1 : DTI) (g1 : DTG) (tt1 : DTT) (te : DTE) : DTM := fun Δ Q E => ti Δ (fun ds Δ1 => ∃ Iv : Nat → List D → List Sl → Prop, Iv 0 [] (wipeD Δ1 own) ∧
  (∀ i d acc Δ2, ds[i]? = some d → Iv i acc Δ2 → g d Δ2 fun Δ3 => tt Δ3 (fun b Δ4 => if b = true then
    ti1 Δ4 (fun es Δ5 => ∃ Iw : Nat → List D → List Sl → Prop, Iw 0 acc (wipeD Δ5 own1) ∧
      (∀ j e acc1 Δ6, es[j]? = some e → Iw j acc1 Δ6 → g1 e Δ6 fun Δ7 => tt1 Δ7 (fun b Δ8 => if b = true then te Δ8 (fun z Δ9 => acc1.length < sizeLine ∧ Iw (j + 1) (acc1 ++ [z]) (wipeD Δ9 own1)) noE else Iw (j + 1) acc1 (wipeD Δ8 own1)) noE) ∧
      ∀ acc1 Δ6, Iw es.length acc1 Δ6 → Iv (i + 1) acc1 (wipeD Δ6 own)) noE
    else Iv (i + 1) acc (wipeD Δ4 own)) noE) ∧
  ∀ acc Δ2, Iv ds.length acc Δ2 → Q (.ol acc) Δ2) E
theorem wipe_sub {σ : L2.St} {vs : List Nat} : ∀ {ws : List Nat}, (∀ i ∈ ws, i ∈ vs) → wipe (wipe σ ws) vs = wipe σ vs
  | [], _ => rfl
  | w :: ws, h => by
    show wipe ((wipe σ ws).set w none) vs = _
    rw [wipe_set (h w (by simp)), wipe_sub fun i hi => h i (by simp [hi])]
section
variable {X : Cx} {G : Gx X.K} {pos : Pos}
theorem lc2_up {own own1 : List Nat} {S S1 : List Nat} {ti ti1 : DTI} {g g1 : DTG} {tt tt1 : DTT} {te : DTE} (hS : ∀ i ∈ S, i ∈ own) (hS1 : ∀ i ∈ S1, i ∈ own1) (hoo : ∀ i ∈ own1, i ∈ own) {σ : L2.St} {H : Hp} {Q : VK} (h : upM G (dLC2 own own1 ti g tt ti1 g1 tt1 te) σ H Q)
    {gH gH1 : TG} {ttH ttH1 : TT} {teH : TE} {tiH1 : TI}
    (hg : ∀ (H0 B0 : Hp) v σ H Q, upG (nox G.W H0 B0) S g v σ H Q → gH v σ H Q)
    (ht : ∀ (H0 B0 : Hp) σ H Q, upT (nox G.W H0 B0) tt σ H Q → ttH σ H Q)
    (hi1 : ∀ (H0 B0 : Hp) σ H R, upI (nox G.W H0 B0) ti1 σ H R → tiH1 σ H R)
    (hg1 : ∀ (H0 B0 : Hp) v σ H Q, upG (nox G.W H0 B0) S1 g1 v σ H Q → gH1 v σ H Q)
    (ht1 : ∀ (H0 B0 : Hp) σ H Q, upT (nox G.W H0 B0) tt1 σ H Q → ttH1 σ H Q)
    (he : ∀ (H0 B0 : Hp) σ H Q, upE (nox G.W H0 B0) te σ H Q → teH σ H Q) : tLc2 (upI G ti) gH ttH tiH1 gH1 ttH1 teH own own1 σ H Q := by
  obtain ⟨Δ, B, Qd, r, q, k⟩ := h
  refine ⟨Δ, B, _, r, q, fun ds Δ1 J H1 B1 ⟨Iv, i0, turn, fin⟩ r1 s1 it L hL => ?_⟩
  have n1 := NewV.lst (ds := []) r1.gr hL .nil
  obtain ⟨vs0, e0, q0, h0, b0, nf, rg⟩ := ((r1.wipeA own).hangS n1).hold
  have ev : vs0 = [] := by rw [upd_same] at e0; cases e0; rfl
  subst ev
  refine ⟨fun i m H' => ∃ Δ' B' acc vs, m = ds.length - i ∧ i ≤ ds.length ∧ DR (gd G L vs) Δ' (wipe σ own) H' B' ∧ Rps G.W B' vs acc ∧ Sub B1 B' ∧ Iv i acc Δ' ∧ wipeD Δ' own = Δ',
    ⟨_, wipeD Δ1 own, B1, [], [], rfl, Nat.zero_le _, rg, .nil, Sub.refl _, i0, wipeD_idem own⟩, ?_⟩
  rintro i m H2 ⟨Δ2, B2, acc, vs, rfl, hi, r2, q2, s2, v2, w2⟩
  by_cases hl : i < ds.length
  · refine .inr ⟨it.go r2.gr s2 hl, fun H' => ∃ Δ' B' acc vs, DR (gd G L vs) Δ' (wipe σ own) H' B' ∧ Rps G.W B' vs acc ∧ Sub B1 B' ∧ Iv (i + 1) acc Δ' ∧ wipeD Δ' own = Δ', fun H' ⟨Δ', B', acc, vs, h⟩ => ⟨_, by omega, Δ', B', acc, vs, rfl, hl, h⟩, fun x H3 y => ?_⟩
    obtain ⟨B3, d, hd, g3, rp⟩ := it.yld r2.gr s2 hl y
    have r3 := r2.grow g3
    have q3 := q2.mono g3.bas
    refine hg _ _ _ _ _ _ ⟨Δ2, B3, d, _, r3, rp, turn i d acc Δ2 hd v2, fun Δ4 σ4 H4 B4 q4 r4 s4 kp => ?_⟩
    have we2 : wipe σ4 own = wipe σ own := (kp own hS).trans (wipe_wipe own)
    refine ⟨we2, ht _ _ _ _ _ ⟨Δ4, B4, _, r4, q4, fun b Δ5 H5 B5 q5 r5 s5 => ?_⟩⟩
    have we3 : wipe σ4 own = wipe (wipe σ own) own := kp own hS
    have sb5 : Sub B1 B5 := ((s2.trans g3.bas).trans s4).trans s5
    cases b with
    | true =>
      refine hi1 _ _ _ _ _ ⟨Δ5, B5, _, r5, q5, fun es Δ6 J1 H6 B6 ⟨Iw, j0, turn1, fin1⟩ r6 s6 it1 => ?_⟩
      have q6 := ((q3.mono s4).mono s5).mono s6
      refine ⟨fun j m' H' => ∃ Δ' B' acc1 vs1, m' = es.length - j ∧ j ≤ es.length ∧ DR (gd G L vs1) Δ' (wipe σ4 own1) H' B' ∧ Rps G.W B' vs1 acc1 ∧ Sub B6 B' ∧ Iw j acc1 Δ' ∧ wipeD Δ' own1 = Δ',
        ⟨_, wipeD Δ6 own1, B6, acc, vs, rfl, Nat.zero_le _, r6.wipeA own1, q6, Sub.refl _, j0, wipeD_idem own1⟩, ?_⟩
      rintro j m' H7 ⟨Δ7, B7, acc1, vs1, rfl, hj, r7, q7, s7, v7, w7⟩
      by_cases hl1 : j < es.length
      · refine .inr ⟨it1.go r7.gr s7 hl1, fun H' => ∃ Δ' B' acc1 vs1, DR (gd G L vs1) Δ' (wipe σ4 own1) H' B' ∧ Rps G.W B' vs1 acc1 ∧ Sub B6 B' ∧ Iw (j + 1) acc1 Δ' ∧ wipeD Δ' own1 = Δ', fun H' ⟨Δ', B', acc, vs, h⟩ => ⟨_, by omega, Δ', B', acc, vs, rfl, hl1, h⟩, fun x1 H8 y1 => ?_⟩
        obtain ⟨B8, d1, hd1, g8, rp1⟩ := it1.yld r7.gr s7 hl1 y1
        have r8 := r7.grow g8
        have q8 := q7.mono g8.bas
        refine hg1 _ _ _ _ _ _ ⟨Δ7, B8, d1, _, r8, rp1, turn1 j d1 acc1 Δ7 hd1 v7, fun Δ9 σ9 H9 B9 q9 r9 s9 kp1 => ?_⟩
        have wf2 : wipe σ9 own1 = wipe σ4 own1 := (kp1 own1 hS1).trans (wipe_wipe own1)
        have wf3 : wipe σ9 own1 = wipe (wipe σ4 own1) own1 := kp1 own1 hS1
        refine ⟨wf2, ht1 _ _ _ _ _ ⟨Δ9, B9, _, r9, q9, fun b Δ10 H10 B10 q10 r10 s10 => ?_⟩⟩
        cases b with
        | true =>
          refine he _ _ _ _ _ ⟨Δ10, B10, _, r10, q10, fun e Δ11 z H11 B11 ⟨hz, q11⟩ r11 s11 rz => ?_⟩
          have q12 := ((q8.mono s9).mono s10).mono s11
          obtain ⟨e12, r12⟩ := r11.more h0 b0 nf q12 rz
          exact ⟨vs1, e12, by rw [q12.length]; exact hz, wipeD Δ11 own1, B11, acc1 ++ [e], vs1 ++ [z], r12.unwipe wf3, q12.append (Rps.one rz), (((s7.trans g8.bas).trans s9).trans s10).trans s11, q11, wipeD_idem own1⟩
        | false => exact ⟨wipeD Δ10 own1, B10, acc1, vs1, r10.unwipe wf3, (q8.mono s9).mono s10, ((s7.trans g8.bas).trans s9).trans s10, q10, wipeD_idem own1⟩
      · have ej : j = es.length := by omega
        subst ej
        refine .inl ⟨it1.stop r7.gr s7 (Nat.le_refl _), ?_⟩
        have we4 : wipe (wipe σ4 own1) own = wipe (wipe σ own) own := by rw [wipe_sub hoo, we3]
        exact ⟨wipeD Δ7 own, B7, acc1, vs1, r7.unwipe we4, q7, (sb5.trans s6).trans s7, fin1 _ _ v7, wipeD_idem own⟩
    | false => exact ⟨wipeD Δ5 own, B5, acc, vs, r5.unwipe we3, (q3.mono s4).mono s5, sb5, q5, wipeD_idem own⟩
  · have e : i = ds.length := by omega
    subst e
    refine .inl ⟨it.stop r2.gr s2 (Nat.le_refl _), ?_⟩
    have r5 := r2.unwipe (σ := σ) (vs := own) (wipe_wipe own)
    rw [w2] at r5
    obtain ⟨e5, r6⟩ := r5.unhold h0 b0 nf q2
    exact k _ _ _ _ _ (fin _ _ v2) r6 (s1.trans s2)
theorem dm_lc2 {elt tg iter tg1 iter1 : Expr} {ifs ifs1 : List Expr} {scope : Scope} {own : List (Str × Nat)} {own1 S S1 : List Nat} {ti ti1 : DTI} {g g1 : DTG} {tt tt1 : DTT} {te : DTE} (hc : X.calm = true) (hN : X.N.Nodup) (hi : PI X tg iter (upI G ti)) (ok : BlkOk X.N X.env.scope scope own)
    (hg : ∀ (s : Shared) (H : Hp) (C : Addr) (cl : List (Str × Addr)) (fp : List Addr) (H0 B0 : Hp), PG (X.blk s H scope (compEnvC scope cl C X.env) fp) tg (upG (nox G.W H0 B0) S g))
    (ht : ∀ (s : Shared) (H : Hp) (C : Addr) (cl : List (Str × Addr)) (fp : List Addr) (H0 B0 : Hp), PTs (X.blk s H scope (compEnvC scope cl C X.env) fp) ifs (upT (nox G.W H0 B0) tt))
    (hi1 : ∀ (s : Shared) (H : Hp) (C : Addr) (cl : List (Str × Addr)) (fp : List Addr) (H0 B0 : Hp), PI (X.blk s H scope (compEnvC scope cl C X.env) fp) tg1 iter1 (upI (nox G.W H0 B0) ti1))
    (hg1 : ∀ (s : Shared) (H : Hp) (C : Addr) (cl : List (Str × Addr)) (fp : List Addr) (H0 B0 : Hp), PG (X.blk s H scope (compEnvC scope cl C X.env) fp) tg1 (upG (nox G.W H0 B0) S1 g1))
    (ht1 : ∀ (s : Shared) (H : Hp) (C : Addr) (cl : List (Str × Addr)) (fp : List Addr) (H0 B0 : Hp), PTs (X.blk s H scope (compEnvC scope cl C X.env) fp) ifs1 (upT (nox G.W H0 B0) tt1))
    (he : ∀ (s : Shared) (H : Hp) (C : Addr) (cl : List (Str × Addr)) (fp : List Addr) (H0 B0 : Hp), PE (X.blk s H scope (compEnvC scope cl C X.env) fp) elt (upE (nox G.W H0 B0) te))
    (hS : ∀ i ∈ S, i ∈ own.map (·.2) := by decide) (hS1 : ∀ i ∈ S1, i ∈ own1 := by decide) (hoo : ∀ i ∈ own1, i ∈ own.map (·.2) := by decide) (hs : ∀ x, foldedSetIterable iter X.env x = pure x := by intro _; rfl) (hs1 : ∀ env x, foldedSetIterable iter1 env x = pure x := by intro _ _; rfl) :
    PE X (.ListComp elt [⟨tg, iter, ifs, 0⟩, ⟨tg1, iter1, ifs1, 0⟩] scope pos) (upM G (dLC2 (own.map (·.2)) own1 ti g tt ti1 g1 tt1 te)) :=
  PE.imp (pe_lc2 (vs1 := own1) (g := fun v σ H Q => ∃ H0 B0, upG (nox G.W H0 B0) S g v σ H Q) (tt := fun σ H Q => ∃ H0 B0, upT (nox G.W H0 B0) tt σ H Q) (wi1 := fun σ H Q => ∃ H0 B0, upI (nox G.W H0 B0) ti1 σ H Q)
    (g1 := fun v σ H Q => ∃ H0 B0, upG (nox G.W H0 B0) S1 g1 v σ H Q) (tt1 := fun σ H Q => ∃ H0 B0, upT (nox G.W H0 B0) tt1 σ H Q) (te := fun σ H Q => ∃ H0 B0, upE (nox G.W H0 B0) te σ H Q) hc hN hi ok hoo
    (fun s H C cl fp => ⟨fun p s' σ H' v u Q I r ⟨H0, B0, q⟩ => (hg s H C cl fp H0 B0).run p s' σ H' v u Q I r q⟩)
    (fun s H C cl fp => ⟨fun p s' σ H' Q I ⟨H0, B0, q⟩ => (ht s H C cl fp H0 B0).run p s' σ H' Q I q⟩)
    (fun s H C cl fp => ⟨fun p s' σ H' Q I ⟨H0, B0, q⟩ => (hi1 s H C cl fp H0 B0).run p s' σ H' Q I q⟩)
    (fun s H C cl fp => ⟨fun p s' σ H' v u Q I r ⟨H0, B0, q⟩ => (hg1 s H C cl fp H0 B0).run p s' σ H' v u Q I r q⟩)
    (fun s H C cl fp => ⟨fun p s' σ H' Q I ⟨H0, B0, q⟩ => (ht1 s H C cl fp H0 B0).run p s' σ H' Q I q⟩)
    (fun s H C cl fp => ⟨fun p s' σ H' Q I ⟨H0, B0, q⟩ => (he s H C cl fp H0 B0).run p s' σ H' Q I q⟩) hs hs1)
    fun σ H Q h => lc2_up hS hS1 hoo h (fun H0 B0 _ _ _ _ q => ⟨H0, B0, q⟩) (fun H0 B0 _ _ _ q => ⟨H0, B0, q⟩) (fun H0 B0 _ _ _ q => ⟨H0, B0, q⟩) (fun H0 B0 _ _ _ _ q => ⟨H0, B0, q⟩) (fun H0 B0 _ _ _ q => ⟨H0, B0, q⟩) (fun H0 B0 _ _ _ q => ⟨H0, B0, q⟩)
/-! ### name op= value -/
def dAug (i : Nat) (rd : D → D → (Sl → Prop) → Prop) (t : DTE) : DTS := fun N Δ E => (∃ a, Δ[i]? = some (.im (.int a)) ∧ t Δ (fun d Δ1 => rd (.int a) d fun s => i < Δ1.length ∧ N.nx (Δ1.set i s)) E)
theorem ds_augI {i : Nat} {x : Str} {e : Expr} {t : DTE} {op : Operator} {f : Int → Int → Int} {pos' : Pos} (ho : PIp X op (ipI f)) (hN : X.N.Nodup) (he : PE X e (upE G t)) (hi : X.N[i]? = some x := by rfl) (hx : Loc X.env.scope x := by first | exact Or.inl rfl | exact Or.inr rfl)
    (hf : X.fn x = true ∨ X.env.scope.names.lookup x = some .local := by first | exact .inl rfl | exact .inr rfl | assumption) : PS X (.AugAssign (.Name x pos') op e pos) (upS G (dAug i (rdI0 f) t)) :=
  PS.imp (ps_aug hN hi hx he ho hf) fun N σ H ⟨Δ, B, M, r, ⟨a, e1, q⟩, k, _⟩ => by
    obtain ⟨v, h1, h2⟩ := r.get e1
    cases h2
    refine ⟨_, h1, Δ, B, _, r, q, fun d Δ1 w H1 B1 q1 r1 s1 rw' => ?_⟩
    unfold rdI0 at q1
    split at q1
    · rename_i a' b e2
      cases e2
      cases rw'
      exact ⟨_, _, rfl, rfl, k _ _ _ _ q1.2 (r1.put i (.int _)) s1⟩
    · exact q1.elim
end
end DL
-- DLcal
set_option Elab.async false
set_option linter.all false
set_option maxRecDepth 100000
set_option maxHeartbeats 2000000
set_option autoImplicit false
namespace DL
open PySem PySem.Spec L2
open PyProof.Rows hiding St

theorem hu65 {A : Around} {k : Nat} (hr : Room k A) : A.units + 65 < cLine := by have := hr.un; omega
/-- a def of the module that may be called -/
structure Cal (P : Program) (w : World) (K : PySem.W.Frag) (mg : Str → Option Value) (base : Heap) (k : Nat) (x : Str) (ps : List Str) (sp : SpD) : Prop where
  ex : ∃ f fd, mg x = some (.ref f) ∧ PySem.W.keepIn K (.ref f) = true ∧ Binds K fd ps [] ∧ ∀ W : Wd K, FnOk P w K mg base (L2.CX P w) k f fd ps (upSp W sp)
theorem Cal.mono {P : Program} {w : World} {K : PySem.W.Frag} {mg : Str → Option Value} {base : Heap} {j k : Nat} {x : Str} {ps : List Str} {sp : SpD} (c : Cal P w K mg base j x ps sp) (h : j ≤ k) : Cal P w K mg base k x ps sp := by
  obtain ⟨f, fd, h1, h2, h3, h4⟩ := c.ex
  exact ⟨f, fd, h1, h2, h3, fun W => (h4 W).mono h⟩
/-- a class of the module whose objects may be made -/
structure CalI (P : Program) (w : World) (K : PySem.W.Frag) (mg : Str → Option Value) (base : Heap) (k : Nat) (x : Str) (C : Addr) (ps : List Str) (sp : SpI) : Prop where
  ex : ∃ f fd, mg x = some (.ref C) ∧ Mk K C f ∧ Binds K fd ps [] ∧ ∀ W : Wd K, FnOk P w K mg base (L2.CX P w) k f fd ps (upSpI W C sp)
theorem CalI.mono {P : Program} {w : World} {K : PySem.W.Frag} {mg : Str → Option Value} {base : Heap} {j k : Nat} {x : Str} {C : Addr} {ps : List Str} {sp : SpI} (c : CalI P w K mg base j x C ps sp) (h : j ≤ k) : CalI P w K mg base k x C ps sp := by
  obtain ⟨f, fd, h1, h2, h3, h4⟩ := c.ex
  exact ⟨f, fd, h1, h2, h3, fun W => (h4 W).mono h⟩
section
variable {X : Cx} {G : Gx X.K} {pos : Pos}
theorem de_cal {k : Nat} {ps : List Str} {sp : SpD} {x : Str} {p : Pos} {e : Expr} {es : List Expr} {ta : DTA} (c : Cal X.prog X.w X.K X.mg X.base k x ps sp) (hr : Room k X.A) (hx : Passes (L2.CX X.prog X.w) X G.E) (ha : PA X (e :: es) (upA G ta)) (hg : Gl X x := by rfl) (hdb : (x == ("__debug__" : Str)) = false := by decide)
    (he : starEach (e :: es) X.env = (false, eval e X.env) :: starEach es X.env := by rfl) (hpl : (backTo pos (starEach es X.env)).any (·.1) = false := by rfl) : PE X (.Call (.Name x p) (e :: es) [] pos) (upE G (DL.dFn sp ta)) := by
  obtain ⟨f, fd, h1, h2, h3, h4⟩ := c.ex
  exact de_fn (h4 G.W) hr h1 h2 h3 hx ha hg hdb he hpl
theorem de_cal0 {k : Nat} {ps : List Str} {sp : SpD} {x : Str} {p : Pos} (c : Cal X.prog X.w X.K X.mg X.base k x ps sp) (hr : Room k X.A) (hx : Passes (L2.CX X.prog X.w) X G.E) (hg : Gl X x := by rfl) (hdb : (x == ("__debug__" : Str)) = false := by decide) : PE X (.Call (.Name x p) [] [] pos) (upE G (DL.dFn sp dNil)) := by
  obtain ⟨f, fd, h1, h2, h3, h4⟩ := c.ex
  exact de_fn0 (h4 G.W) hr h1 h2 h3 hx hg hdb
theorem de_mk {k : Nat} {C : Addr} {ps : List Str} {sp : SpI} {x : Str} {p : Pos} {e : Expr} {es : List Expr} {ta : DTA} (c : CalI X.prog X.w X.K X.mg X.base k x C ps sp) (hr : Room (k + 1) X.A) (hx : Passes (L2.CX X.prog X.w) X G.E) (ha : PA X (e :: es) (upA G ta)) (hg : Gl X x := by rfl) (hdb : (x == ("__debug__" : Str)) = false := by decide)
    (he : starEach (e :: es) X.env = (false, eval e X.env) :: starEach es X.env := by rfl) (hpl : (backTo pos (starEach es X.env)).any (·.1) = false := by rfl) : PE X (.Call (.Name x p) (e :: es) [] pos) (upE G (dMake C sp ta)) := by
  obtain ⟨f, fd, h1, h2, h3, h4⟩ := c.ex
  exact de_make h2 (h4 G.W) hr h1 h3 hx ha hg hdb he hpl
theorem de_gi {x : Str} {i : Int} (hm : ∃ u, X.mg x = some u ∧ RelV (.int i) u) (hg : Gl X x := by rfl) (hdb : (x == ("__debug__" : Str)) = false := by decide) : PE X (.Name x pos) (upE G (dC (.int i))) := by
  obtain ⟨u, h1, h2⟩ := hm
  exact de_c (pe_glob (v := .int i) hg h1 h2 hdb) fun _ => .int _
/-- a < b < c, asked as a test -/
theorem dt_chain {a b c : Expr} {op op' : CmpOp} {r r' : R2} {rd rd' : D → D → (Bool → Prop) → Prop} {ta tb tc : DTO} (ho : OpR X (compareOp op) r) (ho' : OpR X (compareOp op') r') (hr : R2B G.W r rd) (hr' : R2B G.W r' rd') (ha : PE X a (upO G ta)) (hb : PE X b (upO G tb)) (hc : PE X c (upO G tc)) (hm : lastMarks [op, op'] [b, c] = false := by with_unfolding_all rfl) : PT X (.Compare a [op, op'] [b, c] pos) (upT G (dTst (dChainE rd rd' ta tb tc))) :=
  PT.imp (pt_chain ho ho' ha hb hc hm) fun σ H Q ⟨Δ, B, Qd, r1, q, k⟩ => ⟨Δ, B, _, r1, q, fun d1 Δ1 v1 H1 B1 q1 r1 s1 p1 => ⟨Δ1, B1, _, r1, q1, fun d2 Δ2 v2 H2 B2 ⟨d, e, e1, e2, q2⟩ r2 s2 p2 =>
    hr _ _ _ _ _ _ _ _ _ _ r2.gr ((p1.mono s2).res r2 e1) (p2.res r2 e2) q2 fun bb qd => ⟨bb, rfl, by
      cases bb with
      | true => exact ⟨Δ2, B2, _, r2, qd, fun d3 Δ3 v3 H3 B3 ⟨d, e, e1, e2, q3⟩ r3 s3 p3 => hr' _ _ _ _ _ _ _ _ _ _ r3.gr ((p2.mono s3).res r3 e1) (p3.res r3 e2) q3 fun b3 ⟨b4, e4, qd⟩ => by cases e4; exact ⟨_, rfl, k _ _ _ _ qd r3 ((s1.trans s2).trans s3)⟩⟩
      | false =>
        obtain ⟨b4, e4, qd⟩ := qd
        cases e4
        exact ⟨_, rfl, k _ _ _ _ qd r2 (s1.trans s2)⟩⟩⟩⟩
end
/-! ### what simp reads off a body's meaning -/
theorem two_simp {Δ : List Sl} {x y : Od} {P : D → D → Prop} {d e : D} (h1 : res Δ x = some d) (h2 : res Δ y = some e) (h : P d e) : two Δ x y P := ⟨d, e, h1, h2, h⟩
end DL
-- DLlam
set_option Elab.async false
set_option linter.all false
set_option maxRecDepth 100000
set_option maxHeartbeats 2000000
set_option autoImplicit false
namespace DL
open PySem PySem.Spec L2
open PyProof.Rows hiding St
/-! ### a part of a heap: the rest reads as if it were freed -/
def hideO (o : Obj) : Obj := { o with data := .freed }
open Classical in
noncomputable def part (h : Heap) (p : Addr → Prop) : Heap := ⟨h.objs.mapIdx fun i o => if p i then o else hideO o, h.life⟩
theorem part_size {h : Heap} {p : Addr → Prop} : (part h p).objs.size = h.objs.size := by simp [part]
theorem part_in {h : Heap} {p : Addr → Prop} {a : Addr} {o : Obj} (e : h.get? a = some o) (ha : p a) : (part h p).get? a = some o := by
  unfold Heap.get? at e ⊢
  unfold part
  simp only [Array.getElem?_mapIdx]
  cases q : h.objs[a]? with
  | none => rw [q] at e; cases e
  | some u => rw [q] at e; simp only [Option.map_some, if_pos ha]; exact e
theorem part_of {h : Heap} {p : Addr → Prop} {a : Addr} {o : Obj} (e : (part h p).get? a = some o) : h.get? a = some o ∧ p a := by
  unfold Heap.get? at e ⊢
  unfold part at e
  simp only [Array.getElem?_mapIdx] at e
  cases q : h.objs[a]? with
  | none => rw [q] at e; cases e
  | some u =>
    rw [q] at e
    by_cases ha : p a
    · simp only [Option.map_some, if_pos ha] at e; exact ⟨e, ha⟩
    · simp only [Option.map_some, if_neg ha, hideO] at e; cases e
theorem part_no {h : Heap} {p : Addr → Prop} {a : Addr} (ha : ¬ p a) : (part h p).get? a = none := by
  cases e : (part h p).get? a with
  | none => rfl
  | some o => exact absurd (part_of e).2 ha
/-! ### a call's state over a larger base: all that is not told of the heap, and is no frame -/
section
variable {P : Program} {w : World} {K : PySem.W.Frag} {mg : Str → Option Value} {base : Heap} {A : Around} {outer : List Env} {s : Shared} {H : Hp}
def restP (outer : List Env) (H : Hp) (b : Addr) : Prop := H b = none ∧ b ∉ frs outer
theorem FunFrames_none {h base : Heap} : ∀ {l : List Env}, h.FunFrames base l → ∀ b ∈ frs l, base.get? b = none
  | [], _, b, hb => by simp [frs] at hb
  | env :: rest, ⟨_, ⟨L, o, hf, hn, _⟩, hr⟩, b, hb => by
    simp only [frs, List.filterMap_cons, hf, List.mem_cons] at hb
    rcases hb with rfl | hb
    · exact hn
    · exact FunFrames_none hr b hb
theorem FunFrames_base {h base base' : Heap} : ∀ {l : List Env}, h.FunFrames base l → (∀ b ∈ frs l, base'.get? b = none) → h.FunFrames base' l
  | [], _, _ => True.intro
  | env :: rest, ⟨hk, ⟨L, o, hf, hn, ho⟩, hr⟩, k => by
    have e : frs (env :: rest) = L :: frs rest := by simp only [frs, List.filterMap_cons, hf]
    exact ⟨hk, ⟨L, o, hf, k L (by rw [e]; exact List.mem_cons_self), ho⟩, FunFrames_base hr fun b hb => k b (by rw [e]; exact List.mem_cons_of_mem _ hb)⟩
theorem sub_base (e : Env0 P w K mg base A outer s H) : ∀ b o, base.get? b = some o → (part s.heap (restP outer H)).get? b = some o := fun b o h =>
  part_in (e.bs b o h).1 ⟨(e.bs b o h).2, fun hb => by rw [FunFrames_none e.funs b hb] at h; cases h⟩
theorem mod_more {base' : Heap} (m : Mod K mg base) (k : ∀ b o, base.get? b = some o → base'.get? b = some o) : Mod K mg base' :=
  ⟨m.kin.keeps k, m.glob.keeps k, (by obtain ⟨mb, q1, q2⟩ := m.blt; exact ⟨mb, q1.keeps k, q2⟩), m.nolimit.keeps k⟩
theorem env0_part (e : Env0 P w K mg base A outer s H) : Env0 P w K mg (part s.heap (restP outer H)) A outer s H :=
  ⟨e.frames, mod_more e.mod (sub_base e), fun b o h => ⟨(part_of h).1, (part_of h).2.1⟩, Nat.le_of_eq part_size, FunFrames_base e.funs fun b hb => part_no fun z => z.2 hb, e.frf, e.hok, e.bare⟩
/-- back to a smaller base -/
theorem env0_less {base' : Heap} (e : Env0 P w K mg base' A outer s H) (m : Mod K mg base) (k : ∀ b o, base.get? b = some o → base'.get? b = some o) (hz : base.objs.size ≤ base'.objs.size) : Env0 P w K mg base A outer s H :=
  ⟨e.frames, m, fun b o h => e.bs b o (k b o h), Nat.le_trans hz e.bsz, FunFrames_base e.funs (fun b hb => by
    cases q : base.get? b with
    | none => rfl
    | some o => have := FunFrames_none e.funs b hb; rw [k b o q] at this; cases this), e.frf, e.hok, e.bare⟩
end
/-! ### a lambda that may be called -/
def upSpB {K : PySem.W.Frag} (W : Wd K) (Bm : Hp) (sp : SpD) : Sp := fun vs H Q E => ∃ B ds Qd Ed, Sub Bm B ∧ Grow W H B H B ∧ Rps W B vs ds ∧ sp ds Qd Ed ∧ (∀ d v H' B', Qd d → Grow W H B H' B' → Rp W B' v d → Q v H') ∧ ∀ C H' B', Ed C → Grow W H B H' B' → E (.ref C) none H'
def CallOk (P : Program) (w : World) (K : PySem.W.Frag) (mg : Str → Option Value) (base : Heap) (W : Wd K) (Bm : Hp) (lv : Nat) (clo : Clo) (beh : SpD) : Prop :=
  ∀ (A : Around) (outer : List Env) (s : Shared) (H : Hp) (a c : Addr) (us : List Value) (vs : List V) (Q : VK) (E : XK), Room lv A → Env0 P w K mg base A outer s H → H a = some (FnO clo c a) → H c = some (LamX.CodeO c clo.qual) → Vals vs us →
    upSpB W Bm beh vs H Q E → codeAny (model P w) A (.call (.ref a) ⟨us, []⟩) (CR (L2.CX P w) outer P w H s Q E) s
abbrev lamE (k : Clo) (L f c : Addr) : Env := PySem.W.envX k.qual k.scope L f (.ref c) k.cells
/-- the context of a lambda's body -/
abbrev lamC (P : Program) (w : World) (K : PySem.W.Frag) (mg : Str → Option Value) (base : Heap) (N : List Str) (k : Clo) (f c : Addr) (A : Around) (outer : List Env) (s : Shared) (H : Hp) (E : XK) : Cx where
  prog := P
  w := w
  K := K
  mg := mg
  base := base
  A := A.deeper (lamE k s.heap.objs.size f c)
  N := N
  s_0 := s
  H_0 := H
  env := lamE k s.heap.objs.size f c
  outer := outer
  stack := lamE k s.heap.objs.size f c :: outer
  ex := []
  fn := fun _ => false
  calm := true
  pn := []
  xe := fun e s' => wpAny (model P w) (A.deeper (lamE k s.heap.objs.size f c)) (leaving (lamE k s.heap.objs.size f c) e) (fun _ s'' => L2.CX P w outer H s E e s'') (fun e' s'' => L2.CX P w outer H s E e' s'') s'
/-- a lambda's names: captured ones (or globals), parameters; no cell of its own -/
structure LamP (caps ps : List Str) (scope : Scope) : Prop where
  kind : scope.kind = .function
  co : scope.isCoroutine = false
  gen : scope.isGenerator = false
  cell : ∀ y ∈ scope.names, y.2 ≠ .cell
  loc : ∀ y, scope.names.lookup y = some .local → y ∈ ps
  free : ∀ y, scope.names.lookup y = some .free → y ∈ caps
  par : ∀ y ∈ ps, scope.names.lookup y = some .local
  nd : (caps ++ ps).Nodup
def lamPB (caps ps : List Str) (scope : Scope) : Bool :=
  decide (scope.kind = .function) && !scope.isCoroutine && !scope.isGenerator && (scope.names.all fun y => !decide (y.2 = .cell) && (!decide (y.2 = .local) || decide (y.1 ∈ ps)) && (!decide (y.2 = .free) || decide (y.1 ∈ caps))) &&
    (ps.all fun y => decide (scope.names.lookup y = some .local)) && decide (caps ++ ps).Nodup
theorem lamP_by {caps ps : List Str} {scope : Scope} (h : lamPB caps ps scope = true) : LamP caps ps scope := by
  unfold lamPB at h
  simp only [Bool.and_eq_true, Bool.or_eq_true, Bool.not_eq_true', decide_eq_true_eq, decide_eq_false_iff_not, List.all_eq_true] at h
  obtain ⟨⟨⟨⟨⟨h1, h2⟩, h3⟩, h4⟩, h5⟩, h6⟩ := h
  exact ⟨h1, h2, h3, fun y hy => (h4 y hy).1.1, fun y e => ((h4 _ (PySem.mem_of_lookup e)).1.2).resolve_left (fun z => z rfl), fun y e => ((h4 _ (PySem.mem_of_lookup e)).2).resolve_left (fun z => z rfl), h5, h6⟩
/-- what the cells that a lambda holds are -/
structure CellsOk (k : Clo) (caps : List Str) (vc : List V) (H : Hp) (h : Heap) : Prop where
  len : caps.length = vc.length
  inj : ∀ x y c, k.cells.lookup x = some c → k.cells.lookup y = some c → x = y
  has : ∀ y ∈ caps, ∃ c, k.cells.lookup y = some c
  ok : ∀ y c, k.cells.lookup y = some c → H c = none ∧ ∃ v, h.IsCell c v
  val : ∀ (i : Nat) (y : Str) (v : V) (c : Addr), caps[i]? = some y → vc[i]? = some v → k.cells.lookup y = some c → ∃ u, RelV v u ∧ h.IsCell c (some u)
section
variable {P : Program} {w : World} {K : PySem.W.Frag} {mg : Str → Option Value} {base : Heap} {A : Around} {outer : List Env} {s : Shared} {H : Hp}
theorem lookup_zip_rev {ps : List Str} {us : List Value} (nd : ps.Nodup) (hl : us.length = ps.length) {i : Nat} {y : Str} {u : Value} (h1 : ps[i]? = some y) (h2 : us[i]? = some u) : (ps.zip us).reverse.lookup y = some u := by
  have hm : (y, u) ∈ (ps.zip us).reverse := by
    rw [List.mem_reverse]
    exact List.mem_of_getElem? (i := i) (by rw [List.getElem?_zip_eq_some]; exact ⟨h1, h2⟩)
  have hn : ((ps.zip us).reverse.map (·.1)).Nodup := by
    rw [List.map_reverse]
    refine (List.reverse_perm _).nodup_iff.mpr ?_
    rw [List.map_fst_zip (by omega)]
    exact nd
  generalize (ps.zip us).reverse = l at hm hn
  induction l with
  | nil => cases hm
  | cons p l ih =>
    obtain ⟨z, t⟩ := p
    simp only [List.map_cons, List.nodup_cons] at hn
    rw [List.lookup_cons]
    rcases List.mem_cons.mp hm with e | e
    · cases e; simp
    · have : (y == z) = false := by
        cases q : y == z with
        | false => rfl
        | true =>
          have q : y = z := by simpa using q
          exact absurd (List.mem_map.mpr ⟨(y, u), e, q⟩) hn.1
      rw [this]
      exact ih e hn.2
theorem lam_inv {caps ps : List Str} {k : Clo} {vc vs : List V} {us : List Value} {E : XK} {f c : Addr} {h₁ : Heap} {tk : Nat} (L : LamP caps ps k.scope) (e0 : Env0 P w K mg base A outer s H) (hd : A.handled = none) (C : CellsOk k caps vc H s.heap)
    (r : Vals vs us) (hl : us.length = ps.length) (hns : h₁.Ns s.heap.objs.size fun y => (ps.zip us).reverse.lookup y) (kp : ∀ b o, s.heap.get? b = some o → h₁.get? b = some o) :
    Inv (lamC P w K mg base (caps ++ ps) k f c A outer s H E) [] (L2.start (caps ++ ps) (vc ++ vs)) H { s with heap := h₁, toks := tk } := by
  have cellK : ∀ {c : Addr} {v : Option Value}, s.heap.IsCell c v → h₁.IsCell c v := fun {c v} ⟨o, ho, hd⟩ => ⟨o, kp _ _ ho, hd⟩
  have noA : ∀ b : Addr, b ∉ (lamC P w K mg base (caps ++ ps) k f c A outer s H E).ex := fun b z => absurd (show b ∈ ([] : List Addr) from z) (by simp)
  have hlv : vs.length = ps.length := by rw [r.length, hl]
  refine ⟨⟨e0.mod, L.kind, rfl, rfl, Nat.le_refl _, C.inj, fun y hy => ?_, fun y c z _ => (by cases (show false = true from z)), fun _ => hd, Around.frames_deeper e0.frames, .inr ⟨rfl, rfl⟩, fun b z => absurd z (noA b), e0.bs, e0.bsz, fun b _ _ => noA b,
      fun b z => absurd z (noA b), e0.funs, e0.frf⟩,
    rfl, e0.bare, Un.kept kp, ⟨_, hns, fun i y v e1 e2 e3 => ?_⟩, fun y c e => ?_, e0.hok.fresh (Nat.le_refl _), fun y c e => (C.ok y c e).1, fun q hq => absurd (show q ∈ ([] : List (Addr × Obj)) ++ [] from hq) (by simp), e0.hok.kept kp, ?_⟩
  · have hy : k.scope.names.lookup y = some .cell ∨ k.scope.names.lookup y = some .free := hy
    rcases hy with hy | hy
    · exact absurd rfl (L.cell _ (PySem.mem_of_lookup hy))
    · exact C.has y (L.free y hy)
  · have e1 : (caps ++ ps)[i]? = some y := e1
    have e3 : Vis k.scope y := e3
    have e2 : ((vc ++ vs).map some ++ List.replicate ((caps ++ ps).length - (vc ++ vs).length) none)[i]? = some (some v) := e2
    have hi : i < (caps ++ ps).length := (List.getElem?_eq_some_iff.mp e1).1
    have hv : (vc ++ vs)[i]? = some v := by
      have hlen : (vc ++ vs).length = (caps ++ ps).length := by rw [List.length_append, List.length_append, C.len, hlv]
      rw [List.getElem?_append_left (by rw [List.length_map, hlen]; exact hi), List.getElem?_map] at e2
      cases q : (vc ++ vs)[i]? with
      | none => rw [q] at e2; cases e2
      | some z => rw [q] at e2; cases e2; rfl
    by_cases hc : i < caps.length
    · rw [List.getElem?_append_left hc] at e1
      rw [List.getElem?_append_left (by rw [← C.len]; exact hc)] at hv
      have hy : y ∈ caps := List.mem_of_getElem? e1
      obtain ⟨c', hc'⟩ := C.has y hy
      obtain ⟨u, ru, hu⟩ := C.val i y v c' e1 hv hc'
      have nl : k.scope.names.lookup y ≠ some .local := fun z => by
        have := L.loc y z
        have nd := L.nd
        rw [List.nodup_append] at nd
        exact nd.2.2 y hy y this rfl
      refine ⟨u, ru, .inr ⟨?_, c', hc', cellK hu⟩⟩
      rcases e3 with z | z | z
      · exact absurd z nl
      · exact absurd rfl (L.cell _ (PySem.mem_of_lookup z))
      · exact .inr z
    · rw [List.getElem?_append_right (by omega)] at e1
      rw [List.getElem?_append_right (by rw [← C.len]; omega), ← C.len] at hv
      obtain ⟨u, hu, ru⟩ : ∃ u, us[i - caps.length]? = some u ∧ RelV v u := by
        have hlt : i - caps.length < us.length := by
          have := (List.getElem?_eq_some_iff.mp hv).1
          rw [hl, ← hlv]; exact this
        exact ⟨us[i - caps.length], List.getElem?_eq_getElem hlt, (by obtain ⟨u', h1, h2⟩ := r.get hv; rw [List.getElem?_eq_getElem hlt] at h1; cases h1; exact h2)⟩
      exact ⟨u, ru, .inl ⟨L.par y (List.mem_of_getElem? e1), lookup_zip_rev (List.nodup_append.mp L.nd).2.1 hl e1 hu⟩⟩
  · obtain ⟨_, v, hv⟩ := C.ok y c e
    exact ⟨v, cellK hv⟩
  · show ((vc ++ vs).map some ++ List.replicate ((caps ++ ps).length - (vc ++ vs).length) none).length = (caps ++ ps).length
    simp only [List.length_append, List.length_map, List.length_replicate, C.len, hlv]
    omega
end
/-- a lambda's text, judged: te reads its body over the captured names and the parameters -/
structure LamB (P : Program) (w : World) (K : PySem.W.Frag) (mg : Str → Option Value) (base : Heap) (caps ps : List Str) (k : Clo) (lv : Nat) (te : DTE) : Prop where
  L : LamP caps ps k.scope
  bind : ∀ (pm cv ctv : Value) (us : List Value), us.length = ps.length → bindArgs (PySem.W.kla_fn "<lambda>" k.qual k.params k.body k.scope k.cells pm cv ctv) ⟨us, []⟩ = pure (ps.zip us)
  body : ∀ (W : Wd K) (f c : Addr) (A : Around) (outer : List Env) (s : Shared) (H B : Hp) (E : XK) (Ed : EX) (hE : ∀ C H' B', Ed C → Grow W H B H' B' → E (.ref C) none H'), Room lv (A.deeper (lamE k s.heap.objs.size f c)) →
    PE (lamC P w K mg base (caps ++ ps) k f c A outer s H E) k.body (upE (⟨W, H, B, E, Ed, hE⟩ : Gx K) te)
def lamBeh (n : Nat) (dc : List D) (te : DTE) : SpD := fun ds Q E => ds.length = n ∧ te ((dc ++ ds).map .im) (fun d _ => Q d) E
/-- the captured names' places in the maker's frame -/
structure CapAt (X : Cx) (k : Clo) (caps : List Str) (ix : List Nat) : Prop where
  len : caps.length = ix.length
  cells : k.cells = cloFrom X.env.cells k.scope.names []
  free : ∀ y ∈ caps, (y, NameKind.free) ∈ k.scope.names
  all : ∀ y, (y, NameKind.free) ∈ k.scope.names → y ∈ caps
  at_ : ∀ (i : Nat) (y : Str) (j : Nat), caps[i]? = some y → ix[i]? = some j → X.N[j]? = some y
  cell : ∀ y ∈ caps, X.env.kindOf y = some .cell ∧ X.fn y = true
def ims (Δ : List Sl) : List Nat → Option (List D)
  | [] => some []
  | i :: is => match Δ[i]?, ims Δ is with
    | some (.im d), some ds => some (d :: ds)
    | _, _ => none
theorem rps_append {K : PySem.W.Frag} {W : Wd K} {B : Hp} : ∀ {vs ws : List V} {ds es : List D}, Rps W B vs ds → Rps W B ws es → Rps W B (vs ++ ws) (ds ++ es)
  | _, _, _, _, .nil, h => h
  | _, _, _, _, .cons _ _ _ _ a b, h => .cons _ _ _ _ a (rps_append b h)
theorem DR.ims {K : PySem.W.Frag} {G : Gx K} {Δ : List Sl} {σ : L2.St} {H B : Hp} (r : DR G Δ σ H B) : ∀ {is : List Nat} {dc : List D}, DL.ims Δ is = some dc → ∃ vc, vc.length = is.length ∧ (∀ (i j : Nat) (v : V), is[i]? = some j → vc[i]? = some v → σ[j]? = some (some v)) ∧ Rps G.W B vc dc
  | [], dc, h => by
    cases h
    exact ⟨[], rfl, fun i j v e _ => (by simp at e), .nil⟩
  | i :: is, dc, h => by
    simp only [DL.ims] at h
    split at h
    · rename_i d ds e1 e2
      cases h
      obtain ⟨vc, h1, h2, h3⟩ := DR.ims r e2
      obtain ⟨v, h4, h5⟩ := r.get e1
      refine ⟨v :: vc, by simp [h1], fun n j u a b => ?_, .cons _ _ _ _ h5 h3⟩
      cases n with
      | zero => simp at a b; subst a; subst b; exact h4
      | succ n => exact h2 n j u (by simpa using a) (by simpa using b)
    · cases h
section
variable {X : Cx} {pins : List (Addr × Obj)} {σ : L2.St} {H B : Hp} {s : Shared}
theorem cap_cells {k : Clo} {caps : List Str} {ix : List Nat} {vc : List V} (I : Inv X pins σ H s) (C : CapAt X k caps ix) (hl : vc.length = ix.length) (hv : ∀ (i j : Nat) (v : V), ix[i]? = some j → vc[i]? = some v → σ[j]? = some (some v)) :
    CellsOk k caps vc H s.heap ∧ ∀ y c, k.cells.lookup y = some c → restP X.stack H c := by
  have cm : ∀ {y c}, k.cells.lookup y = some c → y ∈ caps ∧ X.env.cells.lookup y = some c := fun {y c} e => by
    rw [C.cells] at e
    rcases cloFrom_mem (PySem.mem_of_lookup e) with hm | ⟨h1, h2⟩
    · cases hm
    · have hy := C.all y h1
      obtain ⟨c1, hc⟩ := I.ok.has y (.inl (C.cell y hy).1)
      refine ⟨hy, ?_⟩
      rw [h2, hc] <;> rfl
  have fr : ∀ y c, y ∈ caps → X.env.cells.lookup y = some c → c ∉ frs X.stack := fun y c hy e hb => by
    have ge : X.s_0.heap.objs.size ≤ c := I.ok.cab y c (C.cell y hy).2 e
    have out : c ∉ X.fs := fun hb => by
      obtain ⟨_, o, ho, _⟩ := I.ok.funs.mem hb
      exact absurd (Nat.lt_of_lt_of_le (Heap.lt_size ho) ge) (Nat.lt_irrefl _)
    rcases I.ok.stk with z | ⟨z, z2⟩
    · rw [z] at hb; exact out hb
    · rw [z] at hb
      simp only [frs, List.filterMap_cons, z2, List.mem_cons] at hb
      rcases hb with hb | hb
      · exact I.cne y c e hb
      · exact out hb
  refine ⟨⟨by rw [C.len, hl], fun x y c e1 e2 => I.ok.inj x y c (cm e1).2 (cm e2).2, fun y hy => ?_, fun y c e => ⟨I.freeC y c (cm e).2, I.cell y c (cm e).2⟩, fun i y v c e1 e2 e3 => ?_⟩, fun y c e => ⟨I.freeC y c (cm e).2, fr y c (cm e).1 (cm e).2⟩⟩
  · rw [C.cells]
    exact mem_lookup (cloFrom_has (cells := X.env.cells) (acc := []) (C.free y hy))
  · have hi : i < ix.length := by rw [← hl]; exact (List.getElem?_eq_some_iff.mp e2).1
    have hj := List.getElem?_eq_getElem hi
    have hN := C.at_ i y _ e1 hj
    have hσ := hv i _ v hj e2
    obtain ⟨m, hn, look⟩ := I.loc
    have hk := (C.cell y (List.mem_of_getElem? e1)).1
    obtain ⟨u, ru, q⟩ := look _ y v hN hσ (.inr (.inl hk))
    refine ⟨u, ru, ?_⟩
    rcases q with ⟨k', _⟩ | ⟨_, c3, e', z⟩
    · rw [hk] at k'; cases k'
    · rw [(cm e3).2] at e'; cases e'; exact z
theorem callOk_of {W : Wd X.K} {k : Clo} {caps ps : List Str} {ix : List Nat} {vc : List V} {dc : List D} {lv : Nat} {te : DTE} (I : Inv X pins σ H s) (LB : LamB X.prog X.w X.K X.mg X.base caps ps k lv te) (C : CapAt X k caps ix) (hl : vc.length = ix.length)
    (hv : ∀ (i j : Nat) (v : V), ix[i]? = some j → vc[i]? = some v → σ[j]? = some (some v)) (rc : Rps W B vc dc) : CallOk X.prog X.w X.K X.mg (part s.heap (restP X.stack H)) W B (lv + 1) k (lamBeh ps.length dc te) := by
  obtain ⟨CO, CR0⟩ := cap_cells I C hl hv
  intro A outer s1 H1 a c us vs Q E hr e0 ha hc rv ⟨B1, ds, Qd, Ed, sb, g, rps, ⟨hn, ht⟩, k1, k2⟩
  have m0 := I.env0
  have e1 := env0_less e0 m0.mod (sub_base m0) (by rw [part_size]; exact m0.bsz)
  obtain ⟨pm, ctv, of1⟩ := (e0.hok a _ ha).1
  obtain ⟨oc, vs', t, hoc, hdc, hvc⟩ := (e0.hok c _ hc).1
  have L := LB.L
  have hus : us.length = ps.length := by rw [← rv.length, rps.length, hn]
  have CO1 : CellsOk k caps vc H1 s1.heap := by
    have kc : ∀ y c, k.cells.lookup y = some c → ∀ o, s.heap.get? c = some o → s1.heap.get? c = some o ∧ H1 c = none := fun y c e o ho => e0.bs c o (part_in ho (CR0 y c e))
    refine ⟨CO.len, CO.inj, CO.has, fun y c e => ?_, fun i y v c a b d => ?_⟩
    · obtain ⟨_, v, o, ho, hd⟩ := CO.ok y c e
      obtain ⟨z1, z2⟩ := kc y c e o ho
      exact ⟨z2, v, o, z1, hd⟩
    · obtain ⟨u, ru, o, ho, hd⟩ := CO.val i y v c a b d
      exact ⟨u, ru, o, (kc y c d o ho).1, hd⟩
  refine PySem.W.kla_callFunE hr.depth of1 rfl L.co L.gen rfl ⟨c, oc, vs', t, rfl, hoc, hdc, hvc⟩ ?_
  rw [LB.bind _ _ _ us hus]
  refine wpAny_pure (wpAny_newFunctionEnv (fun y hy => L.cell y hy) (fun y hy => ?_) (fun h₁ hns hsb => ⟨(e1.mod.nolimit.keeps fun b o e => (e1.bs b o e).1).fresh _ hsb, ?_⟩) L.kind)
  · obtain ⟨y1, y2⟩ := y
    exact L.par y1 (List.of_mem_zip hy).1
  show codeAny _ _ (.expr k.body (lamE k s1.heap.objs.size a c)) _ _
  have kp : ∀ b o, s1.heap.get? b = some o → h₁.get? b = some o := fun b o e => hsb.extBut b o (Nat.ne_of_lt (Heap.lt_size e)) (Heap.get?_push_of_some _ e)
  have J := lam_inv (E := E) (f := a) (c := c) (tk := s1.toks + (ps.zip us).length) L e1 hr.hd CO1 rv hus hns kp
  have hrp : Rps W B1 (vc ++ vs) (dc ++ ds) := rps_append (rc.mono sb) rps
  have hlen : (caps ++ ps).length = (dc ++ ds).length := by rw [← hrp.length, List.length_append, List.length_append, CO.len, rps.length, hn]
  have est : startD (caps ++ ps).length (dc ++ ds) = (dc ++ ds).map .im := by
    unfold startD
    rw [hlen, Nat.sub_self, List.replicate_zero, List.append_nil]
  have dr : DR (⟨W, H1, B1, E, Ed, k2⟩ : Gx X.K) ((dc ++ ds).map .im) (L2.start (caps ++ ps) (vc ++ vs)) H1 B1 := by
    rw [← est]
    exact ⟨g, _, Sls.start hrp⟩
  refine PySem.W.kla_codeExpr (wpAny_mono ((LB.body W a c A outer s1 H1 B1 E Ed k2 (hr.deeper _)).run [] _ _ H1 Q J ⟨_, B1, _, dr, ht, fun d Δ' v H' B' q r' _ rp => k1 d v H' B' q r'.gr rp⟩) (fun v s' hq => ?_) fun e s' hq => hq)
  obtain ⟨w', H', J', rv', q⟩ := hq
  exact ⟨w', H', J'.os, J'.bare, J'.base, J'.hok, rv', q⟩
end
/-! ### defs that are handed lambdas -/
section
variable {P : Program} {w : World} {K : PySem.W.Frag} {mg : Str → Option Value} {base : Heap} {W : Wd K} {Bm : Hp} {lv : Nat} {k : Clo} {beh : SpD}
theorem callOk_more {base' : Heap} {Bm' : Hp} {lv' : Nat} (c : CallOk P w K mg base W Bm lv k beh) (m : Mod K mg base) (kb : ∀ b o, base.get? b = some o → base'.get? b = some o) (hz : base.objs.size ≤ base'.objs.size) (sb : Sub Bm Bm') (hl : lv ≤ lv') : CallOk P w K mg base' W Bm' lv' k beh :=
  fun A outer s H a c0 us vs Q E hr e0 ha hc rv ⟨B, ds, Qd, Ed, sb1, q⟩ => c A outer s H a c0 us vs Q E (hr.mono hl) (env0_less e0 m kb hz) ha hc rv ⟨B, ds, Qd, Ed, sb.trans sb1, q⟩
theorem callOk_or {beh' : SpD} (c : CallOk P w K mg base W Bm lv k beh) (d : CallOk P w K mg base W Bm lv k beh') : CallOk P w K mg base W Bm lv k (fun ds Q E => beh ds Q E ∨ beh' ds Q E) :=
  fun A outer s H a c0 us vs Q E hr e0 ha hc rv ⟨B, ds, Qd, Ed, sb1, g, r, h, k1, k2⟩ => h.elim (fun h => c A outer s H a c0 us vs Q E hr e0 ha hc rv ⟨B, ds, Qd, Ed, sb1, g, r, h, k1, k2⟩) fun h => d A outer s H a c0 us vs Q E hr e0 ha hc rv ⟨B, ds, Qd, Ed, sb1, g, r, h, k1, k2⟩
theorem callOk_no : CallOk P w K mg base W Bm lv k (fun _ _ _ => False) := fun _ _ _ _ _ _ _ _ _ _ _ _ _ _ _ ⟨_, _, _, _, _, _, _, h, _⟩ => h.elim
end
abbrev SpF := (Clo → SpD) → SpD
structure CalF (P : Program) (w : World) (K : PySem.W.Frag) (mg : Str → Option Value) (k lv : Nat) (x : Str) (ps : List Str) (sp : SpF) : Prop where
  ex : ∃ f fd, mg x = some (.ref f) ∧ PySem.W.keepIn K (.ref f) = true ∧ Binds K fd ps [] ∧ ∀ (base : Heap) (W : Wd K) (Bm : Hp) (beh : Clo → SpD), Mod K mg base → (∀ clo, CallOk P w K mg base W Bm lv clo (beh clo)) → FnOk P w K mg base (L2.CX P w) k f fd ps (upSpB W Bm (sp beh))
/-- a lambda of the maker's: its text, where what it captures stands -/
structure LamD where
  k : Clo
  caps : List Str
  ps : List Str
  ix : List Nat
  te : DTE
/-- what calling does: of what was handed in, of the maker's own -/
def behs (b0 : Clo → SpD) : List LamD → List (List D) → Clo → SpD
  | l :: ls, dc :: dcs, clo => fun ds Q E => (clo = l.k ∧ lamBeh l.ps.length dc l.te ds Q E) ∨ behs b0 ls dcs clo ds Q E
  | _, _, clo => b0 clo
def noBeh : Clo → SpD := fun _ _ _ _ => False
def imss (Δ : List Sl) : List LamD → Option (List (List D))
  | [] => some []
  | l :: ls => match DL.ims Δ l.ix, imss Δ ls with
    | some d, some ds => some (d :: ds)
    | _, _ => none
def dFnF (sp : SpF) (b0 : Clo → SpD) (ls : List LamD) (ta : DTA) : DTE := fun Δ Q E => ta Δ (fun ds Δ1 => ∃ dcs, imss Δ1 ls = some dcs ∧ sp (behs b0 ls dcs) ds (fun d => Q d Δ1) E) E
section
variable {X : Cx} {G : Gx X.K} {pins : List (Addr × Obj)} {σ : L2.St} {H B : Hp} {s : Shared} {pos : Pos}
theorem behs_ok {Bm0 : Hp} {b0 : Clo → SpD} {lv : Nat} (I : Inv X pins σ H s) {Δ : List Sl} (r : DR G Δ σ H B) (EV : ∀ clo, CallOk X.prog X.w X.K X.mg X.base G.W Bm0 lv clo (b0 clo)) (sb : Sub Bm0 G.B0) :
    ∀ {ls : List LamD} {dcs : List (List D)}, (∀ l ∈ ls, ∃ lv', lv' + 1 ≤ lv ∧ LamB X.prog X.w X.K X.mg X.base l.caps l.ps l.k lv' l.te ∧ CapAt X l.k l.caps l.ix) → imss Δ ls = some dcs →
      ∀ clo, CallOk X.prog X.w X.K X.mg (part s.heap (restP X.stack H)) G.W B lv clo (behs b0 ls dcs clo)
  | [], _, _, h, clo => by
    cases h
    exact callOk_more (EV clo) I.ok.mod (sub_base I.env0) (by rw [part_size]; exact I.env0.bsz) (sb.trans r.gr.bas) (Nat.le_refl _)
  | l :: ls, _, hl, h, clo => by
    simp only [imss] at h
    split at h
    · rename_i d ds e1 e2
      cases h
      obtain ⟨lv', h1, LB, C⟩ := hl l List.mem_cons_self
      obtain ⟨vc, h2, h3, h4⟩ := DR.ims r e1
      have own := callOk_more (lv' := lv) (callOk_of (W := G.W) (B := B) I LB C h2 h3 h4) (mod_more I.env0.mod (sub_base I.env0)) (fun _ _ e => e) (Nat.le_refl _) (Sub.refl B) h1
      refine callOk_or ?_ (behs_ok I r EV sb (fun l' hl' => hl l' (List.mem_cons_of_mem _ hl')) e2 clo)
      intro A outer s2 H2 a c us vs Q E hr e0 ha hc rv ⟨B2, ds2, Qd, Ed, sb2, g, rps, ⟨ek, hb⟩, k1, k2⟩
      subst ek
      exact own A outer s2 H2 a c us vs Q E hr e0 ha hc rv ⟨B2, ds2, Qd, Ed, sb2, g, rps, hb, k1, k2⟩
    · cases h
theorem ev_no {base : Heap} {W : Wd X.K} {Bm : Hp} {lv : Nat} : ∀ clo, CallOk X.prog X.w X.K X.mg base W Bm lv clo (noBeh clo) := fun _ => callOk_no
/-- f(e, ..), lambdas among the arguments -/
theorem de_calF {k lv : Nat} {ps : List Str} {sp : SpF} {x : Str} {p : Pos} {e : Expr} {es : List Expr} {ta : DTA} {b0 : Clo → SpD} {Bm0 : Hp} {ls : List LamD} (c : CalF X.prog X.w X.K X.mg k lv x ps sp) (hr : Room k X.A) (hx : Passes (L2.CX X.prog X.w) X G.E)
    (EV : ∀ clo, CallOk X.prog X.w X.K X.mg X.base G.W Bm0 lv clo (b0 clo)) (sb : Sub Bm0 G.B0) (hls : ∀ l ∈ ls, ∃ lv', lv' + 1 ≤ lv ∧ LamB X.prog X.w X.K X.mg X.base l.caps l.ps l.k lv' l.te ∧ CapAt X l.k l.caps l.ix) (ha : PA X (e :: es) (upA G ta)) (hg : Gl X x := by rfl) (hdb : (x == ("__debug__" : Str)) = false := by decide)
    (he : starEach (e :: es) X.env = (false, eval e X.env) :: starEach es X.env := by rfl) (hpl : (backTo pos (starEach es X.env)).any (·.1) = false := by rfl) : PE X (.Call (.Name x p) (e :: es) [] pos) (upE G (dFnF sp b0 ls ta)) := by
  refine ⟨fun pins s σ H Q I ⟨Δ, B, Qd, r0, q0, kk⟩ => ?_⟩
  obtain ⟨f, fd, hm, hk, hb, F⟩ := c.ex
  refine wpAny_Call_Name_kw (ld_glob I hg hm ?_ hdb)
  refine PySem.W.callWith_K (h₀ := X.base) I.ok.mod.kin hk (thn (ha.run pos pins s σ H (fun vs H1 => ∃ Δ1 B1 ds, DR G Δ1 σ H1 B1 ∧ Sub B B1 ∧ Rps G.W B1 vs ds ∧ ∃ dcs, imss Δ1 ls = some dcs ∧ sp (behs b0 ls dcs) ds (fun d => Qd d Δ1) G.Ed) I
    ⟨Δ, B, _, r0, q0, fun ds Δ1 vs H1 B1 qd r1 s1 rp => ⟨Δ1, B1, ds, r1, s1, rp, qd⟩⟩) fun us s1 ⟨vs, H1, I1, r, Δ1, B1, ds, r1, sb1, rp, dcs, e1, hsp⟩ => ⟨I1.kIn, ?_⟩) he hpl
  have FF := F (part s1.heap (restP X.stack H1)) G.W B1 (behs b0 ls dcs) (mod_more I1.env0.mod (sub_base I1.env0)) (behs_ok I1 r1 EV sb hls e1)
  have pre : upSpB G.W B1 (sp (behs b0 ls dcs)) vs H1 Q G.E := ⟨B1, ds, _, _, Sub.refl B1, r1.gr.self, rp, hsp, fun d v H' B' qd g rp => kk d Δ1 v H' B' qd (r1.grow g) (sb1.trans g.bas) rp, fun C H' B' e g => G.hE C H' B' e (r1.gr.trans g)⟩
  have hl : (us ++ []).length = ps.length := by rw [List.append_nil, ← r.length]; exact FF.len _ _ _ _ pre
  have hb1 := hb s1 us I1.kIn hl
  rw [List.append_nil] at hb1
  show wpAny _ _ (call (.ref f) us) _ _ _
  refine wpAny_call (codeAny_mono (FF.run X.A X.stack s1 H1 ⟨us, []⟩ us vs Q G.E hr (env0_part I1.env0) hb1 r pre) fun r s' hq => ?_)
  cases r with
  | error e => exact hx pins σ H1 s1 e s' I1 hq
  | ok fl =>
    cases fl with
    | ret u => exact I1.after hq
    | next => exact False.elim hq
    | brk => exact False.elim hq
    | cont => exact False.elim hq
/-! ### a parameter that is a lambda, called -/
def dCallF (i : Nat) (b : Clo → SpD) (ta : DTA) : DTE := fun Δ Q E => ∃ clo, Δ[i]? = some (.im (.fn clo)) ∧ ta Δ (fun ds Δ1 => b clo ds (fun d => Q d Δ1) E) E
theorem fn_at (I : Inv X pins σ H s) {k : Clo} {a c : Addr} (h : H a = some (FnO k c a)) : PySem.W.FnAt a s.heap := by
  obtain ⟨pm, ctv, e⟩ := (I.hok a _ h).1
  exact ⟨_, _, _, _, e⟩
theorem de_callfn (i : Nat) {a : Str} {p : Pos} {e : Expr} {es : List Expr} {ta : DTA} {b : Clo → SpD} {Bm : Hp} {lv : Nat} (EV : ∀ clo, CallOk X.prog X.w X.K X.mg X.base G.W Bm lv clo (b clo)) (sb : Sub Bm G.B0) (hr : Room lv X.A) (hx : Passes (L2.CX X.prog X.w) X G.E) (ha : PA X (e :: es) (upA G ta))
    (hN : X.N[i]? = some a := by rfl) (hv : Vis X.env.scope a := by first | exact Or.inl rfl | exact Or.inr (Or.inl rfl) | exact Or.inr (Or.inr rfl)) (hd : (a == ("__debug__" : Str)) = false := by decide) (hcd : (a == ("__classdict__" : Str)) = false := by decide)
    (he : starEach (e :: es) X.env = (false, eval e X.env) :: starEach es X.env := by rfl) (hpl : (backTo pos (starEach es X.env)).any (·.1) = false := by rfl) : PE X (.Call (.Name a p) (e :: es) [] pos) (upE G (dCallF i b ta)) := by
  refine ⟨fun pins s σ H Q I ⟨Δ, B, Qd, r0, ⟨clo, e0, q0⟩, kk⟩ => ?_⟩
  obtain ⟨v, hσ, rv⟩ := r0.get e0
  cases rv with
  | fn f c _ hf hc =>
    refine wpAny_Call_Name_kw (thn ((pe_var (pos := p) (i := i) hN hv hd hcd).run pins s σ H (fun v H1 => v = .ref f ∧ H1 = H) I ⟨.ref f, hσ, rfl, rfl⟩) fun u s0 ⟨v, H0', I0, rr, ev, eH⟩ => ?_)
    subst ev
    subst eH
    obtain rfl : u = Value.ref f := rr
    refine PySem.W.callWith_F (fn_at I0 (r0.gr.sub _ _ hf).1) (thn (ha.run pos pins s0 σ _ (fun vs H1 => ∃ Δ1 B1 ds, DR G Δ1 σ H1 B1 ∧ Sub B B1 ∧ Rps G.W B1 vs ds ∧ b clo ds (fun d => Qd d Δ1) G.Ed) I0
      ⟨Δ, B, _, r0, q0, fun ds Δ1 vs H1 B1 qd r1 s1 rp => ⟨Δ1, B1, ds, r1, s1, rp, qd⟩⟩) fun us s1 ⟨vs, H1, I1, r, Δ1, B1, ds, r1, sb1, rp, hb⟩ => ⟨fn_at I1 (r1.gr.sub _ _ (sb1 _ _ hf)).1, ?_⟩) he hpl
    show wpAny _ _ (call (.ref f) us) _ _ _
    refine wpAny_call (codeAny_mono (EV clo X.A X.stack s1 H1 f c us vs Q G.E hr I1.env0 (r1.gr.sub _ _ (sb1 _ _ hf)).1 (r1.gr.sub _ _ (sb1 _ _ hc)).1 r
      ⟨B1, ds, _, _, sb.trans r1.gr.bas, r1.gr.self, rp, hb, fun d v H' B' qd g rp => kk d Δ1 v H' B' qd (r1.grow g) (sb1.trans g.bas) rp, fun C H' B' e g => G.hE C H' B' e (r1.gr.trans g)⟩) fun r s' hq => ?_)
    cases r with
    | error e => exact hx pins σ H1 s1 e s' I1 hq
    | ok fl =>
      cases fl with
      | ret u => exact I1.after hq
      | next => exact False.elim hq
      | brk => exact False.elim hq
      | cont => exact False.elim hq
def dCallF0 (i : Nat) (b : Clo → SpD) : DTE := fun Δ Q E => ∃ clo, Δ[i]? = some (.im (.fn clo)) ∧ b clo [] (fun d => Q d Δ) E
theorem de_callfn0 (i : Nat) {a : Str} {p : Pos} {b : Clo → SpD} {Bm : Hp} {lv : Nat} (EV : ∀ clo, CallOk X.prog X.w X.K X.mg X.base G.W Bm lv clo (b clo)) (sb : Sub Bm G.B0) (hr : Room lv X.A) (hx : Passes (L2.CX X.prog X.w) X G.E)
    (hN : X.N[i]? = some a := by rfl) (hv : Vis X.env.scope a := by first | exact Or.inl rfl | exact Or.inr (Or.inl rfl) | exact Or.inr (Or.inr rfl)) (hd : (a == ("__debug__" : Str)) = false := by decide) (hcd : (a == ("__classdict__" : Str)) = false := by decide) :
    PE X (.Call (.Name a p) [] [] pos) (upE G (dCallF0 i b)) := by
  refine ⟨fun pins s σ H Q I ⟨Δ, B, Qd, r0, ⟨clo, e0, q0⟩, kk⟩ => ?_⟩
  obtain ⟨v, hσ, rv⟩ := r0.get e0
  cases rv with
  | fn f c _ hf hc =>
    refine wpAny_Call_Name_kw (thn ((pe_var (pos := p) (i := i) hN hv hd hcd).run pins s σ H (fun v H1 => v = .ref f ∧ H1 = H) I ⟨.ref f, hσ, rfl, rfl⟩) fun u s0 ⟨v, H0', I0, rr, ev, eH⟩ => ?_)
    subst ev
    subst eH
    obtain rfl : u = Value.ref f := rr
    refine PySem.W.callWith_F0 (fn_at I0 (r0.gr.sub _ _ hf).1) ?_
    show wpAny _ _ (call (.ref f) []) _ _ _
    refine wpAny_call (codeAny_mono (EV clo X.A X.stack s0 _ f c [] [] Q G.E hr I0.env0 (r0.gr.sub _ _ hf).1 (r0.gr.sub _ _ hc).1 .nil
      ⟨B, [], _, _, sb.trans r0.gr.bas, r0.gr.self, .nil, q0, fun d v H' B' qd g rp => kk d Δ v H' B' qd (r0.grow g) g.bas rp, fun C H' B' e g => G.hE C H' B' e (r0.gr.trans g)⟩) fun r s' hq => ?_)
    cases r with
    | error e => exact hx pins σ _ s0 e s' I0 hq
    | ok fl =>
      cases fl with
      | ret u => exact I0.after hq
      | next => exact False.elim hq
      | brk => exact False.elim hq
      | cont => exact False.elim hq
end
section
variable {P : Program} {w : World} {K : PySem.W.Frag} {mg : Str → Option Value}
/-- THE RULE for a def that is handed lambdas -/
theorem fn_okF {x qual : Str} {st : Stmt} {f : Addr} {fd : FuncData} {N ps : List Str} {k lv : Nat} {sp : SpF} {t : (Clo → SpD) → DTS} {dvs : List V} {kws : List (Str × V)} (F : FunD K x qual (defArgs st) (defBody st) (defScope st) dvs kws f fd) (S : FnScope N ps (defScope st))
    (hbody : ∀ (base : Heap), Mod K mg base → ∀ (W : Wd K) (Bm : Hp) (beh : Clo → SpD), (∀ clo, CallOk P w K mg base W Bm lv clo (beh clo)) → ∀ (cdv : Value) (A : Around) (outer : List Env) (s : Shared) (H B : Hp) (E : XK) (Ed : EX) (hE : ∀ C H' B', Ed C → Grow W H B H' B' → E (.ref C) none H'), Sub Bm B →
      Room k (A.deeper (envOfC qual (defScope st) s.heap.objs.size f cdv)) → PSs (cxB P w K mg base N qual st f cdv A outer s H E) (defBody st) (upS (⟨W, H, B, E, Ed, hE⟩ : Gx K) (t beh)))
    (hsp : ∀ beh ds Q E, sp beh ds Q E → ds.length = ps.length ∧ t beh { nx := fun _ => Q .non, rt := Q } (startD N.length ds) E) :
    ∀ (base : Heap) (W : Wd K) (Bm : Hp) (beh : Clo → SpD), Mod K mg base → (∀ clo, CallOk P w K mg base W Bm lv clo (beh clo)) → FnOk P w K mg base (L2.CX P w) (k + 1) f fd ps (upSpB W Bm (sp beh)) := by
  intro base W Bm beh M EV
  refine fund_ok F (CX := L2.CX P w) S (fun vs H Q E ⟨B, ds, Qd, Ed, sb, g, r, h, _⟩ => r.length.trans (hsp _ _ _ _ h).1) fun cdv A outer s H vs Q E hr ⟨B, ds, Qd, Ed, sb, g, r, h, k1, k2⟩ => ?_
  refine ⟨_, hbody base M W Bm beh EV cdv A outer s H B E Ed k2 sb hr, startD N.length ds, B, _, ⟨g, _, Sls.start r⟩, (hsp _ _ _ _ h).2, fun Δ' σ' H' B' q r' sb => k1 .non .non H' B' q r'.gr .non, fun _ _ _ _ q => q.elim, fun _ _ _ _ q => q.elim, fun d v H' B' q g' sb rp => k1 d v H' B' q g' rp⟩
end
end DL
-- DLmk
set_option Elab.async false
set_option linter.all false
set_option maxRecDepth 100000
set_option maxHeartbeats 2000000
set_option autoImplicit false
namespace DL
open PySem PySem.Spec L2
open PyProof.Rows hiding St
/-! ### a lambda made: its function object is told of the heap from then on -/
section
variable {X : Cx} {pins : List (Addr × Obj)} {σ : L2.St} {H0 H : Hp} {s0 s : Shared}
theorem inv_reg {f : Addr} {φ : Heap → Prop} (I0 : Inv X pins σ H0 s0) (I : Inv X pins σ H s) (hge : s0.heap.objs.size ≤ f) (hn : H f = none) (ok : ObjOk X.prog X.w H s.heap f (.ext φ)) : Inv X pins σ (upd H f (.ext φ)) s := by
  have ne : ∀ {b : Addr} {u : HO}, H b = some u → b ≠ f := fun e => ne_of_none e hn
  have lt : ∀ {b : Addr}, b < s0.heap.objs.size → b ≠ f := fun h z => by subst z; exact Nat.lt_irrefl _ (Nat.lt_of_lt_of_le h hge)
  have b := I.base
  refine ⟨I.ok, I.os, I.bare, ⟨b.keep, b.slot, fun c o e n x => ?_, b.there, fun c xs e => ?_, fun c o u e => ?_, fun c ps e => ?_⟩, I.loc, I.cell, ?_, fun x c e => ?_, fun p hp => ?_, fun c u e => ?_, I.len⟩
  · rw [upd_ne (lt (Nat.lt_of_lt_of_le (Heap.lt_size e) I0.sz))]; exact b.free c o e n x
  · have z := b.tups c xs e
    rw [upd_ne (ne z)]; exact z
  · have z := b.frzs c o u e
    rw [upd_ne (ne z)]; exact z
  · obtain ⟨more, z⟩ := b.tbls c ps e
    exact ⟨more, by rw [upd_ne (ne z)]; exact z⟩
  · rw [upd_ne (lt I0.lt)]; exact I.free
  · obtain ⟨v, o, ho, _⟩ := I0.cell x c e
    rw [upd_ne (lt (Heap.lt_size ho))]; exact I.freeC x c e
  · obtain ⟨h1, h2, h3⟩ := I.pin p hp
    exact ⟨h1, by rw [upd_ne (lt (Heap.lt_size (I0.pin p hp).1))]; exact h2, h3⟩
  · by_cases z : c = f
    · subst z; rw [upd_same] at e; cases e; exact ok
    · rw [upd_ne z] at e
      exact (I.hok c u e).stay (fun d v _ q => q) (fun d q => by rw [upd_ne (ne q)]; exact q) fun d xs q => by rw [upd_ne (ne q)]; exact q
abbrev cloOf (X : Cx) (params : Arguments) (body : Expr) (scope : Scope) : Clo := ⟨X.env.qual ++ "<lambda>", params, body, scope, cloFrom X.env.cells scope.names []⟩
theorem lam_make3 {T : List (Addr × Str)} {c P : Addr} {params : Arguments} {body : Expr} {scope : Scope} {pos : Pos} {E : Value → Shared → Prop} {Q : Value → Shared → Prop} (I : Inv X pins σ H s) (TB : LamX.TabB X.base X.mg c P) (hcode : X.env.code = .ref c)
    (hm : (P, X.env.qual ++ "<lambda>") ∈ T) (hu : ∀ p ∈ T, p.1 = P → p.2 = X.env.qual ++ "<lambda>") (hT : LamX.Tabs T H) (hdef : defaultsOf params X.env = ([], [])) (hfree : ∀ y ∈ scope.names, y.2 = .free → ∃ c, X.env.cells.lookup y.1 = some c)
    (h : ∀ (f c' : Addr) (H1 : Hp) (s' : Shared), Inv X pins σ H1 s' → LamX.ExtN H H1 → LamX.Tabs T H1 → (∀ b o, H b = some o → H1 b ≠ none) → s.heap.objs.size ≤ f → (∃ pm ctv, s'.heap.get? f = some (PySem.W.kla_obj "<lambda>" (cloOf X params body scope).qual params body scope (cloOf X params body scope).cells pm c' ctv)) →
      H1 f = none → H1 c' = some (LamX.CodeO c' (X.env.qual ++ "<lambda>")) → (H c' = none ∨ H c' = some (LamX.CodeO c' (X.env.qual ++ "<lambda>"))) → Q (.ref f) s') :
    wpAny (model X.prog X.w) X.A (eval (.Lambda params body scope pos) X.env) Q E s := by
  obtain ⟨ps, hP, ht, ha⟩ := hT _ hm
  refine PySem.W.kla_eval hdef ?_
  have bP := TB.bm.keeps I.bk
  have hP' : s.heap.get? P = some { cls := .none, data := .fields ps } := I.hok P _ hP
  cases hc : codeAmong pos ps.toList with
  | some cv =>
    obtain ⟨c', e, hco⟩ := ha pos cv hc
    subst e
    refine PySem.W.kla_makeFunctionHit (mg := X.mg) (c := c) (P := P) (ps := ps) (closure_ok hfree) I.ok.glob (I.mod.glob.keeps I.bk) hcode (TB.code.keeps I.bk) hP' ht hc bP fun ctv h' tk hx hsz => ?_
    exact h h'.objs.size c' H _ (I.kept (t' := tk) fun b o e => Heap.get?_push_of_some _ (hx b o e)) (LamX.ExtN.refl H) hT (fun b o e => by rw [e]; simp) hsz ⟨_, ctv, Heap.get?_push_size _ rfl⟩ (I.hok.fresh hsz) hco (.inr hco)
  | none =>
    refine PySem.W.kla_makeFunction (mg := X.mg) (c := c) (P := P) (ps := ps) (closure_ok hfree) I.ok.glob (I.mod.glob.keeps I.bk) hcode (TB.code.keeps I.bk) hP' ht hc TB.gP bP fun c' ctv h' tk hx hge hlt hrec htb => ?_
    obtain ⟨c2, oc, vs, t, e2, hoc, hd, hv⟩ := hrec
    cases e2
    have hsz : s.heap.objs.size ≤ h'.objs.size := Nat.le_trans hge (Nat.le_of_lt hlt)
    have nC : H c' = none := I.hok.fresh hge
    have cP : P ≠ c' := ne_of_none hP nC
    have push : ∀ {b : Addr} {o : Obj}, h'.get? b = some o → (h'.push (PySem.W.kla_obj "<lambda>" (X.env.qual ++ "<lambda>") params body scope (cloFrom X.env.cells scope.names []) ((X.mg "__name__").getD .none) c' ctv)).get? b = some o := fun e => Heap.get?_push_of_some _ e
    have I1 := LamX.inv_table (t' := tk) (more := #[rawInt pos.line, rawInt pos.col, .ref c']) I hP (fun b o hb e => push (hx b o hb e)) (push htb) hge ⟨oc, vs, t, push hoc, hd, hv⟩
    have hE : LamX.ExtN H (upd (upd H P (.tbl (ps ++ #[rawInt pos.line, rawInt pos.col, .ref c']))) c' (LamX.CodeO c' (X.env.qual ++ "<lambda>"))) := fun b o e n => by
      rw [upd_ne (ne_of_none e nC)]
      exact (upd_ne (fun z => n ps (by rw [z, hP] at e; exact (Option.some.inj e).symm))).trans e
    have eL : (ps ++ #[rawInt pos.line, rawInt pos.col, .ref c']).toList = ps.toList ++ [rawInt pos.line, rawInt pos.col, .ref c'] := by simp
    refine h h'.objs.size c' _ _ I1 hE (fun p hp => ?_) (fun b o e => ?_) hsz ⟨_, ctv, Heap.get?_push_size _ rfl⟩ ?_ upd_same (.inl nC)
    · by_cases hb : p.1 = P
      · rw [hu p hp hb, hb]
        refine ⟨_, (upd_ne cP).trans upd_same, by rw [eL]; exact PySem.TriplesOk_snoc _ _ _ _ ht, fun p' cv hcv => ?_⟩
        rw [eL] at hcv
        rcases LamX.among_app _ ht hcv with z | z
        · obtain ⟨c0, e1, e2⟩ := ha p' cv z
          exact ⟨c0, e1, hE _ _ e2 LamX.codeO_ne⟩
        · exact ⟨c', z, upd_same⟩
      · obtain ⟨ps', a1, a2, a3⟩ := hT p hp
        refine ⟨ps', ((upd_ne (ne_of_none a1 nC)).trans (upd_ne hb)).trans a1, a2, fun p' cv hcv => ?_⟩
        obtain ⟨c0, e1, e2⟩ := a3 p' cv hcv
        exact ⟨c0, e1, hE _ _ e2 LamX.codeO_ne⟩
    · rw [upd_ne (ne_of_none e nC)]
      by_cases hb : b = P
      · subst hb; rw [upd_same]; simp
      · rw [upd_ne hb, e]; simp
    · have n1 : h'.objs.size ≠ c' := Nat.ne_of_gt hlt
      have n2 : h'.objs.size ≠ P := Nat.ne_of_gt (Nat.lt_of_lt_of_le (Heap.lt_size hP') hsz)
      exact ((upd_ne n1).trans (upd_ne n2)).trans (I.hok.fresh hsz)
end
/-- what making lambdas asks of the place: the code object, its table -/
structure LamMk (X : Cx) (T : List (Addr × Str)) : Prop where
  ex : ∃ c P, LamX.TabB X.base X.mg c P ∧ X.env.code = .ref c ∧ (P, X.env.qual ++ "<lambda>") ∈ T ∧ ∀ p ∈ T, p.1 = P → p.2 = X.env.qual ++ "<lambda>"
section
variable {X : Cx} {G : Gx X.K} {pos : Pos}
theorem de_lam {params : Arguments} {body : Expr} {scope : Scope} (M : LamMk X G.W.T) (hdef : defaultsOf params X.env = ([], []) := by rfl) (hf : ∀ y ∈ scope.names, y.2 = .free → X.env.kindOf y.1 = some .cell ∨ X.env.kindOf y.1 = some .free := by decide) :
    PE X (.Lambda params body scope pos) (upE G (dC (.fn (cloOf X params body scope)))) := by
  refine ⟨fun pins s σ H Q I ⟨Δ, B, Qd, r, q, kk⟩ => ?_⟩
  obtain ⟨c, P, TB, hcode, hm, hu⟩ := M.ex
  refine lam_make3 I TB hcode hm hu (G.W.tabs r.wok) hdef (fun y hy e => I.ok.has _ (hf y hy e)) fun f c' H1 s' I1 hE hT dm hge ⟨pm, ctv, hobj⟩ hfn hc' hcn => ?_
  have okf : ObjOk X.prog X.w H1 s'.heap f (FnO (cloOf X params body scope) c' f) := ⟨⟨pm, ctv, hobj⟩, ⟨_, hobj⟩, fun h1 h2 ⟨pm, ctv, e⟩ k => ⟨pm, ctv, k _ e⟩⟩
  have I2 := inv_reg I I1 hge hfn okf
  have wok1 : G.W.ok H1 := G.W.lam r.wok hE hT
  have nfc : ∀ o, Solid G.W f o ∨ True := fun _ => .inr True.intro
  have fH : H f = none := I.hok.fresh hge
  have cf : c' ≠ f := ne_of_none hc' hfn
  -- what is told of the heap: the old, the code object, the function
  have codeS : Solid G.W c' (LamX.CodeO c' (X.env.qual ++ "<lambda>")) → True := fun _ => True.intro
  have sol : ∀ a o, H1 a = some o → (∀ ps, o ≠ .tbl ps) → ¬ G.W.fv a → Solid G.W a o := fun a o _ h1 h2 => ⟨h1, h2⟩
  have nfv : ¬ G.W.fv c' := by
    intro z
    rcases hcn with e | e
    · obtain ⟨o, e2⟩ := G.W.th r.wok z
      rw [e] at e2; cases e2
    · exact absurd z (G.W.fvx r.wok e)
  have nff : ¬ G.W.fv f := fun z => by
    obtain ⟨o, e2⟩ := G.W.th r.wok z
    rw [fH] at e2; cases e2
  have hb : ∀ a o, B a = some o → H1 a = some o := fun a o e => by
    obtain ⟨h1, h2⟩ := r.gr.sub a o e
    exact hE a o h1 h2.1
  have g1 : Grow G.W H B H1 (upd B c' (LamX.CodeO c' (X.env.qual ++ "<lambda>"))) := by
    refine ⟨fun a o e S => hE a o e S.1, fun a e => ?_, fun a o e => ?_, fun a e => ?_, fun a o e => ?_, wok1⟩
    · cases z : H a with
      | none => exact absurd z e
      | some o => exact dm a o z
    · by_cases z : a = c'
      · subst z; rw [upd_same]; rw [← hc']; exact (hb a o e).symm ▸ rfl
      · rw [upd_ne z]; exact e
    · by_cases z : a = c'
      · subst z
        rcases hcn with e | e
        · exact .inr (.inl e)
        · exact .inr (.inr ⟨_, e, fun z => z⟩)
      · rw [upd_ne z] at e; exact .inl e
    · by_cases z : a = c'
      · subst z; rw [upd_same] at e; cases e; exact ⟨hc', fun ps => LamX.codeO_ne ps, nfv⟩
      · rw [upd_ne z] at e; exact ⟨hb a o e, (r.gr.sub a o e).2⟩
  have g2 := g1.trans (g1.alloc (o := FnO (cloOf X params body scope) c' f) hfn (fun ps z => by cases z))
  refine ⟨.ref f, _, I2, rfl, kk _ Δ _ _ _ q (r.grow g2) g2.bas (.fn f c' _ upd_same ?_)⟩
  rw [upd_ne cf, upd_same]
end
end DL
-- DLtry
set_option Elab.async false
set_option linter.all false
set_option maxRecDepth 100000
set_option maxHeartbeats 2000000
set_option autoImplicit false
namespace DL
open PySem PySem.Spec L2
open PyProof.Rows hiding St
/-! ### try: .. except X as n: .., the error told of the heap from then on -/
/-- the object of an exception, by its class and its dict -/
def ExX (cls : Value) (d : Option Addr) (a : Addr) : HO := .ext fun h => ∃ o, h.get? a = some o ∧ L2.Zc cls d o ∧ ∃ vs, o.data = .fields vs
/-- what the clause wishes: it is caught, and the suite goes on to the end -/
def wReg (K : PySem.W.Frag) (c : Value) (i : Nat) (ts : Addr → Value → Option Addr → TS) (D : Ends) : WX := fun cls d σ H => PySem.W.exmOne K cls c = some true ∧
  ∀ a, H a = none → ts a cls d { nx := fun σ' H' => H' a = none → D.nx (σ'.set i none) (upd H' a (ExX cls d a)), rt := fun _ _ => False, bk := fun _ _ => False, ct := fun _ _ => False } (σ.set i (some (.ref a))) H
section
variable {X : Cx} {x n : Str} {c : Value} {i : Nat} {body suite : List Stmt} {b₀ : Stmt} {np pos pos' : Pos} {tb : WX → TS} {ts : Addr → Value → Option Addr → TS}
theorem inv_regN {pins : List (Addr × Obj)} {σ : L2.St} {H : Hp} {s : Shared} {f : Addr} {φ : Heap → Prop} (I : Inv X pins σ H s) (h0 : X.s_0.heap.get? f = none) (hn : H f = none) (hl : f ≠ X.env.locals) (hc : ∀ v, ¬ s.heap.IsCell f v) (hp : ∀ p ∈ X.pn ++ pins, p.1 ≠ f) (ok : ObjOk X.prog X.w H s.heap f (.ext φ)) : Inv X pins σ (upd H f (.ext φ)) s := by
  have ne : ∀ {b : Addr} {u : HO}, H b = some u → b ≠ f := fun e => ne_of_none e hn
  have b := I.base
  refine ⟨I.ok, I.os, I.bare, ⟨b.keep, b.slot, fun c o e n x => ?_, b.there, fun c xs e => ?_, fun c o u e => ?_, fun c ps e => ?_⟩, I.loc, I.cell, ?_, fun x c e => ?_, fun p hp' => ?_, fun c u e => ?_, I.len⟩
  · rw [upd_ne (fun z => by rw [z, h0] at e; cases e)]; exact b.free c o e n x
  · rw [upd_ne (ne (b.tups c xs e))]; exact b.tups c xs e
  · rw [upd_ne (ne (b.frzs c o u e))]; exact b.frzs c o u e
  · obtain ⟨more, z⟩ := b.tbls c ps e
    exact ⟨more, by rw [upd_ne (ne z)]; exact z⟩
  · rw [upd_ne (fun z => hl z.symm)]; exact I.free
  · rw [upd_ne (fun z => by obtain ⟨v, q⟩ := I.cell x c e; rw [z] at q; exact hc v q)]; exact I.freeC x c e
  · obtain ⟨h1, h2, h3⟩ := I.pin p hp'
    exact ⟨h1, by rw [upd_ne (hp p hp')]; exact h2, h3⟩
  · by_cases z : c = f
    · subst z; rw [upd_same] at e; cases e; exact ok
    · rw [upd_ne z] at e
      exact (I.hok c u e).stay (fun d v _ q => q) (fun d q => by rw [upd_ne (ne q)]; exact q) fun d xs q => by rw [upd_ne (ne q)]; exact q
theorem ps_try_reg (hs : X.stack = X.env :: X.outer) (hf : X.env.frame = some X.env.locals) (hex : X.ex = []) (hN : X.N.Nodup) (hi : X.N[i]? = some n) (hln : X.env.kindOf n = some .local) (hc : Names X x c) (hb : ∀ (W : WX) (pn : List (Addr × Obj)) (xe : Value → Shared → Prop), Takes (X.tr pn xe) W → PassesOwn (model X.prog X.w) X.A X.env xe → PSs (X.tr pn xe) body (tb W))
    (hsu : ∀ (a : Addr) (oe : Obj) (cls : Value) (d : Option Addr) (pn : List (Addr × Obj)), Zc cls d oe → (∃ vs, oe.data = .fields vs) → PSs (X.suite a ((a, oe) :: pn)) (b₀ :: suite) (ts a cls d)) :
    PS X (.Try body [.ExceptHandler (some (.Name x np)) (some n) (b₀ :: suite) pos'] [] [] pos) (fun D σ H => tb (wReg X.K c i ts D) D σ H) := by
  refine ⟨fun pins s σ H D I h => ?_⟩
  have ok := I.ok
  have hfr : X.A.frames = some (X.env :: X.outer) := ok.frames.trans (congrArg some hs)
  refine wpAny_Try_except ?_
  refine wpAny_mono ((hb (wReg X.K c i ts D) (X.pn ++ pins) (fun e s₁ => wpAny (model X.prog X.w) X.A (noteFrame e X.env) (fun _ s₂ => wpAny (model X.prog X.w) X.A (setFlight e none) (fun _ s₃ => wpAny (model X.prog X.w) X.A (handleBy e X.env [.ExceptHandler (some (.Name x np)) (some n) (b₀ :: suite) pos']) (SP X pins D) X.xe s₃) X.xe s₂) X.xe s₁)
    (fun u s' xx => ?_) PassesOwn.looking).run [] s σ H D (I.toTry _) h) (fun f s1 hsp => ?_) (fun e s1 he => he)
  · obtain ⟨a, B, sI, pins', σ', H', cls, d, rfl, J', nb, up, sky, na, os, ag, hb1, hyes⟩ := xx
    have J := J'.ofTry ok
    rw [show (X.tr (X.pn ++ pins) _).stack = X.env :: X.outer from hs] at sky
    show wpAny (model X.prog X.w) X.A (noteFrame (.ref a) X.env) _ _ _
    refine Sky.land Zc.steady hfr hf sky fun h3 fl3 up3 => ?_
    have J3 : Inv X pins σ' H' { s' with heap := h3 } := J.landed nb fl3.1 (up.trans up3) os ag
    obtain ⟨oe3, vs3, he3, hz3, hd3⟩ := fl3.there
    have nfr : a ∉ frs (X.env :: X.outer) := fun hm => by
      obtain ⟨_, o', e', hnf⟩ := fl3.2.2.1.mem hm
      rw [he3] at e'; cases e'; exact hnf _ hd3
    have nL : a ≠ X.env.locals := fun z => nfr (List.mem_filterMap.mpr ⟨X.env, List.mem_cons_self, hf.trans (congrArg some z.symm)⟩)
    have nF : a ∉ X.fs := fun hm => by
      obtain ⟨e, he, q⟩ := List.mem_filterMap.mp hm
      exact nfr (List.mem_filterMap.mpr ⟨e, List.mem_cons_of_mem _ he, q⟩)
    -- it did not stand at the entry
    have n0 : X.s_0.heap.get? a = none := by
      cases q : X.s_0.heap.get? a with
      | none => rfl
      | some o =>
        obtain ⟨o', e1⟩ := J.base.there a o q (by rw [hex]; exact List.not_mem_nil)
        have := nb a o' e1 (show a ∉ frs X.stack by rw [hs]; exact nfr)
        rw [fl3.2.1] at this; cases this
    have S3 := J3.suite he3 hd3 na nL nF
    refine wpAny_handleBy_cons (codeAny_handlers_test ?_) (by intro q; cases q)
    have LT : PySem.W.Looks (model X.prog X.w) h3 (typeOf (.ref a)) cls := fun A Q E s k q => wpAny_typeOf_ref (k _ _ he3) (by rw [hz3.1]; exact q)
    have LM := PySem.W.exm_one (M := model X.prog X.w) (J3.kIn) LT hb1
    have test : ∀ {Q E : Value → Shared → Prop}, Q c { s' with heap := h3 } → wpAny (model X.prog X.w) (X.A.mark (some (.ref a))) (eval (.Name x np) X.env) Q E { s' with heap := h3 } := fun {Q E} q => by
      obtain ⟨hg, hdbg, hm | ⟨hm, hv, hnn⟩⟩ := hc
      · exact ld_glob S3 hg hm q hdbg
      · exact ld_blt S3 hg hm hv q hnn hdbg
    refine test (LM.here (codeAny_handlers_suite_as (HandSPX.lands_againZ fl3 fun h4 fl4 up4 => ?_)))
    have J4 : Inv X pins σ' H' { s' with heap := h4 } := J.landed nb fl4.1 ((up.trans up3).trans up4) os ag
    obtain ⟨oe4, vs4, he4, hz4, hd4⟩ := fl4.there
    have S4 := J4.suite he4 hd4 na nL nF
    refine store_ok (X := X.suite a (List.cons (a, oe4) (X.pn ++ pins))) (v := .ref a) S4 hN hi (.inl hln) rfl (fun s5 S5 => ?_) (.inr hln)
    refine wpAny_mono ((hsu a oe4 cls d (X.pn ++ pins) hz4 ⟨_, hd4⟩).run [] s5 _ H' _ S5 (hyes a na)) (fun f s6 hsp => ?_) (fun _ _ z => False.elim z)
    cases f with
    | next =>
      obtain ⟨σ6, H6, S6, q6⟩ := hsp
      have J6 : Inv X ((a, oe4) :: pins) σ6 H6 s6 := ⟨ok, S6.os, S6.bare, S6.base, S6.loc, S6.cell, S6.free, S6.freeC, fun p hp => S6.pin p (by
        rcases List.mem_append.mp hp with z | z
        · exact List.mem_append_left _ (List.mem_cons_of_mem _ (List.mem_append_left _ z))
        · rcases List.mem_cons.mp z with z | z
          · rw [z]; exact List.mem_append_left _ List.mem_cons_self
          · exact List.mem_append_left _ (List.mem_cons_of_mem _ (List.mem_append_right _ z))), S6.hok, S6.len⟩
      refine gone_ok J6 hN hi hln fun s7 J7 => ?_
      obtain ⟨g1, g2, _⟩ := J7.pin (a, oe4) (List.mem_append_right _ List.mem_cons_self)
      have J8 : Inv X pins (σ6.set i none) H6 s7 := ⟨ok, J7.os, J7.bare, J7.base, J7.loc, J7.cell, J7.free, J7.freeC, fun p hp => J7.pin p ((List.mem_append.mp hp).elim (fun z => List.mem_append_left _ z) fun z => List.mem_append_right _ (List.mem_cons_of_mem _ z)), J7.hok, J7.len⟩
      -- no pin is it: at the landing it was in no ground
      have np : ∀ p ∈ X.pn ++ pins, p.1 ≠ a := fun p hp z => by
        obtain ⟨e1, _⟩ := J.pin p hp
        rw [z] at e1
        have := nb a _ e1 (show a ∉ frs X.stack by rw [hs]; exact nfr)
        rw [fl3.2.1] at this; cases this
      have reg := inv_regN (φ := fun h => ∃ o, h.get? a = some o ∧ L2.Zc cls d o ∧ ∃ vs, o.data = .fields vs) J8 n0 g2 nL (fun v ⟨o, ho, hd⟩ => by
        rw [g1] at ho; cases ho; rw [hd4] at hd; cases hd) np ⟨⟨oe4, g1, hz4, _, hd4⟩, ⟨_, g1⟩, fun h1 h2 ⟨o, e, z⟩ k => ⟨o, k o e, z⟩⟩
      exact ⟨_, _, reg, q6 g2⟩
    | brk => obtain ⟨_, _, _, q⟩ := hsp; exact q.elim
    | cont => obtain ⟨_, _, _, q⟩ := hsp; exact q.elim
    | ret u => obtain ⟨_, _, _, _, _, q⟩ := hsp; exact q.elim
  · cases f with
    | ret u =>
      obtain ⟨v, σ', H', J', r, q⟩ := hsp
      exact ⟨v, σ', H', J'.ofTry ok, r, q⟩
    | next =>
      obtain ⟨σ', H', J', q⟩ := hsp
      exact wpAny_execs_nil ⟨σ', H', J'.ofTry ok, q⟩
    | brk =>
      obtain ⟨σ', H', J', q⟩ := hsp
      exact ⟨σ', H', J'.ofTry ok, q⟩
    | cont =>
      obtain ⟨σ', H', J', q⟩ := hsp
      exact ⟨σ', H', J'.ofTry ok, q⟩
end
/-! ### the same, over trees: try: body / except X as n: m = n -/
def dTryAs (ok : Addr → Prop) (m : Nat) (tb : DTS) : DTS := fun N Δ E => m < Δ.length ∧ tb N Δ fun C => ok C ∧ N.nx ((List.replicate Δ.length Sl.un).set m (.im (.exc C)))
theorem un_dr {K : PySem.W.Frag} {G : Gx K} {H B : Hp} (g : Grow G.W G.H0 G.B0 H B) {m : Nat} {v : V} {d : D} {σ : L2.St} (r : Rp G.W B v d) (hm : m < σ.length) (hv : σ[m]? = some (some v)) : DR G ((List.replicate σ.length Sl.un).set m (.im d)) σ H B := by
  refine ⟨g, fun _ => [], by simp, fun j s e => ?_, fun _ _ _ z => (by cases z), fun _ _ z => (by cases z)⟩
  by_cases hj : j = m
  · subst hj
    rw [List.getElem?_set_self (by simpa using hm)] at e
    cases e
    exact ⟨_, hv, .im _ _ r⟩
  · rw [List.getElem?_set_ne (Ne.symm hj), List.getElem?_replicate] at e
    split at e
    · cases e
      rename_i hl
      exact ⟨σ[j], List.getElem?_eq_getElem hl, .un _⟩
    · cases e
section
variable {X : Cx} {G : Gx X.K} {pos : Pos}
theorem ds_try {x n y : Str} {c : Value} {i m : Nat} {body : List Stmt} {np pos' p1 p2 spos : Pos} {ok : Addr → Prop} {tb : DTS} (hs : X.stack = X.env :: X.outer) (hf : X.env.frame = some X.env.locals) (hex : X.ex = []) (hN : X.N.Nodup) (hi : X.N[i]? = some n) (hln : X.env.kindOf n = some .local) (hc : Names X x c) (him : i ≠ m) (hm : X.N[m]? = some y) (hy : Loc X.env.scope y) (hv : Vis X.env.scope n)
    (hd : (n == ("__debug__" : Str)) = false) (hcd : (n == ("__classdict__" : Str)) = false) (hfy : X.fn y = true ∨ X.env.scope.names.lookup y = some .local) (hok : ∀ C, ok C → PySem.W.exmOne X.K (.ref C) c = some true)
    (hb : ∀ (pn : List (Addr × Obj)) (xe : Value → Shared → Prop) (B0 : Hp) (E' : XK) (Ed' : EX) (hE' : ∀ C H' B', Ed' C → Grow G.W G.H0 B0 H' B' → E' (.ref C) none H'), Sub G.B0 B0 → Passes (L2.CX X.prog X.w) (X.tr pn xe) E' → PSs (X.tr pn xe) body (upS (⟨G.W, G.H0, B0, E', Ed', hE'⟩ : Gx X.K) tb)) :
    PS X (.Try body [.ExceptHandler (some (.Name x np)) (some n) [.Assign [.Name y p1] (.Name n p2) spos] pos'] [] [] pos) (upS G (dTryAs ok m tb)) := by
  refine ⟨fun pins s σ H D I ⟨Δ, B, N, r, ⟨hml, ht⟩, k1, k2, k3, k4⟩ => ?_⟩
  have hP := ps_try_reg (b₀ := .Assign [.Name y p1] (.Name n p2) spos) (suite := []) (pos := pos) (pos' := pos') (np := np) (tb := fun W D σ H => ∃ (B0 : Hp) (Ed' : EX) (hE' : ∀ C H' B', Ed' C → Grow G.W G.H0 B0 H' B' → (fun cls d H' => ∀ σ : L2.St, σ.length = X.N.length → W cls d σ H') (.ref C) none H'), Sub G.B0 B0 ∧ upS (⟨G.W, G.H0, B0, fun cls d H' => ∀ σ : L2.St, σ.length = X.N.length → W cls d σ H', Ed', hE'⟩ : Gx X.K) tb D σ H)
    (ts := fun a cls d => tAsg (tVar i) (gName m)) hs hf hex hN hi hln hc (fun W pn xe tk _ => ⟨fun pins s σ H D I ⟨B0, Ed', hE', sb, q⟩ => (hb pn xe B0 _ Ed' hE' sb (fun pins σ H s e s' I c => tk e s' (XE.of_call I (fun cls d H' h => h σ I.len) c))).run pins s σ H D I q⟩)
    (fun a oe cls d pn _ _ => pss_one (ps_set (pos := spos) hN hm hy (pe_var hi hv hd hcd) rfl hfy))
  have gB : Grow G.W G.H0 B H B := ⟨r.gr.ext, r.gr.dom, Sub.refl B, fun _ h => .inl h, r.gr.sub, r.gr.wok⟩
  have re : ∀ {H' B' : Hp}, Grow G.W G.H0 B H' B' → Grow G.W G.H0 G.B0 H' B' := fun {H' B'} g => ⟨g.ext, g.dom, r.gr.bas.trans g.bas, fun a h => (g.new a h).elim (fun z => r.gr.new a z) .inr, g.sub, g.wok⟩
  have hil : i < X.N.length := (List.getElem?_eq_some_iff.mp hi).1
  have hmN : m < X.N.length := (List.getElem?_eq_some_iff.mp hm).1
  obtain ⟨fp, S⟩ := r.sl
  have hΔ : Δ.length = X.N.length := S.len.trans I.len
  refine hP.run pins s σ H D I ⟨B, fun C => ok C ∧ N.nx ((List.replicate Δ.length Sl.un).set m (.im (.exc C))), fun C H' B' ⟨oC, q⟩ g σ' hl => ⟨hok C oC, fun a na => ?_⟩, r.gr.bas, Δ, B, N, ⟨gB, fp, ⟨S.len, S.at_, S.dj, S.ou⟩⟩, ht, ?_, ?_, ?_, ?_⟩
  · refine ⟨.ref a, by rw [List.getElem?_set_self (by omega)], fun nH => ?_⟩
    have g2 := g.trans (g.alloc (o := ExcO C a) na (fun ps z => by cases z))
    have r2 : DR G ((List.replicate (((σ'.set i (some (.ref a))).set m (some (.ref a))).set i none).length Sl.un).set m (.im (.exc C))) (((σ'.set i (some (.ref a))).set m (some (.ref a))).set i none) (upd H' a (ExcO C a)) (upd B' a (ExcO C a)) :=
      un_dr (v := .ref a) (re g2) (.exc a C upd_same) (by simp; omega) (by rw [List.getElem?_set_ne him, List.getElem?_set_self (by simp; omega)])
    have e : (((σ'.set i (some (.ref a))).set m (some (.ref a))).set i none).length = Δ.length := by simp [hl, hΔ]
    rw [e] at r2
    exact k1 _ _ _ _ q r2 g2.bas
  · exact fun Δ' σ' H' B' q r' sb => k1 Δ' σ' H' B' q ⟨re r'.gr, r'.sl.imp fun fp S => ⟨S.len, S.at_, S.dj, S.ou⟩⟩ sb
  · exact fun Δ' σ' H' B' q r' sb => k2 Δ' σ' H' B' q ⟨re r'.gr, r'.sl.imp fun fp S => ⟨S.len, S.at_, S.dj, S.ou⟩⟩ sb
  · exact fun Δ' σ' H' B' q r' sb => k3 Δ' σ' H' B' q ⟨re r'.gr, r'.sl.imp fun fp S => ⟨S.len, S.at_, S.dj, S.ou⟩⟩ sb
  · exact fun d v H' B' q g sb rp => k4 d v H' B' q (re g) sb rp
end
/-! ### isinstance of a caught error -/
section
variable {X : Cx}
def rIsEx (K : PySem.W.Frag) : List V → Hp → VK → Prop := fun xs H Q => ∃ (a C C' : Addr) (b : Bool), xs = [.ref a, .ref C'] ∧ H a = some (ExcO C a) ∧ ExcC K C ∧ PySem.W.kitOne K (.ref C) (.ref C') = some b ∧ Q (.bl b) H
theorem call_isEx : CallR X (.builtin "isinstance") (rIsEx X.K) := by
  intro pins s σ H xs us Q I r h
  obtain ⟨a, D, D', b, rfl, ha, C, e, q⟩ := h
  cases r with
  | cons rx rr =>
    cases rr with
    | cons rt rr =>
      cases rr; cases rx; cases rt
      obtain ⟨oe, hget, hz, vs, hv⟩ := (I.hok a _ ha).1
      have J : PySem.W.InstAt s.heap a oe D none := by
        obtain ⟨oc, od, oda, osl⟩ := oe
        obtain ⟨h1, h2⟩ := hz
        dsimp only at h1 h2 hv
        subst h1 h2 hv
        exact ⟨hget, rfl, rfl, trivial⟩
      exact PySem.W.kia_one (PySem.W.handS_kitx_exc C.hg C.hk C.hs C.hd C.ha C.hn C.ht C.hm) I.kIn J e (fun z => nomatch z) fun tk => ⟨.bl b, H, I.kept (t' := tk) fun _ _ z => z, rfl, q⟩
/-- isinstance of errors by what isa tells of the classes -/
def rdIsE (isa : Addr → Addr → Option Bool) : List D → (Sl → Prop) → Prop
  | [.exc C, .cls C'], Q => ∃ b, isa C C' = some b ∧ Q (.im (.bl b))
  | _, _ => False
theorem rc_isE {W : Wd X.K} {isa : Addr → Addr → Option Bool} (h : ∀ C C' b, isa C C' = some b → ExcC X.K C ∧ PySem.W.kitOne X.K (.ref C) (.ref C') = some b) : RcM W (rIsEx X.K) (rdIsE isa) := by
  intro H0 B0 H B vs ds Qd Q g r hh k
  unfold rdIsE at hh
  split at hh
  · obtain ⟨b, e, q⟩ := hh
    obtain ⟨v, w, rfl, a, c⟩ := r.two
    have c2 := c.rp rfl
    have a2 := a.rp rfl
    cases c2
    cases a2 with
    | exc p C hp => exact ⟨p, _, _, b, rfl, g.sb _ _ hp, (h _ _ _ e).1, (h _ _ _ e).2, k _ _ _ _ q (.clean g (.bl _))⟩
  · exact hh.elim
@[simp] theorem sIsE {isa : Addr → Addr → Option Bool} {C C' : Addr} {Q : Sl → Prop} : rdIsE isa [.exc C, .cls C'] Q = ∃ b, isa C C' = some b ∧ Q (.im (.bl b)) := rfl
end
end DL
-- DLrepr
set_option Elab.async false
set_option linter.all false
set_option maxRecDepth 100000
set_option maxHeartbeats 2000000
set_option autoImplicit false
namespace DL
open PySem PySem.Spec L2
open PyProof.Rows hiding St
/-! ### repr of data -/
section
variable {X : Cx} {W : Wd X.K}
def rRepr (K : PySem.W.Frag) : List V → Hp → VK → Prop := fun xs H Q => ∃ (a : Addr) (d : PyData), xs = [.ref a] ∧ Dp K H (.ref a) d ∧ d.canLay0 = true ∧ d.depth ≤ 60 ∧ d.showable = true ∧ d.shown.length ≤ sizeLine ∧ Q (.str d.shown) H
theorem call_repr {k : Nat} (hr : DL.Room k X.A) : CallR X (.builtin "repr") (rRepr X.K) := by
  intro pins s σ H xs us Q I r h
  obtain ⟨a, d, rfl, hd, hl, hp, hs, hz, q⟩ := h
  rw [Vals.ref1 r]
  obtain ⟨as, rd⟩ := Dp.reads I d (.ref a) (.ref a) hd rfl
  have hu := hr.un
  exact repr_of_reads' (h₀ := s.heap) rd hs (PyData.noDict_hsm (PyData.hasDict_of_canLay d hl)) hr.gd (by omega) (fun _ _ e => e) (fun h' u tk k => ⟨.str d.shown, H, I.kept (t' := tk) k, ⟨u, rfl⟩, q⟩) hz
/-- what repr can tell -/
structure OkR (d : D) : Prop where
  py : isPy d = true
  lay : (toPy d).canLay0 = true
  dep : (toPy d).depth ≤ 60
  sh : (toPy d).showable = true
  len : (toPy d).shown.length ≤ sizeLine
def txt (d : D) : Str := (toPy d).shown
def rdRepr : List D → (Sl → Prop) → Prop
  | [.lst xs], Q => OkR (.lst xs) ∧ Q (.im (.str (txt (.lst xs))))
  | [.tup xs], Q => OkR (.tup xs) ∧ Q (.im (.str (txt (.tup xs))))
  | _, _ => False
theorem rc_repr : RcM W (rRepr X.K) rdRepr := by
  intro H0 B0 H B vs ds Qd Q g r hh k
  unfold rdRepr at hh
  split at hh
  · obtain ⟨o, q⟩ := hh
    obtain ⟨v, rfl, a⟩ := r.one
    obtain ⟨p, ws, e, _⟩ := a.lst g.sb
    subst e
    exact ⟨p, _, rfl, a.dp g.sb o.py, o.lay, o.dep, o.sh, o.len, k _ _ _ _ q (.clean g (.str _))⟩
  · obtain ⟨o, q⟩ := hh
    obtain ⟨v, rfl, a⟩ := r.one
    obtain ⟨p, ws, e, _⟩ := a.tup g.sb
    subst e
    exact ⟨p, _, rfl, a.dp g.sb o.py, o.lay, o.dep, o.sh, o.len, k _ _ _ _ q (.clean g (.str _))⟩
  · exact hh.elim
@[simp] theorem sReprL {xs : List D} {Q : Sl → Prop} : rdRepr [.lst xs] Q = (OkR (.lst xs) ∧ Q (.im (.str (txt (.lst xs))))) := rfl
@[simp] theorem sReprT {xs : List D} {Q : Sl → Prop} : rdRepr [.tup xs] Q = (OkR (.tup xs) ∧ Q (.im (.str (txt (.tup xs))))) := rfl
/-- texts compared -/
def rdNeS : D → D → (Bool → Prop) → Prop
  | .str x, .str y, Q => Q (!decide (x = y))
  | _, _, _ => False
def rdEqS : D → D → (Bool → Prop) → Prop
  | .str x, .str y, Q => Q (decide (x = y))
  | _, _, _ => False
theorem dec_v {x y : Str} : decide (V.str x = V.str y) = decide (x = y) := by by_cases h : x = y <;> simp [h]
theorem r2_neS : R2B W rNe rdNeS := by
  intro H0 B0 H B x y dx dy Qd Q g rx ry h k
  unfold rdNeS at h
  split at h
  · obtain rfl := rx.str; obtain rfl := ry.str; exact ⟨rfl, by rw [dec_v]; exact k _ h⟩
  · exact h.elim
theorem r2_eqS : R2B W rEq rdEqS := by
  intro H0 B0 H B x y dx dy Qd Q g rx ry h k
  unfold rdEqS at h
  split at h
  · obtain rfl := rx.str; obtain rfl := ry.str; exact ⟨rfl, by rw [dec_v]; exact k _ h⟩
  · exact h.elim
@[simp] theorem sNeS {x y : Str} {Q : Bool → Prop} : rdNeS (.str x) (.str y) Q = Q (!decide (x = y)) := rfl
@[simp] theorem sEqS {x y : Str} {Q : Bool → Prop} : rdEqS (.str x) (.str y) Q = Q (decide (x = y)) := rfl
end
/-! ### how long a text may be -/
structure OkS (b n : Nat) (d : D) : Prop where
  py : isPy d = true
  lay : (toPy d).canLay0 = true
  dep : (toPy d).depth ≤ n
  sh : (toPy d).showable = true
  sm : (toPy d).leavesShort 13 = true
  bk : (toPy d).bulk ≤ b
theorem OkS.okR {b n : Nat} {d : D} (h : OkS b n d) (hb : b ≤ 2 ^ 20 := by decide) (hn : n ≤ 60 := by decide) : OkR d := ⟨h.py, h.lay, Nat.le_trans h.dep hn, h.sh, PyData.shown_fits_bulk (by decide) (Nat.le_refl 13) h.sm (Nat.le_trans h.bk hb)⟩
theorem OkS.more {b n b' n' : Nat} {d : D} (h : OkS b n d) (hb : b ≤ b') (hn : n ≤ n') : OkS b' n' d := ⟨h.py, h.lay, Nat.le_trans h.dep hn, h.sh, h.sm, Nat.le_trans h.bk hb⟩
theorem okS_bl (i : Bool) : OkS 0 0 (.bl i) := ⟨rfl, rfl, Nat.zero_le _, rfl, rfl, Nat.zero_le _⟩
theorem okS_all {b n : Nat} : ∀ {xs : List D}, (∀ x ∈ xs, OkS b n x) → isPys xs = true ∧ PyData.canLayAll0 (toPys xs) = true ∧ PyData.depthAll (toPys xs) ≤ n ∧ PyData.showableAll (toPys xs) = true ∧ PyData.leavesShortAll 13 (toPys xs) = true ∧ PyData.bulkAll (toPys xs) ≤ (b + 1) * xs.length
  | [], _ => ⟨rfl, rfl, Nat.zero_le _, rfl, rfl, Nat.zero_le _⟩
  | x :: xs, h => by
    obtain ⟨a1, a2, a3, a4, a5, a6⟩ := okS_all fun y hy => h y (List.mem_cons_of_mem _ hy)
    have q := h x List.mem_cons_self
    refine ⟨by simp [isPys, q.py, a1], by simp [toPys, PyData.canLayAll0, q.lay, a2], Nat.max_le.mpr ⟨q.dep, a3⟩, by simp [toPys, PyData.showableAll, q.sh, a4], by simp [toPys, PyData.leavesShortAll, q.sm, a5], ?_⟩
    show (toPy x).bulk + 1 + PyData.bulkAll (toPys xs) ≤ (b + 1) * (xs.length + 1)
    have := q.bk
    rw [Nat.mul_add]
    omega
theorem okS_lst {b n m : Nat} {xs : List D} (h : ∀ x ∈ xs, OkS b n x) (hm : xs.length ≤ m) : OkS ((b + 1) * m) (n + 1) (.lst xs) := by
  obtain ⟨a1, a2, a3, a4, a5, a6⟩ := okS_all h
  exact ⟨a1, a2, Nat.succ_le_succ a3, a4, a5, Nat.le_trans a6 (Nat.mul_le_mul_left _ hm)⟩
theorem okS_tup {b n m : Nat} {xs : List D} (h : ∀ x ∈ xs, OkS b n x) (hm : xs.length ≤ m) : OkS ((b + 1) * m) (n + 1) (.tup xs) := by
  obtain ⟨a1, a2, a3, a4, a5, a6⟩ := okS_all h
  exact ⟨a1, a2, Nat.succ_le_succ a3, a4, a5, Nat.le_trans a6 (Nat.mul_le_mul_left _ hm)⟩
end DL
-- DLsum
set_option Elab.async false
set_option linter.all false
set_option maxRecDepth 100000
set_option maxHeartbeats 2000000
set_option autoImplicit false
namespace DL
open PySem PySem.Spec L2
open PyProof.Rows hiding St
/-! ### sum(xs, []) of a list of lists -/
abbrev Ls (h : Heap) (a : Addr) (vs : List Value) : Prop := ∃ n, PySem.IsL h a vs.toArray n
section
variable {prog : Program} {w : World} {A : Around} {R : Result → Shared → Prop} {I : Addr} {fp wr : List Addr} {n : Nat} {Pv : Nat → Value → Prop} {St : Nat → Shared → Prop}
/-- what the first i lists hold together -/
def cat (vals : Nat → List Value) : Nat → List Value
  | 0 => []
  | i + 1 => cat vals i ++ vals i
theorem sum_lists_loop (W : WalksS prog w A.in1 I fp wr (fun a b => b = a) n Pv St) (adr : Nat → Addr) (vals : Nat → List Value) (hval : ∀ i v, Pv i v → v = .ref (adr i)) (hwo : ∀ i s, St i s → ∀ b ∈ fp, ∃ o, s.heap.get? b = some o) (S : Addr) (hSf : S ∉ fp) (st0 : List Value) (hsz : ∀ i, i ≤ n → (st0 ++ cat vals i).length ≤ sizeLine) :
    ∀ (k i : Nat) (s : Shared) (T : Addr) (c : Nat), n - i = k → i ≤ n → St i s → s.heap.get? S = some { cls := .type "list", dict := none, data := .seq #[.ref T] c, slots := #[] } → T ≠ S → T ∉ wr → Ls s.heap T (st0 ++ cat vals i) → (∀ j, j < n → Ls s.heap (adr j) (vals j) ∧ adr j ≠ S ∧ adr j ∉ wr) → 
    (∀ s' T', Moved (S :: wr) (fun a b => b = a) s s' → Ls s'.heap T' (st0 ++ cat vals n) → (i = n ∧ T' = T ∨ S < T') → R (.ok (.ret (.ref T'))) s') → codeAny (model prog w) A (.builtin "sum.loop" ⟨[.ref I, .ref S, rawInt 2, rawInt 0], []⟩) R s := by
  have hSw : S ∉ wr := fun h => hSf (W.sub _ h)
  have hsub : ∀ b ∈ wr, b ∈ S :: wr := fun b hb => List.mem_cons_of_mem _ hb
  intro k
  induction k with
  | zero =>
    intro i s T c hk hi hst hS hTS hTw hT hA hR
    have hin : i = n := by omega
    subst hin
    refine codeAny_builtin F.entry_sum_loop ?_; rw [Around.under_plainId F.plain_sum_loop _]
    show wpAny _ A.in1 (seqItems? (.ref S) >>= _) _ _ s
    refine wpAny_bind (wpAny_seqItems hS rfl ?_); show wpAny _ A.in1 (tryCatch (pyNext (.ref I)) _ >>= _) _ _ s
    refine wpAny_bind (wpAny_tryCatch (W.done s _ _ hst fun s' hm => ?_))
    obtain ⟨m, hT⟩ := hT
    exact wpAny_pure (hR s' T (hm.mono hsub) ⟨m, hm.heap T _ hTw hT⟩ (.inl ⟨rfl, rfl⟩))
  | succ k ih =>
    intro i s T c hk hi hst hS hTS hTw hT hA hR
    have hlt : i < n := by omega
    refine codeAny_builtin F.entry_sum_loop ?_; rw [Around.under_plainId F.plain_sum_loop _]
    show wpAny _ A.in1 (seqItems? (.ref S) >>= _) _ _ s
    refine wpAny_bind (wpAny_seqItems hS rfl ?_); show wpAny _ A.in1 (tryCatch (pyNext (.ref I)) _ >>= _) _ _ s
    refine wpAny_bind (wpAny_tryCatch (W.item i s _ _ hlt hst fun v s' hP hst' hm => ?_))
    obtain rfl := hval i v hP
    have hS' := hm.heap S _ hSw hS
    obtain ⟨m, hT⟩ := hT
    have hT' := hm.heap T _ hTw hT
    obtain ⟨⟨ma, ha⟩, haS, haw⟩ := hA i hlt
    have ha' := hm.heap (adr i) _ haw ha
    show wpAny _ A.in1 ((holding [Value.ref (adr i)] (binaryOp .Add (.ref T) (.ref (adr i)))).attempt >>= _) _ _ _
    have hz : (st0 ++ cat vals i).toArray.size + (vals i).toArray.size ≤ sizeLine := by
      have := hsz (i + 1) hlt
      rw [show cat vals (i + 1) = cat vals i ++ vals i from rfl, ← List.append_assoc, List.length_append] at this
      simpa using this
    refine wpAny_bind (wpAny_attempt (wpAny_holding (P.add_list hT' ha' ?_ hz)))
    -- the new total
    have ltS : S < s'.heap.objs.size := Heap.lt_size hS'
    have hS1 : (s'.heap.push { cls := .type "list", data := .seq ((st0 ++ cat vals i).toArray ++ (vals i).toArray) }).get? S = some { cls := .type "list", dict := none, data := .seq #[.ref T] c, slots := #[] } := Heap.get?_push_of_some _ hS'
    show wpAny _ A.in1 (updateSeq S (fun _ => #[.ref s'.heap.objs.size]) >>= _) _ _ _
    refine wpAny_bind (wpAny_updateSeq hS1 rfl ?_)
    have hS2 := Heap.get?_update_self (Obj.mapSeq fun _ => #[Value.ref s'.heap.objs.size]) hS1 rfl
    refine wpAny_bind (wpAny_letGo ?_)
    have oth : ∀ (b : Addr) (o : Obj), b ≠ S → s'.heap.get? b = some o → (((s'.heap.push { cls := .type "list", data := .seq ((st0 ++ cat vals i).toArray ++ (vals i).toArray) }).update S (Obj.mapSeq fun _ => #[Value.ref s'.heap.objs.size])).update S (Obj.mapSeq fun _ => #[Value.ref s'.heap.objs.size])).get? b = some o := fun b o hb e =>
      (Heap.get?_update_other _ _ (fun h : S = b => hb h.symm)).trans ((Heap.get?_update_other _ _ (fun h : S = b => hb h.symm)).trans (Heap.get?_push_of_some _ e))
    have nT : s'.heap.objs.size ≠ S := Nat.ne_of_gt ltS
    have newT : Ls (((s'.heap.push { cls := .type "list", data := .seq ((st0 ++ cat vals i).toArray ++ (vals i).toArray) }).update S (Obj.mapSeq fun _ => #[Value.ref s'.heap.objs.size])).update S (Obj.mapSeq fun _ => #[Value.ref s'.heap.objs.size])) s'.heap.objs.size (st0 ++ cat vals (i + 1)) := by
      refine ⟨0, (Heap.get?_update_other _ _ nT.symm).trans ((Heap.get?_update_other _ _ nT.symm).trans ?_)⟩
      have e : (st0 ++ cat vals i).toArray ++ (vals i).toArray = (st0 ++ cat vals (i + 1)).toArray := by simp [cat, List.append_assoc]
      rw [e]
      exact Heap.get?_push_size _ rfl
    refine wpAny_bind (wpAny_updateSeq hS2 rfl (wpAny_pure ⟨plainId_quiet F.plain_sum_loop _, ih (i + 1) _ s'.heap.objs.size _ (by omega) hlt (W.frame _ s' _ _ hst' (by first | exact Nat.le_refl _ | exact Nat.le_succ _ | omega) fun b hb o e => oth b o (fun h => hSf (h ▸ hb)) e)
      (Heap.get?_update_self _ hS2 rfl) nT (fun h => ?_) newT (fun j hj => ?_) fun s'' T'' hm'' hT'' hor => ?_⟩))
    · obtain ⟨o, e⟩ := hwo _ _ hst' _ (W.sub _ h)
      exact absurd (Heap.lt_size e) (Nat.lt_irrefl _)
    · obtain ⟨⟨mj, hj1⟩, hj2, hj3⟩ := hA j hj
      exact ⟨⟨mj, oth _ _ hj2 (hm.heap _ _ hj3 hj1)⟩, hj2, hj3⟩
    · refine hR s'' T'' (Moved.trans W.gtrans ((hm.mono hsub).then_heap (by first | exact Nat.le_refl _ | exact Nat.le_succ _ | omega) fun b o hb e => oth b o (fun h => hb (by rw [h]; exact List.mem_cons_self)) e) hm'') hT'' (.inr ?_)
      rcases hor with ⟨_, e⟩ | e
      · rw [e]; exact ltS
      · exact e
end
section
variable {P : Program} {w : World} {A : Around} {E : Value → Shared → Prop} {s : Shared}
theorem cat_eq (vals : Nat → List Value) : ∀ n, cat vals n = ((List.range n).map vals).flatten
  | 0 => rfl
  | n + 1 => by rw [List.range_succ, List.map_append, List.flatten_append, ← cat_eq vals n]; simp [cat]
theorem sum_lists {x st : Addr} {items : Array Value} {adr : Nat → Addr} {vals : Nat → List Value} {st0 : List Value} {Q : Value → Shared → Prop} (hh : A.handled = none) (hx : s.heap.IsList x items) (hi : ∀ (i : Nat) (v : Value), items[i]? = some v → v = .ref (adr i)) (hs : Ls s.heap st st0) (hv : ∀ i, i < items.size → Ls s.heap (adr i) (vals i))
    (hsz : ∀ i, i ≤ items.size → (st0 ++ cat vals i).length ≤ sizeLine)
    (h : ∀ (h' : Heap) (tk : Tok) (T : Addr), (∀ b o, s.heap.get? b = some o → h'.get? b = some o) → Ls h' T (st0 ++ cat vals items.size) → (items.size = 0 ∧ T = st ∨ s.heap.objs.size ≤ T) → Q (.ref T) { s with heap := h', toks := tk }) : wpAny (model P w) A (call (.builtin "sum") [.ref x, .ref st]) Q E s := by
  refine PySem.call_function_tree F.kind_sum F.plain_sum F.entry_sum (by unfold argsOk; kernel_rfl) ?_
  unfold Builtin.«sum»
  simp only [List.length_cons, List.length_nil]
  rw [if_neg (by decide)]
  refine wpAny_bind (wpAny_of_eq (show Builtin.Builtins.bindParams "sum" ["start"] 0 { pos := [Value.ref st] } = pure [some (Value.ref st)] from rfl) ?_)
  refine wpAny_bind (wpAny_pyIter_list hx ?_)
  refine wpAny_bind (wpAny_pure ?_)
  obtain ⟨ns, hs⟩ := hs
  have push : ∀ {h : Heap} {b : Addr} {o u : Obj}, h.get? b = some o → (h.push u).get? b = some o := fun e => Heap.get?_push_of_some _ e
  have tl : ∀ {s' : Shared}, s'.heap.get? st = some { cls := .type "list", dict := none, data := .seq st0.toArray ns, slots := #[] } → s'.TypeIs (.ref st) "list" := fun e => ⟨_, e, rfl⟩
  simp only [List.forIn_cons, List.forIn_nil]
  refine wpAny_bind (wpAny_bind (wpAny_bind (wpAny_isInstance (T := "list") (b := false) (tl (push hs)) F.sub_list_str ?_)))
  simp only [Bool.false_eq_true, if_false]
  refine wpAny_pure (wpAny_bind (wpAny_bind (wpAny_isInstance (T := "list") (b := false) (tl (push hs)) F.sub_list_bytes ?_)))
  simp only [Bool.false_eq_true, if_false]
  refine wpAny_pure (wpAny_bind (wpAny_bind (wpAny_isInstance (T := "list") (b := false) (tl (push hs)) F.sub_list_bytearray ?_)))
  simp only [Bool.false_eq_true, if_false]
  refine wpAny_pure (wpAny_pure ?_)
  refine wpAny_bind (wpAny_newObj_type ?_)
  obtain ⟨ol, hol, hcl, nl, hdl⟩ := hx
  have hx : s.heap.IsList x items := ⟨ol, hol, hcl, nl, hdl⟩
  have xlt : x < s.heap.objs.size := Heap.lt_size hol
  have stlt : st < s.heap.objs.size := Heap.lt_size hs
  have hz1 : ∀ (u : Obj), (s.heap.push u).objs.size = s.heap.objs.size + 1 := fun u => Heap.size_push ..
  have nI : ∀ {b : Addr}, b < s.heap.objs.size → b ≠ s.heap.objs.size ∧ b ≠ s.heap.objs.size + 1 := fun h => ⟨Nat.ne_of_lt h, Nat.ne_of_lt (Nat.lt_succ_of_lt h)⟩
  refine wpAny_pure ⟨plainId_quiet F.plain_sum_loop _, ?_⟩
  have S1 : (s.heap.push { cls := .type "list_iterator", data := .fields #[.ref x, .int 0 0] }).objs.size = s.heap.objs.size + 1 := hz1 _
  refine sum_lists_loop ((Walks.list (A := A.in1) (by simp [hh]) s.heap.objs.size x (nI xlt).1 items).toS) adr vals hi (fun i s' ⟨⟨o, e, _⟩, ⟨o2, e2, _⟩⟩ b hb => ?_) _ ?_ st0 hsz items.size 0 _ st 0 (by omega) (Nat.zero_le _) ?_ ?_ ?_ ?_ ?_ ?_ ?_
  · simp only [List.mem_cons, List.not_mem_nil, or_false] at hb
    rcases hb with rfl | rfl
    · exact ⟨_, e⟩
    · exact ⟨_, e2⟩
  · simp only [List.mem_cons, List.not_mem_nil, or_false, not_or]
    show ¬ (s.heap.push _).objs.size = _ ∧ ¬ (s.heap.push _).objs.size = _
    rw [S1]
    exact ⟨Nat.succ_ne_self _, (nI xlt).2.symm⟩
  · refine ⟨⟨_, push (Heap.get?_push_size _ rfl), rfl, rfl⟩, ⟨ol, push (push hol), hcl, nl, hdl⟩⟩
  · have e := Heap.get?_push_size (s.heap.push { cls := .type "list_iterator", data := .fields #[.ref x, .int 0 0] }) (o := { cls := .type "list", data := .seq [Value.ref st].toArray }) rfl
    exact e
  · show _ ≠ (s.heap.push _).objs.size
    rw [S1]; exact (nI stlt).2
  · simp only [List.mem_cons, List.not_mem_nil, or_false]; exact (nI stlt).1
  · exact ⟨ns, by simpa [cat] using push (push hs)⟩
  · intro j hj
    obtain ⟨m, e⟩ := hv j hj
    have lt := Heap.lt_size e
    exact ⟨⟨m, push (push e)⟩, (by show _ ≠ (s.heap.push _).objs.size; rw [S1]; exact (nI lt).2), by simp only [List.mem_cons, List.not_mem_nil, or_false]; exact (nI lt).1⟩
  · intro s' T' hm hT hor
    obtain ⟨h', g2, d', tk', os'⟩ := s'
    have eg : g2 = s.gens := hm.gens
    have ed : d' = s.drawn := hm.drawn
    have eo : os' = s.os := hm.os
    subst eg; subst ed; subst eo
    refine h h' tk' T' (fun b o e => ?_) hT (hor.imp (fun z => ⟨z.1.symm, z.2⟩) fun z => (by have z : (s.heap.push _).objs.size < T' := z; rw [S1] at z; exact Nat.le_of_lt (Nat.lt_trans (Nat.lt_succ_self _) z)))
    have lt := Heap.lt_size e
    exact hm.heap b o (by simp only [List.mem_cons, List.not_mem_nil, or_false, not_or]; exact ⟨(by show ¬ b = (s.heap.push _).objs.size; rw [S1]; exact (nI lt).2), (nI lt).1⟩) (push (push e))
end
section
variable {X : Cx} {W : Wd X.K}
def rSumL : List V → Hp → VK → Prop := fun vs H Q => ∃ (x st : Addr) (as : List Addr) (xss : List (List V)), vs = [.ref x, .ref st] ∧ H x = some (.lst (as.map V.ref)) ∧ as.length = xss.length ∧ (∀ (i : Nat) (a : Addr) (xs : List V), as[i]? = some a → xss[i]? = some xs → H a = some (.lst xs)) ∧ H st = some (.lst []) ∧ xss.flatten.length ≤ sizeLine ∧
  (xss = [] → Q (.ref st) H) ∧ (∀ p, H p = none → Q (.ref p) (upd H p (.lst xss.flatten)))
theorem vals_append {xs ys : List V} {us ws : List Value} (h : Vals xs us) (g : Vals ys ws) : Vals (xs ++ ys) (us ++ ws) := h.append g
theorem cat_vals {xss : List (List V)} {vals : Nat → List Value} (h : ∀ i xs, xss[i]? = some xs → Vals xs (vals i)) : ∀ n, n ≤ xss.length → Vals (xss.take n).flatten (cat vals n)
  | 0, _ => .nil
  | n + 1, hn => by
    have hl : n < xss.length := hn
    rw [List.take_add_one, List.getElem?_eq_getElem hl]
    simp only [Option.toList_some, List.flatten_append, List.flatten_cons, List.flatten_nil, List.append_nil]
    exact vals_append (cat_vals h n (Nat.le_of_lt hl)) (h n _ (List.getElem?_eq_getElem hl))
theorem refs_vals : ∀ {as : List Addr} {us : List Value}, Vals (as.map V.ref) us → us = as.map Value.ref
  | [], _, .nil => rfl
  | a :: as, _, .cons r t => by cases r; rw [refs_vals t]; rfl
theorem flat_take {α : Type} (xss : List (List α)) (n : Nat) : (xss.take n).flatten.length ≤ xss.flatten.length := by
  have e : xss.flatten = (xss.take n).flatten ++ (xss.drop n).flatten := by rw [← List.flatten_append, List.take_append_drop]
  rw [e, List.length_append]; omega
theorem cr_sumL (hc : X.calm = true) : CallR X (.builtin "sum") rSumL := by
  intro pins s σ H vs us Q I r h
  obtain ⟨x, st, as, xss, rfl, hx, hl, ha, hst, hz, q0, q1⟩ := h
  cases r with
  | cons r1 rr =>
    cases rr with
    | cons r2 rr =>
      cases rr; cases r1; cases r2
      obtain ⟨_, its, n, rv, ob⟩ := I.hok x _ hx
      obtain rfl := refs_vals rv
      obtain ⟨_, its2, n2, rv2, ob2⟩ := I.hok st _ hst
      cases rv2
      have ex : ∀ i, i < as.length → ∃ l, Ls s.heap (as.getD i 0) l ∧ ∀ xs, xss[i]? = some xs → Vals xs l := fun i hi => by
        have e1 := List.getElem?_eq_getElem hi
        have e2 := List.getElem?_eq_getElem (show i < xss.length by omega)
        obtain ⟨_, l, m, v, o⟩ := I.hok _ _ (ha i _ _ e1 e2)
        refine ⟨l, ⟨m, ?_⟩, fun xs e => by rw [e2] at e; cases e; exact v⟩
        rw [List.getD_eq_getElem?_getD, e1]; exact o
      obtain ⟨vals, hvals⟩ : ∃ vals : Nat → List Value, ∀ i, i < as.length → Ls s.heap (as.getD i 0) (vals i) ∧ ∀ xs, xss[i]? = some xs → Vals xs (vals i) :=
        ⟨fun i => if h : i < as.length then (ex i h).choose else [], fun i hi => by simp only [dif_pos hi]; exact (ex i hi).choose_spec⟩
      have hv : ∀ i xs, xss[i]? = some xs → Vals xs (vals i) := fun i xs e => (hvals i (by rw [hl]; exact (List.getElem?_eq_some_iff.mp e).1)).2 xs e
      have asz : (as.map Value.ref).toArray.size = as.length := by simp
      refine sum_lists (P := X.prog) (w := X.w) (adr := fun i => as.getD i 0) (vals := vals) (st0 := []) (I.ok.hd hc) ⟨_, ob, rfl, n, rfl⟩ (fun i v e => ?_) ⟨n2, ob2⟩ (fun i hi => (hvals i (by rwa [asz] at hi)).1) (fun i hi => ?_) fun h' tk T k hT hor => ?_
      · rw [List.getElem?_toArray, List.getElem?_map] at e
        cases e2 : as[i]? with
        | none => rw [e2] at e; cases e
        | some a => rw [e2] at e; cases e; rw [List.getD_eq_getElem?_getD, e2]; rfl
      · rw [List.nil_append, ← (cat_vals hv i (by rw [asz] at hi; omega)).length]
        exact Nat.le_trans (flat_take _ _) hz
      · rw [asz, List.nil_append] at hT
        have hva := cat_vals hv as.length (by omega)
        rw [List.take_of_length_le (by omega)] at hva
        by_cases h0 : as.length = 0
        · rcases hor with ⟨_, rfl⟩ | hge
          · exact ⟨.ref T, H, I.kept (t' := tk) k, rfl, q0 (List.length_eq_zero_iff.mp (by omega))⟩
          · obtain ⟨m, hT⟩ := hT
            exact ⟨.ref T, upd H T (.lst xss.flatten), I.laid (t' := tk) k hge ⟨hz, _, m, hva, hT⟩, rfl, q1 T (I.hok.fresh hge)⟩
        · rcases hor with ⟨z, _⟩ | hge
          · rw [asz] at z; exact absurd z h0
          · obtain ⟨m, hT⟩ := hT
            exact ⟨.ref T, upd H T (.lst xss.flatten), I.laid (t' := tk) k hge ⟨hz, _, m, hva, hT⟩, rfl, q1 T (I.hok.fresh hge)⟩
/-- over trees -/
def rdSumL : List D → (Sl → Prop) → Prop
  | [.lst xs, .lst []], Q => ∃ xss : List (List D), xs = xss.map D.lst ∧ xss.flatten.length ≤ sizeLine ∧ xss ≠ [] ∧ Q (.ol xss.flatten)
  | _, _ => False
theorem lsts_inv {W : Wd X.K} {B H : Hp} (sb : Sub B H) : ∀ {xss : List (List D)} {vs : List V}, Rps W B vs (xss.map D.lst) → ∃ (as : List Addr) (yss : List (List V)), vs = as.map V.ref ∧ as.length = yss.length ∧ yss.length = xss.length ∧ (∀ (i : Nat) (a : Addr) (ys : List V), as[i]? = some a → yss[i]? = some ys → H a = some (.lst ys)) ∧ Rps W B yss.flatten xss.flatten
  | [], _, h => by cases h; exact ⟨[], [], rfl, rfl, rfl, fun i a ys e => by simp at e, .nil⟩
  | xs :: xss, _, h => by
    cases h with
    | cons v _ vs _ a b =>
      cases a with
      | lst p ws _ e q =>
        obtain ⟨as, yss, rfl, h1, h2, h3, h4⟩ := lsts_inv sb b
        refine ⟨p :: as, ws :: yss, rfl, by simp [h1], by simp [h2], fun i a ys e1 e2 => ?_, rps_append q h4⟩
        cases i with
        | zero => simp at e1 e2; subst e1; subst e2; exact sb _ _ e
        | succ i => exact h3 i a ys (by simpa using e1) (by simpa using e2)
@[simp] theorem sSumL {xs : List D} {Q : Sl → Prop} : rdSumL [.lst xs, .lst []] Q = ∃ xss : List (List D), xs = xss.map D.lst ∧ xss.flatten.length ≤ sizeLine ∧ xss ≠ [] ∧ Q (.ol xss.flatten) := rfl
theorem rc_sumL : RcM W rSumL rdSumL := by
  intro H0 B0 H B vs ds Qd Q g r hh k
  unfold rdSumL at hh
  split at hh
  · obtain ⟨xss, rfl, hz, q0, q1⟩ := hh
    obtain ⟨v, w, rfl, a, c⟩ := r.two
    obtain ⟨p, ws, rfl, e, z⟩ := a.lst g.sb
    obtain ⟨p2, ws2, e3, e2, z2⟩ := c.lst g.sb
    subst e3
    cases z2
    obtain ⟨as, yss, rfl, h1, h2, h3, h4⟩ := lsts_inv g.sb z
    refine ⟨p, p2, as, yss, rfl, e, h1, h3, e2, by rw [h4.length]; exact hz, fun h0 => absurd (List.length_eq_zero_iff.mp (by rw [← h2, h0]; rfl)) q0, fun l hn => k _ _ _ _ q1 (.lst g hn h4)⟩
  · exact hh.elim
end
end DL
-- DLset
set_option Elab.async false
set_option linter.all false
set_option maxRecDepth 100000
set_option maxHeartbeats 3200000
set_option autoImplicit false
namespace DL
open PySem PySem.Spec L2
open PyProof.Rows hiding St
/-! ### set(xs) of a list of ints -/
section
variable {P : Program} {w : World} {A : Around} {E : Value → Shared → Prop} {s : Shared}
/-- an empty set's object -/
abbrev noSet (w : World) : Obj := { cls := .type "set", dict := none, data := .set #[] 0 (.fresh 0 0 (!w.params.followText "set-order")) }
theorem call_set_listI {l : Addr} {items : Array Value} (ns : List Int) {Q : Value → Shared → Prop} (hh : A.handled = none) (hl : s.heap.IsList l items) (hit : IntsAre items.toList ns) (hb : ns.length + 1 < scanBound)
    (h : ∀ (h' : Heap) (tk c : Nat), SetR w h' s.heap.objs.size (fun j => decide (j ∈ ns)) c → c ≤ ns.length → (∀ b o, s.heap.get? b = some o → h'.get? b = some o) →
      Q (.ref s.heap.objs.size) { s with heap := h', toks := tk }) : wpAny (model P w) A (call (.type "set") [.ref l]) Q E s := by
  have hisz : items.size = ns.length := by have q := IntsAre.length hit; rwa [Array.length_toList] at q
  obtain ⟨c, tl, hmro⟩ := F.called_set.mro
  have hmade := F.called_set.made; have hsub := F.called_set.sub
  refine wpAny_call (codeAny_of_tree ?_); show wpAny _ _ (callAny (.type "set") _) _ _ _
  refine wpAny_pure ⟨Code.quiet_builtin _ (by decide +kernel), codeAny_builtin F.entry_type_call ?_⟩; rw [Around.under_plain (weight_type_call_type "set" [.ref l] []) rfl]
  have h1 := F.called_set.notType; have h2 := F.called_set.canCreate; have hct := F.typeCall_set_1 (.ref l)
  repeat (any_goals (first | assumption | wp_step))
  refine codeAny_mono (code_set_led1 (.ref l) (E := E) (Q₁ := fun obj s₁ => obj = .ref s.heap.objs.size ∧ s₁ = { s with heap := s.heap.push (noSet w) }) ⟨rfl, rfl⟩) fun r s₁ hr => ?_
  cases r with
  | error e => exact hr
  | ok fl =>
    cases fl with
    | ret obj =>
      obtain ⟨rfl, rfl⟩ := hr
      have hS : (s.heap.push (noSet w)).get? s.heap.objs.size = some (noSet w) := Heap.get?_push_size _ rfl
      have hT : Shared.TypeIs { s with heap := s.heap.push (noSet w) } (.ref s.heap.objs.size) "set" := ⟨_, hS, rfl⟩
      have hli := F.called_set.init.lookup; have hbi := F.called_set.init.bind (.ref s.heap.objs.size)
      repeat (any_goals (first | assumption | wp_step))
      refine codeAny_mono (codeAny_call_builtin (R := wants (fun r s₂ => r = .none ∧ ∃ h' tk c, s₂ = { s with heap := h', toks := tk } ∧ SetR w h' s.heap.objs.size (fun j => decide (j ∈ ns)) c ∧ c ≤ ns.length ∧ (∀ b o, s.heap.get? b = some o → h'.get? b = some o)) E) F.called_set.init.plain F.entry_set_init (check_set_init_1 hT ?_)) fun r₂ s₂ hr₂ => ?_
      · obtain ⟨ol, hol, hcl, nl, hdl⟩ := hl
        obtain ⟨ocls, odict, odata, oslots⟩ := ol
        simp only at hcl hdl; subst hcl; subst hdl
        have hol' : (s.heap.push (noSet w)).get? l = some { cls := .type "list", dict := odict, data := .seq items nl, slots := oslots } := Heap.get?_push_of_some _ hol
        have hsls := F.sub_list_set; have hslf := F.sub_list_frozenset; have hne : (Value.type "list" == Value.type "dict") = false := by decide
        have hl1 : (s.heap.push (noSet w)).IsList l items := ⟨_, hol', rfl, nl, rfl⟩
        unfold Builtin.«set.__init__» noKeywords Builtin.Frozenset.updateFrom
        generalize hPI : pyIter = PI
        wp_walk
        subst hPI; refine wpAny_pyIter_list hl1 ?_; refine wpAny_bind (wpAny_runValue ?_)
        have hlS : l < s.heap.objs.size := Heap.lt_size hol; have hh3 : A.in1.in1.in1.handled = none := by simp [hh]
        have hz1 : (s.heap.push (noSet w)).objs.size = s.heap.objs.size + 1 := Heap.size_push ..
        have hneI : l ≠ (s.heap.push (noSet w)).objs.size := by rw [hz1]; exact Nat.ne_of_lt (Nat.lt_succ_of_lt hlS)
        have hSf : s.heap.objs.size ∉ [(s.heap.push (noSet w)).objs.size, l] := by
          rw [hz1]; simp only [List.mem_cons, List.not_mem_nil, or_false, not_or]; exact ⟨Nat.ne_of_lt (Nat.lt_succ_self _), Nat.ne_of_gt hlS⟩
        have hval : ∀ (i : Nat) (v : Value), items[i]? = some v → ∃ k t, ns[i]? = some k ∧ v = .int k t := fun i v hv => by
          have hi : i < ns.length := by rw [← hisz]; exact (Array.getElem?_eq_some_iff.mp hv).1
          obtain ⟨t, e⟩ := PyProof.Rows.IntsAre.int_at hit i v (by rw [Array.getElem?_toList]; exact hv)
          refine ⟨ns[i], t, List.getElem?_eq_getElem hi, ?_⟩; rw [e, List.getD_eq_getElem?_getD, List.getElem?_eq_getElem hi] <;> rfl
        refine set_update_ints ((Walks.list hh3 _ l hneI items).toS) s.heap.objs.size hSf ns hisz hb hval (items.size - 0) 0 _ (by omega) (Nat.zero_le _) ⟨⟨_, Heap.get?_push_size _ rfl, rfl, rfl⟩, (hl1.push _)⟩ ?hS0 ?hR
        case hS0 =>
          have hget : ((s.heap.push (noSet w)).push { cls := .type "list_iterator", data := .fields #[.ref l, .int 0 0] }).get? s.heap.objs.size = some (noSet w) := Heap.get?_push_of_some _ hS
          exact ⟨0, Nat.le_refl 0, setR_new_at hget⟩
        case hR =>
          intro s' c' hm hc' hS'
          obtain ⟨h', g2, d', tk', os'⟩ := s'
          have eg : g2 = s.gens := hm.gens; have ed : d' = s.drawn := hm.drawn; have eo : os' = s.os := hm.os; subst eg; subst ed; subst eo
          show wpAny _ _ _ _ _ _
          refine wpAny_pure ?_
          show wpAny _ _ (ret Value.none) _ _ _
          rw [hisz] at hc'; refine wpAny_pure ⟨rfl, h', tk', c', rfl, hS', hc', fun b o e => ?_⟩
          have hb0 : b < s.heap.objs.size := Heap.lt_size e
          have hb2 : b ≠ (s.heap.push (noSet w)).objs.size := by rw [hz1]; exact Nat.ne_of_lt (Nat.lt_succ_of_lt hb0)
          exact hm.heap b o (by simp only [List.mem_cons, List.not_mem_nil, or_false, not_or]; exact ⟨Nat.ne_of_lt hb0, hb2⟩) (Heap.get?_push_of_some _ (Heap.get?_push_of_some _ e))
      · cases r₂ with
        | error e => exact hr₂
        | ok fl₂ =>
          cases fl₂ with
          | ret r =>
            obtain ⟨rfl, h', tk, c', rfl, hS', hc', hk'⟩ := hr₂; repeat (any_goals (first | assumption | wp_step))
            exact h _ _ _ hS' hc' hk'
          | _ => exact hr₂.elim
    | _ => exact hr.elim
/-- how many a set holds: fewer than 64 if no 64 of the numbers differ -/
def Few (ns : List Int) : Prop := ∀ l : List Int, l.Nodup → (∀ k ∈ l, k ∈ ns) → l.length < 64
theorem SetR.few {h : Heap} {a : Addr} {ns : List Int} {c : Nat} (R : SetR w h a (fun j => decide (j ∈ ns)) c) (f : Few ns) : c < 64 := by
  obtain ⟨o, es, ep, t, _, _, _, _, nd, hm, _, _, hn, _⟩ := R
  have := f _ nd fun k hk => by simpa using (hm k).mpr hk
  rw [List.length_map, Array.length_toList] at this
  omega
end
section
variable {X : Cx} {G : Gx X.K} {pos : Pos}
def rSetL (K : PySem.W.Frag) (w : World) : List V → Hp → VK → Prop := fun xs H Q => ∃ (l : Addr) (ns : List Int), xs = [V.ref l] ∧ SqL K H l (ns.map V.int) ∧ ns.length + 1 < scanBound ∧ Few ns ∧
  ∀ a c, H a = none → c < 64 → Q (.ref a) (upd H a (SetO w a (fun j => decide (j ∈ ns)) c))
theorem cr_setL (hc : X.calm = true) : CallR X (.type "set") (rSetL X.K X.w) := by
  intro pins s σ H xs us Q I r h
  obtain ⟨l, ns, rfl, hl, hb, hf, q⟩ := h
  rw [Vals.ref1 r]
  obtain ⟨its, rv, pl, hz⟩ := I.list hl
  have hi : IntsAre its.toArray.toList ns := ints_of_vals rv
  refine call_set_listI (P := X.prog) (w := X.w) ns (I.ok.hd hc) pl.isList hi hb fun h' tk c R hcn k => ?_
  exact ⟨.ref s.heap.objs.size, upd H s.heap.objs.size (SetO X.w s.heap.objs.size (fun j => decide (j ∈ ns)) c), I.laid (t' := tk) k (Nat.le_refl _) (setO_new R), rfl, q _ c (I.hok.fresh (Nat.le_refl _)) (SetR.few R hf)⟩
/-- sorted(set(xs)) -/
def rdSortSet : List D → (Sl → Prop) → Prop
  | [.lst xs], Q => ∃ ns : List Int, xs = ns.map D.int ∧ ns.length + 1 < scanBound ∧ Few ns ∧ ∀ ns' : List Int, ns'.Pairwise (· < ·) → (∀ k, k ∈ ns' ↔ k ∈ ns) → Q (.ol (ns'.map D.int))
  | _, _ => False
theorem dm_sortset {p p2 pos2 : Pos} {e : Expr} {ta : DTAO} (hc : X.calm = true) (hm : X.mg "sorted" = none) (hm2 : X.mg "set" = none) (ha : PA X [e] (upAO G ta)) (hg : Gl X "sorted" := by rfl) (hg2 : Gl X "set" := by rfl)
    (he : starEach [e] X.env = (false, eval e X.env) :: starEach [] X.env := by rfl) : PE X (.Call (.Name "sorted" p) [.Call (.Name "set" p2) [e] [] pos2] [] pos) (upM G (dBlt rdSortSet ta)) :=
  PE.imp (pe_callB (cr_sortedSet hc) hg hm boot_sorted (pa_cons (pe_callTy (cr_setL hc) hg2 hm2 boot_set ha (he := he)) pa_nil)) fun σ H Q ⟨Δ, B, Qd, r1, q, k⟩ => ⟨Δ, B, _, r1, q, fun os Δ1 vs H1 B1 ⟨ds, e, q1⟩ r1 s1 rps => by
    have rr := rps_of r1 rps e
    unfold rdSortSet at q1
    split at q1
    · obtain ⟨ns, rfl, hb, hf, q1⟩ := q1
      obtain ⟨v, rfl, a⟩ := rr.one
      obtain ⟨l, ws, rfl, e, z⟩ := a.lst r1.gr.sb
      refine ⟨l, ns, rfl, .of (by rw [e, z.ints_inv]), hb, hf, fun b c hn h64 => ⟨b, _, c, rfl, upd_same, h64, fun ns' p' h1 h2 h3 hn' => ?_⟩⟩
      have g1 : Grow G.W H1 B1 (upd H1 b (SetO X.w b (fun j => decide (j ∈ ns)) c)) B1 := r1.gr.allocO hn
      have g2 := g1.trans (g1.allocO (o := .lst (ns'.map V.int)) hn')
      exact k _ _ _ _ _ (q1 ns' h1 fun k => by rw [h2]; simp) (r1.hangS ⟨g2, [p'], .ol _ _ _ upd_same (Rps.intsOf ns'), fun a ha => by
        simp at ha; rw [ha]
        have hp1 : H1 p' = none := by
          by_cases hb : p' = b
          · rw [hb, upd_same] at hn'; cases hn'
          · rwa [upd_ne hb] at hn'
        refine ⟨hp1, ?_⟩
        cases e2 : B1 p' with
        | none => rfl
        | some u => rw [r1.gr.sb _ _ e2] at hp1; cases hp1⟩) s1
    · exact q1.elim⟩
end
end DL
-- DLsimp
set_option Elab.async false
set_option linter.all false
set_option maxRecDepth 100000
set_option maxHeartbeats 2000000
set_option autoImplicit false
namespace DL
open PySem PySem.Spec L2
open PyProof.Rows hiding St
/-! ### what simp does with meanings -/
section
variable {Δ : List Sl} {N : DEnds} {E : EX} {t u : DTE} {tt tu : DTT} {ta : DTA} {to ta' tb' : DTO} {tm : DTM} {Q : D → List Sl → Prop} {QT : Bool → List Sl → Prop} {QA : List D → List Sl → Prop} {QM : Sl → List Sl → Prop} {QO : Od → List Sl → Prop} {i : Nat} {d : D}
@[simp] theorem sDVar : dVar i Δ Q E = ∃ s d, Δ[i]? = some s ∧ s.er = some d ∧ Q d (Δ.set i (.im d)) := rfl
@[simp] theorem sDC : dC d Δ Q E = Q d Δ := rfl
@[simp] theorem sDTst : dTst t Δ QT E = t Δ (fun d Δ1 => ∃ b, d = .bl b ∧ QT b Δ1) E := rfl
@[simp] theorem sDAnd : dAnd tt tu Δ QT E = tt Δ (fun b Δ1 => if b = true then tu Δ1 QT E else QT false Δ1) E := rfl
@[simp] theorem sDOr : dOr tt tu Δ QT E = tt Δ (fun b Δ1 => if b = true then QT true Δ1 else tu Δ1 QT E) E := rfl
@[simp] theorem sDNot : dNot tt Δ QT E = tt Δ (fun b Δ1 => QT (!b) Δ1) E := rfl
@[simp] theorem sDAndV : dAndV t u Δ Q E = t Δ (fun x Δ1 => ∃ c, x = .bl c ∧ if c = true then u Δ1 Q E else Q (.bl false) Δ1) E := rfl
@[simp] theorem sDOrV : dOrV t u Δ Q E = t Δ (fun x Δ1 => ∃ c, x = .bl c ∧ if c = true then Q (.bl true) Δ1 else u Δ1 Q E) E := rfl
@[simp] theorem sDNotV : dNotV t Δ Q E = t Δ (fun x Δ1 => ∃ c, x = .bl c ∧ Q (.bl (!c)) Δ1) E := rfl
@[simp] theorem sDIf : dIf tt t u Δ Q E = tt Δ (fun c Δ1 => if c = true then t Δ1 Q E else u Δ1 Q E) E := rfl
@[simp] theorem sDNil : dNil Δ QA E = QA [] Δ := rfl
@[simp] theorem sDCons : dCons t ta Δ QA E = t Δ (fun x Δ1 => ta Δ1 (fun xs Δ2 => QA (x :: xs) Δ2) E) E := rfl
@[simp] theorem sDSeq {a b : DTS} : dSeq a b N Δ E = a { N with nx := fun Δ' => b N Δ' E } Δ E := rfl
@[simp] theorem sDNext : dNext N Δ E = N.nx Δ := rfl
@[simp] theorem sDBrk : dBrk N Δ E = N.bk Δ := rfl
@[simp] theorem sDCnt : dCnt N Δ E = N.ct Δ := rfl
@[simp] theorem sDDrop : dDrop t N Δ E = t Δ (fun _ Δ1 => N.nx Δ1) E := rfl
@[simp] theorem sDRet : dRet t N Δ E = t Δ (fun d _ => N.rt d) E := rfl
@[simp] theorem sDRetN : dRetN N Δ E = N.rt .non := rfl
@[simp] theorem sDIfS {a b : DTS} : dIfS tt a b N Δ E = tt Δ (fun c Δ1 => if c = true then a N Δ1 E else b N Δ1 E) E := rfl
@[simp] theorem sDSet : dSet i t N Δ E = t Δ (fun d Δ1 => N.nx (Δ1.set i (.im d))) E := rfl
@[simp] theorem sDSetM : dSetM i tm N Δ E = tm Δ (fun s Δ1 => i < Δ1.length ∧ N.nx (Δ1.set i s)) E := rfl
@[simp] theorem sDRaise {C : Addr} : dRaise C N Δ E = E C := rfl
@[simp] theorem sDClean : dClean tm Δ Q E = tm Δ (fun s Δ' => ∃ d, s.er = some d ∧ Q d Δ') E := rfl
@[simp] theorem sDIm : dIm t Δ QM E = t Δ (fun d Δ' => QM (.im d) Δ') E := rfl
@[simp] theorem sDO : dO t Δ QO E = t Δ (fun d Δ' => QO (.inl d) Δ') E := rfl
@[simp] theorem sDB : dB i Δ QO E = ((∃ s d, Δ[i]? = some s ∧ s.er = some d) ∧ QO (.inr i) Δ) := rfl
@[simp] theorem sDNilO {Q : List Od → List Sl → Prop} : dNilO Δ Q E = Q [] Δ := rfl
@[simp] theorem sDConsO {Q : List Od → List Sl → Prop} {tr : DTAO} : dConsO to tr Δ Q E = to Δ (fun x Δ1 => tr Δ1 (fun xs Δ2 => Q (x :: xs) Δ2) E) E := rfl
@[simp] theorem sDOpM {rd : D → D → (Sl → Prop) → Prop} : dOpM rd ta' tb' Δ QM E = ta' Δ (fun x Δ1 => tb' Δ1 (fun y Δ2 => ∃ d e, res Δ2 x = some d ∧ res Δ2 y = some e ∧ rd d e fun s => QM s Δ2) E) E := rfl
@[simp] theorem sDCmpE {rd : D → D → (Bool → Prop) → Prop} : dCmpE rd ta' tb' Δ Q E = ta' Δ (fun x Δ1 => tb' Δ1 (fun y Δ2 => ∃ d e, res Δ2 x = some d ∧ res Δ2 y = some e ∧ rd d e fun b => Q (.bl b) Δ2) E) E := rfl
@[simp] theorem sDCmpT {rd : D → D → (Bool → Prop) → Prop} : dCmpT rd ta' tb' Δ QT E = ta' Δ (fun x Δ1 => tb' Δ1 (fun y Δ2 => ∃ d e, res Δ2 x = some d ∧ res Δ2 y = some e ∧ rd d e fun b => QT b Δ2) E) E := rfl
@[simp] theorem sDChainE {rd rd' : D → D → (Bool → Prop) → Prop} : dChainE rd rd' ta' tb' to Δ Q E = ta' Δ (fun x Δ1 => tb' Δ1 (fun y Δ2 => ∃ d e, res Δ2 x = some d ∧ res Δ2 y = some e ∧ rd d e fun b => if b = true then to Δ2 (fun z Δ3 => ∃ d e, res Δ3 y = some d ∧ res Δ3 z = some e ∧ rd' d e fun b' => Q (.bl b') Δ3) E else Q (.bl false) Δ2) E) E := rfl
@[simp] theorem sResL : res Δ (.inl d) = some d := rfl
@[simp] theorem sResR : res Δ (.inr i) = (Δ[i]?).bind Sl.er := rfl
@[simp] theorem sErUn : Sl.un.er = none := rfl
@[simp] theorem sErIm : (Sl.im d).er = some d := rfl
@[simp] theorem sErOl {ds : List D} : (Sl.ol ds).er = some (.lst ds) := rfl
@[simp] theorem sErOk {ds : List (Key × D)} : (Sl.ok ds).er = some (.dk ds) := rfl
@[simp] theorem sErOt {ds : List (List Key × D)} : (Sl.ot ds).er = some (.dt ds) := rfl
@[simp] theorem sErOi {C p : Addr} {fs : List (Str × D)} : (Sl.oi C p fs).er = some (.obj C fs) := rfl
@[simp] theorem sDBlt {rd : List D → (Sl → Prop) → Prop} {tr : DTAO} : dBlt rd tr Δ QM E = tr Δ (fun os Δ1 => ∃ ds, ds.map some = os.map (res Δ1) ∧ rd ds fun s => QM s Δ1) E := by
  unfold dBlt
  congr 1
  funext os Δ1
  exact propext ⟨fun ⟨ds, a, b⟩ => ⟨ds, a.symm, b⟩, fun ⟨ds, a, b⟩ => ⟨ds, a.symm, b⟩⟩
@[simp] theorem sMapSome {os : List D} {x : Option D} {xs : List (Option D)} : os.map some = x :: xs ↔ ∃ d ds, os = d :: ds ∧ x = some d ∧ ds.map some = xs := by
  cases os with
  | nil => simp
  | cons d ds =>
    simp only [List.map_cons, List.cons.injEq]
    constructor
    · rintro ⟨rfl, h⟩; exact ⟨d, ds, ⟨rfl, rfl⟩, rfl, h⟩
    · rintro ⟨d', ds', ⟨rfl, rfl⟩, rfl, h⟩; exact ⟨rfl, h⟩
@[simp] theorem sRdC {f : Int → Int → Bool} {i j : Int} {Q : Bool → Prop} : rdC f (.int i) (.int j) Q = Q (f i j) := rfl
@[simp] theorem sRdI {C : Int → Int → Prop} {f : Int → Int → Int} {i j : Int} {Q : Sl → Prop} : rdI C f (.int i) (.int j) Q = (C i j ∧ Q (.im (.int (f i j)))) := rfl
@[simp] theorem sRdI0 {f : Int → Int → Int} {i j : Int} {Q : Sl → Prop} : rdI0 f (.int i) (.int j) Q = Q (.im (.int (f i j))) := rfl
@[simp] theorem sAddI {i j : Int} {Q : Sl → Prop} : rdAdd (.int i) (.int j) Q = Q (.im (.int (i + j))) := rfl
@[simp] theorem sAddL {xs ys : List D} {Q : Sl → Prop} : rdAdd (.lst xs) (.lst ys) Q = (xs.length + ys.length ≤ sizeLine ∧ Q (.ol (xs ++ ys))) := rfl
@[simp] theorem sAddT {xs ys : List D} {Q : Sl → Prop} : rdAdd (.tup xs) (.tup ys) Q = (xs.length + ys.length ≤ sizeLine ∧ Q (.im (.tup (xs ++ ys)))) := rfl
@[simp] theorem sMulI {i j : Int} {Q : Sl → Prop} : rdMul (.int i) (.int j) Q = (CMul i j ∧ Q (.im (.int (i * j)))) := rfl
@[simp] theorem sMulL {xs : List D} {k : Int} {Q : Sl → Prop} : rdMul (.lst xs) (.int k) Q = (-(2 ^ 63) ≤ k ∧ k < 2 ^ 63 ∧ xs.length * k.toNat ≤ sizeLine ∧ Q (.ol (List.replicate k.toNat xs).flatten)) := rfl
@[simp] theorem sMulT {xs : List D} {k : Int} {Q : Sl → Prop} : rdMul (.tup xs) (.int k) Q = (xs ≠ [] ∧ 2 ≤ k ∧ k ≤ 1000 ∧ xs.length ≤ 1000 ∧ Q (.im (.tup (List.replicate k.toNat xs).flatten))) := rfl
@[simp] theorem sIsN {x : D} {Q : Bool → Prop} : rdIsN x .non Q = Q (DL.isNon x) := rfl
@[simp] theorem sNotN {x : D} {Q : Bool → Prop} : rdNotN x .non Q = Q (!DL.isNon x) := rfl
@[simp] theorem sIxL {xs : List D} {i : Int} {Q : D → Prop} : rdIx (.lst xs) (.int i) Q = ∃ d, atI xs i = some d ∧ Q d := rfl
@[simp] theorem sIxT {xs : List D} {i : Int} {Q : D → Prop} : rdIx (.tup xs) (.int i) Q = ∃ d, atI xs i = some d ∧ Q d := rfl
@[simp] theorem sIxK {kvs : List (Key × D)} {k : D} {Q : D → Prop} : rdIx (.dk kvs) k Q = ∃ y d, k.key = some y ∧ val kvs y = some d ∧ Q d := rfl
@[simp] theorem sIxU {kvs : List (List Key × D)} {k : D} {Q : D → Prop} : rdIx (.dt kvs) k Q = ∃ y d, k.keyT = some y ∧ val kvs y = some d ∧ Q d := rfl
@[simp] theorem sDIx : dIx ta' tb' Δ Q E = ta' Δ (fun x Δ1 => tb' Δ1 (fun y Δ2 => ∃ d e, res Δ2 x = some d ∧ res Δ2 y = some e ∧ rdIx d e fun z => Q z Δ2) E) E := rfl
@[simp] theorem sSlL {xs : List D} {lo hi : Option Int} {Q : Sl → Prop} : rdSl (.lst xs) lo hi Q = Q (.ol (cut xs lo hi)) := rfl
@[simp] theorem sSlT {xs : List D} {lo hi : Option Int} {Q : Sl → Prop} : rdSl (.tup xs) lo hi Q = Q (.im (.tup (cut xs lo hi))) := rfl
@[simp] theorem sNoPart {Q : Option Int → List Sl → Prop} : dNoPart Δ Q E = Q none Δ := rfl
@[simp] theorem sPart {Q : Option Int → List Sl → Prop} : dPart to Δ Q E = to Δ (fun x Δ1 => ∃ i, res Δ1 x = some (.int i) ∧ Q (some i) Δ1) E := rfl
@[simp] theorem sDSl {tl th : DTP} : dSl to tl th Δ QM E = to Δ (fun x Δ1 => tl Δ1 (fun l Δ2 => th Δ2 (fun u Δ3 => ∃ d, res Δ3 x = some d ∧ rdSl d l u fun s => QM s Δ3) E) E) E := rfl
@[simp] theorem sDTup : dTup ta Δ Q E = ta Δ (fun ds Δ1 => ds.length ≤ sizeLine ∧ Q (.tup ds) Δ1) E := rfl
@[simp] theorem sDLst : dLst ta Δ QM E = ta Δ (fun ds Δ1 => ds.length ≤ sizeLine ∧ QM (.ol ds) Δ1) E := rfl
@[simp] theorem sDDict0 : dDict0 Δ QM E = (QM (.ok []) Δ ∨ QM (.ot []) Δ) := rfl
@[simp] theorem sDgName {d : D} {Q : List Sl → Prop} : dgName i d Δ Q = Q (Δ.set i (.im d)) := rfl
@[simp] theorem sDgNil {ds : List D} {Q : List Sl → Prop} : dgNil ds Δ Q = (ds = [] ∧ Q Δ) := rfl
@[simp] theorem sDgCons {t : DTG} {u : DTGs} {ds : List D} {Q : List Sl → Prop} : dgCons t u ds Δ Q = ∃ d r, ds = d :: r ∧ t d Δ fun Δ' => u r Δ' Q := rfl
@[simp] theorem sDgTup {n : Nat} {t : DTGs} {d : D} {Q : List Sl → Prop} : dgTup n t d Δ Q = ∃ ds, (d = .tup ds ∨ d = .lst ds) ∧ ds.length = n ∧ t ds Δ Q := rfl
@[simp] theorem sDAsg {g : DTG} : dAsg t g N Δ E = t Δ (fun d Δ1 => g d Δ1 N.nx) E := rfl
@[simp] theorem sSeqI {Q : List D → List Sl → Prop} : dSeqI t Δ Q E = t Δ (fun d Δ1 => ∃ ds, itemsD d = some ds ∧ Q ds Δ1) E := rfl
@[simp] theorem sItT {xs : List D} : itemsD (.tup xs) = some xs := rfl
@[simp] theorem sItL {xs : List D} : itemsD (.lst xs) = some xs := rfl
@[simp] theorem sRng1 {Q : List D → List Sl → Prop} : dRng1 ta Δ Q E = ta Δ (fun ds Δ1 => ∃ j, ds = [.int j] ∧ -(2 ^ 62) ≤ j ∧ j < 2 ^ 62 ∧ Q (rngD 0 j.toNat) Δ1) E := rfl
@[simp] theorem sRng2 {Q : List D → List Sl → Prop} : dRng2 ta Δ Q E = ta Δ (fun ds Δ1 => ∃ i j, ds = [.int i, .int j] ∧ (-(2 ^ 62) ≤ i ∧ i < 2 ^ 62 ∧ -(2 ^ 62) ≤ j ∧ j < 2 ^ 62) ∧ Q (rngD i (j - i).toNat) Δ1) E := rfl
@[simp] theorem sAppend : dAppend i ta N Δ E = ((∃ ds0, Δ[i]? = some (.ol ds0)) ∧ ta Δ (fun es Δ1 => ∃ e ds, es = [e] ∧ Δ1[i]? = some (.ol ds) ∧ ds.length < sizeLine ∧ N.nx (Δ1.set i (.ol (ds ++ [e])))) E) := rfl
@[simp] theorem sPop : dPop i Δ Q E = ∃ ds d, Δ[i]? = some (.ol ds) ∧ ds.getLast? = some d ∧ Q d (Δ.set i (.ol ds.dropLast)) := rfl
@[simp] theorem sFld {T : Addr → Prop} {f : Str} : dFld T f to Δ Q E = to Δ (fun x Δ1 => ∃ C fs d, res Δ1 x = some (.obj C fs) ∧ T C ∧ fs.lookup f = some d ∧ Q d Δ1) E := rfl
@[simp] theorem sFldSet {T : Addr → Prop} {f : Str} : dFldSet i T f t N Δ E = t Δ (fun d Δ1 => ∃ C p fs, Δ1[i]? = some (.oi C p fs) ∧ T C ∧ fs.length < 1000 ∧ N.nx (Δ1.set i (.oi C p (putD f d fs)))) E := rfl
@[simp] theorem sNilM {Q : List Sl → List Sl → Prop} : dNilM Δ Q E = Q [] Δ := rfl
@[simp] theorem sConsM {Q : List Sl → List Sl → Prop} {tr : DTMA} : dConsM tm tr Δ Q E = tm Δ (fun s Δ1 => tr Δ1 (fun ss Δ2 => Q (s :: ss) Δ2) E) E := rfl
@[simp] theorem sPar2 {j : Nat} {tr : DTMA} : dPar2 i j tr N Δ E = tr Δ (fun ss Δ1 => ∃ s1 s2, ss = [s1, s2] ∧ i < Δ1.length ∧ j < Δ1.length ∧ N.nx ((Δ1.set i s1).set j s2)) E := rfl
@[simp] theorem sPar3 {j l : Nat} {tr : DTMA} : dPar3 i j l tr N Δ E = tr Δ (fun ss Δ1 => ∃ s1 s2 s3, ss = [s1, s2, s3] ∧ i < Δ1.length ∧ j < Δ1.length ∧ l < Δ1.length ∧ N.nx (((Δ1.set i s1).set j s2).set l s3)) E := rfl
@[simp] theorem sNeg : dNeg to Δ Q E = to Δ (fun x Δ1 => ∃ i, res Δ1 x = some (.int i) ∧ Q (.int (-i)) Δ1) E := rfl
@[simp] theorem sIfM {a b : DTM} : dIfM tt a b Δ QM E = tt Δ (fun c Δ1 => if c = true then a Δ1 QM E else b Δ1 QM E) E := rfl
@[simp] theorem sFn {sp : SpD} : DL.dFn sp ta Δ Q E = ta Δ (fun ds Δ1 => sp ds (fun d => Q d Δ1) E) E := rfl
@[simp] theorem sFnK {sp : SpD} {g : List D → List D → List D} {tk : DTA} : dFnK sp g ta tk Δ Q E = ta Δ (fun ds Δ1 => tk Δ1 (fun es Δ2 => sp (g ds es) (fun d => Q d Δ2) E) E) E := rfl
@[simp] theorem sMake {C : Addr} {sp : SpI} : dMake C sp ta Δ Q E = ta Δ (fun ds Δ1 => sp ds (fun fs => Q (.obj C fs) Δ1) E) E := rfl
@[simp] theorem sYes : dYes Δ QT E = QT true Δ := rfl
@[simp] theorem sAug {rd : D → D → (Sl → Prop) → Prop} : dAug i rd t N Δ E = (∃ a, Δ[i]? = some (.im (.int a)) ∧ t Δ (fun d Δ1 => rd (.int a) d fun s => i < Δ1.length ∧ N.nx (Δ1.set i s)) E) := rfl
@[simp] theorem sLenL {xs : List D} {Q : Sl → Prop} : rdLen [.lst xs] Q = Q (.im (.int xs.length)) := rfl
@[simp] theorem sLenT {xs : List D} {Q : Sl → Prop} : rdLen [.tup xs] Q = Q (.im (.int xs.length)) := rfl
@[simp] theorem sLenS {xs : List Int} {Q : Sl → Prop} : rdLen [.scr xs] Q = Q (.im (.int xs.length)) := rfl
@[simp] theorem sLenK {xs : List (Key × D)} {Q : Sl → Prop} : rdLen [.dk xs] Q = Q (.im (.int xs.length)) := rfl
@[simp] theorem sMin2 {i j : Int} {Q : Sl → Prop} : rdMin2 [.int i, .int j] Q = Q (.im (.int (if j < i then j else i))) := rfl
@[simp] theorem sMax2 {i j : Int} {Q : Sl → Prop} : rdMax2 [.int i, .int j] Q = Q (.im (.int (if j > i then j else i))) := rfl
@[simp] theorem sAbs {i : Int} {Q : Sl → Prop} : rdAbs [.int i] Q = Q (.im (.int (if i < 0 then -i else i))) := rfl
@[simp] theorem sInt {i : Int} {Q : Sl → Prop} : rdInt [.int i] Q = Q (.im (.int i)) := rfl
@[simp] theorem sTupL {xs : List D} {Q : Sl → Prop} : rdTuple [.lst xs] Q = Q (.im (.tup xs)) := rfl
@[simp] theorem sTupT {xs : List D} {Q : Sl → Prop} : rdTuple [.tup xs] Q = Q (.im (.tup xs)) := rfl
@[simp] theorem sListL {xs : List D} {Q : Sl → Prop} : rdList [.lst xs] Q = Q (.ol xs) := rfl
@[simp] theorem sListT {xs : List D} {Q : Sl → Prop} : rdList [.tup xs] Q = Q (.ol xs) := rfl
@[simp] theorem sAll {xs : List D} {Q : Sl → Prop} : rdAll [.lst xs] Q = ∃ ns : List Bool, xs = ns.map D.bl ∧ Q (.im (.bl (ns.all id))) := rfl
@[simp] theorem sAny {xs : List D} {Q : Sl → Prop} : rdAny [.lst xs] Q = ∃ ns : List Bool, xs = ns.map D.bl ∧ Q (.im (.bl (ns.any id))) := rfl
@[simp] theorem sIsi {d : D} {T : String} {Q : Sl → Prop} : rdIsi [d, .ty T] Q = ∃ n b, tyN d = some n ∧ kitB n T = some b ∧ Q (.im (.bl b)) := rfl
@[simp] theorem sStart {n : Nat} {ds : List D} : startD n ds = ds.map .im ++ List.replicate (n - ds.length) .un := rfl
@[simp] theorem sStartI {a C : Addr} {n : Nat} {ds : List D} : startI a C n ds = .oi C a [] :: (ds.map .im ++ List.replicate (n - ds.length - 1) .un) := rfl
end
/-! ### comprehensions that leave the frame as it was -/
def dLCk (own : List Nat) (g : DTG) (tt : DTT) (te : DTE) (ds : List D) (Δ1 : List Sl) (Q : Sl → List Sl → Prop) : Prop := ∃ Iv : Nat → List D → List Sl → Prop, Iv 0 [] (wipeD Δ1 own) ∧
  (∀ i d acc Δ2, ds[i]? = some d → Iv i acc Δ2 → g d Δ2 fun Δ3 => tt Δ3 (fun b Δ4 => if b = true then te Δ4 (fun e Δ5 => acc.length < sizeLine ∧ Iv (i + 1) (acc ++ [e]) (wipeD Δ5 own)) noE else Iv (i + 1) acc (wipeD Δ4 own)) noE) ∧
  ∀ acc Δ2, Iv ds.length acc Δ2 → Q (.ol acc) Δ2
@[simp] theorem sLC {own : List Nat} {ti : DTI} {g : DTG} {tt : DTT} {te : DTE} {Δ : List Sl} {Q : Sl → List Sl → Prop} {E : EX} : dLC own ti g tt te Δ Q E = ti Δ (fun ds Δ1 => dLCk own g tt te ds Δ1 Q) E := rfl
theorem take_filterMap {α β : Type} (f : α → Option β) : ∀ (ds : List α) (i : Nat) (d : α), ds[i]? = some d → (ds.take (i + 1)).filterMap f = (ds.take i).filterMap f ++ (f d).toList
  | [], i, d, h => by simp at h
  | x :: xs, 0, d, h => by simp at h; subst h; cases e : f x <;> simp [List.filterMap, e]
  | x :: xs, i + 1, d, h => by
    have ih := take_filterMap f xs i d (by simpa using h)
    simp only [List.take_succ_cons, List.filterMap_cons]
    cases e : f x <;> simp [ih]
theorem lc_pure {own : List Nat} {g : DTG} {tt : DTT} {te : DTE} {ds : List D} {Δ1 : List Sl} {Q : Sl → List Sl → Prop} (f : D → Option D) (Γ : List Sl) (hΓ : wipeD Δ1 own = Γ) (hl : ds.length ≤ sizeLine)
    (h : ∀ d ∈ ds, ∀ R : Option D → List Sl → Prop, R (f d) Γ → g d Γ fun Δ3 => tt Δ3 (fun b Δ4 => if b = true then te Δ4 (fun e Δ5 => R (some e) (wipeD Δ5 own)) noE else R none (wipeD Δ4 own)) noE)
    (hq : Q (.ol (ds.filterMap f)) Γ) : dLCk own g tt te ds Δ1 Q := by
  refine ⟨fun i acc Δ => Δ = Γ ∧ acc = (ds.take i).filterMap f, ⟨hΓ, by simp⟩, ?_, ?_⟩
  · rintro i d acc Δ2 hi ⟨rfl, rfl⟩
    have hlt : i < ds.length := (List.getElem?_eq_some_iff.mp hi).1
    have hacc : ((ds.take i).filterMap f).length < sizeLine := by
      have a1 := List.length_filterMap_le f (ds.take i)
      rw [List.length_take] at a1
      omega
    have key := take_filterMap f ds i d hi
    refine h d (List.mem_of_getElem? hi) (fun o Δ => match o with | some e => ((ds.take i).filterMap f).length < sizeLine ∧ (Δ = Δ2 ∧ (ds.take i).filterMap f ++ [e] = (ds.take (i + 1)).filterMap f) | none => Δ = Δ2 ∧ (ds.take i).filterMap f = (ds.take (i + 1)).filterMap f) ?_
    cases e : f d with
    | none => rw [e] at key; exact ⟨rfl, by rw [key]; simp⟩
    | some z => rw [e] at key; exact ⟨hacc, rfl, by rw [key]; simp⟩
  · rintro acc Δ2 ⟨rfl, rfl⟩
    rw [List.take_of_length_le (Nat.le_refl _)]
    exact hq
theorem filterMap_some_map {α β : Type} (f : α → β) : ∀ l : List α, l.filterMap (fun x => some (f x)) = l.map f
  | [] => rfl
  | x :: xs => by simp [filterMap_some_map f xs]
def dLCi (own1 : List Nat) (g1 : DTG) (tt1 : DTT) (te : DTE) (es : List D) (Δ5 : List Sl) (acc : List D) (R : List D → List Sl → Prop) : Prop := ∃ Iw : Nat → List D → List Sl → Prop, Iw 0 acc (wipeD Δ5 own1) ∧
  (∀ j e acc1 Δ6, es[j]? = some e → Iw j acc1 Δ6 → g1 e Δ6 fun Δ7 => tt1 Δ7 (fun b Δ8 => if b = true then te Δ8 (fun z Δ9 => acc1.length < sizeLine ∧ Iw (j + 1) (acc1 ++ [z]) (wipeD Δ9 own1)) noE else Iw (j + 1) acc1 (wipeD Δ8 own1)) noE) ∧
  ∀ acc1 Δ6, Iw es.length acc1 Δ6 → R acc1 Δ6
def dLC2k (own own1 : List Nat) (g : DTG) (tt : DTT) (ti1 : DTI) (g1 : DTG) (tt1 : DTT) (te : DTE) (ds : List D) (Δ1 : List Sl) (Q : Sl → List Sl → Prop) : Prop := ∃ Iv : Nat → List D → List Sl → Prop, Iv 0 [] (wipeD Δ1 own) ∧
  (∀ i d acc Δ2, ds[i]? = some d → Iv i acc Δ2 → g d Δ2 fun Δ3 => tt Δ3 (fun b Δ4 => if b = true then ti1 Δ4 (fun es Δ5 => dLCi own1 g1 tt1 te es Δ5 acc fun acc1 Δ6 => Iv (i + 1) acc1 (wipeD Δ6 own)) noE else Iv (i + 1) acc (wipeD Δ4 own)) noE) ∧
  ∀ acc Δ2, Iv ds.length acc Δ2 → Q (.ol acc) Δ2
@[simp] theorem sLC2 {own own1 : List Nat} {ti ti1 : DTI} {g g1 : DTG} {tt tt1 : DTT} {te : DTE} {Δ : List Sl} {Q : Sl → List Sl → Prop} {E : EX} : dLC2 own own1 ti g tt ti1 g1 tt1 te Δ Q E = ti Δ (fun ds Δ1 => dLC2k own own1 g tt ti1 g1 tt1 te ds Δ1 Q) E := rfl
theorem lci_pure {own1 : List Nat} {g1 : DTG} {tt1 : DTT} {te : DTE} {es : List D} {Δ5 : List Sl} {acc : List D} {R : List D → List Sl → Prop} (f : D → Option D) (Γ : List Sl) (hΓ : wipeD Δ5 own1 = Γ) (hl : acc.length + es.length ≤ sizeLine)
    (h : ∀ d ∈ es, ∀ R : Option D → List Sl → Prop, R (f d) Γ → g1 d Γ fun Δ3 => tt1 Δ3 (fun b Δ4 => if b = true then te Δ4 (fun e Δ5 => R (some e) (wipeD Δ5 own1)) noE else R none (wipeD Δ4 own1)) noE)
    (hq : R (acc ++ es.filterMap f) Γ) : dLCi own1 g1 tt1 te es Δ5 acc R := by
  refine ⟨fun i a Δ => Δ = Γ ∧ a = acc ++ (es.take i).filterMap f, ⟨hΓ, by simp⟩, ?_, ?_⟩
  · rintro i d a Δ2 hi ⟨rfl, rfl⟩
    have hlt : i < es.length := (List.getElem?_eq_some_iff.mp hi).1
    have hacc : (acc ++ (es.take i).filterMap f).length < sizeLine := by
      have a1 := List.length_filterMap_le f (es.take i)
      rw [List.length_take] at a1
      rw [List.length_append]
      omega
    have key := take_filterMap f es i d hi
    refine h d (List.mem_of_getElem? hi) (fun o Δ => match o with | some e => (acc ++ (es.take i).filterMap f).length < sizeLine ∧ (Δ = Δ2 ∧ (acc ++ (es.take i).filterMap f) ++ [e] = acc ++ (es.take (i + 1)).filterMap f) | none => Δ = Δ2 ∧ acc ++ (es.take i).filterMap f = acc ++ (es.take (i + 1)).filterMap f) ?_
    cases e : f d with
    | none => rw [e] at key; exact ⟨rfl, by rw [key]; simp⟩
    | some z => rw [e] at key; exact ⟨hacc, rfl, by rw [key]; simp⟩
  · rintro a Δ2 ⟨rfl, rfl⟩
    rw [List.take_of_length_le (Nat.le_refl _)]
    exact hq
theorem take_flatMap {α β : Type} (f : α → List β) : ∀ (ds : List α) (i : Nat) (d : α), ds[i]? = some d → (ds.take (i + 1)).flatMap f = (ds.take i).flatMap f ++ f d
  | [], i, d, h => by simp at h
  | x :: xs, 0, d, h => by simp at h; subst h; simp
  | x :: xs, i + 1, d, h => by
    have ih := take_flatMap f xs i d (by simpa using h)
    simp only [List.take_succ_cons, List.flatMap_cons, ih, List.append_assoc]
theorem lc2_pure {own own1 : List Nat} {g g1 : DTG} {tt tt1 : DTT} {ti1 : DTI} {te : DTE} {ds : List D} {Δ1 : List Sl} {Q : Sl → List Sl → Prop} (F : D → List D) (Γ : List Sl) (hΓ : wipeD Δ1 own = Γ) (hl : (ds.flatMap F).length ≤ sizeLine)
    (h : ∀ d ∈ ds, ∀ (acc : List D) (R : List D → List Sl → Prop), acc.length + (F d).length ≤ sizeLine → R (acc ++ F d) Γ → g d Γ fun Δ3 => tt Δ3 (fun b Δ4 => if b = true then ti1 Δ4 (fun es Δ5 => dLCi own1 g1 tt1 te es Δ5 acc fun acc1 Δ6 => R acc1 (wipeD Δ6 own)) noE else R acc (wipeD Δ4 own)) noE)
    (hq : Q (.ol (ds.flatMap F)) Γ) : dLC2k own own1 g tt ti1 g1 tt1 te ds Δ1 Q := by
  refine ⟨fun i a Δ => Δ = Γ ∧ a = (ds.take i).flatMap F, ⟨hΓ, by simp⟩, ?_, ?_⟩
  · rintro i d a Δ2 hi ⟨rfl, rfl⟩
    have key := take_flatMap F ds i d hi
    refine h d (List.mem_of_getElem? hi) _ (fun a' Δ => Δ = Δ2 ∧ a' = (ds.take (i + 1)).flatMap F) ?_ ⟨rfl, key.symm⟩
    have e : ds.flatMap F = (ds.take (i + 1)).flatMap F ++ (ds.drop (i + 1)).flatMap F := by rw [← List.flatMap_append, List.take_append_drop]
    rw [e, key] at hl
    simp only [List.length_append] at hl
    omega
  · rintro a Δ2 ⟨rfl, rfl⟩
    rw [List.take_of_length_le (Nat.le_refl _)]
    exact hq
/-! ### == over trees -/
structure OkN (n : Nat) (d : D) : Prop where
  py : isPy d = true
  lay : (toPy d).canLay0 = true
  dep : (toPy d).depth ≤ n
theorem OkN.eq {n : Nat} {d : D} (h : OkN n d) (hn : n ≤ 64 := by decide) : OkEq d := ⟨h.py, by unfold SeqAt.shaped; rw [h.lay]; exact decide_eq_true (Nat.le_trans h.dep hn)⟩
theorem okN_int (n : Nat) (i : Int) : OkN n (.int i) := ⟨rfl, rfl, Nat.zero_le _⟩
theorem okN_bl (n : Nat) (i : Bool) : OkN n (.bl i) := ⟨rfl, rfl, Nat.zero_le _⟩
theorem okN_non (n : Nat) : OkN n .non := ⟨rfl, rfl, Nat.zero_le _⟩
theorem okN_all {n : Nat} : ∀ {xs : List D}, (∀ x ∈ xs, OkN n x) → isPys xs = true ∧ PyData.canLayAll0 (toPys xs) = true ∧ PyData.depthAll (toPys xs) ≤ n
  | [], _ => ⟨rfl, rfl, Nat.zero_le _⟩
  | x :: xs, h => by
    obtain ⟨a, b, c⟩ := okN_all fun y hy => h y (List.mem_cons_of_mem _ hy)
    have q := h x List.mem_cons_self
    refine ⟨by simp [isPys, q.py, a], by simp [toPys, PyData.canLayAll0, q.lay, b], ?_⟩
    show max (toPy x).depth (PyData.depthAll (toPys xs)) ≤ n
    exact Nat.max_le.mpr ⟨q.dep, c⟩
theorem okN_lst {n : Nat} {xs : List D} (h : ∀ x ∈ xs, OkN n x) : OkN (n + 1) (.lst xs) := ⟨(okN_all h).1, (okN_all h).2.1, Nat.succ_le_succ (okN_all h).2.2⟩
theorem okN_tup {n : Nat} {xs : List D} (h : ∀ x ∈ xs, OkN n x) : OkN (n + 1) (.tup xs) := ⟨(okN_all h).1, (okN_all h).2.1, Nat.succ_le_succ (okN_all h).2.2⟩
theorem okN_map {α : Type} {n : Nat} {f : α → D} {xs : List α} (h : ∀ x, OkN n (f x)) : ∀ x ∈ xs.map f, OkN n x := fun x hx => by
  obtain ⟨y, _, rfl⟩ := List.mem_map.mp hx
  exact h y
@[simp] theorem okEq_int (i : Int) : OkEq (.int i) := (okN_int 0 i).eq
@[simp] theorem okEq_bl (i : Bool) : OkEq (.bl i) := (okN_bl 0 i).eq
@[simp] theorem okEq_non : OkEq .non := (okN_non 0).eq
@[simp] theorem eqD_int (i j : Int) : eqD (.int i) (.int j) = decide (i = j) := by
  show (i == j) = _
  by_cases h : i = j <;> simp [h]
@[simp] theorem eqD_bl (i j : Bool) : eqD (.bl i) (.bl j) = decide (i = j) := by cases i <;> cases j <;> rfl
theorem eqvAll_map {α : Type} [DecidableEq α] {f : α → D} (h : ∀ x y, eqD (f x) (f y) = decide (x = y)) : ∀ xs ys : List α, PyData.eqvAll (toPys (xs.map f)) (toPys (ys.map f)) = decide (xs = ys)
  | [], [] => rfl
  | [], _ :: _ => rfl
  | _ :: _, [] => rfl
  | x :: xs, y :: ys => by
    show (eqD (f x) (f y) && PyData.eqvAll (toPys (xs.map f)) (toPys (ys.map f))) = _
    rw [eqvAll_map h xs ys, h x y]
    by_cases a : x = y <;> by_cases b : xs = ys <;> simp [a, b]
theorem eqD_lst {α : Type} [DecidableEq α] {f : α → D} (h : ∀ x y, eqD (f x) (f y) = decide (x = y)) (xs ys : List α) : eqD (.lst (xs.map f)) (.lst (ys.map f)) = decide (xs = ys) := eqvAll_map h xs ys
theorem eqD_tup {α : Type} [DecidableEq α] {f : α → D} (h : ∀ x y, eqD (f x) (f y) = decide (x = y)) (xs ys : List α) : eqD (.tup (xs.map f)) (.tup (ys.map f)) = decide (xs = ys) := eqvAll_map h xs ys
@[simp] theorem sEq {x y : D} {Q : Bool → Prop} : rdEq x y Q = (OkEq x ∧ OkEq y ∧ Q (eqD x y)) := rfl
@[simp] theorem sNe {x y : D} {Q : Bool → Prop} : rdNe x y Q = (OkEq x ∧ OkEq y ∧ Q (!eqD x y)) := rfl
/-! ### places, cuts -/
theorem atI_nat {α : Type} (xs : List α) (i : Nat) : atI xs (i : Int) = xs[i]? := by
  unfold atI ixN
  rw [if_pos (Int.natCast_nonneg _)]
  by_cases h : i < xs.length
  · rw [if_pos (by omega)]; simp
  · rw [if_neg (by omega)]; simp; omega
theorem atI_last {α : Type} (xs : List α) : atI xs (-1) = xs.getLast? := by
  unfold atI ixN
  rw [if_neg (by decide)]
  cases xs with
  | nil => rfl
  | cons x xs =>
    rw [if_pos (by simp; omega), List.getLast?_eq_getElem?]
    simp only [Option.bind_some, List.length_cons]
    congr 1
    omega
theorem cut_to {α : Type} (xs : List α) (n : Nat) : cut xs none (some (n : Int)) = xs.take n := by
  unfold cut
  rw [HT.sIx_none, HT.sIx_nat, List.drop_zero, Nat.sub_zero]
  by_cases h : n ≤ xs.length
  · rw [Nat.min_eq_left h]
  · rw [Nat.min_eq_right (by omega), List.take_of_length_le (by omega), List.take_of_length_le (by omega)]
theorem cut_from {α : Type} (xs : List α) (n : Nat) : cut xs (some (n : Int)) none = xs.drop n := by
  unfold cut
  rw [HT.sIx_none, HT.sIx_nat]
  by_cases h : n ≤ xs.length
  · rw [Nat.min_eq_left h, List.take_of_length_le (by rw [List.length_drop]; omega)]
  · rw [Nat.min_eq_right (by omega), List.drop_of_length_le (by omega), List.drop_of_length_le (by omega)]; simp
theorem cut_but {α : Type} (xs : List α) : cut xs none (some (-1)) = xs.dropLast := by
  unfold cut
  rw [HT.sIx_none, List.drop_zero, Nat.sub_zero]
  have e : HT.sIx xs.length xs.length (some (-1)) = xs.length - 1 := by
    show (if (-1 : Int) < 0 then ((-1 : Int) + (xs.length : Int)).toNat else min (-1 : Int).toNat xs.length) = _
    rw [if_pos (by decide)]
    omega
  rw [e, List.dropLast_eq_take]
theorem cut_last {α : Type} (xs : List α) : cut xs (some (-1)) none = xs.drop (xs.length - 1) := by
  unfold cut
  rw [HT.sIx_none]
  have e : HT.sIx xs.length 0 (some (-1)) = xs.length - 1 := by
    show (if (-1 : Int) < 0 then ((-1 : Int) + (xs.length : Int)).toNat else min (-1 : Int).toNat xs.length) = _
    rw [if_pos (by decide)]
    omega
  rw [e, List.take_of_length_le (by rw [List.length_drop]; omega)]
/-! ### isinstance of plain things -/
@[simp] theorem kit_NoneType_bool : kitB "NoneType" "bool" = some false := by decide +kernel
@[simp] theorem kit_NoneType_int : kitB "NoneType" "int" = some false := by decide +kernel
@[simp] theorem kit_NoneType_str : kitB "NoneType" "str" = some false := by decide +kernel
@[simp] theorem kit_NoneType_list : kitB "NoneType" "list" = some false := by decide +kernel
@[simp] theorem kit_NoneType_tuple : kitB "NoneType" "tuple" = some false := by decide +kernel
@[simp] theorem kit_NoneType_dict : kitB "NoneType" "dict" = some false := by decide +kernel
@[simp] theorem kit_bool_bool : kitB "bool" "bool" = some true := by decide +kernel
@[simp] theorem kit_bool_int : kitB "bool" "int" = some true := by decide +kernel
@[simp] theorem kit_bool_str : kitB "bool" "str" = some false := by decide +kernel
@[simp] theorem kit_bool_list : kitB "bool" "list" = some false := by decide +kernel
@[simp] theorem kit_bool_tuple : kitB "bool" "tuple" = some false := by decide +kernel
@[simp] theorem kit_bool_dict : kitB "bool" "dict" = some false := by decide +kernel
@[simp] theorem kit_int_bool : kitB "int" "bool" = some false := by decide +kernel
@[simp] theorem kit_int_int : kitB "int" "int" = some true := by decide +kernel
@[simp] theorem kit_int_str : kitB "int" "str" = some false := by decide +kernel
@[simp] theorem kit_int_list : kitB "int" "list" = some false := by decide +kernel
@[simp] theorem kit_int_tuple : kitB "int" "tuple" = some false := by decide +kernel
@[simp] theorem kit_int_dict : kitB "int" "dict" = some false := by decide +kernel
@[simp] theorem kit_str_bool : kitB "str" "bool" = some false := by decide +kernel
@[simp] theorem kit_str_int : kitB "str" "int" = some false := by decide +kernel
@[simp] theorem kit_str_str : kitB "str" "str" = some true := by decide +kernel
@[simp] theorem kit_str_list : kitB "str" "list" = some false := by decide +kernel
@[simp] theorem kit_str_tuple : kitB "str" "tuple" = some false := by decide +kernel
@[simp] theorem kit_str_dict : kitB "str" "dict" = some false := by decide +kernel
@[simp] theorem kit_list_bool : kitB "list" "bool" = some false := by decide +kernel
@[simp] theorem kit_list_int : kitB "list" "int" = some false := by decide +kernel
@[simp] theorem kit_list_str : kitB "list" "str" = some false := by decide +kernel
@[simp] theorem kit_list_list : kitB "list" "list" = some true := by decide +kernel
@[simp] theorem kit_list_tuple : kitB "list" "tuple" = some false := by decide +kernel
@[simp] theorem kit_list_dict : kitB "list" "dict" = some false := by decide +kernel
@[simp] theorem kit_tuple_bool : kitB "tuple" "bool" = some false := by decide +kernel
@[simp] theorem kit_tuple_int : kitB "tuple" "int" = some false := by decide +kernel
@[simp] theorem kit_tuple_str : kitB "tuple" "str" = some false := by decide +kernel
@[simp] theorem kit_tuple_list : kitB "tuple" "list" = some false := by decide +kernel
@[simp] theorem kit_tuple_tuple : kitB "tuple" "tuple" = some true := by decide +kernel
@[simp] theorem kit_tuple_dict : kitB "tuple" "dict" = some false := by decide +kernel
@[simp] theorem kit_dict_bool : kitB "dict" "bool" = some false := by decide +kernel
@[simp] theorem kit_dict_int : kitB "dict" "int" = some false := by decide +kernel
@[simp] theorem kit_dict_str : kitB "dict" "str" = some false := by decide +kernel
@[simp] theorem kit_dict_list : kitB "dict" "list" = some false := by decide +kernel
@[simp] theorem kit_dict_tuple : kitB "dict" "tuple" = some false := by decide +kernel
@[simp] theorem kit_dict_dict : kitB "dict" "dict" = some true := by decide +kernel
/-! ### loops -/
def dForK (g : DTG) (tb : DTS) (N : DEnds) (ds : List D) (Δ1 : List Sl) (E : EX) : Prop := ∃ Iv : Nat → List Sl → Prop, Iv 0 Δ1 ∧
  (∀ i d Δ2, ds[i]? = some d → Iv i Δ2 → g d Δ2 fun Δ3 => tb { nx := Iv (i + 1), ct := Iv (i + 1), bk := N.nx, rt := N.rt } Δ3 E) ∧ ∀ Δ2, Iv ds.length Δ2 → N.nx Δ2
@[simp] theorem sFor {ti : DTI} {g : DTG} {tb : DTS} {N : DEnds} {Δ : List Sl} {E : EX} : dFor ti g tb N Δ E = ti Δ (fun ds Δ1 => dForK g tb N ds Δ1 E) E := rfl
/-- a walk over what a map has made -/
theorem for_map {α : Type} {f : α → D} {g : DTG} {tb : DTS} {N : DEnds} {xs : List α} {Δ1 : List Sl} {E : EX} (Iv : Nat → List Sl → Prop) (h0 : Iv 0 Δ1)
    (hs : ∀ i x Δ2, xs[i]? = some x → Iv i Δ2 → g (f x) Δ2 fun Δ3 => tb { nx := Iv (i + 1), ct := Iv (i + 1), bk := N.nx, rt := N.rt } Δ3 E) (hd : ∀ Δ2, Iv xs.length Δ2 → N.nx Δ2) : dForK g tb N (xs.map f) Δ1 E := by
  refine ⟨Iv, h0, fun i d Δ2 hi q => ?_, fun Δ2 q => hd Δ2 (by rwa [List.length_map] at q)⟩
  rw [List.getElem?_map] at hi
  cases e : xs[i]? with
  | none => rw [e] at hi; cases hi
  | some x => rw [e] at hi; cases hi; exact hs i x Δ2 e q
theorem for_range {g : DTG} {tb : DTS} {N : DEnds} {lo : Int} {n : Nat} {Δ1 : List Sl} {E : EX} (Iv : Nat → List Sl → Prop) (h0 : Iv 0 Δ1)
    (hs : ∀ i Δ2, i < n → Iv i Δ2 → g (.int (lo + (i : Int))) Δ2 fun Δ3 => tb { nx := Iv (i + 1), ct := Iv (i + 1), bk := N.nx, rt := N.rt } Δ3 E) (hd : ∀ Δ2, Iv n Δ2 → N.nx Δ2) : dForK g tb N (rngD lo n) Δ1 E := by
  unfold rngD
  refine for_map (f := fun (i : Nat) => D.int (lo + i)) Iv h0 (fun i x Δ2 hi q => ?_) fun Δ2 q => hd Δ2 (by rwa [List.length_range] at q)
  obtain ⟨h1, h2⟩ := List.getElem?_eq_some_iff.mp hi
  rw [List.length_range] at h1
  rw [List.getElem_range] at h2
  subst h2
  exact hs _ Δ2 h1 q
/-- comprehensions over what a map has made -/
theorem lc_map {α : Type} {f : α → D} {own : List Nat} {g : DTG} {tt : DTT} {te : DTE} {xs : List α} {Δ1 : List Sl} {Q : Sl → List Sl → Prop} (F : α → Option D) (Γ : List Sl) (hΓ : wipeD Δ1 own = Γ) (hl : xs.length ≤ sizeLine)
    (h : ∀ x ∈ xs, ∀ R : Option D → List Sl → Prop, R (F x) Γ → g (f x) Γ fun Δ3 => tt Δ3 (fun b Δ4 => if b = true then te Δ4 (fun e Δ5 => R (some e) (wipeD Δ5 own)) noE else R none (wipeD Δ4 own)) noE)
    (hq : Q (.ol (xs.filterMap F)) Γ) : dLCk own g tt te (xs.map f) Δ1 Q := by
  refine ⟨fun i acc Δ => Δ = Γ ∧ acc = (xs.take i).filterMap F, ⟨hΓ, by simp⟩, ?_, ?_⟩
  · rintro i d acc Δ2 hi ⟨rfl, rfl⟩
    rw [List.getElem?_map] at hi
    cases ex : xs[i]? with
    | none => rw [ex] at hi; cases hi
    | some x =>
      rw [ex] at hi
      cases hi
      have hlt : i < xs.length := (List.getElem?_eq_some_iff.mp ex).1
      have hacc : ((xs.take i).filterMap F).length < sizeLine := by
        have a1 := List.length_filterMap_le F (xs.take i)
        rw [List.length_take] at a1
        omega
      have key := take_filterMap F xs i x ex
      refine h x (List.mem_of_getElem? ex) (fun o Δ => match o with | some e => ((xs.take i).filterMap F).length < sizeLine ∧ (Δ = Δ2 ∧ (xs.take i).filterMap F ++ [e] = (xs.take (i + 1)).filterMap F) | none => Δ = Δ2 ∧ (xs.take i).filterMap F = (xs.take (i + 1)).filterMap F) ?_
      cases e : F x with
      | none => rw [e] at key; exact ⟨rfl, by rw [key]; simp⟩
      | some z => rw [e] at key; exact ⟨hacc, rfl, by rw [key]; simp⟩
  · rintro acc Δ2 ⟨rfl, rfl⟩
    rw [List.length_map, List.take_of_length_le (Nat.le_refl _)]
    exact hq
theorem lc_range {own : List Nat} {g : DTG} {tt : DTT} {te : DTE} {lo : Int} {n : Nat} {Δ1 : List Sl} {Q : Sl → List Sl → Prop} (F : Nat → Option D) (Γ : List Sl) (hΓ : wipeD Δ1 own = Γ) (hl : n ≤ sizeLine)
    (h : ∀ i, i < n → ∀ R : Option D → List Sl → Prop, R (F i) Γ → g (.int (lo + (i : Int))) Γ fun Δ3 => tt Δ3 (fun b Δ4 => if b = true then te Δ4 (fun e Δ5 => R (some e) (wipeD Δ5 own)) noE else R none (wipeD Δ4 own)) noE)
    (hq : Q (.ol ((List.range n).filterMap F)) Γ) : dLCk own g tt te (rngD lo n) Δ1 Q := by
  unfold rngD
  exact lc_map (f := fun (i : Nat) => D.int (lo + i)) F Γ hΓ (by rwa [List.length_range]) (fun x hx => h x (List.mem_range.mp hx)) hq
@[simp] theorem sWipe0 {Δ : List Sl} : wipeD Δ [] = Δ := rfl
@[simp] theorem sWipe1 {Δ : List Sl} {v : Nat} {vs : List Nat} : wipeD Δ (v :: vs) = (wipeD Δ vs).set v .un := rfl
@[simp] theorem key_int {i : Int} : (D.int i).key = some (.inl i) := rfl
@[simp] theorem key_str {x : Str} : (D.str x).key = some (.inr x) := rfl
@[simp] theorem keyT_tup {ds : List D} : (D.tup ds).keyT = D.keys ds := rfl
@[simp] theorem keys_nil : D.keys [] = some [] := rfl
theorem keys_ints : ∀ ns : List Int, D.keys (ns.map D.int) = some (ns.map Sum.inl)
  | [] => rfl
  | n :: ns => by show (match (D.int n).key, D.keys (ns.map D.int) with | some k, some ks => some (k :: ks) | _, _ => none) = _; rw [keys_ints ns]; rfl
@[simp] theorem sInK {x : D} {kvs : List (Key × D)} {Q : Bool → Prop} : rdIn x (.dk kvs) Q = ∃ y, x.key = some y ∧ Q (val kvs y).isSome := by cases x <;> rfl
@[simp] theorem sInU {x : D} {kvs : List (List Key × D)} {Q : Bool → Prop} : rdIn x (.dt kvs) Q = ∃ y, x.keyT = some y ∧ Q (val kvs y).isSome := by cases x <;> rfl
@[simp] theorem sInL {x : D} {ys : List D} {Q : Bool → Prop} : rdIn x (.lst ys) Q = (OkEq x ∧ OkEq (.lst ys) ∧ Q (ys.any fun z => eqD z x)) := by cases x <;> rfl
@[simp] theorem sNotIn {x y : D} {Q : Bool → Prop} : rdNotIn x y Q = rdIn x y fun b => Q (!b) := rfl
/-! ### the kinds of plain things -/
@[simp] theorem tyN_NoneType  : tyN (D.non) = some "NoneType" := rfl
@[simp] theorem tyN_bool {b : Bool} : tyN (D.bl b) = some "bool" := rfl
@[simp] theorem tyN_int {i : Int} : tyN (D.int i) = some "int" := rfl
@[simp] theorem tyN_str {x : Str} : tyN (D.str x) = some "str" := rfl
@[simp] theorem tyN_list {xs : List D} : tyN (D.lst xs) = some "list" := rfl
@[simp] theorem tyN_tuple {xs : List D} : tyN (D.tup xs) = some "tuple" := rfl
@[simp] theorem tyN_dict {xs : List (Key × D)} : tyN (D.dk xs) = some "dict" := rfl
theorem all_true {α : Type} (l : List α) : (l.map fun _ => true).all id = true := by simp [List.all_eq_true]
end DL
-- DLdraw
set_option Elab.async false
set_option linter.all false
set_option maxRecDepth 100000
set_option maxHeartbeats 2000000
set_option autoImplicit false
namespace DL
open PySem PySem.Spec L2
open PyProof.Rows hiding St
/-! ### the law's draws: what is read of their dict, what is stored there -/
theorem ks {x y : Str} (h : ¬ x = y) : ¬ ((Sum.inr x : Key) = Sum.inr y) := fun e => h (Sum.inr.inj e)
theorem kLR : ¬ (("large" : Str) = "rest") := by decide +kernel
theorem kLT : ¬ (("large" : Str) = "turn") := by decide +kernel
theorem kLC : ¬ (("large" : Str) = "cells") := by decide +kernel
theorem kRT : ¬ (("rest" : Str) = "turn") := by decide +kernel
theorem kRC : ¬ (("rest" : Str) = "cells") := by decide +kernel
theorem kCT : ¬ (("cells" : Str) = "turn") := by decide +kernel
theorem draw_rest {lp cp : Addr} {r t : Int} : valV (drawKv lp cp r t) (Sum.inr ("rest" : Str) : Key) = some (.int r) := by
  unfold drawKv
  rw [valV_neg (ks kLR), valV_pos rfl]
theorem draw_turn {lp cp : Addr} {r t : Int} : valV (drawKv lp cp r t) (Sum.inr ("turn" : Str) : Key) = some (.int t) := by
  unfold drawKv
  rw [valV_neg (ks kLT), valV_neg (ks kRT), valV_neg (ks kCT), valV_pos rfl]
theorem draw_large {lp cp : Addr} {r t : Int} : valV (drawKv lp cp r t) (Sum.inr ("large" : Str) : Key) = some (.ref lp) := by
  unfold drawKv
  rw [valV_pos rfl]
theorem draw_cells {lp cp : Addr} {r t : Int} : valV (drawKv lp cp r t) (Sum.inr ("cells" : Str) : Key) = some (.ref cp) := by
  unfold drawKv
  rw [valV_neg (ks kLC), valV_neg (ks kRC), valV_pos rfl]
theorem put_rest {lp cp : Addr} {r t n : Int} : putK (drawKv lp cp r t) (Sum.inr ("rest" : Str) : Key) (.int n) = drawKv lp cp n t := by
  unfold putK drawKv
  simp only [List.any_cons, List.map_cons, List.map_nil, List.any_nil, if_neg (ks kLR), if_neg (ks fun e => kRC e.symm), if_neg (ks fun e => kRT e.symm), if_true, decide_true, Bool.true_or, Bool.or_true]
theorem put_turn {lp cp : Addr} {r t n : Int} : putK (drawKv lp cp r t) (Sum.inr ("turn" : Str) : Key) (.int n) = drawKv lp cp r n := by
  unfold putK drawKv
  simp only [List.any_cons, List.map_cons, List.map_nil, List.any_nil, if_neg (ks kLT), if_neg (ks kRT), if_neg (ks kCT), if_true, decide_true, Bool.true_or, Bool.or_true]
section
variable {K : PySem.W.Frag} {W : Wd K} {H0 B0 H B : Hp}
/-- the draws move on: all else stands -/
theorem grow_draw (g : Grow W H0 B0 H B) {p : Addr} {o : HO} (hp : W.fv p) (d : DrawOk W (upd H p o)) (ho : ∀ ps, H p ≠ some (.tbl ps)) : Grow W H B (upd H p o) B where
  ext := fun a u h s => by rw [upd_ne (fun z : a = p => s.2 (by rw [z]; exact hp))]; exact h
  dom := fun a h => by unfold upd; split <;> simp_all
  bas := Sub.refl B
  new := fun a h => .inl h
  sub := fun a u h => by
    obtain ⟨h1, h2⟩ := g.sub a u h
    exact ⟨by rw [upd_ne (fun z : a = p => h2.2 (by rw [z]; exact hp))]; exact h1, h2⟩
  wok := by
    refine ⟨d, fun q hq => ?_⟩
    obtain ⟨ps, a1, a2, a3⟩ := g.wok.2 q hq
    refine ⟨ps, by rw [upd_ne (fun z => ho ps (by rw [← z]; exact a1))]; exact a1, a2, fun pos cv e => ?_⟩
    obtain ⟨c, e1, e2⟩ := a3 pos cv e
    exact ⟨c, e1, by rw [upd_ne (fun z : c = p => W.fvx g.wok e2 (by rw [z]; exact hp))]; exact e2⟩
end
/-- some number, we don't say which -/
def dAnyI (i : Nat) : DTE := fun Δ Q _ => Δ[i]? = some (.im .drw) ∧ ∀ n : Int, Q (.int n) Δ
def dPutI (i : Nat) (t : DTE) : DTS := fun N Δ E => t Δ (fun d Δ1 => Δ1[i]? = some (.im .drw) ∧ ∃ n, d = .int n ∧ N.nx Δ1) E
@[simp] theorem sAnyI {i : Nat} {Δ : List Sl} {Q : D → List Sl → Prop} {E : EX} : dAnyI i Δ Q E = (Δ[i]? = some (.im .drw) ∧ ∀ n : Int, Q (.int n) Δ) := rfl
@[simp] theorem sPutI {i : Nat} {t : DTE} {N : DEnds} {Δ : List Sl} {E : EX} : dPutI i t N Δ E = t Δ (fun d Δ1 => Δ1[i]? = some (.im .drw) ∧ ∃ n, d = .int n ∧ N.nx Δ1) E := rfl
section
variable {X : Cx} {G : Gx X.K} {pos : Pos}
theorem DR.drw {Δ : List Sl} {σ : L2.St} {H B : Hp} (r : DR G Δ σ H B) {i : Nat} (e : Δ[i]? = some (.im .drw)) : σ[i]? = some (some (.ref G.W.dp)) := by
  obtain ⟨v, h, q⟩ := r.get e
  cases q
  exact h
theorem de_rest (i : Nat) {x : Str} {p p2 : Pos} {j : Nat} (hu : X.A.units + 1 < cLine) (hN : X.N[i]? = some x := by rfl) (hv : Vis X.env.scope x := by first | exact Or.inl rfl | exact Or.inr (Or.inl rfl) | exact Or.inr (Or.inr rfl)) (hd : (x == ("__debug__" : Str)) = false := by decide) (hcd : (x == ("__classdict__" : Str)) = false := by decide) :
    PE X (.Subscript (.Name x p) (.Constant (.str "rest") j p2) pos) (upE G (dAnyI i)) :=
  PE.imp (pe_dget hu (pe_var hN hv hd hcd) pe_str (fun _ _ => rfl)) fun σ H Q ⟨Δ, B, Qd, r, ⟨e, q⟩, k⟩ => by
    obtain ⟨rr, t, ls, h1, h2, h3⟩ := r.wok.1
    refine ⟨_, r.drw e, _, .int rr, rfl, ?_, k _ Δ _ H B (q rr) r (Sub.refl B) (.int _)⟩
    have := DGet.k (k := (Sum.inr ("rest" : Str) : Key)) h1
    rw [draw_rest] at this
    exact this
theorem de_turn (i : Nat) {x : Str} {p p2 : Pos} {j : Nat} (hu : X.A.units + 1 < cLine) (hN : X.N[i]? = some x := by rfl) (hv : Vis X.env.scope x := by first | exact Or.inl rfl | exact Or.inr (Or.inl rfl) | exact Or.inr (Or.inr rfl)) (hd : (x == ("__debug__" : Str)) = false := by decide) (hcd : (x == ("__classdict__" : Str)) = false := by decide) :
    PE X (.Subscript (.Name x p) (.Constant (.str "turn") j p2) pos) (upE G (dAnyI i)) :=
  PE.imp (pe_dget hu (pe_var hN hv hd hcd) pe_str (fun _ _ => rfl)) fun σ H Q ⟨Δ, B, Qd, r, ⟨e, q⟩, k⟩ => by
    obtain ⟨rr, t, ls, h1, h2, h3⟩ := r.wok.1
    refine ⟨_, r.drw e, _, .int t, rfl, ?_, k _ Δ _ H B (q t) r (Sub.refl B) (.int _)⟩
    have := DGet.k (k := (Sum.inr ("turn" : Str) : Key)) h1
    rw [draw_turn] at this
    exact this
theorem draw_put {H : Hp} {W : Wd X.K} {kvs : List (Key × V)} {r' t' : Int} (d : DrawOk W H) (e : kvs = drawKv W.lp W.cp r' t') : DrawOk W (upd H W.dp (.dK kvs)) := by
  obtain ⟨rr, t, ls, h1, h2, h3⟩ := d
  exact ⟨r', t', ls, by rw [upd_same, e], by rw [upd_ne W.n1.symm]; exact h2, by rw [upd_ne W.n2.symm]; exact h3⟩
theorem ds_putRest (i : Nat) {x : Str} {p p2 sp : Pos} {j : Nat} {e : Expr} {t : DTE} (hu : X.A.units + 1 < cLine) (he : PE X e (upE G t)) (hN : X.N[i]? = some x := by rfl) (hv : Vis X.env.scope x := by first | exact Or.inl rfl | exact Or.inr (Or.inl rfl) | exact Or.inr (Or.inr rfl)) (hd : (x == ("__debug__" : Str)) = false := by decide) (hcd : (x == ("__classdict__" : Str)) = false := by decide)
    (hs : swapsWith e (some (.Subscript (.Name x p) (.Constant (.str "rest") j p2) sp)) pos.line X.env = pure false := by rfl) : PS X (.Assign [.Subscript (.Name x p) (.Constant (.str "rest") j p2) sp] e pos) (upS G (dPutI i t)) :=
  PS.imp (ps_dput hu (pe_var hN hv hd hcd) pe_str he hs) fun N σ H ⟨Δ, B, M, r, q, k, _⟩ => ⟨Δ, B, _, r, q, fun d Δ1 v H1 B1 ⟨e1, n, ed, qn⟩ r1 s1 rp => by
    subst ed
    cases rp
    obtain ⟨rr, t, ls, h1, h2, h3⟩ := r1.wok.1
    have g := grow_draw r1.gr (p := G.W.dp) (.inl rfl) (draw_put ⟨rr, t, ls, h1, h2, h3⟩ (put_rest (r := rr) (t := t) (n := n))) (fun ps z => by rw [h1] at z; cases z)
    exact ⟨_, r1.drw e1, _, _, rfl, DPut.k (k := (Sum.inr ("rest" : Str) : Key)) h1 (by show 4 < sizeLine; decide), k Δ1 _ _ _ qn (r1.grow g) (s1.trans g.bas)⟩⟩
theorem ds_putTurn (i : Nat) {x : Str} {p p2 sp : Pos} {j : Nat} {e : Expr} {t : DTE} (hu : X.A.units + 1 < cLine) (he : PE X e (upE G t)) (hN : X.N[i]? = some x := by rfl) (hv : Vis X.env.scope x := by first | exact Or.inl rfl | exact Or.inr (Or.inl rfl) | exact Or.inr (Or.inr rfl)) (hd : (x == ("__debug__" : Str)) = false := by decide) (hcd : (x == ("__classdict__" : Str)) = false := by decide)
    (hs : swapsWith e (some (.Subscript (.Name x p) (.Constant (.str "turn") j p2) sp)) pos.line X.env = pure false := by rfl) : PS X (.Assign [.Subscript (.Name x p) (.Constant (.str "turn") j p2) sp] e pos) (upS G (dPutI i t)) :=
  PS.imp (ps_dput hu (pe_var hN hv hd hcd) pe_str he hs) fun N σ H ⟨Δ, B, M, r, q, k, _⟩ => ⟨Δ, B, _, r, q, fun d Δ1 v H1 B1 ⟨e1, n, ed, qn⟩ r1 s1 rp => by
    subst ed
    cases rp
    obtain ⟨rr, t, ls, h1, h2, h3⟩ := r1.wok.1
    have g := grow_draw r1.gr (p := G.W.dp) (.inl rfl) (draw_put ⟨rr, t, ls, h1, h2, h3⟩ (put_turn (r := rr) (t := t) (n := n))) (fun ps z => by rw [h1] at z; cases z)
    exact ⟨_, r1.drw e1, _, _, rfl, DPut.k (k := (Sum.inr ("turn" : Str) : Key)) h1 (by show 4 < sizeLine; decide), k Δ1 _ _ _ qn (r1.grow g) (s1.trans g.bas)⟩⟩
/-- for cell in draw['cells'] -/
def dCells (i : Nat) : DTI := fun Δ Q _ => Δ[i]? = some (.im .drw) ∧ ∀ cs : List Int, Q (cs.map D.int) Δ
@[simp] theorem sCells {i : Nat} {Δ : List Sl} {Q : List D → List Sl → Prop} {E : EX} : dCells i Δ Q E = (Δ[i]? = some (.im .drw) ∧ ∀ cs : List Int, Q (cs.map D.int) Δ) := rfl
theorem ItD.cells {W : Wd X.K} {B : Hp} : ItD W B (W.cs.map D.int) (Itl X.K W.cp) where
  stop := fun g s hi => ⟨_, .of g.wok.1.choose_spec.choose_spec.choose_spec.2.2, by simpa using hi⟩
  go := fun {i _ _ _ _} g s hi => by
    have hi : i < W.cs.length := by simpa using hi
    exact ⟨_, .int W.cs[i], .of g.wok.1.choose_spec.choose_spec.choose_spec.2.2, by simp [hi]⟩
  yld := fun {i _ _ _ _ x _} g s hi ⟨h1, h2⟩ => by
    subst h1
    have hi : i < W.cs.length := by simpa using hi
    have e := h2 _ (.of g.wok.1.choose_spec.choose_spec.choose_spec.2.2)
    simp only [List.getElem?_map, List.getElem?_eq_getElem hi, Option.map_some, Option.some.injEq] at e
    subst e
    exact ⟨_, .int W.cs[i], by simp [hi], g.self, .int _⟩
theorem di_cells (i : Nat) {tg : Expr} {x : Str} {p p2 : Pos} {j : Nat} (hu : X.A.units + 1 < cLine) (hN : X.N[i]? = some x := by rfl) (hv : Vis X.env.scope x := by first | exact Or.inl rfl | exact Or.inr (Or.inl rfl) | exact Or.inr (Or.inr rfl)) (hd : (x == ("__debug__" : Str)) = false := by decide) (hcd : (x == ("__classdict__" : Str)) = false := by decide) :
    PI X tg (.Subscript (.Name x p) (.Constant (.str "cells") j p2) pos) (upI G (dCells i)) :=
  PI.imp (pi_list (pe_dget hu (pe_var hN hv hd hcd) pe_str (fun _ _ => rfl))) fun σ H R ⟨Δ, B, Qd, r, ⟨e, q⟩, k⟩ => by
    obtain ⟨rr, t, ls, h1, h2, h3⟩ := r.wok.1
    refine ⟨_, r.drw e, _, .ref G.W.cp, rfl, ?_, G.W.cp, rfl, ⟨_, .of h3⟩, k _ Δ _ H B (q G.W.cs) r (Sub.refl B) .cells⟩
    have := DGet.k (k := (Sum.inr ("cells" : Str) : Key)) h1
    rw [draw_cells] at this
    exact this
/-- draw['large'].pop(0) if draw['large'] != [] else f(draw) -/
def dLarge (i : Nat) : DTE := fun Δ Q _ => Δ[i]? = some (.im .drw) ∧ ∀ n : Int, Q (.int n) Δ
@[simp] theorem sLarge {i : Nat} {Δ : List Sl} {Q : D → List Sl → Prop} {E : EX} : dLarge i Δ Q E = (Δ[i]? = some (.im .drw) ∧ ∀ n : Int, Q (.int n) Δ) := rfl
theorem eqv_ints : ∀ ls : List Int, PyData.eqv (.list (ls.map .int)) (.list []) = decide (ls = [])
  | [] => rfl
  | _ :: _ => rfl
theorem dp_ints {K : PySem.W.Frag} {H : Hp} : ∀ ls : List Int, DpAll K H (ls.map V.int) (ls.map PyData.int)
  | [] => .nil
  | n :: ls => .cons (.int n) (dp_ints ls)
theorem shaped_ints (ls : List Int) : SeqAt.shaped (.list (ls.map PyData.int)) = true := by
  have h : ∀ ls : List Int, PyData.canLayAll0 (ls.map PyData.int) = true ∧ PyData.depthAll (ls.map PyData.int) = 0 := fun ls => by
    induction ls with
    | nil => exact ⟨rfl, rfl⟩
    | cons n ls ih => exact ⟨by simp [PyData.canLayAll0, PyData.canLay0, ih.1], by show max 0 _ = 0; rw [ih.2]; rfl⟩
  unfold SeqAt.shaped
  show (PyData.canLayAll0 _ && decide (PyData.depthAll _ + 1 ≤ 64)) = true
  rw [(h ls).1, (h ls).2]
  rfl
theorem de_large (i : Nat) {k : Nat} {x y : Str} {p p1 p2 p3 p4 p5 p6 p7 p8 p9 pa pb pc pd : Pos} {j j1 j2 : Nat} {t : DTE} (hr : DL.Room k X.A) (hm : PE X (.Call (.Name y p6) [.Name x p7] [] p8) (upE G t)) (ht : ∀ Δ Q, Δ[i]? = some (.im .drw) → (∀ n : Int, Q (.int n) Δ) → t Δ Q G.Ed) (hN : X.N[i]? = some x := by rfl) (hv : Vis X.env.scope x := by first | exact Or.inl rfl | exact Or.inr (Or.inl rfl) | exact Or.inr (Or.inr rfl))
    (hd : (x == ("__debug__" : Str)) = false := by decide) (hcd : (x == ("__classdict__" : Str)) = false := by decide)
    (hbase : attributeBase (.Subscript (.Name x p) (.Constant (.str "large") j p1) p2) "pop" X.env (eval (.Subscript (.Name x p) (.Constant (.str "large") j p1) p2) X.env) = eval (.Subscript (.Name x p) (.Constant (.str "large") j p1) p2) X.env := by rfl)
    (hline : (p3.endLine == p4.line) = true := by rfl)
    (hfew : ((backTo p4 (starEach [(.Constant (.int 0) j1 p5 : Expr)] X.env)).all (fun x => !x.1) && (backToKw p4 (keywordEach [] X.env)).all (fun x => x.1.isSome) && decide ([(.Constant (.int 0) j1 p5 : Expr)].length + ([] : List Keyword).length + (if ([] : List Keyword).isEmpty then 0 else 1) < 30)) = true := by rfl)
    (hst : starEach [(.Constant (.int 0) j1 p5 : Expr)] X.env = (false, eval (.Constant (.int 0) j1 p5) X.env) :: starEach [] X.env := by rfl) :
    PE X (.IfExp (.Compare (.Subscript (.Name x p9) (.Constant (.str "large") j2 pa) pb) [.NotEq] [.List [] pc] pd) (.Call (.Attribute (.Subscript (.Name x p) (.Constant (.str "large") j p1) p2) "pop" p3) [.Constant (.int 0) j1 p5] [] p4) (.Call (.Name y p6) [.Name x p7] [] p8) pos) (upE G (dLarge i)) := by
  have hu := hu_of hr
  have gt : ∀ {p9 pa pb : Pos} {j2 : Nat}, PE X (.Subscript (.Name x p9) (.Constant (.str "large") j2 pa) pb) (tDGet (tVar i) (tC (.str "large"))) := fun {_ _ _ _} => pe_dget hu (pe_var hN hv hd hcd) pe_str (fun _ _ => rfl)
  refine PE.imp (pe_ifExp (pt_cmpR (op_neD hr.units) gt (pe_lst pa_nil) (nomark _)) (pe_bm PySem.F.plainAttrs_list PySem.F.slot_list_pop PySem.F.type_list_pop mt_popAt gt (pa_cons pe_int pa_nil) hbase hfew hline hst rfl) hm) fun σ H Q ⟨Δ, B, Qd, r, ⟨e, q⟩, kk⟩ => ?_
  obtain ⟨rr, tt, ls, h1, h2, h3⟩ := r.wok.1
  have gl : ∀ {H' : Hp}, H' G.W.dp = some (.dK (drawKv G.W.lp G.W.cp rr tt)) → DGet H' G.W.dp (.str "large") (some (.ref G.W.lp)) := fun h => by
    have := DGet.k (k := (Sum.inr ("large" : Str) : Key)) h
    rw [draw_large] at this
    exact this
  refine ⟨_, r.drw e, _, .ref G.W.lp, rfl, gl h1, by decide, fun l hl => ?_⟩
  have g0 := r.gr.allocO (o := .lst []) hl
  have r1 : DR G Δ σ (upd H l (.lst [])) B := r.grow g0
  have dl : G.W.dp ≠ l := ne_of_none h1 hl
  have ll : G.W.lp ≠ l := ne_of_none h2 hl
  have h1' : upd H l (.lst []) G.W.dp = some (.dK (drawKv G.W.lp G.W.cp rr tt)) := by rw [upd_ne dl]; exact h1
  have h2' : upd H l (.lst []) G.W.lp = some (.lst (ls.map V.int)) := by rw [upd_ne ll]; exact h2
  have h3' : upd H l (.lst []) G.W.cp = some (.lst (G.W.cs.map V.int)) := by rw [upd_ne (ne_of_none h3 hl)]; exact h3
  refine ⟨_, _, .lst (.of h2') (dp_ints ls), .lst (.of upd_same) .nil, shaped_ints ls, rfl, _, rfl, ?_⟩
  rw [eqv_ints]
  cases ls with
  | nil => exact ⟨Δ, B, _, r1, ht Δ (fun d Δ' => Qd d Δ') e q, fun d Δ' v H' B' qd r' s' rp => kk d Δ' v H' B' qd r' s' rp⟩
  | cons z zs =>
    refine ⟨_, r.drw e, _, .ref G.W.lp, rfl, gl h1', .inl ⟨rfl, _, .of h2'⟩, G.W.lp, _, 0, 0, .int z, rfl, rfl, h2', by decide, by decide, ?_, rfl, ?_⟩
    · unfold seqIndex?; simp
    · have d2 : DrawOk G.W (upd (upd H l (.lst [])) G.W.lp (.lst (zs.map V.int))) := ⟨rr, tt, zs, by rw [upd_ne G.W.n1]; exact h1', upd_same, by rw [upd_ne G.W.n3.symm]; exact h3'⟩
      have g := grow_draw r1.gr (p := G.W.lp) (.inr (.inl rfl)) d2 (fun ps z => by rw [h2'] at z; cases z)
      exact kk _ Δ _ _ _ (q z) (r1.grow g) (Sub.refl B) (.int z)
end
/-! ### more of == -/
@[simp] theorem eqD_nil (xs : List D) : eqD (.lst xs) (.lst []) = decide (xs = []) := by cases xs <;> rfl
@[simp] theorem okEq_bls (xs : List Bool) : OkEq (.lst (xs.map D.bl)) := (okN_lst (n := 0) (okN_map fun x => okN_bl 0 x)).eq
@[simp] theorem okEq_nil : OkEq (.lst []) := okEq_bls []
@[simp] theorem eqD_bls (xs ys : List Bool) : eqD (.lst (xs.map D.bl)) (.lst (ys.map D.bl)) = decide (xs = ys) := eqD_lst (fun x y => eqD_bl x y) xs ys
theorem atI_m1 {α : Type} (xs : List α) : atI xs (-1) = xs.getLast? := atI_last xs
theorem set_id {α : Type} : ∀ {l : List α} {i : Nat} {x : α}, l[i]? = some x → l.set i x = l
  | [], _, _, h => by simp at h
  | _ :: _, 0, _, h => by simp at h; subst h; rfl
  | y :: l, i + 1, x, h => by rw [List.set_cons_succ, set_id (by simpa using h)]
theorem ht_mixed {sp : SpD} {i : Nat} {E : EX} (h : ∀ (Q : D → Prop) (E : EX), (∀ n : Int, Q (.int n)) → sp [.drw] Q E) : ∀ (Δ : List Sl) (Q : D → List Sl → Prop), Δ[i]? = some (.im .drw) → (∀ n : Int, Q (.int n) Δ) → DL.dFn sp (dCons (dVar i) dNil) Δ Q E := fun Δ Q e q => by
  simp [e]
  rw [set_id e]
  exact h _ E q
end DL
-- DLend
set_option Elab.async false
set_option linter.all false
set_option maxRecDepth 100000
set_option maxHeartbeats 2000000
set_option autoImplicit false
namespace DL
open PySem PySem.Spec L2
open PyProof.Rows hiding St
/-! ### the law's call, from the top's heap, at the caller alone (no repr is under way there) -/
section
variable {P : Program} {w : World} {K : PySem.W.Frag} {mg mb : Str → Option Value} {k : Nat} {fa a : Addr} {cs : List (Addr × Addr)} {fd : FuncData} {x : Str} {sp : Sp} {t0 : Shared} {us : List Value} {zs : List Int}
/-- what of the heap is told at the law's entry: the tables, the script unless the top has left it -/
structure Told (K : PySem.W.Frag) (t0 : Shared) (a : Addr) (cs : List (Addr × Addr)) (zs : List Int) (P : Program) (w : World) (H : Hp) : Prop where
  tab : ∀ q ∈ cs, H q.2 = some (.tbl #[])
  only : ∀ b u, H b = some u → (∃ q ∈ cs, q.2 = b) ∨ (b = a ∧ K.lookup a = none ∧ ∃ o ys, u = .frz o (.lst ys))
  sq : SqL K H a (zs.map V.int)
  ok : HOk P w H t0.heap
theorem told_run (KX : K.In t0.heap) (hns : t0.heap.Ns mainGlobals mg) (hb : t0.heap.Ns builtinsNs mb) (hbb : ∀ y : Str, y ≠ "__name__" → mb y = bootBuiltins y) (hlim : t0.heap.NoLimit) (hg : t0.gens = #[])
    (hT : ∀ q ∈ cs, t0.heap.get? q.2 = some (PySem.W.tabObj #[])) (nT : ∀ q ∈ cs, K.lookup q.2 = none) (C : ∀ q ∈ cs, PySem.W.CodeHd t0.heap q.1 q.2)
    (hbm : ∃ (bm : Addr) (ob : Obj), mg "__builtins__" = some (.ref bm) ∧ bm ≠ builtinsNs ∧ t0.heap.get? bm = some ob ∧ ob.cls = .type "module" ∧ ob.dict = some builtinsNs ∧ ob.data = .plain)
    (ha : t0.heap.get? a = some { cls := .type "list", data := .seq us.toArray }) (hr : DL.Room k callerA)
    (F : ∀ base : Heap, K.In base → base.Ns mainGlobals mg → (∀ q ∈ cs, LamX.TabB base mg q.1 q.2) → DL.FnOk P w K mg base (L2.CX P w) k fa fd [x] sp) (hbind : ∀ (s : Shared) (u : Value), BindsTo s fd ⟨[u], []⟩ [(x, u)])
    (hsp : ∀ H : Hp, (∀ q ∈ cs, H q.2 = some (.tbl #[])) → SqL K H a (zs.map V.int) → sp [.ref a] H (fun v _ => v = .bl true) fun _ _ _ => False) {H : Hp} (Z : Told K t0 a cs zs P w H) :
    codeAny (model P w) callerA (.call (.ref fa) ⟨[.ref a], []⟩) (fun r s' => r = .ok (.ret (.bool true)) ∧ OldK t0.heap s'.heap ∧ s'.os = t0.os ∧ AllBare s'.gens) t0 := by
  have clear : ∀ {b : Addr} {o : Obj}, t0.heap.get? b = some o → (∀ vs n, o.data ≠ .seq vs n) → o.data ≠ .fields #[] → H b = none := fun {b o} e d1 d2 => by
    cases q : H b with
    | none => rfl
    | some u =>
      exfalso
      rcases Z.only b u q with ⟨z, hz, rfl⟩ | ⟨rfl, _⟩
      · rw [hT z hz] at e; cases e; exact d2 rfl
      · rw [ha] at e; cases e; exact d1 _ _ rfl
  have up : ∀ {b : Addr} {o : Obj}, t0.heap.get? b = some o → H b = none → (hidT t0.heap H).get? b = some o := fun e n => hidT_get e n
  have ns : ∀ {b : Addr} {m : Str → Option Value}, t0.heap.Ns b m → (hidT t0.heap H).Ns b m := fun {b m} h => by
    obtain ⟨o, es, ep, e, d, r⟩ := h
    exact ⟨o, es, ep, up e (clear e (fun _ _ z => by rw [d] at z; cases z) fun z => by rw [d] at z; cases z), d, r⟩
  have kin : K.In (hidT t0.heap H) := fun b o e => up (KX b o e) (by
    cases q : H b with
    | none => rfl
    | some u =>
      exfalso
      rcases Z.only b u q with ⟨z, hz, rfl⟩ | ⟨rfl, hk, _⟩
      · rw [nT z hz] at e; cases e
      · rw [hk] at e; cases e)
  have md : L2.Mod K mg (hidT t0.heap H) := ⟨kin, ns hns, ⟨mb, ns hb, hbb⟩, by
    obtain ⟨mc, l1, l2⟩ := hlim
    exact ⟨mc, ns l1, l2⟩⟩
  have tb : ∀ q ∈ cs, LamX.TabB (hidT t0.heap H) mg q.1 q.2 := fun q hq => by
    have hq2 := hT q hq
    refine ⟨?_, ?_, fun z => ?_⟩
    · obtain ⟨o, vs, f1, f2, f3, f4, f5, f6, f7, e, rest⟩ := C q hq
      refine ⟨o, vs, f1, f2, f3, f4, f5, f6, f7, up e (clear e (fun _ _ z => ?_) fun z => ?_), rest⟩
      · rw [rest.2.1] at z; cases z
      · have r3 := rest.2.2.1
        rw [rest.2.1] at z; cases z; simp at r3
    · obtain ⟨m0, ob, g1, g2, g3, g4, g5, g6⟩ := hbm
      have n1 : m0 ≠ mainGlobals := by
        rintro rfl
        obtain ⟨o, es, ep, e, d, _⟩ := hns
        rw [e] at g3; cases g3; rw [d] at g6; cases g6
      have n2 : m0 ≠ q.2 := by
        rintro rfl
        rw [hq2] at g3; cases g3; cases g6
      exact ⟨m0, ob, g1, g2, n1, n2, up g3 (clear g3 (fun _ _ z => by rw [g6] at z; cases z) fun z => by rw [g6] at z; cases z), g4, g5, g6⟩
    · obtain ⟨o, es, ep, e, d, _⟩ := hns
      rw [z, hq2] at e; cases e; cases d
  have en : Env0 P w K mg (hidT t0.heap H) callerA [] t0 H := by
    refine ⟨rfl, md, fun b o e => of_hidT e, Nat.le_of_eq (hidT_size _ _), trivial, fun b hb => ?_, Z.ok, .of_eq hg⟩
    cases hb
  refine codeAny_mono ((F _ kin (ns hns) tb).run callerA [] t0 H ⟨[.ref a], []⟩ [.ref a] [.ref a] (fun v _ => v = .bl true) (fun _ _ _ => False) hr en (hbind t0 (.ref a)) (.cons rfl .nil) (hsp H Z.tab Z.sq)) fun r s' h => ?_
  match r, h with
  | .error e, h => obtain ⟨_, _, _, _, _, _, _, _, _, _, _, _, q⟩ := h; exact False.elim q
  | .ok .next, h => exact False.elim h
  | .ok .brk, h => exact False.elim h
  | .ok .cont, h => exact False.elim h
  | .ok (.ret u), h =>
    obtain ⟨v, H', os, bare, un, hok', rv, q⟩ := h
    have q : v = .bl true := q
    subst q
    obtain rfl : u = Value.bool true := rv
    have kept : ∀ b o, (¬ ∃ z ∈ cs, z.2 = b) → t0.heap.get? b = some o → s'.heap.get? b = some o := fun b o nb e => by
      cases q : H b with
      | none => exact un.keep b o e q (fun z => by cases z) (by simp)
      | some u =>
        rcases Z.only b u q with z | ⟨rfl, _, ob, ys, rfl⟩
        · exact absurd z nb
        · have e1 := (Z.ok b _ q).1
          have e2 := (hok' b _ (un.frzs b ob _ q)).1
          rw [e] at e1; cases e1; exact e2
    have grown : ∀ z ∈ cs, ∃ more : Array Value, s'.heap.get? z.2 = some { cls := .none, data := .fields more } := fun z hz => by
      obtain ⟨more, h1⟩ := un.tbls z.2 #[] (Z.tab z hz)
      exact ⟨_, hok' z.2 _ h1⟩
    refine ⟨rfl, ⟨fun b o e => ?_, fun b o e => ?_⟩, os, bare⟩
    · by_cases hz : ∃ z ∈ cs, z.2 = b
      · obtain ⟨z, hz, rfl⟩ := hz
        obtain ⟨more, hm⟩ := grown z hz
        rw [hT z hz] at e; cases e
        exact .inr (.inl ⟨((C z hz).tab (hT z hz)).isCodeTable, rfl, #[], more, rfl, by rw [Array.empty_append]; exact hm⟩)
      · exact .inl (kept b o hz e)
    · by_cases hz : ∃ z ∈ cs, z.2 = b
      · obtain ⟨z, hz, rfl⟩ := hz
        obtain ⟨more, hm⟩ := grown z hz
        exact ⟨_, hm⟩
      · exact ⟨o, kept b o hz e⟩
/-- the two ways in which the script stands -/
theorem told_ex (KX : K.In t0.heap) (hT : ∀ q ∈ cs, t0.heap.get? q.2 = some (PySem.W.tabObj #[])) (ha : t0.heap.get? a = some { cls := .type "list", data := .seq us.toArray }) (hi : IntsAre us zs) (hl : zs.length ≤ sizeLine) : ∃ H, Told K t0 a cs zs P w H := by
  have rv := vals_ints hi
  have lv := hi.length
  have na : ∀ q ∈ cs, q.2 ≠ a := fun q hq z => by
    have e := hT q hq
    rw [z, ha] at e; cases e
  open Classical in
  let H0 : Hp := fun b => if ∃ q ∈ cs, q.2 = b then some (.tbl #[]) else none
  have h0 : ∀ {b u}, H0 b = some u → (∃ q ∈ cs, q.2 = b) ∧ u = .tbl #[] := fun {b u} h => by
    by_cases z : ∃ q ∈ cs, q.2 = b
    · simp only [H0, if_pos z] at h; cases h; exact ⟨z, rfl⟩
    · simp only [H0, if_neg z] at h; cases h
  have h1 : ∀ q ∈ cs, H0 q.2 = some (.tbl #[]) := fun q hq => by simp only [H0]; rw [if_pos ⟨q, hq, rfl⟩]
  have ok0 : ∀ b, (∃ q ∈ cs, q.2 = b) → t0.heap.get? b = some (PySem.W.tabObj #[]) := fun b ⟨q, hq, e⟩ => by rw [← e]; exact hT q hq
  cases hk : K.lookup a with
  | some o =>
    have e := KX a o hk
    rw [ha] at e; cases e
    exact ⟨H0, h1, fun b u h => .inl (h0 h).1, .inr ⟨_, us.toArray, _, hk, rfl, rfl, rfl, by rw [List.size_toArray, lv]; exact hl, by simpa using rv⟩, fun b u h => by obtain ⟨z, rfl⟩ := h0 h; exact ok0 b z⟩
  | none =>
    refine ⟨upd H0 a (.frz { cls := .type "list", data := .seq us.toArray } (.lst (zs.map V.int))), fun q hq => by rw [upd_ne (na q hq)]; exact h1 q hq, fun b u h => ?_, .inl (.inr ⟨_, upd_same⟩), fun b u h => ?_⟩
    · by_cases z : b = a
      · subst z; rw [upd_same] at h; cases h; exact .inr ⟨rfl, hk, _, _, rfl⟩
      · rw [upd_ne z] at h; exact .inl (h0 h).1
    · by_cases z : b = a
      · subst z; rw [upd_same] at h; cases h
        exact ⟨ha, by rw [List.length_map]; exact hl, us, _, rv, ha⟩
      · rw [upd_ne z] at h
        obtain ⟨z, rfl⟩ := h0 h
        exact ok0 b z
end
/-- what is known of the law's promise at the head's heap -/
def LawAtD (l : PySem.W.OpenLaw) (w : World) (K : PySem.W.Frag) (k n : Nat) (x : Str) (mg : Str → Option Value) (fa : Addr) (h : Heap) : Prop :=
  ∃ (fd : FuncData) (cs : List (Addr × Addr)) (sp : Sp), (∀ q ∈ cs, h.get? q.2 = some (PySem.W.tabObj #[])) ∧ (∀ q ∈ cs, K.lookup q.2 = none) ∧ (∀ q ∈ cs, PySem.W.CodeHd h q.1 q.2) ∧ (∀ (s : Shared) (u : Value), BindsTo s fd ⟨[u], []⟩ [(x, u)]) ∧
    (∀ (H : Hp) (a : Addr) (ns : List Int), ns.length ≤ n → (∀ q ∈ cs, H q.2 = some (.tbl #[])) → SqL K H a (ns.map V.int) → sp [.ref a] H (fun v _ => v = .bl true) fun _ _ _ => False) ∧
    ∀ base : Heap, K.In base → base.Ns mainGlobals mg → (∀ q ∈ cs, LamX.TabB base mg q.1 q.2) → DL.FnOk l.prog w K mg base (L2.CX l.prog w) k fa fd [x] sp
theorem walk_D {l : PySem.W.OpenLaw} {n k : Nat} {q : Program} {loose : List Str} {XP : (Str → Option Value) → Heap → Prop} {YP : World → Heap → Prop} {d : DefRec} {x : Str}
    (hn : l.most = some n) (hn2 : n ≤ sizeLine) (hdf : d.params.defaults = []) (hr : DL.Room k callerA)
    (F : ∀ (w : World) (mg : Str → Option Value) (fa : Addr) (h : Heap), YP w h → h.Ns mainGlobals mg → mg d.name = some (.ref fa) → ∃ K : PySem.W.Frag, K.In h ∧ LawAtD l w K k n x mg fa h) :
    PySem.W.WalkO q loose XP YP l.row.toRowW d [] (fun f vs => PySem.call f vs) := by
  refine Att.attach_callB hn hdf fun w s₀ s₁ mg mb fa o pm cd doc a vs ns G Y ho hd hcd hmg hobj hints hlen hbits hg => ?_
  obtain ⟨K, KX, fd, cs, sp, hT, nT, C, hb, hsp, hF⟩ := F w mg fa _ Y G.T.g hmg
  obtain ⟨H, Z⟩ := told_ex (P := l.prog) (w := w) KX hT hobj hints (Nat.le_trans hlen hn2)
  exact told_run KX G.T.g G.T.b G.T.builtins G.T.nolimit hg hT nT C G.T.bmain hobj hr hF hb (fun H hH hS => hsp H a ns hlen hH hS) Z
end DL
-- DLlck
set_option Elab.async false
set_option linter.all false
set_option maxRecDepth 100000
set_option maxHeartbeats 2000000
set_option autoImplicit false
namespace DL
open PySem PySem.Spec L2
open PyProof.Rows hiding St
/-! ### a comprehension in which lambdas of the maker's are called: its block stands over a larger base -/
/-- another base below the same context -/
abbrev reb (Y : Cx) (b : Heap) : Cx := { Y with base := b }
theorem reb_ok {Y : Cx} (ok : Y.Ok) {b : Heap} (m : Mod Y.K Y.mg b) (bs : ∀ a o, b.get? a = some o → Y.s_0.heap.get? a = some o ∧ Y.H_0 a = none) (bz : b.objs.size ≤ Y.s_0.heap.objs.size) (ne : ∀ a o, b.get? a = some o → a ∉ Y.ex) (nf : ∀ a ∈ frs Y.outer, b.get? a = none) : (reb Y b).Ok :=
  ⟨m, ok.kind, ok.glob, ok.blt, ok.above, ok.inj, ok.has, ok.cab, ok.hd, ok.frames, ok.stk, ok.exf, bs, bz, ne, ok.exfs, FunFrames_base ok.funs nf, ok.frf⟩
theorem reb_to {Y : Cx} {b : Heap} {pins : List (Addr × Obj)} {σ : L2.St} {H : Hp} {s : Shared} (k : (reb Y b).Ok) (I : Inv Y pins σ H s) : Inv (reb Y b) pins σ H s := ⟨k, I.os, I.bare, I.base, I.loc, I.cell, I.free, I.freeC, I.pin, I.hok, I.len⟩
theorem reb_of {Y : Cx} {b : Heap} {pins : List (Addr × Obj)} {σ : L2.St} {H : Hp} {s : Shared} (k : Y.Ok) (I : Inv (reb Y b) pins σ H s) : Inv Y pins σ H s := ⟨k, I.os, I.bare, I.base, I.loc, I.cell, I.free, I.freeC, I.pin, I.hok, I.len⟩
theorem reb_tests {Y : Cx} {b : Heap} {ifs : List Expr} {t : TT} (k : Y.Ok → (reb Y b).Ok) (h : PTs (reb Y b) ifs t) : PTs Y ifs t :=
  ⟨fun pins s σ H Q I q => wpAny_mono (h.run pins s σ H Q (reb_to (k I.ok) I) q) (fun _ _ ⟨H', I', q'⟩ => ⟨H', reb_of I.ok I', q'⟩) fun _ _ x => x⟩
theorem reb_elt {Y : Cx} {b : Heap} {e : Expr} {t : TE} (k : Y.Ok → (reb Y b).Ok) (h : PE (reb Y b) e t) : PE Y e t :=
  ⟨fun pins s σ H Q I q => wpAny_mono (h.run pins s σ H Q (reb_to (k I.ok) I) q) (fun _ _ ⟨v, H', I', r, q'⟩ => ⟨v, H', reb_of I.ok I', r, q'⟩) fun _ _ x => x⟩
/-- what a block's base may hold: not what is told of, no frame, no object of the iterator -/
def restB (outer : List Env) (H : Hp) (fp : List Addr) (b : Addr) : Prop := restP outer H b ∧ b ∉ fp
section
variable {X : Cx} {pins : List (Addr × Obj)} {σ : L2.St} {H B : Hp} {s : Shared}
theorem sub_baseB {fp : List Addr} (I : Inv X pins σ H s) (hf : ∀ b ∈ fp, FpOk X pins H b) : ∀ b o, X.base.get? b = some o → (part s.heap (restB X.stack H fp)).get? b = some o := fun b o e => by
  have e1 := sub_base I.env0 b o e
  refine part_in (part_of e1).1 ⟨(part_of e1).2, fun hb => ?_⟩
  have e2 := (I.ok.bs b o e).1
  rcases (hf b hb).2.2.2.1 with z | z
  · exact I.ok.noex b o e z
  · exact absurd (Heap.lt_size e2) (Nat.not_lt.mpr z)
theorem callOk_ofB {W : Wd X.K} {k : Clo} {caps ps : List Str} {ix : List Nat} {vc : List V} {dc : List D} {lv : Nat} {te : DTE} {fp : List Addr} (I : Inv X pins σ H s) (hf : ∀ b ∈ fp, FpOk X pins H b) (LB : LamB X.prog X.w X.K X.mg X.base caps ps k lv te) (C : CapAt X k caps ix) (hl : vc.length = ix.length)
    (hv : ∀ (i j : Nat) (v : V), ix[i]? = some j → vc[i]? = some v → σ[j]? = some (some v)) (rc : Rps W B vc dc) : CallOk X.prog X.w X.K X.mg (part s.heap (restB X.stack H fp)) W B (lv + 1) k (lamBeh ps.length dc te) := by
  obtain ⟨CO, CR0⟩ := cap_cells I C hl hv
  have cl : ∀ y c, k.cells.lookup y = some c → restB X.stack H fp c := fun y c e => ⟨CR0 y c e, fun hb => by
    rw [C.cells] at e
    rcases cloFrom_mem (PySem.mem_of_lookup e) with hm | ⟨h1, h2⟩
    · cases hm
    · obtain ⟨c1, hc⟩ := I.ok.has y (.inl (C.cell y (C.all y h1)).1)
      refine (hf c hb).2.2.2.2.1 y c1 hc ?_
      rw [h2, hc]; rfl⟩
  intro A outer s1 H1 a c us vs Q E hr e0 ha hc rv ⟨B1, ds, Qd, Ed, sb, g, rps, ⟨hn, ht⟩, k1, k2⟩
  have e1 := env0_less e0 I.ok.mod (sub_baseB I hf) (by rw [part_size]; exact I.env0.bsz)
  obtain ⟨pm, ctv, of1⟩ := (e0.hok a _ ha).1
  obtain ⟨oc, vs', t, hoc, hdc, hvc⟩ := (e0.hok c _ hc).1
  have hus : us.length = ps.length := by rw [← rv.length, rps.length, hn]
  have CO1 : CellsOk k caps vc H1 s1.heap := by
    have kc : ∀ y c, k.cells.lookup y = some c → ∀ o, s.heap.get? c = some o → s1.heap.get? c = some o ∧ H1 c = none := fun y c e o ho => e0.bs c o (part_in ho (cl y c e))
    refine ⟨CO.len, CO.inj, CO.has, fun y c e => ?_, fun i y v c x1 x2 x3 => ?_⟩
    · obtain ⟨_, v, o, ho, hd⟩ := CO.ok y c e
      exact ⟨(kc y c e o ho).2, v, o, (kc y c e o ho).1, hd⟩
    · obtain ⟨u, ru, o, ho, hd⟩ := CO.val i y v c x1 x2 x3
      exact ⟨u, ru, o, (kc y c x3 o ho).1, hd⟩
  refine PySem.W.kla_callFunE hr.depth of1 rfl LB.L.co LB.L.gen rfl ⟨c, oc, vs', t, rfl, hoc, hdc, hvc⟩ ?_
  rw [LB.bind _ _ _ us hus]
  refine wpAny_pure (wpAny_newFunctionEnv (fun y hy => LB.L.cell y hy) (fun y hy => ?_) (fun h₁ hns hsb => ⟨(e1.mod.nolimit.keeps fun b o e => (e1.bs b o e).1).fresh _ hsb, ?_⟩) LB.L.kind)
  · obtain ⟨y1, y2⟩ := y
    exact LB.L.par y1 (List.of_mem_zip hy).1
  show codeAny _ _ (.expr k.body (lamE k s1.heap.objs.size a c)) _ _
  have kp : ∀ b o, s1.heap.get? b = some o → h₁.get? b = some o := fun b o e => hsb.extBut b o (Nat.ne_of_lt (Heap.lt_size e)) (Heap.get?_push_of_some _ e)
  have J := lam_inv (E := E) (f := a) (c := c) (tk := s1.toks + (ps.zip us).length) LB.L e1 hr.hd CO1 rv hus hns kp
  have hrp : Rps W B1 (vc ++ vs) (dc ++ ds) := rps_append (rc.mono sb) rps
  have hlen : (caps ++ ps).length = (dc ++ ds).length := by rw [← hrp.length, List.length_append, List.length_append, CO.len, rps.length, hn]
  have est : startD (caps ++ ps).length (dc ++ ds) = (dc ++ ds).map .im := by
    unfold startD
    rw [hlen, Nat.sub_self, List.replicate_zero, List.append_nil]
  have dr : DR (⟨W, H1, B1, E, Ed, k2⟩ : Gx X.K) ((dc ++ ds).map .im) (L2.start (caps ++ ps) (vc ++ vs)) H1 B1 := by
    rw [← est]
    exact ⟨g, _, Sls.start hrp⟩
  refine PySem.W.kla_codeExpr (wpAny_mono ((LB.body W a c A outer s1 H1 B1 E Ed k2 (hr.deeper _)).run [] _ _ H1 Q J ⟨_, B1, _, dr, ht, fun d Δ' v H' B' q r' _ rp => k1 d v H' B' q r'.gr rp⟩) (fun v s' hq => ?_) fun e s' hq => hq)
  obtain ⟨w', H', J', rv', q⟩ := hq
  exact ⟨w', H', J'.os, J'.bare, J'.base, J'.hok, rv', q⟩
theorem behs_okB {lv : Nat} {fp : List Addr} (I : Inv X pins σ H s) (hf : ∀ b ∈ fp, FpOk X pins H b) {G : Gx X.K} {Δ : List Sl} {H' : Hp} (r : DR G Δ σ H' B) :
    ∀ {ls : List LamD} {dcs : List (List D)}, (∀ l ∈ ls, ∃ lv', lv' + 1 ≤ lv ∧ LamB X.prog X.w X.K X.mg X.base l.caps l.ps l.k lv' l.te ∧ CapAt X l.k l.caps l.ix) → imss Δ ls = some dcs →
      ∀ clo, CallOk X.prog X.w X.K X.mg (part s.heap (restB X.stack H fp)) G.W B lv clo (behs noBeh ls dcs clo)
  | [], _, _, h, clo => by
    cases h
    exact callOk_no
  | l :: ls, _, hl, h, clo => by
    simp only [imss] at h
    split at h
    · rename_i d ds e1 e2
      cases h
      obtain ⟨lv', h1, LB, C⟩ := hl l List.mem_cons_self
      obtain ⟨vc, h2, h3, h4⟩ := DR.ims r e1
      have own := callOk_more (lv' := lv) (callOk_ofB (W := G.W) (B := B) I hf LB C h2 h3 h4) (mod_more I.ok.mod (sub_baseB I hf)) (fun _ _ e => e) (Nat.le_refl _) (Sub.refl B) h1
      refine callOk_or ?_ (behs_okB I hf r (fun l' hl' => hl l' (List.mem_cons_of_mem _ hl')) e2 clo)
      intro A outer s2 H2 a c us vs Q E hr e0 ha hc rv ⟨B2, ds2, Qd, Ed, sb2, g, rps, ⟨ek, hb⟩, k1, k2⟩
      subst ek
      exact own A outer s2 H2 a c us vs Q E hr e0 ha hc rv ⟨B2, ds2, Qd, Ed, sb2, g, rps, hb, k1, k2⟩
    · cases h
end
/-- a comprehension whose parts may be judged by what is known where its block begins -/
theorem lc_know {X : Cx} {pins : List (Addr × Obj)} {σ : L2.St} {H : Hp} {s : Shared} {Q : VK} {elt tg iter : Expr} {ifs : List Expr} {scope : Scope} {own : List (Str × Nat)} {pos : Pos} {wi : TI} {g : TG} {tt : TT} {te : TE} {Kn : Shared → Hp → List Addr → Prop}
    (hc : X.calm = true) (hN : X.N.Nodup) (I : Inv X pins σ H s) (hi : PI X tg iter wi) (ok : BlkOk X.N X.env.scope scope own) (hKn : ∀ s3 H3 fp, Inv X pins σ H3 s3 → (∀ b ∈ fp, FpOk X pins H3 b) → Kn s3 H3 fp)
    (hg : ∀ s3 H3 C cl fp, Kn s3 H3 fp → PG (X.blk s3 H3 scope (compEnvC scope cl C X.env) fp) tg g) (ht : ∀ s3 H3 C cl fp, Kn s3 H3 fp → (∃ pins σ, Inv X pins σ H3 s3 ∧ ∀ b ∈ fp, FpOk X pins H3 b) → PTs (X.blk s3 H3 scope (compEnvC scope cl C X.env) fp) ifs tt)
    (he : ∀ s3 H3 C cl fp, Kn s3 H3 fp → PE (X.blk s3 H3 scope (compEnvC scope cl C X.env) fp) elt te) (hs : ∀ x, foldedSetIterable iter X.env x = pure x) (h : tLc wi g tt te (own.map (·.2)) σ H Q) :
    wpAny (model X.prog X.w) X.A (eval (.ListComp elt [⟨tg, iter, ifs, 0⟩] scope pos) X.env) (EP X pins σ Q) X.xe s := by
  have cap : ∀ y ∈ scope.names, y.2 = .free → ∃ c, X.env.cells.lookup y.1 = some c := fun y hy e => (ok.free y hy e).elim (fun k => I.ok.has _ (.inl k)) fun k => I.ok.has _ (.inr k)
  rw [eval_ListComp]
  refine wpAny_comprehension_free rfl hs (closure_ok cap) ok.kind (fun y hy e => by rw [ok.uniq y hy, e]) (thn (hi.run pins s σ H _ I h) fun _ _ a => thn a fun _ s2 b => ?_)
  obtain ⟨it, fp, tn, J, H2, rfl, I2, T, st2, f2, q⟩ := b
  refine wpAny_newObj_type (newEnv_comp ?_) (Nat.zero_le _)
  -- D: the list; s3: with it; C: the block's frame
  obtain ⟨D, hD⟩ : ∃ D, D = s2.heap.objs.size := ⟨_, rfl⟩
  obtain ⟨s3, hs3⟩ : ∃ s3 : Shared, s3 = { s2 with heap := s2.heap.push { cls := .type "list", data := .seq ([] : List Value).toArray } } := ⟨_, rfl⟩
  obtain ⟨H3, hH3⟩ : ∃ H3, H3 = upd H2 D (.lst []) := ⟨_, rfl⟩
  rw [← hD, ← hs3]
  obtain ⟨W, ⟨m0, w0⟩, turn⟩ := q D (I2.hok.fresh (Nat.le_of_eq hD.symm))
  rw [← hH3] at w0
  have he3 : s3.heap = s2.heap.push { cls := .type "list", data := .seq ([] : List Value).toArray } := by rw [hs3]
  have old3 : ∀ b o, s2.heap.get? b = some o → s3.heap.get? b = some o := fun b o e => by rw [he3]; exact Heap.get?_push_of_some _ e
  have I3 : Inv X pins σ H3 s3 := by
    rw [hs3, hH3]
    exact I2.laid (t' := s2.toks) (fun b o e => Heap.get?_push_of_some _ e) (Nat.le_of_eq hD.symm) ⟨Nat.zero_le _, [], 0, .nil, by rw [hD]; exact Heap.get?_push_size _ rfl⟩
  have lt2 : ∀ b ∈ fp, b < s2.heap.objs.size := fun b hb => (T.obj _ _ st2 b hb).elim fun o e => Heap.lt_size e.1
  have f3 : ∀ b ∈ fp, FpOk X pins H3 b := fun b hb => ⟨by rw [hH3, upd_ne (by rw [hD]; exact Nat.ne_of_lt (lt2 b hb))]; exact (f2 b hb).1, (f2 b hb).2⟩
  have l3 : ∀ b ∈ fp, b < s3.heap.objs.size := fun b hb => by rw [he3, Heap.size_push]; exact Nat.lt_succ_of_lt (lt2 b hb)
  have kn := hKn s3 H3 fp I3 f3
  have I4 := block_start I3 ok hN fun b hb => ⟨f3 b hb, l3 b hb⟩
  have jg := hg s3 H3 s3.heap.objs.size (cellsFrom (s3.heap.objs.size + 1) scope.names (cloFrom X.env.cells scope.names [])) fp kn
  have jt := ht s3 H3 s3.heap.objs.size (cellsFrom (s3.heap.objs.size + 1) scope.names (cloFrom X.env.cells scope.names [])) fp kn ⟨pins, σ, I3, f3⟩
  have je := he s3 H3 s3.heap.objs.size (cellsFrom (s3.heap.objs.size + 1) scope.names (cloFrom X.env.cells scope.names [])) fp kn
  show codeAny _ _ (.compStart _ 0 (.ref it) (.ref D) (compEnvC scope (cellsFrom (s3.heap.objs.size + 1) scope.names (cloFrom X.env.cells scope.names [])) s3.heap.objs.size X.env)) (compPost (model X.prog X.w) X.A X.xe none _ (.ref D) s3.heap.objs.size) _
  obtain ⟨ce, hce⟩ : ∃ ce, ce = compEnvC scope (cellsFrom (s3.heap.objs.size + 1) scope.names (cloFrom X.env.cells scope.names [])) s3.heap.objs.size X.env := ⟨_, rfl⟩
  rw [← hce] at I4 jg jt je ⊢
  have lc : ce.locals = s3.heap.objs.size := by rw [hce]; rfl
  clear hce
  obtain ⟨s4, hs4⟩ : ∃ s4 : Shared, s4 = { s3 with heap := pushCells (s3.heap.push { cls := .type "dict", data := .dict #[] }) scope.names } := ⟨_, rfl⟩
  rw [← hs4] at I4 ⊢
  have st4 : tn 0 s4.heap := T.keep _ _ _ (T.keep _ _ _ st2 fun b _ o e => old3 b o e) fun b _ o e => by rw [hs4]; exact pushCells_keeps _ _ _ _ (Heap.get?_push_of_some _ e)
  have still : ∀ {σ' : L2.St} {H' : Hp} {s' : Shared}, Inv (X.blk s3 H3 scope ce fp) [] σ' H' s' → (∀ b ∈ fp, H' b = none) → ∀ b ∈ fp, FpOk (X.blk s3 H3 scope ce fp) [] H' b := fun {σ' H' s'} I' hn b hb =>
    ⟨hn b hb, (I'.ok.exf b hb).1, I'.ok.exfs b hb, .inl hb, fun y c e => (I'.ok.exf b hb).2 y c e, fun p hp => by cases hp⟩
  have run : codeAny (model X.prog X.w) X.A (.compLoop (.ListComp elt [⟨tg, iter, ifs, 0⟩] scope pos) 0 (.ref it) (.ref D) ce) (compPost (model X.prog X.w) X.A X.xe none (EP X pins σ Q) (.ref D) s3.heap.objs.size) s4 := by
    refine compLoop_any (fun n s' => ∃ i H', W i n H' ∧ (∀ b ∈ fp, H' b = none) ∧ tn i s'.heap ∧ Inv (X.blk s3 H3 scope ce fp) [] (wipe σ (own.map (·.2))) H' s') ?_ m0 ⟨0, H3, w0, fun b hb => (f3 b hb).1, st4, I4⟩
    rintro n s5 ⟨i, H5, w5, n5, st5, I5⟩
    rcases turn i n H5 w5 with ⟨stop, fin⟩ | ⟨go, Nx, hNx, step⟩
    · refine thnF (T.done (X.blk s3 H3 scope ce fp) rfl rfl rfl hc i [] s5 _ H5 (fun _ _ => False) I5 (still I5 n5) st5 stop) fun r s6 ⟨hr, I6⟩ => ?_
      subst hr
      have I7 : Inv X pins σ H5 s6 := I3.call' (ch := fp) I6.os I6.base I6.hok I6.bare fun b hb => by
        obtain ⟨_, x2, _, x4, x5, x6⟩ := f3 b hb
        exact ⟨x4, x2, x5, x6⟩
      have nC : H5 s3.heap.objs.size = none := by rw [← lc]; exact I6.free
      obtain ⟨m, hn, _⟩ := I6.loc
      have hn : s6.heap.Ns ce.locals m := hn
      rw [lc] at hn
      obtain ⟨y0, y1, y2, y3, y4, y5⟩ := I3.fpOk (Nat.le_refl _) nC
      exact ⟨m, hn, fun h'' sb => ⟨.ref D, H5, I7.turned (t' := s6.toks) (fun b o hb e => (sb.2 b hb).trans e) y0 y1 y3 y4 y5, rfl, fin⟩⟩
    · refine thnF (T.item (X.blk s3 H3 scope ce fp) rfl rfl rfl hc i [] s5 _ H5 (fun _ _ => False) I5 (still I5 n5) st5 go) fun r s6 ⟨u, hr, h6⟩ => ?_
      subst hr
      refine thnF h6 fun _ s7 ⟨x, H7, I7, r7, y7, st7, n7⟩ => ?_
      refine thnF (jg.run _ s7 _ H7 x u _ (I7.pinned (still I7 n7) (T.obj _ _ st7)) r7 (step x H7 y7)) fun _ s8 ⟨σ8, H8, I8, hw, q8⟩ => ?_
      refine thnF (jt.run _ s8 σ8 H8 _ I8 q8) fun b s9 ⟨H9, I9, q9⟩ => ?_
      have next : ∀ {s' : Shared} {H' : Hp}, Inv (X.blk s3 H3 scope ce fp) ([] ++ pinsAt fp s7.heap) σ8 H' s' → Nx H' → ∃ m, m < n ∧ ∃ i H', W i m H' ∧ (∀ b ∈ fp, H' b = none) ∧ tn i s'.heap ∧ Inv (X.blk s3 H3 scope ce fp) [] (wipe σ (own.map (·.2))) H' s' := fun {s' H'} I' nx => by
        obtain ⟨m', hm, w'⟩ := hNx H' nx
        have pin : ∀ b ∈ fp, ∀ o, s7.heap.get? b = some o → s'.heap.get? b = some o ∧ H' b = none := fun b hb o e => by
          have z := I'.pin (b, o) (List.mem_append_right _ (List.mem_append_right _ (mem_pinsAt hb e)))
          exact ⟨z.1, z.2.1⟩
        refine ⟨m', hm, i + 1, H', w', fun b hb => ?_, T.keep _ _ _ st7 fun b hb o e => (pin b hb o e).1, (I'.unpinned (pins := [])).weak (by rw [← hw, wipe_length]) fun j v e => (wipe_some (by rw [hw]; exact e)).1⟩
        obtain ⟨o, e, _⟩ := T.obj _ _ st7 b hb
        exact (pin b hb o e).2
      cases b with
      | false => exact next I9 q9
      | true => exact thnF (je.run _ s9 σ8 H9 _ I9 q9) fun z s10 ⟨yv, H10, I10, r10, acc, a1, a2, nx⟩ => app_ok (X := X.blk s3 H3 scope ce fp) I10 a1 a2 r10 fun s11 I11 => next I11 nx
  exact codeAny_compStart_list run (T.self X.A 0 _ _ _ st4 run)
section
variable {X : Cx} {G : Gx X.K} {pos : Pos}
theorem lc_upB {own : List Nat} {S : List Nat} {ti : DTI} {g : DTG} {tt : DTT} {te : DTE} (hS : ∀ i ∈ S, i ∈ own) {σ : L2.St} {H : Hp} {Q : VK} (h : upM G (dLC own ti g tt te) σ H Q)
    {gH : TG} {ttH : TT} {teH : TE}
    (hg : ∀ (H0 : Hp) v σ H Q, upG (nox G.W H0 G.B0) S g v σ H Q → gH v σ H Q)
    (ht : ∀ (H0 : Hp) σ H Q, upT (nox G.W H0 G.B0) tt σ H Q → ttH σ H Q)
    (he : ∀ (H0 : Hp) σ H Q, upE (nox G.W H0 G.B0) te σ H Q → teH σ H Q) : tLc (upI G ti) gH ttH teH own σ H Q := by
  obtain ⟨Δ, B, Qd, r, q, k⟩ := h
  refine ⟨Δ, B, _, r, q, fun ds Δ1 J H1 B1 ⟨Iv, i0, turn, fin⟩ r1 s1 it L hL => ?_⟩
  have n1 := NewV.lst (ds := []) r1.gr hL .nil
  obtain ⟨vs0, e0, q0, h0, b0, nf, rg⟩ := ((r1.wipeA own).hangS n1).hold
  have ev : vs0 = [] := by rw [upd_same] at e0; cases e0; rfl
  subst ev
  refine ⟨fun i m H' => ∃ Δ' B' acc vs, m = ds.length - i ∧ i ≤ ds.length ∧ DR (gd G L vs) Δ' (wipe σ own) H' B' ∧ Rps G.W B' vs acc ∧ Sub B1 B' ∧ Iv i acc Δ' ∧ wipeD Δ' own = Δ',
    ⟨_, wipeD Δ1 own, B1, [], [], rfl, Nat.zero_le _, rg, .nil, Sub.refl _, i0, wipeD_idem own⟩, ?_⟩
  rintro i m H2 ⟨Δ2, B2, acc, vs, rfl, hi, r2, q2, s2, v2, w2⟩
  by_cases hl : i < ds.length
  · refine .inr ⟨it.go r2.gr s2 hl, fun H' => ∃ Δ' B' acc vs, DR (gd G L vs) Δ' (wipe σ own) H' B' ∧ Rps G.W B' vs acc ∧ Sub B1 B' ∧ Iv (i + 1) acc Δ' ∧ wipeD Δ' own = Δ', fun H' ⟨Δ', B', acc, vs, h⟩ => ⟨_, by omega, Δ', B', acc, vs, rfl, hl, h⟩, fun x H3 y => ?_⟩
    obtain ⟨B3, d, hd, g3, rp⟩ := it.yld r2.gr s2 hl y
    have r3 := r2.grow g3
    have q3 := q2.mono g3.bas
    refine hg _ _ _ _ _ ⟨Δ2, B3, d, _, r3, rp, turn i d acc Δ2 hd v2, fun Δ4 σ4 H4 B4 q4 r4 s4 kp => ?_⟩
    have we2 : wipe σ4 own = wipe σ own := (kp own hS).trans (wipe_wipe own)
    refine ⟨we2, ht _ _ _ _ ⟨Δ4, B4, _, r4, q4, fun b Δ5 H5 B5 q5 r5 s5 => ?_⟩⟩
    have we3 : wipe σ4 own = wipe (wipe σ own) own := kp own hS
    cases b with
    | true =>
      refine he _ _ _ _ ⟨Δ5, B5, _, r5, q5, fun e Δ6 z H6 B6 ⟨hz, q6⟩ r6 s6 rz => ?_⟩
      have q7 := ((q3.mono s4).mono s5).mono s6
      obtain ⟨e7, r7⟩ := r6.more h0 b0 nf q7 rz
      refine ⟨vs, e7, by rw [q7.length]; exact hz, wipeD Δ6 own, B6, acc ++ [e], vs ++ [z], r7.unwipe we3, q7.append (Rps.one rz), (((s2.trans g3.bas).trans s4).trans s5).trans s6, q6, wipeD_idem own⟩
    | false => exact ⟨wipeD Δ5 own, B5, acc, vs, r5.unwipe we3, (q3.mono s4).mono s5, ((s2.trans g3.bas).trans s4).trans s5, q5, wipeD_idem own⟩
  · have e : i = ds.length := by omega
    subst e
    refine .inl ⟨it.stop r2.gr s2 (Nat.le_refl _), ?_⟩
    have r5 := r2.unwipe (σ := σ) (vs := own) (wipe_wipe own)
    rw [w2] at r5
    obtain ⟨e5, r6⟩ := r5.unhold h0 b0 nf q2
    exact k _ _ _ _ _ (fin _ _ v2) r6 (s1.trans s2)

theorem grow_from {K : PySem.W.Frag} {W : Wd K} {H0 B0 H B H' B' : Hp} (r : Grow W H0 B0 H B) (g : Grow W H0 B H' B') : Grow W H0 B0 H' B' := ⟨g.ext, g.dom, r.bas.trans g.bas, fun a h => (g.new a h).elim (fun z => r.new a z) .inr, g.sub, g.wok⟩
theorem grow_now {K : PySem.W.Frag} {W : Wd K} {H0 B0 H B H' B' : Hp} (r : Grow W H0 B0 H B) (sb : Sub B B') (g : Grow W H0 B0 H' B') : Grow W H0 B H' B' := ⟨g.ext, g.dom, sb, fun a h => (g.new a h).elim (fun z => .inl fun n => by
  cases e : B0 a with
  | none => exact z e
  | some o => rw [r.bas a o e] at n; cases n) .inr, g.sub, g.wok⟩
/-- the same, seen from now -/
abbrev Gx.now (G : Gx X.K) {H B : Hp} (r : Grow G.W G.H0 G.B0 H B) : Gx X.K := ⟨G.W, G.H0, B, G.E, G.Ed, fun C H' B' e g => G.hE C H' B' e (grow_from r g)⟩
theorem DR.now {Δ : List Sl} {σ : L2.St} {H B H1 B1 : Hp} (r0 : Grow G.W G.H0 G.B0 H B) (sb : Sub B B1) (r : DR G Δ σ H1 B1) : DR (G.now r0) Δ σ H1 B1 := by
  obtain ⟨fp, S⟩ := r.sl
  exact ⟨grow_now r0 sb r.gr, fp, S.len, S.at_, S.dj, S.ou⟩
theorem DR.past {Δ : List Sl} {σ : L2.St} {H B H1 B1 : Hp} (r0 : Grow G.W G.H0 G.B0 H B) (r : DR (G.now r0) Δ σ H1 B1) : DR G Δ σ H1 B1 := by
  obtain ⟨fp, S⟩ := r.sl
  exact ⟨grow_from r0 r.gr, fp, S.len, S.at_, S.dj, S.ou⟩
/-- [elt for .. in .. if ..], where the test may call the maker's lambdas ls -/
def dLCF (ls : List LamD) (own : List Nat) (ti : DTI) (g : DTG) (tt : (Clo → SpD) → DTT) (te : DTE) : DTM := fun Δ Q E => ∃ dcs, imss Δ ls = some dcs ∧ dLC own ti g (tt (behs noBeh ls dcs)) te Δ Q E
theorem dm_lcF {elt tg iter : Expr} {ifs : List Expr} {scope : Scope} {own : List (Str × Nat)} {S : List Nat} {ti : DTI} {g : DTG} {tt : (Clo → SpD) → DTT} {te : DTE} {ls : List LamD} {lv : Nat} (hc : X.calm = true) (hN : X.N.Nodup) (hi : PI X tg iter (upI G ti)) (ok : BlkOk X.N X.env.scope scope own)
    (hls : ∀ l ∈ ls, ∃ lv', lv' + 1 ≤ lv ∧ LamB X.prog X.w X.K X.mg X.base l.caps l.ps l.k lv' l.te ∧ CapAt X l.k l.caps l.ix)
    (hg : ∀ (s : Shared) (H : Hp) (C : Addr) (cl : List (Str × Addr)) (fp : List Addr) (H0 B0 : Hp), PG (X.blk s H scope (compEnvC scope cl C X.env) fp) tg (upG (nox G.W H0 B0) S g))
    (ht : ∀ (s : Shared) (H : Hp) (C : Addr) (cl : List (Str × Addr)) (fp : List Addr) (H0 B0 : Hp) (b : Heap) (beh : Clo → SpD), (∀ clo, CallOk X.prog X.w X.K X.mg b G.W B0 lv clo (beh clo)) → PTs (reb (X.blk s H scope (compEnvC scope cl C X.env) fp) b) ifs (upT (nox G.W H0 B0) (tt beh)))
    (he : ∀ (s : Shared) (H : Hp) (C : Addr) (cl : List (Str × Addr)) (fp : List Addr) (H0 B0 : Hp), PE (X.blk s H scope (compEnvC scope cl C X.env) fp) elt (upE (nox G.W H0 B0) te))
    (hS : ∀ i ∈ S, i ∈ own.map (·.2) := by decide) (hs : ∀ x, foldedSetIterable iter X.env x = pure x := by intro _; rfl) : PE X (.ListComp elt [⟨tg, iter, ifs, 0⟩] scope pos) (upM G (dLCF ls (own.map (·.2)) ti g tt te)) := by
  refine ⟨fun pins s σ H Q I ⟨Δ, B, Qd, r, ⟨dcs, hd, q⟩, k⟩ => ?_⟩
  refine lc_know (wi := upI (G.now r.gr) ti) (g := fun v σ H Q => ∃ H0, upG (nox G.W H0 B) S g v σ H Q) (tt := fun σ H Q => ∃ H0, upT (nox G.W H0 B) (tt (behs noBeh ls dcs)) σ H Q) (te := fun σ H Q => ∃ H0, upE (nox G.W H0 B) te σ H Q)
    (Kn := fun s3 H3 fp => ∀ clo, CallOk X.prog X.w X.K X.mg (part s3.heap (restB X.stack H3 fp)) G.W B lv clo (behs noBeh ls dcs clo)) hc hN I ⟨fun p s σ H R I' h => hi.run p s σ H R I' ?_⟩ ok (fun s3 H3 fp I3 f3 => behs_okB I3 f3 r hls hd)
    (fun s3 H3 C cl fp _ => ⟨fun p s' σ H' v u Q I r ⟨H0, q⟩ => (hg s3 H3 C cl fp H0 B).run p s' σ H' v u Q I r q⟩)
    (fun s3 H3 C cl fp kn hI => ⟨fun p s' σ H' Q I ⟨H0, q⟩ => (reb_tests (fun okY => ?_) (ht s3 H3 C cl fp H0 B _ _ kn)).run p s' σ H' Q I q⟩)
    (fun s3 H3 C cl fp _ => ⟨fun p s' σ H' Q I ⟨H0, q⟩ => (he s3 H3 C cl fp H0 B).run p s' σ H' Q I q⟩) hs
    (lc_upB (G := G.now r.gr) hS ⟨Δ, B, Qd, r.now r.gr (Sub.refl B), q, fun s Δ' v H' B' qd r' sb => k s Δ' v H' B' qd (DR.past r.gr r') sb⟩ (fun H0 _ _ _ _ q => ⟨H0, q⟩) (fun H0 _ _ _ q => ⟨H0, q⟩) (fun H0 _ _ _ q => ⟨H0, q⟩))
  · obtain ⟨Δ1, B1, Qd1, r1, t1, k1⟩ := h
    exact ⟨Δ1, B1, Qd1, DR.past r.gr r1, t1, fun ds Δ' J H' B' qd r' sb it => k1 ds Δ' J H' B' qd (r'.now r.gr (r1.gr.bas.trans sb)) sb it⟩
  · obtain ⟨p3, σ3, I3, f3⟩ := hI
    refine reb_ok okY (mod_more I3.ok.mod (sub_baseB I3 f3)) (fun a o e => ⟨(part_of e).1, (part_of e).2.1.1⟩) (Nat.le_of_eq part_size) (fun a o e => (part_of e).2.2) fun a ha => part_no fun z => z.1.2 ha
end
end DL
-- DLkw
set_option Elab.async false
set_option linter.all false
set_option maxRecDepth 100000
set_option maxHeartbeats 2000000
set_option autoImplicit false
namespace DL
open PySem PySem.Spec L2
open PyProof.Rows hiding St
/-! ### calls with keywords: f(a, .., k = v, ..), every parameter given -/
/-- the parameters' values: of those by place, then of those by name, by their places -/
def pick (idx : List Nat) {α : Type} (us ws : List α) : List α := idx.filterMap fun i => (us ++ ws)[i]?
theorem pick_cons {α : Type} (i : Nat) (idx : List Nat) (us ws : List α) : pick (i :: idx) us ws = (match (us ++ ws)[i]? with | some x => x :: pick idx us ws | none => pick idx us ws) := by
  unfold pick
  rw [List.filterMap_cons]
  cases (us ++ ws)[i]? <;> rfl
theorem pick_vals {vs : List V} {us : List Value} {zs : List V} {ws : List Value} (h : Vals vs us) (g : Vals zs ws) : ∀ idx : List Nat, Vals (pick idx vs zs) (pick idx us ws)
  | [] => .nil
  | i :: idx => by
    have r := h.append g
    rw [pick_cons, pick_cons]
    by_cases hi : i < (vs ++ zs).length
    · obtain ⟨u, h1, h2⟩ := r.get (List.getElem?_eq_getElem hi)
      rw [List.getElem?_eq_getElem hi, h1]
      exact .cons h2 (pick_vals h g idx)
    · rw [List.getElem?_eq_none (by omega), List.getElem?_eq_none (by rw [← r.length]; omega)]
      exact pick_vals h g idx
theorem pick_rps {K : PySem.W.Frag} {W : Wd K} {B : Hp} {vs zs : List V} {ds es : List D} (h : Rps W B vs ds) (g : Rps W B zs es) : ∀ idx : List Nat, Rps W B (pick idx vs zs) (pick idx ds es)
  | [] => .nil
  | i :: idx => by
    have r := h.append g
    rw [pick_cons, pick_cons]
    by_cases hi : i < (ds ++ es).length
    · obtain ⟨u, h1, h2⟩ := r.get (List.getElem?_eq_getElem hi)
      rw [List.getElem?_eq_getElem hi, h1]
      exact .cons _ _ _ _ h2 (pick_rps h g idx)
    · have hl := r.length
      rw [List.getElem?_eq_none (l := vs ++ zs) (by omega), List.getElem?_eq_none (l := ds ++ es) (by omega)]
      exact pick_rps h g idx
/-- how a def binds keywords -/
def KwB (K : PySem.W.Frag) (fd : FuncData) (ps : List Str) (n : Nat) (ks : List Str) (idx : List Nat) : Prop :=
  ∀ (s : Shared) (us ws : List Value), K.In s.heap → us.length = n → ws.length = ks.length → BindsTo s fd ⟨us, ks.zip ws⟩ (ps.zip (pick idx us ws))
theorem kwB_of {K : PySem.W.Frag} {x qual : Str} {params : Arguments} {body : List Stmt} {scope : Scope} {kws : List (Str × V)} {f : Addr} {fd : FuncData} {ps ks : List Str} {n : Nat} {idx : List Nat} (F : FunD K x qual params body scope [] kws f fd)
    (h : ∀ (kV doc pm : Value) (an : Option Addr) (cdv ct : Value) (us ws : List Value), us.length = n → ws.length = ks.length → bindArgs (PySem.W.fnOf x qual params body scope .none kV doc pm an cdv ct) ⟨us, ks.zip ws⟩ = pure (ps.zip (pick idx us ws))) : KwB K fd ps n ks idx := by
  intro s us ws _ h1 h2
  obtain ⟨oc, od, dV, kV, doc, pm, an, cdv, ct, osl, rfl, lk, hcd, hD, hK⟩ := F.ex
  rcases hD with ⟨_, rfl⟩ | ⟨e, _⟩
  · exact .of_eq (h kV doc pm an cdv ct us ws h1 h2)
  · exact absurd rfl e
/-- a def that may be called with such keywords -/
structure CalW (P : Program) (w : World) (K : PySem.W.Frag) (mg : Str → Option Value) (base : Heap) (k : Nat) (x : Str) (ps : List Str) (sp : SpD) (n : Nat) (ks : List Str) (idx : List Nat) : Prop where
  ex : ∃ f fd, mg x = some (.ref f) ∧ PySem.W.keepIn K (.ref f) = true ∧ KwB K fd ps n ks idx ∧ ∀ W : Wd K, FnOk P w K mg base (L2.CX P w) k f fd ps (upSp W sp)
theorem CalW.mono {P : Program} {w : World} {K : PySem.W.Frag} {mg : Str → Option Value} {base : Heap} {j k : Nat} {x : Str} {ps : List Str} {sp : SpD} {n : Nat} {ks : List Str} {idx : List Nat} (c : CalW P w K mg base j x ps sp n ks idx) (h : j ≤ k) : CalW P w K mg base k x ps sp n ks idx := by
  obtain ⟨f, fd, h1, h2, h3, h4⟩ := c.ex
  exact ⟨f, fd, h1, h2, h3, fun W => (h4 W).mono h⟩
def dFnW (sp : SpD) (n m : Nat) (idx : List Nat) (t tk : DTA) : DTE := fun Δ Q E => t Δ (fun ds Δ1 => tk Δ1 (fun es Δ2 => ds.length = n ∧ es.length = m ∧ sp (pick idx ds es) (fun d => Q d Δ2) E) E) E
@[simp] theorem sFnW {sp : SpD} {n m : Nat} {idx : List Nat} {t tk : DTA} {Δ : List Sl} {Q : D → List Sl → Prop} {E : EX} : dFnW sp n m idx t tk Δ Q E = t Δ (fun ds Δ1 => tk Δ1 (fun es Δ2 => ds.length = n ∧ es.length = m ∧ sp (pick idx ds es) (fun d => Q d Δ2) E) E) E := rfl
section
variable {X : Cx} {G : Gx X.K} {pos : Pos}
theorem run_kw {CX : CXT} {k n : Nat} {f : Addr} {fd : FuncData} {ps ks : List Str} {idx : List Nat} {sp : Sp} {E : XK} {pins : List (Addr × Obj)} {σ : L2.St} {H : Hp} {s : Shared} {Q : VK} {us ws : List Value} {vs zs : List V} (F : FnOk X.prog X.w X.K X.mg X.base CX k f fd ps sp) (hr : Room k X.A) (hb : KwB X.K fd ps n ks idx) (hx : Passes CX X E)
    (I : Inv X pins σ H s) (r : Vals vs us) (rz : Vals zs ws) (l1 : vs.length = n) (l2 : zs.length = ks.length) (h : sp (pick idx vs zs) H Q E) : wpAny (model X.prog X.w) X.A (call (.ref f) us (ks.zip ws)) (EP X pins σ Q) X.xe s := by
  refine wpAny_call (codeAny_mono (F.run X.A X.stack s H ⟨us, ks.zip ws⟩ (pick idx us ws) (pick idx vs zs) Q E hr I.env0 (hb s us ws I.kIn (by rw [← r.length, l1]) (by rw [← rz.length, l2])) (pick_vals r rz idx) h) fun r s' hq => ?_)
  match r, hq with
  | .error e, hq => exact hx pins σ H s e s' I hq
  | .ok (.ret u), hq => exact I.after hq
theorem de_kw0 {k m : Nat} {ps ks : List Str} {idx : List Nat} {sp : SpD} {x : Str} {p : Pos} {kws : List Keyword} {tk : DTA} (c : CalW X.prog X.w X.K X.mg X.base k x ps sp 0 ks idx) (hr : Room k X.A) (hx : Passes (L2.CX X.prog X.w) X G.E) (hkw : PK X kws (upA G tk)) (hg : Gl X x := by rfl)
    (hall : (backToKw pos (keywordEach kws X.env)).all (·.1.isSome) = true := by rfl) (hks : (backToKw pos (keywordEach kws X.env)).filterMap (·.1) = ks := by rfl) (hdb : (x == ("__debug__" : Str)) = false := by decide)
    (hpl : ((backTo pos (starEach [] X.env)).any (·.1) || (backToKw pos (keywordEach kws X.env)).any (·.1.isNone)) = false := by rfl)  (hm : ks.length = m := by rfl) : PE X (.Call (.Name x p) [] kws pos) (upE G (dFnW sp 0 m idx dNil tk)) := by
  subst hm
  obtain ⟨f, fd, h1, h2, h3, h4⟩ := c.ex
  refine ⟨fun pins s σ H Q I ⟨Δ, B, Qd, r1, q, kk⟩ => wpAny_Call_Name_kw (ld_glob I hg h1 ?_ hdb)⟩
  refine PySem.W.callWith_KW0 (h₀ := X.base) I.ok.mod.kin h2 hall (thn (hkw.run pos pins s σ H (fun zs H1 => ∃ Δ1 B1 es, DR G Δ1 σ H1 B1 ∧ Sub B B1 ∧ Rps G.W B1 zs es ∧ es.length = ks.length ∧ sp (pick idx [] es) (fun d => Qd d Δ1) G.Ed) I
    ⟨Δ, B, _, r1, q, fun es Δ1 zs H1 B1 ⟨_, l2, q1⟩ r1 s1 rps => ⟨Δ1, B1, es, r1, s1, rps, l2, q1⟩⟩) fun ws s2 ⟨zs, H2, I2, rz, Δ1, B1, es, r2, s2', rps, l2, q2⟩ => ⟨I2.kIn, ?_⟩) hpl
  rw [hks]
  exact run_kw (h4 G.W) hr h3 hx I2 .nil rz rfl (by rw [rps.length, l2]) (up_sp r2 (pick_rps .nil rps idx) q2 fun d v H' B' q r' s rp => kk _ _ _ _ _ q r' (s2'.trans s) rp)
theorem de_kwN {k n m : Nat} {ps ks : List Str} {idx : List Nat} {sp : SpD} {x : Str} {p : Pos} {e : Expr} {es : List Expr} {kws : List Keyword} {t tk : DTA} (c : CalW X.prog X.w X.K X.mg X.base k x ps sp n ks idx) (hr : Room k X.A) (hx : Passes (L2.CX X.prog X.w) X G.E) (ha : PA X (e :: es) (upA G t)) (hkw : PK X kws (upA G tk)) (hg : Gl X x := by rfl)
    (hall : (backToKw pos (keywordEach kws X.env)).all (·.1.isSome) = true := by rfl) (hks : (backToKw pos (keywordEach kws X.env)).filterMap (·.1) = ks := by rfl) (hdb : (x == ("__debug__" : Str)) = false := by decide) (he : starEach (e :: es) X.env = (false, eval e X.env) :: starEach es X.env := by rfl)
    (hpl : ((backTo pos (starEach (e :: es) X.env)).any (·.1) || (backToKw pos (keywordEach kws X.env)).any (·.1.isNone)) = false := by rfl)  (hm : ks.length = m := by rfl) : PE X (.Call (.Name x p) (e :: es) kws pos) (upE G (dFnW sp n m idx t tk)) := by
  subst hm
  obtain ⟨f, fd, h1, h2, h3, h4⟩ := c.ex
  refine ⟨fun pins s σ H Q I ⟨Δ, B, Qd, r1, q, kk⟩ => wpAny_Call_Name_kw (ld_glob I hg h1 ?_ hdb)⟩
  refine PySem.W.callWith_KW (h₀ := X.base) I.ok.mod.kin h2 hall (thn (ha.run pos pins s σ H (fun vs H1 => ∃ Δ1 B1 ds, DR G Δ1 σ H1 B1 ∧ Sub B B1 ∧ Rps G.W B1 vs ds ∧ tk Δ1 (fun es Δ2 => ds.length = n ∧ es.length = ks.length ∧ sp (pick idx ds es) (fun d => Qd d Δ2) G.Ed) G.Ed) I
    ⟨Δ, B, _, r1, q, fun ds Δ1 vs H1 B1 q1 r1 s1 rps => ⟨Δ1, B1, ds, r1, s1, rps, q1⟩⟩) fun us s1 ⟨vs, H1, I1, rv, Δ1, B1, ds, r1', s1', rps1, q1⟩ =>
    thn (hkw.run pos pins s1 σ H1 (fun zs H2 => ∃ Δ2 B2 es, DR G Δ2 σ H2 B2 ∧ Sub B1 B2 ∧ Rps G.W B2 zs es ∧ ds.length = n ∧ es.length = ks.length ∧ sp (pick idx ds es) (fun d => Qd d Δ2) G.Ed) I1
      ⟨Δ1, B1, _, r1', q1, fun es Δ2 zs H2 B2 q2 r2 s2 rps => ⟨Δ2, B2, es, r2, s2, rps, q2⟩⟩) fun ws s2 ⟨zs, H2, I2, rz, Δ2, B2, es, r2, s2', rps, l1, l2, q2⟩ => ⟨I2.kIn, ?_⟩) hpl he
  rw [hks]
  exact run_kw (h4 G.W) hr h3 hx I2 rv rz (by rw [rps1.length, l1]) (by rw [rps.length, l2]) (up_sp r2 (pick_rps (rps1.mono s2') rps idx) q2 fun d v H' B' q r' s rp => kk _ _ _ _ _ q r' ((s1'.trans s2').trans s) rp)
end
end DL
-- DLbeg
set_option Elab.async false
set_option linter.all false
set_option maxRecDepth 100000
set_option maxHeartbeats 2000000
set_option autoImplicit false
namespace DL
open PySem PySem.Spec L2
open PyProof.Rows hiding St
/-! ### the making of the draws: told over values and heaps -/
/-- a comprehension over the script: a fresh list of ints -/
theorem lcv_list {K : PySem.W.Frag} {σ : L2.St} {H : Hp} {Q : VK} {a : Addr} {ns : List Int} {tt : TT} {te : TE} (hv : σ[0]? = some (some (.ref a))) (h3 : 2 < σ.length) (hS : SqL K H a (ns.map V.int)) (hl : ns.length ≤ 63) (F : Int → Option Int)
    (step : ∀ (n : Int) (σ2 : L2.St) (H2 : Hp) (P : V → Hp → Prop) (N : Hp → Prop), σ2[2]? = some (some (.int n)) → (∀ m, F n = some m → P (.int m) H2) → (F n = none → N H2) → tt σ2 H2 fun b H3 => if b = true then te σ2 H3 P else N H3)
    (hQ : ∀ D, H D = none → Q (.ref D) (upd H D (.lst ((ns.filterMap F).map V.int)))) : tLc (iList K (tVar 0)) (gName 2) tt te [2] σ H Q := by
  refine ⟨.ref a, hv, a, rfl, ⟨_, hS⟩, fun D hD => ?_⟩
  have keep : ∀ o, SqL K (upd H D o) a (ns.map V.int) := fun o => (Sub.new (o := o) hD).sqL hS
  refine ⟨fun i m H' => i ≤ ns.length ∧ m = ns.length - i ∧ H' = upd H D (.lst (((ns.take i).filterMap F).map V.int)), ⟨_, Nat.zero_le _, rfl, rfl⟩, ?_⟩
  rintro i m H' ⟨hi, rfl, rfl⟩
  by_cases hlt : i < ns.length
  · refine .inr ⟨⟨_, .int ns[i], keep _, by simp [hlt]⟩, fun H' => H' = upd H D (.lst (((ns.take (i + 1)).filterMap F).map V.int)), fun H' e => ⟨_, by omega, by omega, rfl, e⟩, ?_⟩
    rintro x H' ⟨rfl, hx⟩
    have e := hx _ (keep _)
    have e : x = .int ns[i] := by simpa [hlt] using e.symm
    subst e
    refine ⟨by simp [wipe], ?_⟩
    have h3' : 2 < (wipe σ [2]).length := by rw [wipe_length]; exact h3
    have tk : (ns.take (i + 1)).filterMap F = (ns.take i).filterMap F ++ (F ns[i]).toList := by
      rw [List.take_add_one, List.getElem?_eq_getElem hlt, List.filterMap_append]
      cases h : F ns[i] <;> simp [h]
    have hlen : ((ns.take i).filterMap F).length ≤ 63 := by
      have := List.length_filterMap_le F (ns.take i)
      rw [List.length_take] at this
      omega
    refine step ns[i] _ _ _ _ (List.getElem?_set_self h3') (fun m e => ?_) fun e => ?_
    · rw [e] at tk
      refine ⟨_, upd_same, by rw [List.length_map, sizeLine_eq]; omega, ?_⟩
      rw [upd_upd, tk]
      simp
    · rw [e] at tk
      rw [tk]
      simp
  · have e : i = ns.length := by omega
    subst e
    refine .inl ⟨⟨_, keep _, by simp⟩, ?_⟩
    rw [List.take_of_length_le (Nat.le_refl _)]
    exact hQ D hD
/-- what the making of the draws promises -/
def spBegun (K : PySem.W.Frag) : Sp := fun vs H Q _ => ∃ (a : Addr) (ns : List Int), vs = [.ref a] ∧ SqL K H a (ns.map V.int) ∧ ns.length ≤ 63 ∧
  ∀ (p lp cp : Addr) (ls cs : List Int), H p = none → H lp = none → H cp = none → p ≠ lp → p ≠ cp → lp ≠ cp → Q (.ref p) (upd (upd (upd (upd H lp (.lst (ls.map V.int))) p (.dK [])) cp (.lst (cs.map V.int))) p (.dK (drawKv lp cp 0 0)))
abbrev rGe : R2 := rI0 fun i j => .bl (decide (j ≤ i))
abbrev rAbs : List V → Hp → VK → Prop := fun xs H Q => ∃ i : Int, xs = [.int i] ∧ Q (.int (if i < 0 then -i else i)) H
abbrev rPow : R2 := rI CPow fun i j => .int (i ^ j.toNat)
abbrev rSubI : R2 := rI0 fun i j => .int (i - j)
abbrev t10 : TE := tOp rPow (tC (.int 10)) (tC (.int 18))
abbrev tAbs : TE := tCB rAbs (tCons (tVar 2) tNil)
abbrev tLarge (K : PySem.W.Frag) : TE := tLc (iList K (tVar 0)) (gName 2) (tTest (tOp rGe tAbs t10)) (tOp rSubI tAbs t10) [2]
abbrev tCellsB (K : PySem.W.Frag) : TE := tLc (iList K (tVar 0)) (gName 2) tYes tAbs [2]
def t_begun (K : PySem.W.Frag) : TS := tSeq (tAsg (tLarge K) (gName 1)) (tRet (tDisp [(tC (.str "large"), tVar 1), (tC (.str "rest"), tC (.int 0)), (tC (.str "cells"), tCellsB K), (tC (.str "turn"), tC (.int 0))]))
theorem pure_begun {K : PySem.W.Frag} (vs : List V) (H : Hp) (Q : VK) (E : XK) (h : spBegun K vs H Q E) : t_begun K { nx := fun _ H' => Q .non H', rt := Q } (L2.start ["script", "large", "cell"] vs) H := by
  obtain ⟨a, ns, rfl, hS, hl, hQ⟩ := h
  have pw : CPow 10 18 := ⟨by decide, by decide, by decide⟩
  let σ0 : L2.St := L2.start ["script", "large", "cell"] [.ref a]
  show tLarge K σ0 H (fun x H1 => tRet (tDisp [(tC (.str "large"), tVar 1), (tC (.str "rest"), tC (.int 0)), (tC (.str "cells"), tCellsB K), (tC (.str "turn"), tC (.int 0))]) { nx := fun _ H' => Q .non H', rt := Q } (σ0.set 1 (some x)) H1)
  refine lcv_list (σ := σ0) (ns := ns) rfl (by show 2 < 3; decide) hS hl (fun n => if (10 : Int) ^ 18 ≤ (if n < 0 then -n else n) then some ((if n < 0 then -n else n) - 10 ^ 18) else none) (fun n σ2 H2 P N e h1 h2 => ?_) fun lp hlp => ?_
  · refine ⟨_, e, n, rfl, 10, 18, rfl, rfl, pw, _, _, rfl, rfl, _, rfl, ?_⟩
    by_cases hc : (10 : Int) ^ 18 ≤ (if n < 0 then -n else n)
    · show if decide ((10 : Int) ^ 18 ≤ _) = true then _ else _
      rw [decide_eq_true hc, if_pos rfl]
      refine ⟨_, e, n, rfl, 10, 18, rfl, rfl, pw, _, _, rfl, rfl, h1 _ (by rw [if_pos hc]; rfl)⟩
    · show if decide ((10 : Int) ^ 18 ≤ _) = true then _ else _
      rw [decide_eq_false hc, if_neg (by decide)]
      exact h2 (by rw [if_neg hc])
  · intro p hp
    have hp0 : H p = none ∧ p ≠ lp := by
      by_cases z : p = lp
      · subst z; rw [upd_same] at hp; cases hp
      · rw [upd_ne z] at hp; exact ⟨hp, z⟩
    refine ⟨.ref lp, rfl, ?_⟩
    simp only [tPairs, tC]
    refine lcv_list (σ := σ0.set 1 (some (.ref lp))) (a := a) (ns := ns) rfl (by show 2 < 3; decide) ((Sub.new hp).sqL ((Sub.new hlp).sqL hS)) hl (fun n => some (if n < 0 then -n else n)) (fun n σ2 H2 P N e h1 h2 => ?_) fun cp hcp => ?_
    · exact ⟨_, e, n, rfl, h1 _ rfl⟩
    · have hc0 : H cp = none ∧ cp ≠ p ∧ cp ≠ lp := by
        by_cases z : cp = p
        · subst z; rw [upd_same] at hcp; cases hcp
        · rw [upd_ne z] at hcp
          by_cases z2 : cp = lp
          · subst z2; rw [upd_same] at hcp; cases hcp
          · rw [upd_ne z2] at hcp; exact ⟨hcp, z, z2⟩
      refine ⟨by rw [upd_ne hc0.2.1.symm]; exact upd_same, [(Sum.inr "large", .ref lp), (Sum.inr "rest", .int 0), (Sum.inr "cells", .ref cp), (Sum.inr "turn", .int 0)], rfl, by show 4 ≤ 15; decide, ?_⟩
      have e : mergeK [] [((Sum.inr ("large" : Str) : Key), V.ref lp), (Sum.inr ("rest" : Str), .int 0), (Sum.inr ("cells" : Str), .ref cp), (Sum.inr ("turn" : Str), .int 0)] = drawKv lp cp 0 0 := by
        show putK (putK (putK (putK ([] : List (Key × V)) (Sum.inr ("large" : Str)) (V.ref lp)) (Sum.inr ("rest" : Str)) (.int 0)) (Sum.inr ("cells" : Str)) (.ref cp)) (Sum.inr ("turn" : Str)) (.int 0) = _
        have v1 : valV ([] : List (Key × V)) (Sum.inr ("large" : Str)) = none := rfl
        have v2 : valV [((Sum.inr ("large" : Str) : Key), V.ref lp)] (Sum.inr ("rest" : Str)) = none := by rw [valV_neg (ks kLR)]; rfl
        have v3 : valV [((Sum.inr ("large" : Str) : Key), V.ref lp), (Sum.inr ("rest" : Str), .int 0)] (Sum.inr ("cells" : Str)) = none := by rw [valV_neg (ks kLC), valV_neg (ks kRC)]; rfl
        have v4 : valV [((Sum.inr ("large" : Str) : Key), V.ref lp), (Sum.inr ("rest" : Str), .int 0), (Sum.inr ("cells" : Str), .ref cp)] (Sum.inr ("turn" : Str)) = none := by rw [valV_neg (ks kLT), valV_neg (ks kRT), valV_neg (ks kCT)]; rfl
        rw [putK_new _ v1, List.nil_append, putK_new _ v2]
        simp only [List.cons_append, List.nil_append]
        rw [putK_new _ v3]
        simp only [List.cons_append, List.nil_append]
        rw [putK_new _ v4]
        rfl
      rw [e]
      exact hQ p lp cp _ _ hp0.1 hlp hc0.1 hp0.2 (Ne.symm hc0.2.1) (Ne.symm hc0.2.2)
end DL
-- DLlaw
set_option Elab.async false
set_option linter.all false
set_option maxRecDepth 100000
set_option maxHeartbeats 2000000
set_option autoImplicit false
namespace DL
open PySem PySem.Spec L2
open PyProof.Rows hiding St
/-! ### lambdas in a body: what gen.py writes -/
@[simp] theorem sFnF {sp : SpF} {b0 : Clo → SpD} {ls : List LamD} {ta : DTA} {Δ : List Sl} {Q : D → List Sl → Prop} {E : EX} : dFnF sp b0 ls ta Δ Q E = ta Δ (fun ds Δ1 => ∃ dcs, imss Δ1 ls = some dcs ∧ sp (behs b0 ls dcs) ds (fun d => Q d Δ1) E) E := rfl
@[simp] theorem sLCF {ls : List LamD} {own : List Nat} {ti : DTI} {g : DTG} {tt : (Clo → SpD) → DTT} {te : DTE} {Δ : List Sl} {Q : Sl → List Sl → Prop} {E : EX} : dLCF ls own ti g tt te Δ Q E = ∃ dcs, imss Δ ls = some dcs ∧ ti Δ (fun ds Δ1 => dLCk own g (tt (behs noBeh ls dcs)) te ds Δ1 Q) E := rfl
abbrev LamOk (X : Cx) (lv : Nat) (l : LamD) : Prop := ∃ lv', lv' + 1 ≤ lv ∧ LamB X.prog X.w X.K X.mg X.base l.caps l.ps l.k lv' l.te ∧ CapAt X l.k l.caps l.ix
theorem hls_nil {X : Cx} {lv : Nat} : ∀ l ∈ ([] : List LamD), LamOk X lv l := fun l h => by cases h
theorem hls_cons {X : Cx} {lv : Nat} {l : LamD} {ls : List LamD} (h : LamOk X lv l) (t : ∀ l ∈ ls, LamOk X lv l) : ∀ x ∈ l :: ls, LamOk X lv x := fun x hx => by
  rcases List.mem_cons.mp hx with rfl | hx
  · exact h
  · exact t x hx
def capC (N : List Str) (sc scope : Scope) (caps : List Str) (ix : List Nat) : Bool :=
  decide (caps.length = ix.length) && (caps.all fun y => decide ((y, NameKind.free) ∈ scope.names) && decide (sc.names.lookup y = some .cell)) && (scope.names.all fun p => !decide (p.2 = .free) || decide (p.1 ∈ caps)) && ((caps.zip ix).all fun p => decide (N[p.2]? = some p.1))
theorem capAt_by {X : Cx} {params : Arguments} {body : Expr} {scope : Scope} {caps : List Str} {ix : List Nat} (h : capC X.N X.env.scope scope caps ix = true) (hf : ∀ y, X.fn y = true) : CapAt X (cloOf X params body scope) caps ix := by
  unfold capC at h
  simp only [Bool.and_eq_true, Bool.or_eq_true, Bool.not_eq_true', decide_eq_true_eq, decide_eq_false_iff_not, List.all_eq_true] at h
  obtain ⟨⟨⟨h1, h2⟩, h3⟩, h4⟩ := h
  refine ⟨h1, rfl, fun y hy => (h2 y hy).1, fun y hy => (h3 _ hy).resolve_left (fun z => z rfl), fun i y j e1 e2 => ?_, fun y hy => ⟨(h2 y hy).2, hf y⟩⟩
  exact h4 (y, j) (List.mem_of_getElem? (i := i) (by rw [List.getElem?_zip_eq_some]; exact ⟨e1, e2⟩))
/-- no knowledge of lambdas from outside -/
def bmNo : Hp := fun _ => none
theorem sub_no {B : Hp} : Sub bmNo B := fun a o h => by cases h
def freeB (sc scope : Scope) : Bool := scope.names.all fun p => !decide (p.2 = .free) || (decide (sc.names.lookup p.1 = some .cell) || decide (sc.names.lookup p.1 = some .free))
theorem hf_by {env : Env} {scope : Scope} (h : freeB env.scope scope = true) : ∀ y ∈ scope.names, y.2 = .free → env.kindOf y.1 = some .cell ∨ env.kindOf y.1 = some .free := fun y hy e => by
  have q := List.all_eq_true.mp h y hy
  simp only [Bool.or_eq_true, Bool.not_eq_true', decide_eq_true_eq, decide_eq_false_iff_not] at q
  exact q.resolve_left (fun z => z e)
end DL
-- DLhead
set_option Elab.async false
set_option linter.all false
set_option maxRecDepth 100000
set_option maxHeartbeats 2000000
set_option autoImplicit false
namespace DL
open PySem PySem.Spec L2
open PyProof.Rows hiding St
/-! ### the law's def: the draws are made, then all goes by trees -/
theorem fund_okC {P : Program} {w : World} {K : PySem.W.Frag} {mg : Str → Option Value} {base : Heap} {x qual : Str} {params : Arguments} {body : List Stmt} {scope : Scope} {dvs : List V} {kws : List (Str × V)} {f : Addr} {fd : FuncData} {CX : CXT} {N ps : List Str} {k : Nat} {sp : Sp}
    (F : FunD K x qual params body scope dvs kws f fd) (S : FnScope N ps scope) (len : ∀ vs H Q E, sp vs H Q E → vs.length = ps.length)
    (hbody : ∀ (cdv : Value) (A : Around) (outer : List Env) (s : Shared) (H : Hp) (vs : List V) (Q : VK) (E : XK), fd.code = cdv → DL.Room k (A.deeper (envOfC qual scope s.heap.objs.size f cdv)) → sp vs H Q E → ∃ t, PSs (cxOf CX P w K mg base N qual scope f cdv A outer s H E) body t ∧ t { nx := fun _ H' => Q .non H', rt := Q } (L2.start N vs) H) :
    DL.FnOk P w K mg base CX (k + 1) f fd ps sp := by
  obtain ⟨oc, od, dV, kV, doc, pm, an, cdv, ct, osl, rfl, lk, hcd, _, _⟩ := F.ex
  exact ⟨len, fun A outer s H args us vs Q E hr e0 hb r h => LamX.run_ofS lk hcd S hr.r e0 hb r (len _ _ _ _ h) fun hr' => hbody cdv A outer s H vs Q E rfl ⟨hr', hr.gd⟩ h⟩
/-- what the law promises; T: the tables of code objects, with the names of what is made there -/
def spLaw (K : PySem.W.Frag) (T : List (Addr × Str)) : Sp := fun vs H Q _ => ∃ (a : Addr) (ns : List Int), vs = [.ref a] ∧ SqL K H a (ns.map V.int) ∧ ns.length ≤ 63 ∧ (∀ q ∈ T, H q.1 = some (.tbl #[])) ∧ ∀ H', Q (.bl true) H'
theorem rest_any {X : Cx} {rest : List Stmt} : PSs X rest (fun D σ H => ∃ t : TS, PSs X rest t ∧ t D σ H) := ⟨fun pins s σ H D I ⟨_, ht, q⟩ => ht.run pins s σ H D I q⟩
def lawStart (n : Nat) (ns : List Int) : List Sl := ((List.replicate n Sl.un).set 0 (.im (.scr ns))).set 1 (.im .drw)
/-- no table -/
def notb : Option HO → Option HO
  | some (.tbl _) => none
  | x => x
theorem notb_some {x : Option HO} {o : HO} (h : notb x = some o) : x = some o ∧ ∀ ps, o ≠ .tbl ps := by
  unfold notb at h
  split at h
  · cases h
  · rename_i n
    exact ⟨h, fun ps z => n ps (by rw [h, z])⟩
theorem notb_of {x : Option HO} {o : HO} (h : x = some o) (n : ∀ ps, o ≠ .tbl ps) : notb x = some o := by
  subst h
  unfold notb
  split
  · rename_i z; cases z; exact absurd rfl (n _)
  · rfl
theorem tabs_new {T : List (Addr × Str)} {H : Hp} (h : ∀ q ∈ T, H q.1 = some (.tbl #[])) : LamX.Tabs T H := fun q hq => ⟨#[], h q hq, by trivial, fun pos cv e => by cases e⟩
theorem law_ok {P : Program} {w : World} {K : PySem.W.Frag} {mg : Str → Option Value} {base : Heap} {x qual : Str} {st s0 : Stmt} {rest : List Stmt} {f : Addr} {fd : FuncData} {N : List Str} {k : Nat} {T : List (Addr × Str)}
    (F : FunD K x qual (defArgs st) (defBody st) (defScope st) [] [] f fd) (S : FnScope N ["script"] (defScope st)) (h2 : 2 ≤ N.length) (hb : defBody st = s0 :: rest)
    (h0 : ∀ (cdv : Value) (A : Around) (outer : List Env) (s : Shared) (H : Hp) (E : XK), Room k (A.deeper (envOfC qual (defScope st) s.heap.objs.size f cdv)) → PS (cxB P w K mg base N qual st f cdv A outer s H E) s0 (tAsg (tCall (spBegun K) [] (fun _ _ _ => False) (tCons (tVar 0) tNil)) (gName 1)))
    (h1 : ∀ (W : Wd K) (cdv : Value) (A : Around) (outer : List Env) (s : Shared) (H H0 B : Hp) (E : XK), W.T = T → fd.code = cdv → Room k (A.deeper (envOfC qual (defScope st) s.heap.objs.size f cdv)) → ∃ t : DTS, PSs (cxB P w K mg base N qual st f cdv A outer s H E) rest (upS (⟨W, H0, B, E, noE, fun _ _ _ h => h.elim⟩ : Gx K) t) ∧
      ∀ (ns : List Int) (Q : D → Prop), Q (.bl true) → t { nx := fun _ => Q .non, rt := Q } (lawStart N.length ns) noE) : FnOk P w K mg base (L2.CX P w) (k + 1) f fd ["script"] (spLaw K T) := by
  refine fund_okC F (CX := L2.CX P w) S (fun vs H Q E ⟨a, ns, e, _⟩ => by rw [e]; rfl) fun cdv A outer s H vs Q E hcd hr ⟨a, ns, e, hS, hl, hT, hq⟩ => ?_
  subst e
  rw [hb]
  refine ⟨_, pss_cons (h0 cdv A outer s H E hr) rest_any, ?_⟩
  have hN : N.length = (N.length - 2) + 2 := by omega
  have es : L2.start N [V.ref a] = some (.ref a) :: List.replicate (N.length - 1) none := by
    unfold L2.start
    rfl
  refine ⟨.ref a, by rw [es]; rfl, a, ns, rfl, hS, hl, fun p lp cp ls cs n1 n2 n3 e1 e2 e3 => ?_⟩
  let H3 : Hp := upd (upd (upd (upd H lp (.lst (ls.map V.int))) p (.dK [])) cp (.lst (cs.map V.int))) p (.dK (drawKv lp cp 0 0))
  let W : Wd K := ⟨p, lp, cp, cs, T, e1, e2, e3⟩
  obtain ⟨t, ht, hrun⟩ := h1 W cdv A outer s H H3 (fun b => if b = a then notb (H b) else none) E rfl hcd hr
  have keep : ∀ b o, H b = some o → H3 b = some o := fun b o e => by
    show upd _ p _ b = _
    rw [upd_ne (ne_of_none e n1), upd_ne (ne_of_none e n3), upd_ne (ne_of_none e n1), upd_ne (ne_of_none e n2)]
    exact e
  have hp3 : H3 p = some (.dK (drawKv lp cp 0 0)) := upd_same
  have hl3 : H3 lp = some (.lst (ls.map V.int)) := by
    show upd _ p _ lp = _
    rw [upd_ne (Ne.symm e1), upd_ne e3, upd_ne (Ne.symm e1)]
    exact upd_same
  have hc3 : H3 cp = some (.lst (cs.map V.int)) := by
    show upd _ p _ cp = _
    rw [upd_ne (Ne.symm e2)]
    exact upd_same
  have wok : W.ok H3 := ⟨⟨0, 0, ls, hp3, hl3, hc3⟩, tabs_new fun q hq => keep _ _ (hT q hq)⟩
  have fresh : ∀ b, W.fv b → H b = none := fun b h => by
    rcases h with rfl | rfl | rfl
    · exact n1
    · exact n2
    · exact n3
  have hB : ∀ {b o}, (if b = a then notb (H b) else none) = some o → H b = some o ∧ ∀ ps, o ≠ .tbl ps := fun {b o} e => by
    split at e
    · exact notb_some e
    · cases e
  have gr : Grow W H3 (fun b => if b = a then notb (H b) else none) H3 (fun b => if b = a then notb (H b) else none) := by
    refine ⟨fun _ _ e _ => e, fun _ e => e, Sub.refl _, fun _ e => .inl e, fun b o e => ?_, wok⟩
    obtain ⟨e1, e2⟩ := hB e
    exact ⟨keep b o e1, e2, fun z => by rw [fresh b z] at e1; cases e1⟩
  have sq : SqL K (fun b => if b = a then notb (H b) else none) a (ns.map V.int) := by
    rcases hS with (e | ⟨o, e⟩) | e
    · exact .inl (.inl (by show (if a = a then notb (H a) else none) = _; rw [if_pos rfl]; exact notb_of e (fun ps z => by cases z)))
    · exact .inl (.inr ⟨o, by show (if a = a then notb (H a) else none) = _; rw [if_pos rfl]; exact notb_of e (fun ps z => by cases z)⟩)
    · exact .inr e
  have r0 : DR (⟨W, H3, (fun b => if b = a then notb (H b) else none), E, noE, fun _ _ _ h => h.elim⟩ : Gx K) (List.replicate N.length .un) (List.replicate N.length none) H3 (fun b => if b = a then notb (H b) else none) := by
    refine ⟨gr, fun _ => [], by simp, fun j s e => ?_, fun _ _ _ z => (by cases z), fun _ _ z => (by cases z)⟩
    rw [List.getElem?_replicate] at e
    split at e
    · cases e
      exact ⟨none, by rw [List.getElem?_replicate, if_pos (by assumption)], .un _⟩
    · cases e
  have r2 := (r0.put 0 (v := .ref a) (d := .scr ns) (.scr a _ ns sq rfl)).put 1 (v := .ref W.dp) (d := .drw) .drw
  refine ⟨_, ht, ?_⟩
  have e4 : (L2.start N [V.ref a]).set 1 (some (V.ref p)) = ((List.replicate N.length none).set 0 (some (.ref a))).set 1 (some (.ref p)) := by
    rw [es, show N.length = (N.length - 1) + 1 by omega, List.replicate_succ]
    rfl
  show upS _ t _ ((L2.start N [V.ref a]).set 1 (some (V.ref p))) H3
  rw [e4]
  exact ⟨_, _, { nx := fun _ => D.non = .bl true, rt := fun d => d = .bl true }, r2, hrun ns (fun d => d = .bl true) rfl, fun _ _ _ _ z => (by cases z), fun _ _ _ _ z => z.elim, fun _ _ _ _ z => z.elim, fun d v H' B' e _ _ rp => by subst e; cases rp; exact hq H'⟩
/-- what the top must have left of an error class, as one look -/
def excB (K : PySem.W.Frag) (D : Addr) : Bool :=
  decide (PySem.W.findIn K (.ref D) "__getattribute__" = some (some (.builtin "BaseException.__getattribute__"))) && decide (PySem.W.findIn K (.ref D) "__getattr__" = some none) && decide (PySem.W.subIn K (.ref D) (.type "BaseException") = some true) && PySem.W.hasDictIn K D &&
  decide (PySem.W.findIn K (.ref D) "__class__" = some (some (.builtin "object.__class__"))) && decide (PySem.W.specialIn K (.builtin "object.__class__") "__get__" = some (some (.builtin "getset_descriptor.__get__"))) && decide (PySem.W.takesIn K (.builtin "object.__class__") = some true) &&
  decide (PySem.W.mroIn K D (.type "object") = some true) && decide (PySem.W.kitOne K (.ref D) (.ref D) = some true)
theorem excB_ok {K : PySem.W.Frag} {D : Addr} (h : excB K D = true) : ExcC K D ∧ PySem.W.kitOne K (.ref D) (.ref D) = some true := by
  unfold excB at h
  simp only [Bool.and_eq_true, decide_eq_true_eq] at h
  obtain ⟨⟨⟨⟨⟨⟨⟨⟨h1, h2⟩, h3⟩, h4⟩, h5⟩, h6⟩, h7⟩, h8⟩, h9⟩ := h
  exact ⟨⟨h1, h2, h3, h4, h5, h6, h7, h8⟩, h9⟩
end DL
-- K72s
set_option Elab.async false
set_option linter.all false
set_option maxRecDepth 100000
set_option maxHeartbeats 2000000
set_option autoImplicit false
namespace DL
open PySem PySem.Spec L2
open PyProof.Rows hiding St
def top (i : Nat) : Stmt := PySem.Challenge.pw_inkforall_k72_whole_sizes_that_have_line.main.body.getD i (.Pass ⟨0, 0, 0, 0⟩)
/-- where the classes stand -/
structure Ad where
  InkError : Addr
  NoMachine : Addr
  NoNumber : Addr
  TooMany : Addr
  Machine : Addr
/-- an error class of the program's own, as the top has left it -/
structure ExOk (K : PySem.W.Frag) (mg : Str → Option Value) (x : Str) (C : Addr) : Prop where
  ex : PySem.W.excIn K C [.type "ValueError", .type "Exception", .type "BaseException", .type "object"] "ValueError.__new__" = true
  g : mg x = some (.ref C)
  k : PySem.W.keepIn K (.ref C) = true
  b : PySem.W.subIn K (.ref C) (.type "BaseException") = some true
  t : PySem.W.typeIn K (.ref C) = some (.type "type")
/-- what the top has left, as the bodies want it -/
structure Txt (K : PySem.W.Frag) (mg : Str → Option Value) (a : Ad) : Prop where
  z_isinstance : mg "isinstance" = none
  z_int : mg "int" = none
  z_bool : mg "bool" = none
  z_tuple : mg "tuple" = none
  z_len : mg "len" = none
  z_all : mg "all" = none
  z_any : mg "any" = none
  z_range : mg "range" = none
  z_sorted : mg "sorted" = none
  z_set : mg "set" = none
  z_abs : mg "abs" = none
  z_min : mg "min" = none
  z_list : mg "list" = none
  z_sum : mg "sum" = none
  z_repr : mg "repr" = none
  g_MOST_ROOMS : ∃ u, mg "MOST_ROOMS" = some u ∧ RelV (.int 60) u
  g_MOST_PAINTS : ∃ u, mg "MOST_PAINTS" = some u ∧ RelV (.int 4) u
  g_MOST_STEPS : ∃ u, mg "MOST_STEPS" = some u ∧ RelV (.int 5000) u
  g_Machine : mg "Machine" = some (.ref a.Machine)
  f_Machine_colours : ∀ C, C = a.Machine → Cls K C ∧ NoAttr K C "colours"
  f_Machine_table : ∀ C, C = a.Machine → Cls K C ∧ NoAttr K C "table"
  f_Machine_good : ∀ C, C = a.Machine → Cls K C ∧ NoAttr K C "good"
  e_NoMachine : ExOk K mg "NoMachine" a.NoMachine
  e_NoNumber : ExOk K mg "NoNumber" a.NoNumber
  e_TooMany : ExOk K mg "TooMany" a.TooMany
def isBt (d : D) (l m : Int) : Bool := match d with
  | .int i => decide (l ≤ i) && decide (i ≤ m)
  | _ => false
def sp_is_between (a : Ad) : SpD := fun ds Q _ => match ds with
  | [d, .int l, .int m] => ∃ n, tyN d = some n ∧ Q (.bl (isBt d l m))
  | _ => False
@[simp] theorem isBt_int {i l m : Int} : isBt (.int i) l m = (decide (l ≤ i) && decide (i ≤ m)) := rfl
def intD (n : Nat) : D := .int (n : Int)
def rowD (r : List Nat) : D := .tup (r.map intD)
def tblD (T : List (List Nat)) : D := .tup (T.map rowD)
def blsD (g : List Bool) : List D := g.map D.bl
/-- tables of a machine -/
structure OkT (T : List (List Nat)) (c : Nat) : Prop where
  l1 : 1 ≤ T.length
  l2 : T.length ≤ 60
  row : ∀ r ∈ T, r.length = c + 1 ∧ ∀ n ∈ r, n < T.length
def sp_is_table (a : Ad) : SpD := fun ds Q _ => ∃ T c, ds = [tblD T, .int (c : Nat)] ∧ OkT T c ∧ c ≤ 4 ∧ Q (.bl true)
def sp_are_truths (a : Ad) : SpD := fun ds Q _ => ∃ g n, ds = [.tup (blsD g), .int (n : Nat)] ∧ g.length = n ∧ n ≤ 60 ∧ Q (.bl true)
def mchF (c : Nat) (T : List (List Nat)) (g : List Bool) : List (Str × D) := [("colours", .int c), ("table", tblD T), ("good", .tup (blsD g))]
def mchD (a : Ad) (c : Nat) (T : List (List Nat)) (g : List Bool) : D := .obj a.Machine (mchF c T g)
structure OkM (c : Nat) (T : List (List Nat)) (g : List Bool) : Prop where
  c1 : 1 ≤ c
  c2 : c ≤ 4
  t : OkT T c
  g : g.length = T.length
def sp_Machine___init__ (a : Ad) : SpI := fun ds Q _ => ∃ c T g, ds = [.int (c : Nat), tblD T, .tup (blsD g)] ∧ OkM c T g ∧ Q (mchF c T g)
def sh1 (R : List Bool) : List Bool := match (List.range R.length).find? (fun i => decide (R.length % (i + 1) = 0) && decide (R = (List.replicate (R.length / (i + 1)) (R.take (i + 1))).flatten)) with
  | some i => R.take (i + 1)
  | none => R
def trim : Nat → List Bool → List Bool → List Bool × List Bool
  | 0, A, R => (A, R)
  | n + 1, A, R => if A ≠ [] ∧ A.getLast? = R.getLast? then trim n A.dropLast (R.drop (R.length - 1) ++ R.dropLast) else (A, R)
def short (A R : List Bool) : List Bool × List Bool := trim A.length A (sh1 R)
def pairD (p : List Bool × List Bool) : D := .tup [.tup (blsD p.1), .tup (blsD p.2)]
def sp_shortest_told (a : Ad) : SpD := fun ds Q _ => ∃ A R, ds = [.lst (blsD A), .lst (blsD R)] ∧ R ≠ [] ∧ A.length ≤ 5000 ∧ R.length ≤ 5000 ∧ Q (pairD (short A R))
/-- the next crowd of rooms -/
def stepC (T : List (List Nat)) (C : List Nat) : List Nat := (List.range T.length).filter fun k => decide (k ∈ C.flatMap fun r => T.getD r [])
def cr (T : List (List Nat)) : Nat → List Nat
  | 0 => [0]
  | k + 1 => stepC T (cr T k)
def tell (T : List (List Nat)) (g : List Bool) (k : Nat) : Bool := (cr T k).any fun r => g.getD r false
structure Rep (T : List (List Nat)) (N j : Nat) : Prop where
  lt : j < N
  eq : cr T N = cr T j
  ne : ∀ i k, i < k → k < N → cr T i ≠ cr T k
def crowdD (C : List Nat) : D := .tup (C.map intD)
def sp_rooms_of_size (a : Ad) : SpD := fun ds Q _ => ∃ c T g C, ds = [mchD a c T g, crowdD C] ∧ OkM c T g ∧ (∀ r ∈ C, r < T.length) ∧ C.length ≤ 60 ∧ Q (crowdD (stepC T C))
def toldL (T : List (List Nat)) (g : List Bool) (N : Nat) : List Bool := (List.range N).map (tell T g)
def ansS (T : List (List Nat)) (g : List Bool) (N j : Nat) : List Bool × List Bool := short ((toldL T g N).take j) ((toldL T g N).drop j)
/-- what sizes tells, or that it is too many -/
def SizesP (a : Ad) (T : List (List Nat)) (g : List Bool) (Q : List Bool × List Bool → Prop) (E : EX) : Prop := (∃ N j, Rep T N j ∧ N ≤ 5000 ∧ Q (ansS T g N j)) ∨ ((∀ i k, i < k → k ≤ 5000 → cr T i ≠ cr T k) ∧ E a.TooMany)
def sp_sizes (a : Ad) : SpD := fun ds Q E => ∃ c T g, ds = [mchD a c T g] ∧ OkM c T g ∧ SizesP a T g (fun p => Q (pairD p)) E
def lineAt (p : List Bool × List Bool) (n : Nat) : Bool := if n < p.1.length then p.1.getD n false else p.2.getD ((n - p.1.length) % p.2.length) false
def sp_has_lines (a : Ad) : SpD := fun ds Q E => ∃ c T g d k, ds = [mchD a c T g, d] ∧ tyN d = some k ∧ OkM c T g ∧ ((isBt d 0 (10 ^ 60) = false ∧ E a.NoNumber) ∨ ∃ n : Nat, d = .int n ∧ n ≤ 10 ^ 60 ∧ SizesP a T g (fun p => Q (.bl (lineAt p n))) E)
end DL
-- K72b
set_option Elab.async false
set_option linter.all false
set_option maxRecDepth 100000
set_option maxHeartbeats 2000000
set_option autoImplicit false
namespace DL
open PySem PySem.Spec L2
open PyProof.Rows hiding St
/-! ### is_between -/
abbrev st_is_between : Stmt := top 7
abbrev N_is_between : List Str := ["thing", "least", "most"]
theorem sc_is_between : FnScope N_is_between ["thing", "least", "most"] (defScope st_is_between) := ⟨rfl, rfl, rfl, by decide +kernel, rfl, by decide +kernel, by decide +kernel⟩
def sem_is_between (a : Ad) : DTS :=
  (dRet (dAndV (dClean (dBlt rdIsi (dConsO (dB 0) (dConsO (dO (dC (.ty "int"))) dNilO)))) (dAndV (dNotV (dClean (dBlt rdIsi (dConsO (dB 0) (dConsO (dO (dC (.ty "bool"))) dNilO))))) (dChainE rdLe rdLe (dB 1) (dB 0) (dB 2)))))
theorem body_is_between {P : Program} {w : World} {K : PySem.W.Frag} {mg : Str → Option Value} {base : Heap} {a : Ad} {f : Addr} (T : Txt K mg a) {cdv : Value} {A : Around} {outer : List Env} {s : Shared} {H : Hp} {E : XK} {W : Wd K} {H0 B : Hp} {Ed : EX} {hE : ∀ C H' B', Ed C → Grow W H0 B H' B' → E (.ref C) none H'}
    (hr : Room 0 (A.deeper (envOfC "is_between" (defScope st_is_between) s.heap.objs.size f cdv))) : PSs (cxB P w K mg base N_is_between "is_between" st_is_between f cdv A outer s H E) (defBody st_is_between) (upS (⟨W, H0, B, E, Ed, hE⟩ : Gx K) (sem_is_between a)) :=
  have sc := sc_is_between
  (dss_one (ds_ret (de_and (de_of_m (dm_callB call_isi rc_isi (by rfl) T.z_isinstance (by decide +kernel) (dao_cons (do_name 0) (dao_cons (do_of_e (de_c (pe_bltn (v := .ty "int") (by rfl) T.z_int (by decide +kernel) rfl) fun _ => .ty _)) dao_nil)))) (de_and (de_not (de_of_m (dm_callB call_isi rc_isi (by rfl) T.z_isinstance (by decide +kernel) (dao_cons (do_name 0) (dao_cons (do_of_e (de_c (pe_bltn (v := .ty "bool") (by rfl) T.z_bool (by decide +kernel) rfl) fun _ => .ty _)) dao_nil))))) (de_one (de_chain op_le op_le r2_cmp0 r2_cmp0 (do_name 1) (do_name 0) (do_name 2)))))))

/-! ### is_table -/
abbrev st_is_table : Stmt := top 11
abbrev N_is_table : List Str := ["thing", "colours", "row", "room"]
theorem sc_is_table : FnScope N_is_table ["thing", "colours"] (defScope st_is_table) := ⟨rfl, rfl, rfl, by decide +kernel, rfl, by decide +kernel, by decide +kernel⟩
def sem_is_table (a : Ad) : DTS :=
  (dSeq (dIfS (dOr (dNot (dTst (dClean (dBlt rdIsi (dConsO (dB 0) (dConsO (dO (dC (.ty "tuple"))) dNilO)))))) (dNot (dTst (dChainE rdLe rdLe (dO (dC (.int 1))) (dO (dClean (dBlt rdLen (dConsO (dB 0) dNilO)))) (dO (dC (.int 60)))))))
  (dRet (dC (.bl false)))
  dNext)
  (dSeq (dFor (dSeqI (dVar 0)) (dgName 2)
  (dSeq (dIfS (dOr (dNot (dTst (dClean (dBlt rdIsi (dConsO (dB 2) (dConsO (dO (dC (.ty "tuple"))) dNilO)))))) (dCmpT rdNe (dO (dClean (dBlt rdLen (dConsO (dB 2) dNilO)))) (dO (dClean (dOpM rdAdd (dB 1) (dO (dC (.int 1))))))))
  (dRet (dC (.bl false)))
  dNext)
  (dIfS (dNot (dTst (dClean (dBlt rdAll (dConsO (dO (dClean (dLC [3] (dSeqI (dVar 2)) (dgName 3) dYes (dFn (sp_is_between a) (dCons (dVar 3) (dCons (dC (.int 0)) (dCons (dClean (dOpM rdSub (dO (dClean (dBlt rdLen (dConsO (dB 0) dNilO)))) (dO (dC (.int 1))))) dNil))))))) dNilO)))))
  (dRet (dC (.bl false)))
  dNext)))
  (dRet (dC (.bl true)))))
theorem body_is_table {P : Program} {w : World} {K : PySem.W.Frag} {mg : Str → Option Value} {base : Heap} {a : Ad} {f : Addr} (T : Txt K mg a) (c_is_between : Cal P w K mg base 1 "is_between" ["thing", "least", "most"] (sp_is_between a)) {cdv : Value} {A : Around} {outer : List Env} {s : Shared} {H : Hp} {E : XK} {W : Wd K} {H0 B : Hp} {Ed : EX} {hE : ∀ C H' B', Ed C → Grow W H0 B H' B' → E (.ref C) none H'}
    (hr : Room 1 (A.deeper (envOfC "is_table" (defScope st_is_table) s.heap.objs.size f cdv))) : PSs (cxB P w K mg base N_is_table "is_table" st_is_table f cdv A outer s H E) (defBody st_is_table) (upS (⟨W, H0, B, E, Ed, hE⟩ : Gx K) (sem_is_table a)) :=
  have sc := sc_is_table
  (dss_cons (ds_if (PW.pt (dw_or (dt_not (dt_val (de_of_m (dm_callB call_isi rc_isi (by rfl) T.z_isinstance (by decide +kernel) (dao_cons (do_name 0) (dao_cons (do_of_e (de_c (pe_bltn (v := .ty "tuple") (by rfl) T.z_tuple (by decide +kernel) rfl) fun _ => .ty _)) dao_nil)))))) (dw_or1 (dt_not (dt_chain op_le op_le r2_cmp0 r2_cmp0 (do_of_e de_int) (do_of_e (de_of_m (dm_callB call_len2 rc_len (by rfl) T.z_len (by decide +kernel) (dao_cons (do_name 0) dao_nil)))) (do_of_e (de_gi T.g_MOST_ROOMS)))))))
  (dss_one (ds_ret de_bl))
  dss_nil)
  (dss_cons (ds_for (passes_of rfl) rfl (di_seq (de_var 0)) (dg_name (i := 2) sc.nd)
  (dss_cons (ds_if (PW.pt (dw_or (dt_not (dt_val (de_of_m (dm_callB call_isi rc_isi (by rfl) T.z_isinstance (by decide +kernel) (dao_cons (do_name 2) (dao_cons (do_of_e (de_c (pe_bltn (v := .ty "tuple") (by rfl) T.z_tuple (by decide +kernel) rfl) fun _ => .ty _)) dao_nil)))))) (dw_or1 (dt_cmp (op_neD hr.units) r2_ne (do_of_e (de_of_m (dm_callB call_len2 rc_len (by rfl) T.z_len (by decide +kernel) (dao_cons (do_name 2) dao_nil)))) (do_of_e (de_of_m (dm_op op_add5 r2_add (do_name 1) (do_of_e de_int))))))))
  (dss_one (ds_ret de_bl))
  dss_nil)
  (dss_one (ds_if (dt_not (dt_val (de_of_m (dm_callB (cr_all rfl) rc_all (by rfl) T.z_all (by decide +kernel) (dao_cons (do_of_e (de_of_m (dm_lc (own := [("room", 3)]) rfl sc.nd (di_seq (de_var 2)) (blkOk_by (by rfl)) (fun _ _ _ _ _ _ _ => (dg_name (i := 3) sc.nd)) (fun _ _ _ _ _ _ _ => dts_nil) (fun _ _ _ _ _ _ _ => (de_cal (c_is_between.mono (by decide)) hr pass_no (da_cons (de_var 3) (da_cons de_int (da_cons (de_of_m (dm_op op_sub r2_int0 (do_of_e (de_of_m (dm_callB call_len2 rc_len (by rfl) T.z_len (by decide +kernel) (dao_cons (do_name 0) dao_nil)))) (do_of_e de_int))) da_nil)))))))) dao_nil)))))
  (dss_one (ds_ret de_bl))
  dss_nil))))
  (dss_one (ds_ret de_bl))))

/-! ### are_truths -/
abbrev st_are_truths : Stmt := top 12
abbrev N_are_truths : List Str := ["thing", "size", "one"]
theorem sc_are_truths : FnScope N_are_truths ["thing", "size"] (defScope st_are_truths) := ⟨rfl, rfl, rfl, by decide +kernel, rfl, by decide +kernel, by decide +kernel⟩
def sem_are_truths (a : Ad) : DTS :=
  (dRet (dAndV (dClean (dBlt rdIsi (dConsO (dB 0) (dConsO (dO (dC (.ty "tuple"))) dNilO)))) (dAndV (dCmpE rdEq (dO (dClean (dBlt rdLen (dConsO (dB 0) dNilO)))) (dB 1)) (dClean (dBlt rdAll (dConsO (dO (dClean (dLC [2] (dSeqI (dVar 0)) (dgName 2) dYes (dClean (dBlt rdIsi (dConsO (dB 2) (dConsO (dO (dC (.ty "bool"))) dNilO))))))) dNilO))))))
theorem body_are_truths {P : Program} {w : World} {K : PySem.W.Frag} {mg : Str → Option Value} {base : Heap} {a : Ad} {f : Addr} (T : Txt K mg a) {cdv : Value} {A : Around} {outer : List Env} {s : Shared} {H : Hp} {E : XK} {W : Wd K} {H0 B : Hp} {Ed : EX} {hE : ∀ C H' B', Ed C → Grow W H0 B H' B' → E (.ref C) none H'}
    (hr : Room 0 (A.deeper (envOfC "are_truths" (defScope st_are_truths) s.heap.objs.size f cdv))) : PSs (cxB P w K mg base N_are_truths "are_truths" st_are_truths f cdv A outer s H E) (defBody st_are_truths) (upS (⟨W, H0, B, E, Ed, hE⟩ : Gx K) (sem_are_truths a)) :=
  have sc := sc_are_truths
  (dss_one (ds_ret (de_and (de_of_m (dm_callB call_isi rc_isi (by rfl) T.z_isinstance (by decide +kernel) (dao_cons (do_name 0) (dao_cons (do_of_e (de_c (pe_bltn (v := .ty "tuple") (by rfl) T.z_tuple (by decide +kernel) rfl) fun _ => .ty _)) dao_nil)))) (de_and (de_cmp (op_eqD hr.units) r2_eq (do_of_e (de_of_m (dm_callB call_len2 rc_len (by rfl) T.z_len (by decide +kernel) (dao_cons (do_name 0) dao_nil)))) (do_name 1)) (de_one (de_of_m (dm_callB (cr_all rfl) rc_all (by rfl) T.z_all (by decide +kernel) (dao_cons (do_of_e (de_of_m (dm_lc (own := [("one", 2)]) rfl sc.nd (di_seq (de_var 0)) (blkOk_by (by rfl)) (fun _ _ _ _ _ _ _ => (dg_name (i := 2) sc.nd)) (fun _ _ _ _ _ _ _ => dts_nil) (fun _ _ _ _ _ _ _ => (de_of_m (dm_callB call_isi rc_isi (by rfl) T.z_isinstance (by decide +kernel) (dao_cons (do_name 2) (dao_cons (do_of_e (de_c (pe_bltn (v := .ty "bool") (by rfl) T.z_bool (by decide +kernel) rfl) fun _ => .ty _)) dao_nil)))))))) dao_nil))))))))

/-! ### Machine.__init__ -/
abbrev st_Machine___init__ : Stmt := inClass (top 13) 0
abbrev N_Machine___init__ : List Str := ["self", "colours", "table", "good"]
theorem sc_Machine___init__ : FnScope N_Machine___init__ ["self", "colours", "table", "good"] (defScope st_Machine___init__) := ⟨rfl, rfl, rfl, by decide +kernel, rfl, by decide +kernel, by decide +kernel⟩
def sem_Machine___init__ (a : Ad) : DTS :=
  (dSeq (dIfS (dOr (dNot (dTst (dFn (sp_is_between a) (dCons (dVar 1) (dCons (dC (.int 1)) (dCons (dC (.int 4)) dNil)))))) (dOr (dNot (dTst (dFn (sp_is_table a) (dCons (dVar 2) (dCons (dVar 1) dNil))))) (dNot (dTst (dFn (sp_are_truths a) (dCons (dVar 3) (dCons (dClean (dBlt rdLen (dConsO (dB 2) dNilO))) dNil)))))))
  (dRaise a.NoMachine)
  dNext)
  (dSeq (dFldSet 0 (fun C => C = a.Machine) "colours" (dVar 1))
  (dSeq (dFldSet 0 (fun C => C = a.Machine) "table" (dVar 2))
  (dFldSet 0 (fun C => C = a.Machine) "good" (dVar 3)))))
theorem body_Machine___init__ {P : Program} {w : World} {K : PySem.W.Frag} {mg : Str → Option Value} {base : Heap} {a : Ad} {f : Addr} (T : Txt K mg a) (c_is_between : Cal P w K mg base 1 "is_between" ["thing", "least", "most"] (sp_is_between a)) (c_is_table : Cal P w K mg base 2 "is_table" ["thing", "colours"] (sp_is_table a)) (c_are_truths : Cal P w K mg base 1 "are_truths" ["thing", "size"] (sp_are_truths a)) {cdv : Value} {A : Around} {outer : List Env} {s : Shared} {H : Hp} {E : XK} {W : Wd K} {H0 B : Hp} {Ed : EX} {hE : ∀ C H' B', Ed C → Grow W H0 B H' B' → E (.ref C) none H'}
    (hr : Room 2 (A.deeper (envOfC "Machine.__init__" (defScope st_Machine___init__) s.heap.objs.size f cdv))) : PSs (cxB P w K mg base N_Machine___init__ "Machine.__init__" st_Machine___init__ f cdv A outer s H E) (defBody st_Machine___init__) (upS (⟨W, H0, B, E, Ed, hE⟩ : Gx K) (sem_Machine___init__ a)) :=
  have sc := sc_Machine___init__
  (dss_cons (ds_if (PW.pt (dw_or (dt_not (dt_val (de_cal (c_is_between.mono (by decide)) hr (pass_up (takes_of rfl rfl rfl rfl)) (da_cons (de_var 1) (da_cons de_int (da_cons (de_gi T.g_MOST_PAINTS) da_nil)))))) (dw_or (dt_not (dt_val (de_cal (c_is_table.mono (by decide)) hr (pass_up (takes_of rfl rfl rfl rfl)) (da_cons (de_var 2) (da_cons (de_var 1) da_nil))))) (dw_or1 (dt_not (dt_val (de_cal (c_are_truths.mono (by decide)) hr (pass_up (takes_of rfl rfl rfl rfl)) (da_cons (de_var 3) (da_cons (de_of_m (dm_callB call_len2 rc_len (by rfl) T.z_len (by decide +kernel) (dao_cons (do_name 2) dao_nil))) da_nil)))))))))
  (dss_one (ds_raise rfl (takes_of rfl rfl rfl rfl) (pmk_own PySem.F.excBase_ValueError T.e_NoMachine.ex T.e_NoMachine.g T.e_NoMachine.k (raises_own T.e_NoMachine.b T.e_NoMachine.t) rfl)))
  dss_nil)
  (dss_cons (ds_fld 0 T.f_Machine_colours (de_var 1))
  (dss_cons (ds_fld 0 T.f_Machine_table (de_var 2))
  (dss_one (ds_fld 0 T.f_Machine_good (de_var 3))))))

/-! ### shortest_told -/
abbrev st_shortest_told : Stmt := top 15
abbrev N_shortest_told : List Str := ["ahead", "ring", "size"]
theorem sc_shortest_told : FnScope N_shortest_told ["ahead", "ring"] (defScope st_shortest_told) := ⟨rfl, rfl, rfl, by decide +kernel, rfl, by decide +kernel, by decide +kernel⟩
def sem_shortest_told (a : Ad) : DTS :=
  (dSeq (dFor (dRng2 (dCons (dC (.int 1)) (dCons (dClean (dOpM rdAdd (dO (dClean (dBlt rdLen (dConsO (dB 1) dNilO)))) (dO (dC (.int 1))))) dNil))) (dgName 2)
  (dIfS (dAnd (dCmpT rdEq (dO (dClean (dOpM rdMod (dO (dClean (dBlt rdLen (dConsO (dB 1) dNilO)))) (dB 2)))) (dO (dC (.int 0)))) (dCmpT rdEq (dB 1) (dO (dClean (dOpM rdMul (dO (dClean (dSl (dB 1) dNoPart (dPart (dB 2))))) (dO (dClean (dOpM rdDiv (dO (dClean (dBlt rdLen (dConsO (dB 1) dNilO)))) (dB 2)))))))))
  (dSeq (dSetM 1 (dSl (dB 1) dNoPart (dPart (dB 2))))
  dBrk)
  dNext))
  (dSeq (dWhile (dAnd (dCmpT rdNe (dB 0) (dO (dClean (dLst dNil)))) (dCmpT rdEq (dO (dIx (dB 0) (dO (dNeg (dO (dC (.int 1))))))) (dO (dIx (dB 1) (dO (dNeg (dO (dC (.int 1)))))))))
  (dSeq (dSetM 0 (dSl (dB 0) dNoPart (dPart (dO (dNeg (dO (dC (.int 1))))))))
  (dSetM 1 (dOpM rdAdd (dO (dClean (dSl (dB 1) (dPart (dO (dNeg (dO (dC (.int 1)))))) dNoPart))) (dO (dClean (dSl (dB 1) dNoPart (dPart (dO (dNeg (dO (dC (.int 1)))))))))))))
  (dRet (dTup (dCons (dClean (dBlt rdTuple (dConsO (dB 0) dNilO))) (dCons (dClean (dBlt rdTuple (dConsO (dB 1) dNilO))) dNil))))))
theorem body_shortest_told {P : Program} {w : World} {K : PySem.W.Frag} {mg : Str → Option Value} {base : Heap} {a : Ad} {f : Addr} (T : Txt K mg a) {cdv : Value} {A : Around} {outer : List Env} {s : Shared} {H : Hp} {E : XK} {W : Wd K} {H0 B : Hp} {Ed : EX} {hE : ∀ C H' B', Ed C → Grow W H0 B H' B' → E (.ref C) none H'}
    (hr : Room 0 (A.deeper (envOfC "shortest_told" (defScope st_shortest_told) s.heap.objs.size f cdv))) : PSs (cxB P w K mg base N_shortest_told "shortest_told" st_shortest_told f cdv A outer s H E) (defBody st_shortest_told) (upS (⟨W, H0, B, E, Ed, hE⟩ : Gx K) (sem_shortest_told a)) :=
  have sc := sc_shortest_told
  (dss_cons (ds_for (passes_of rfl) rfl (di_range2 (by rfl) T.z_range (da_cons de_int (da_cons (de_of_m (dm_op op_add5 r2_add (do_of_e (de_of_m (dm_callB call_len2 rc_len (by rfl) T.z_len (by decide +kernel) (dao_cons (do_name 1) dao_nil)))) (do_of_e de_int))) da_nil))) (dg_name (i := 2) sc.nd)
  (dss_one (ds_if (PW.pt (dw_and (dt_cmp (op_eqD hr.units) r2_eq (do_of_e (de_of_m (dm_op op_mod r2_int (do_of_e (de_of_m (dm_callB call_len2 rc_len (by rfl) T.z_len (by decide +kernel) (dao_cons (do_name 1) dao_nil)))) (do_name 2)))) (do_of_e de_int)) (dw_and1 (dt_cmp (op_eqD hr.units) r2_eq (do_name 1) (do_of_e (de_of_m (dm_op op_mul3 r2_mul (do_of_e (de_of_m (dm_slice (do_name 1) dp_none (dp_some (do_name 2))))) (do_of_e (de_of_m (dm_op op_fdiv r2_int (do_of_e (de_of_m (dm_callB call_len2 rc_len (by rfl) T.z_len (by decide +kernel) (dao_cons (do_name 1) dao_nil)))) (do_name 2)))))))))))
  (dss_cons (ds_setM (i := 1) sc.nd (dm_slice (do_name 1) dp_none (dp_some (do_name 2))))
  (dss_one ds_break))
  dss_nil)))
  (dss_cons (ds_while (passes_of rfl) (PW.pt (dw_and (dt_cmp (op_neD hr.units) r2_ne (do_name 0) (do_of_e (de_of_m (dm_lst da_nil)))) (dw_and1 (dt_cmp (op_eqD hr.units) r2_eq (do_of_e (de_ix (DL.hu_of hr) (do_name 0) (do_of_e (de_neg (do_of_e de_int))))) (do_of_e (de_ix (DL.hu_of hr) (do_name 1) (do_of_e (de_neg (do_of_e de_int)))))))))
  (dss_cons (ds_setM (i := 0) sc.nd (dm_slice (do_name 0) dp_none (dp_some (do_of_e (de_neg (do_of_e de_int))))))
  (dss_one (ds_setM (i := 1) sc.nd (dm_op op_add5 r2_add (do_of_e (de_of_m (dm_slice (do_name 1) (dp_some (do_of_e (de_neg (do_of_e de_int)))) dp_none))) (do_of_e (de_of_m (dm_slice (do_name 1) dp_none (dp_some (do_of_e (de_neg (do_of_e de_int))))))))))))
  (dss_one (ds_ret (de_tup (da_cons (de_of_m (dm_callTy call_tuple_of rc_tuple (by rfl) T.z_tuple (by decide +kernel) (dao_cons (do_name 0) dao_nil))) (da_cons (de_of_m (dm_callTy call_tuple_of rc_tuple (by rfl) T.z_tuple (by decide +kernel) (dao_cons (do_name 1) dao_nil))) da_nil)))))))

/-! ### rooms_of_size -/
abbrev st_rooms_of_size : Stmt := top 18
abbrev N_rooms_of_size : List Str := ["machine", "rooms", "room", "goal"]
theorem sc_rooms_of_size : FnScope N_rooms_of_size ["machine", "rooms"] (defScope st_rooms_of_size) := ⟨rfl, rfl, rfl, by decide +kernel, rfl, by decide +kernel, by decide +kernel⟩
def sem_rooms_of_size (a : Ad) : DTS :=
  (dRet (dClean (dBlt rdTuple (dConsO (dO (dClean (dBlt rdSortSet (dConsO (dO (dClean (dLC2 [2, 3] [3] (dSeqI (dVar 1)) (dgName 2) dYes (dSeqI (dIx (dO (dFld (fun C => C = a.Machine) "table" (dB 0))) (dB 2))) (dgName 3) dYes (dVar 3)))) dNilO)))) dNilO))))
theorem body_rooms_of_size {P : Program} {w : World} {K : PySem.W.Frag} {mg : Str → Option Value} {base : Heap} {a : Ad} {f : Addr} (T : Txt K mg a) {cdv : Value} {A : Around} {outer : List Env} {s : Shared} {H : Hp} {E : XK} {W : Wd K} {H0 B : Hp} {Ed : EX} {hE : ∀ C H' B', Ed C → Grow W H0 B H' B' → E (.ref C) none H'}
    (hr : Room 0 (A.deeper (envOfC "rooms_of_size" (defScope st_rooms_of_size) s.heap.objs.size f cdv))) : PSs (cxB P w K mg base N_rooms_of_size "rooms_of_size" st_rooms_of_size f cdv A outer s H E) (defBody st_rooms_of_size) (upS (⟨W, H0, B, E, Ed, hE⟩ : Gx K) (sem_rooms_of_size a)) :=
  have sc := sc_rooms_of_size
  (dss_one (ds_ret (de_of_m (dm_callTy call_tuple_of rc_tuple (by rfl) T.z_tuple (by decide +kernel) (dao_cons (do_of_e (de_of_m (dm_sortset rfl T.z_sorted T.z_set (dao_cons (do_of_e (de_of_m (dm_lc2 (own := [("room", 2), ("goal", 3)]) (own1 := [3]) rfl sc.nd (di_seq (de_var 1)) (blkOk_by (by rfl)) (fun _ _ _ _ _ _ _ => (dg_name (i := 2) sc.nd)) (fun _ _ _ _ _ _ _ => dts_nil) (fun _ _ _ _ _ _ _ => (di_seq (de_ix (DL.hu_of hr) (do_of_e (de_fld T.f_Machine_table (do_name 0))) (do_name 2)))) (fun _ _ _ _ _ _ _ => (dg_name (i := 3) sc.nd)) (fun _ _ _ _ _ _ _ => dts_nil) (fun _ _ _ _ _ _ _ => (de_var 3))))) dao_nil)))) dao_nil)))))

/-! ### sizes -/
abbrev st_sizes : Stmt := top 19
abbrev N_sizes : List Str := ["machine", "rooms", "met", "told", "room"]
theorem sc_sizes : FnScope N_sizes ["machine"] (defScope st_sizes) := ⟨rfl, rfl, rfl, by decide +kernel, rfl, by decide +kernel, by decide +kernel⟩
def sem_sizes (a : Ad) : DTS :=
  (dSeq (dPar3 1 2 3 (dConsM (dIm (dTup (dCons (dC (.int 0)) dNil))) (dConsM dDict0 (dConsM (dLst dNil) dNilM))))
  (dSeq (dWhile (dCmpT rdNotIn (dB 1) (dB 2))
  (dSeq (dIfS (dCmpT rdEq (dO (dClean (dBlt rdLen (dConsO (dB 3) dNilO)))) (dO (dC (.int 5000))))
  (dRaise a.TooMany)
  dNext)
  (dSeq (dSetIx 2 (dClean (dBlt rdLen (dConsO (dB 3) dNilO))) (dVar 1))
  (dSeq (dAppend 3 (dCons (dClean (dBlt rdAny (dConsO (dO (dClean (dLC [4] (dSeqI (dVar 1)) (dgName 4) dYes (dIx (dO (dFld (fun C => C = a.Machine) "good" (dB 0))) (dB 4))))) dNilO))) dNil))
  (dSet 1 (dFn (sp_rooms_of_size a) (dCons (dVar 0) (dCons (dVar 1) dNil))))))))
  (dRet (dFn (sp_shortest_told a) (dCons (dClean (dSl (dB 3) dNoPart (dPart (dO (dIx (dB 2) (dB 1)))))) (dCons (dClean (dSl (dB 3) (dPart (dO (dIx (dB 2) (dB 1)))) dNoPart)) dNil))))))
theorem body_sizes {P : Program} {w : World} {K : PySem.W.Frag} {mg : Str → Option Value} {base : Heap} {a : Ad} {f : Addr} (T : Txt K mg a) (c_rooms_of_size : Cal P w K mg base 1 "rooms_of_size" ["machine", "rooms"] (sp_rooms_of_size a)) (c_shortest_told : Cal P w K mg base 1 "shortest_told" ["ahead", "ring"] (sp_shortest_told a)) {cdv : Value} {A : Around} {outer : List Env} {s : Shared} {H : Hp} {E : XK} {W : Wd K} {H0 B : Hp} {Ed : EX} {hE : ∀ C H' B', Ed C → Grow W H0 B H' B' → E (.ref C) none H'}
    (hr : Room 1 (A.deeper (envOfC "sizes" (defScope st_sizes) s.heap.objs.size f cdv))) : PSs (cxB P w K mg base N_sizes "sizes" st_sizes f cdv A outer s H E) (defBody st_sizes) (upS (⟨W, H0, B, E, Ed, hE⟩ : Gx K) (sem_sizes a)) :=
  have sc := sc_sizes
  (dss_cons (ds_par3 (i := 1) (j := 2) (l := 3) rfl sc.nd (dma_cons (dm_of_e (de_tup (da_cons de_int da_nil))) fun _ _ => (dma_cons dm_dict0 fun _ _ => (dma_cons (dm_lst da_nil) fun _ _ => dma_nil))))
  (dss_cons (ds_while (passes_of rfl) (dt_cmp (op_notIn3 (hu65 hr)) r2_notIn (do_name 1) (do_name 2))
  (dss_cons (ds_if (dt_cmp (op_eqD hr.units) r2_eq (do_of_e (de_of_m (dm_callB call_len2 rc_len (by rfl) T.z_len (by decide +kernel) (dao_cons (do_name 3) dao_nil)))) (do_of_e (de_gi T.g_MOST_STEPS)))
  (dss_one (ds_raise rfl (takes_of rfl rfl rfl rfl) (pmk_own PySem.F.excBase_ValueError T.e_TooMany.ex T.e_TooMany.g T.e_TooMany.k (raises_own T.e_TooMany.b T.e_TooMany.t) rfl)))
  dss_nil)
  (dss_cons (ds_setIx 2 (DL.hu_of hr) (de_of_m (dm_callB call_len2 rc_len (by rfl) T.z_len (by decide +kernel) (dao_cons (do_name 3) dao_nil))) (de_var 1))
  (dss_cons (ds_append 3 (da_cons (de_of_m (dm_callB (cr_any rfl) rc_any (by rfl) T.z_any (by decide +kernel) (dao_cons (do_of_e (de_of_m (dm_lc (own := [("room", 4)]) rfl sc.nd (di_seq (de_var 1)) (blkOk_by (by rfl)) (fun _ _ _ _ _ _ _ => (dg_name (i := 4) sc.nd)) (fun _ _ _ _ _ _ _ => dts_nil) (fun _ _ _ _ _ _ _ => (de_ix (DL.hu_of hr) (do_of_e (de_fld T.f_Machine_good (do_name 0))) (do_name 4)))))) dao_nil))) da_nil))
  (dss_one (ds_set (i := 1) sc.nd (de_cal (c_rooms_of_size.mono (by decide)) hr (pass_up (takes_of rfl rfl rfl rfl)) (da_cons (de_var 0) (da_cons (de_var 1) da_nil)))))))))
  (dss_one (ds_ret (de_cal (c_shortest_told.mono (by decide)) hr (pass_up (takes_of rfl rfl rfl rfl)) (da_cons (de_of_m (dm_slice (do_name 3) dp_none (dp_some (do_of_e (de_ix (DL.hu_of hr) (do_name 2) (do_name 1)))))) (da_cons (de_of_m (dm_slice (do_name 3) (dp_some (do_of_e (de_ix (DL.hu_of hr) (do_name 2) (do_name 1)))) dp_none)) da_nil)))))))

/-! ### has_lines -/
abbrev st_has_lines : Stmt := top 20
abbrev N_has_lines : List Str := ["machine", "size", "ahead", "ring"]
theorem sc_has_lines : FnScope N_has_lines ["machine", "size"] (defScope st_has_lines) := ⟨rfl, rfl, rfl, by decide +kernel, rfl, by decide +kernel, by decide +kernel⟩
def sem_has_lines (a : Ad) : DTS :=
  (dSeq (dIfS (dNot (dTst (dFn (sp_is_between a) (dCons (dVar 1) (dCons (dC (.int 0)) (dCons (dClean (dOpM rdPow (dO (dC (.int 10))) (dO (dC (.int 60))))) dNil))))))
  (dRaise a.NoNumber)
  dNext)
  (dSeq (dAsg (dFn (sp_sizes a) (dCons (dVar 0) dNil)) (dgTup 2 (dgCons (dgName 2) (dgCons (dgName 3) dgNil))))
  (dRet (dIf (dCmpT rdLt (dB 1) (dO (dClean (dBlt rdLen (dConsO (dB 2) dNilO))))) (dIx (dB 2) (dB 1)) (dIx (dB 3) (dO (dClean (dOpM rdMod (dO (dClean (dOpM rdSub (dB 1) (dO (dClean (dBlt rdLen (dConsO (dB 2) dNilO))))))) (dO (dClean (dBlt rdLen (dConsO (dB 3) dNilO))))))))))))
theorem body_has_lines {P : Program} {w : World} {K : PySem.W.Frag} {mg : Str → Option Value} {base : Heap} {a : Ad} {f : Addr} (T : Txt K mg a) (c_is_between : Cal P w K mg base 1 "is_between" ["thing", "least", "most"] (sp_is_between a)) (c_sizes : Cal P w K mg base 2 "sizes" ["machine"] (sp_sizes a)) {cdv : Value} {A : Around} {outer : List Env} {s : Shared} {H : Hp} {E : XK} {W : Wd K} {H0 B : Hp} {Ed : EX} {hE : ∀ C H' B', Ed C → Grow W H0 B H' B' → E (.ref C) none H'}
    (hr : Room 2 (A.deeper (envOfC "has_lines" (defScope st_has_lines) s.heap.objs.size f cdv))) : PSs (cxB P w K mg base N_has_lines "has_lines" st_has_lines f cdv A outer s H E) (defBody st_has_lines) (upS (⟨W, H0, B, E, Ed, hE⟩ : Gx K) (sem_has_lines a)) :=
  have sc := sc_has_lines
  (dss_cons (ds_if (dt_not (dt_val (de_cal (c_is_between.mono (by decide)) hr (pass_up (takes_of rfl rfl rfl rfl)) (da_cons (de_var 1) (da_cons de_int (da_cons (de_of_m (dm_op op_pow r2_int (do_of_e de_int) (do_of_e de_int))) da_nil))))))
  (dss_one (ds_raise rfl (takes_of rfl rfl rfl rfl) (pmk_own PySem.F.excBase_ValueError T.e_NoNumber.ex T.e_NoNumber.g T.e_NoNumber.k (raises_own T.e_NoNumber.b T.e_NoNumber.t) rfl)))
  dss_nil)
  (dss_cons (ds_asg (de_cal (c_sizes.mono (by decide)) hr (pass_up (takes_of rfl rfl rfl rfl)) (da_cons (de_var 0) da_nil)) (dg_tup rfl (dgs_cons (dg_name (i := 2) sc.nd) (dgs_cons (dg_name (i := 3) sc.nd) dgs_nil))))
  (dss_one (ds_ret (de_if (dt_cmp op_lt r2_cmp0 (do_name 1) (do_of_e (de_of_m (dm_callB call_len2 rc_len (by rfl) T.z_len (by decide +kernel) (dao_cons (do_name 2) dao_nil))))) (de_ix (DL.hu_of hr) (do_name 2) (do_name 1)) (de_ix (DL.hu_of hr) (do_name 3) (do_of_e (de_of_m (dm_op op_mod r2_int (do_of_e (de_of_m (dm_op op_sub r2_int0 (do_name 1) (do_of_e (de_of_m (dm_callB call_len2 rc_len (by rfl) T.z_len (by decide +kernel) (dao_cons (do_name 2) dao_nil))))))) (do_of_e (de_of_m (dm_callB call_len2 rc_len (by rfl) T.z_len (by decide +kernel) (dao_cons (do_name 3) dao_nil)))))))))))))

/- used: ['MOST_PAINTS', 'MOST_ROOMS', 'MOST_STEPS', 'Machine.good', 'Machine.table', 'NoMachine', 'NoNumber', 'TooMany', 'all', 'any', 'bool', 'int', 'isinstance', 'len', 'range', 'set', 'sorted', 'tuple'] {'is_between': 1, 'is_table': 2, 'are_truths': 1, 'Machine.__init__': 3, 'shortest_told': 1, 'rooms_of_size': 1, 'sizes': 2, 'has_lines': 3} -/
end DL
-- K72c
set_option Elab.async false
set_option linter.all false
set_option maxRecDepth 100000
set_option maxHeartbeats 2000000
set_option autoImplicit false
namespace DL
open PySem PySem.Spec L2
open PyProof.Rows hiding St
theorem run_is_between (a : Ad) (ds : List D) (Q : D → Prop) (E : EX) (h : sp_is_between a ds Q E) : ds.length = 3 ∧ sem_is_between a { nx := fun _ => Q .non, rt := Q } (startD 3 ds) E := by
  unfold sp_is_between at h
  split at h
  · rename_i d l m
    obtain ⟨n, hn, hq⟩ := h
    refine ⟨rfl, ?_⟩
    unfold sem_is_between
    simp [hn]
    cases d <;> simp only [tyN, Option.some.injEq, reduceCtorEq] at hn <;> subst hn <;> simp [isBt] at hq ⊢ <;> try exact hq
    rename_i i
    by_cases h1 : l ≤ i
    · simpa [h1] using hq
    · simpa [h1] using hq
  · exact h.elim
theorem run_is_table (a : Ad) (ds : List D) (Q : D → Prop) (E : EX) (h : sp_is_table a ds Q E) : ds.length = 2 ∧ sem_is_table a { nx := fun _ => Q .non, rt := Q } (startD 4 ds) E := by
  obtain ⟨T, c, rfl, ok, hc, hq⟩ := h
  refine ⟨rfl, ?_⟩
  have h1 := ok.l1
  have h2 := ok.l2
  unfold sem_is_table tblD
  simp
  rw [if_pos (by omega)]
  refine .inr ⟨by omega, for_map (fun i Δ => ∃ s, Δ = [.im (.tup (T.map rowD)), .im (.int c), s, .un]) ⟨_, rfl⟩ ?_ fun Δ2 _ => hq⟩
  rintro i r Δ2 hi ⟨s, rfl⟩
  obtain ⟨hr1, hr2⟩ := ok.row r (List.mem_of_getElem? hi)
  simp [rowD, hr1]
  refine lc_map (fun _ => some (.bl true)) [.im (.tup (T.map rowD)), .im (.int c), .im (rowD r), .un] rfl (by rw [sizeLine_eq]; omega) (fun n hn R hR => ?_) ?_
  · have := hr2 n hn
    have e : decide ((n : Int) ≤ (T.length : Int) - 1) = true := decide_eq_true (by omega)
    simp [sp_is_between, intD, rowD, e]
    exact hR
  · simp
    exact ⟨r.map fun _ => true, by simp, .inr (by simp)⟩
theorem run_are_truths (a : Ad) (ds : List D) (Q : D → Prop) (E : EX) (h : sp_are_truths a ds Q E) : ds.length = 2 ∧ sem_are_truths a { nx := fun _ => Q .non, rt := Q } (startD 3 ds) E := by
  obtain ⟨g, n, rfl, hg, hn, hq⟩ := h
  refine ⟨rfl, ?_⟩
  unfold sem_are_truths blsD
  simp [hg]
  refine lc_map (fun _ => some (.bl true)) [.im (.tup (g.map D.bl)), .im (.int n), .un] rfl (by rw [sizeLine_eq]; omega) (fun b hb R hR => ?_) ?_
  · simp
    exact hR
  · simp
    exact ⟨g.map fun _ => true, by simp, by rw [all_true]; exact hq⟩
theorem run_Machine___init__ (a : Ad) (p : Addr) (ds : List D) (Q : List (Str × D) → Prop) (E : EX) (h : sp_Machine___init__ a ds Q E) : ds.length + 1 = 4 ∧
    sem_Machine___init__ a { nx := fun Δ => ∃ fs, Δ[0]? = some (.oi a.Machine p fs) ∧ Q fs, rt := fun _ => False } (startI p a.Machine 4 ds) E := by
  obtain ⟨c, T, g, rfl, ok, hq⟩ := h
  refine ⟨rfl, ?_⟩
  have h1 := ok.c1
  have h2 := ok.c2
  have e : ((1 : Int) ≤ c) ∧ ((c : Int) ≤ 4) := by omega
  unfold sem_Machine___init__
  simp [sp_is_between, e, and_assoc]
  refine ⟨T, c, rfl, ok.t, ok.c2, .inr ⟨rfl, ?_⟩⟩
  simp [sp_are_truths, tblD, and_assoc]
  refine ⟨g, rfl, T.length, rfl, ok.g, ok.t.l2, ?_⟩
  exact ⟨by show 1 < 1000; decide, by show 2 < 1000; decide, hq⟩
end DL
-- K72d
set_option Elab.async false
set_option linter.all false
set_option maxRecDepth 100000
set_option maxHeartbeats 2000000
set_option autoImplicit false
namespace DL
open PySem PySem.Spec L2
open PyProof.Rows hiding St
abbrev trimC : DTT := (dAnd (dCmpT rdNe (dB 0) (dO (dClean (dLst dNil)))) (dCmpT rdEq (dO (dIx (dB 0) (dO (dNeg (dO (dC (.int 1))))))) (dO (dIx (dB 1) (dO (dNeg (dO (dC (.int 1)))))))))
abbrev trimB : DTS := (dSeq (dSetM 0 (dSl (dB 0) dNoPart (dPart (dO (dNeg (dO (dC (.int 1)))))))) (dSetM 1 (dOpM rdAdd (dO (dClean (dSl (dB 1) (dPart (dO (dNeg (dO (dC (.int 1)))))) dNoPart))) (dO (dClean (dSl (dB 1) dNoPart (dPart (dO (dNeg (dO (dC (.int 1)))))))))))) 
theorem while_trim {N : DEnds} {E : EX} {s t u : Sl} {A R : List Bool} (hs : s.er = some (.lst (A.map D.bl))) (ht : t.er = some (.lst (R.map D.bl))) (hR : R ≠ []) (hA5 : A.length ≤ 5000) (hR5 : R.length ≤ 5000)
    (h : ∀ s t u, s.er = some (.lst ((trim A.length A R).1.map D.bl)) → t.er = some (.lst ((trim A.length A R).2.map D.bl)) → N.nx [s, t, u]) : dWhile trimC trimB N [s, t, u] E := by
  refine ⟨fun m Δ => ∃ s t u A' R', Δ = [s, t, u] ∧ s.er = some (.lst (A'.map D.bl)) ∧ t.er = some (.lst (R'.map D.bl)) ∧ R' ≠ [] ∧ A'.length = m ∧ A'.length ≤ 5000 ∧ R'.length ≤ 5000 ∧ trim A'.length A' R' = trim A.length A R, ⟨_, s, t, u, A, R, rfl, hs, ht, hR, rfl, hA5, hR5, rfl⟩, ?_⟩
  rintro m Δ ⟨s, t, u, A', R', rfl, hs, ht, hR', hm, h1, h2, h3⟩
  have fin : ¬ (A' ≠ [] ∧ A'.getLast? = R'.getLast?) → N.nx [s, t, u] := fun hc => by
    have e : trim A'.length A' R' = (A', R') := by
      cases k : A'.length with
      | zero => rfl
      | succ k => unfold trim; rw [if_neg hc]
    rw [e] at h3
    exact h s t u (by rw [← h3]; exact hs) (by rw [← h3]; exact ht)
  obtain ⟨r, hr⟩ : ∃ r, R'.getLast? = some r := by
    cases q : R'.getLast? with
    | none => exact absurd (List.getLast?_eq_none_iff.mp q) hR'
    | some r => exact ⟨r, rfl⟩
  simp [hs, ht]
  by_cases hA : A' = []
  · simp [hA]
    exact fin fun z => z.1 hA
  · obtain ⟨x, hx⟩ : ∃ x, A'.getLast? = some x := by
      cases q : A'.getLast? with
      | none => exact absurd (List.getLast?_eq_none_iff.mp q) hA
      | some r => exact ⟨r, rfl⟩
    simp [hA, hr, hx, atI_m1, List.getLast?_map]
    have hlr : 0 < R'.length := List.length_pos_iff.mpr hR'
    have hla : 0 < A'.length := List.length_pos_iff.mpr hA
    have e1 : cut (A'.map D.bl) none (some (-1)) = A'.dropLast.map D.bl := by rw [cut_but, List.map_dropLast]
    have e2 : cut (R'.map D.bl) none (some (-1)) = R'.dropLast.map D.bl := by rw [cut_but, List.map_dropLast]
    have e3 : cut (R'.map D.bl) (some (-1)) none = (R'.drop (R'.length - 1)).map D.bl := by rw [cut_last, List.map_drop, List.length_map]
    rw [e1, e2, e3]
    by_cases hxr : x = r
    · rw [if_pos hxr]
      have hlen : (R'.drop (R'.length - 1) ++ R'.dropLast).length = R'.length := by simp <;> omega
      refine ⟨by simp [sizeLine_eq]; omega, A'.dropLast.length, by rw [List.length_dropLast]; omega, _, _, ⟨rfl, rfl⟩, A'.dropLast, rfl, R'.drop (R'.length - 1) ++ R'.dropLast, by simp, ?_, rfl, by rw [List.length_dropLast]; omega, by rw [hlen]; exact h2, ?_⟩
      · intro z; rw [z] at hlen; simp at hlen; omega
      · rw [← h3]
        have : A'.length = A'.dropLast.length + 1 := by rw [List.length_dropLast]; omega
        rw [this]
        conv => rhs; unfold trim
        rw [if_pos ⟨hA, by rw [hx, hr, hxr]⟩]
    · rw [if_neg hxr]
      exact fin fun z => hxr (by rw [hx, hr] at z; exact Option.some.inj z.2)
theorem sh1_some {R : List Bool} {i : Nat} (hi : i < R.length) (hk : ∀ k, k < i → ¬ (R.length % (k + 1) = 0 ∧ R = (List.replicate (R.length / (k + 1)) (R.take (k + 1))).flatten)) (h : R.length % (i + 1) = 0 ∧ R = (List.replicate (R.length / (i + 1)) (R.take (i + 1))).flatten) : sh1 R = R.take (i + 1) := by
  unfold sh1
  have e : (List.range R.length).find? (fun i => decide (R.length % (i + 1) = 0) && decide (R = (List.replicate (R.length / (i + 1)) (R.take (i + 1))).flatten)) = some i := by
    rw [List.find?_eq_some_iff_getElem]
    refine ⟨by simpa using h, i, by simpa using hi, by simp, fun j hj => ?_⟩
    have := hk j hj
    simp only [List.getElem_range, Bool.not_eq_true', Bool.and_eq_false_iff, decide_eq_false_iff_not]
    by_cases h1 : R.length % (j + 1) = 0
    · exact .inr fun z => this ⟨h1, z⟩
    · exact .inl h1
  rw [e]
theorem sh1_last {R : List Bool} (hR : 0 < R.length) (hk : ∀ k, k < R.length → ¬ (R.length % (k + 1) = 0 ∧ R = (List.replicate (R.length / (k + 1)) (R.take (k + 1))).flatten)) : False := by
  refine hk (R.length - 1) (by omega) ⟨by rw [Nat.sub_add_cancel hR, Nat.mod_self], ?_⟩
  rw [Nat.sub_add_cancel hR, Nat.div_self hR, List.take_of_length_le (Nat.le_refl _)]
  simp
abbrev shL : DTS := (dFor (dRng2 (dCons (dC (.int 1)) (dCons (dClean (dOpM rdAdd (dO (dClean (dBlt rdLen (dConsO (dB 1) dNilO)))) (dO (dC (.int 1))))) dNil))) (dgName 2)
  (dIfS (dAnd (dCmpT rdEq (dO (dClean (dOpM rdMod (dO (dClean (dBlt rdLen (dConsO (dB 1) dNilO)))) (dB 2)))) (dO (dC (.int 0)))) (dCmpT rdEq (dB 1) (dO (dClean (dOpM rdMul (dO (dClean (dSl (dB 1) dNoPart (dPart (dB 2))))) (dO (dClean (dOpM rdDiv (dO (dClean (dBlt rdLen (dConsO (dB 1) dNilO)))) (dB 2)))))))))
  (dSeq (dSetM 1 (dSl (dB 1) dNoPart (dPart (dB 2)))) dBrk) dNext))
theorem loop_sh {N : DEnds} {E : EX} {s : Sl} {R : List Bool} (hR : 0 < R.length) (hR5 : R.length ≤ 5000) (h : ∀ t u, t.er = some (.lst ((sh1 R).map D.bl)) → N.nx [s, t, u]) : shL N [s, .im (.lst (R.map D.bl)), .un] E := by
  unfold shL
  simp
  refine ⟨1, R.length + 1, ⟨rfl, rfl⟩, by omega, ?_⟩
  rw [show ((R.length : Int) + 1 - 1).toNat = R.length by omega]
  refine for_range (fun i Δ => ∃ u, Δ = [s, .im (.lst (R.map D.bl)), u] ∧ ∀ k, k < i → ¬ (R.length % (k + 1) = 0 ∧ R = (List.replicate (R.length / (k + 1)) (R.take (k + 1))).flatten)) ⟨_, rfl, fun k hk => by omega⟩ ?_ ?_
  · rintro i Δ2 hi ⟨u, rfl, hk⟩
    simp
    have en : (1 : Int) + i = ((i + 1 : Nat) : Int) := by omega
    rw [en]
    simp only [← Int.natCast_emod, ← Int.natCast_ediv, Int.toNat_natCast, cut_to, ← List.map_take]
    refine ⟨by omega, ?_⟩
    have next : ¬ (R.length % (i + 1) = 0 ∧ R = (List.replicate (R.length / (i + 1)) (R.take (i + 1))).flatten) → ∀ k, k < i + 1 → ¬ (R.length % (k + 1) = 0 ∧ R = (List.replicate (R.length / (k + 1)) (R.take (k + 1))).flatten) := fun hn k hki => by
      by_cases hki2 : k < i
      · exact hk k hki2
      · obtain rfl : k = i := by omega
        exact hn
    by_cases hm : R.length % (i + 1) = 0
    · have hd : R.length / (i + 1) ≤ R.length := Nat.div_le_self _ _
      have em : (List.replicate (R.length / (i + 1)) ((R.take (i + 1)).map D.bl)).flatten = ((List.replicate (R.length / (i + 1)) (R.take (i + 1))).flatten).map D.bl := by rw [List.map_flatten, List.map_replicate]
      rw [if_pos (by rw [hm]; rfl), em]
      have hmul : (i + 1) * (R.length / (i + 1)) ≤ R.length := Nat.mul_div_le _ _
      refine ⟨⟨by omega, by omega⟩, Int.le_trans (by decide) (Int.natCast_nonneg _), Int.lt_of_le_of_lt (Int.ofNat_le.mpr hd) (by omega), ?_, okEq_bls _, ?_⟩
      · rw [List.length_map, List.length_take, sizeLine_eq, Nat.min_eq_left (by omega)]
        omega
      · rw [eqD_bls]
        by_cases he : R = (List.replicate (R.length / (i + 1)) (R.take (i + 1))).flatten
        · rw [if_pos (decide_eq_true he)]
          exact h _ _ (by rw [sh1_some hi hk ⟨hm, he⟩, List.map_take]; rfl)
        · rw [if_neg (by simpa using he)]
          exact fun k hki a b => next (fun z => he z.2) k hki ⟨a, b⟩
    · rw [if_neg (fun z => hm (by exact_mod_cast z))]
      exact fun k hki a b => next (fun z => hm z.1) k hki ⟨a, b⟩
  · rintro Δ2 ⟨u, rfl, hk⟩
    exact (sh1_last hR hk).elim
theorem sh1_len {R : List Bool} (hR : 0 < R.length) : (sh1 R).length ≤ R.length ∧ sh1 R ≠ [] := by
  unfold sh1
  split
  · refine ⟨by rw [List.length_take]; omega, fun z => ?_⟩
    rw [List.take_eq_nil_iff] at z
    rcases z with z | z
    · omega
    · rw [z] at hR; simp at hR
  · exact ⟨Nat.le_refl _, fun z => by rw [z] at hR; simp at hR⟩
theorem run_shortest_told (a : Ad) (ds : List D) (Q : D → Prop) (E : EX) (h : sp_shortest_told a ds Q E) : ds.length = 2 ∧ sem_shortest_told a { nx := fun _ => Q .non, rt := Q } (startD 3 ds) E := by
  obtain ⟨A, R, rfl, hR, hA5, hR5, hq⟩ := h
  refine ⟨rfl, ?_⟩
  have hr0 : 0 < R.length := List.length_pos_iff.mpr hR
  have two : 2 ≤ sizeLine := by rw [sizeLine_eq]; omega
  obtain ⟨h1, h2⟩ := sh1_len hr0
  refine loop_sh (R := R) hr0 hR5 fun t u ht => while_trim (A := A) (R := sh1 R) rfl ht h2 hA5 (by omega) fun s t u hs ht => ?_
  simp [hs, ht, two]
  exact hq
end DL
-- K72e
set_option Elab.async false
set_option linter.all false
set_option maxRecDepth 100000
set_option maxHeartbeats 2000000
set_option autoImplicit false
namespace DL
open PySem PySem.Spec L2
open PyProof.Rows hiding St
theorem mch_table {c : Nat} {T : List (List Nat)} {g : List Bool} : (mchF c T g).lookup ("table" : Str) = some (tblD T) := by rfl
theorem mch_good {c : Nat} {T : List (List Nat)} {g : List Bool} : (mchF c T g).lookup ("good" : Str) = some (D.tup (blsD g)) := by rfl
theorem pw_ext : ∀ {xs ys : List Nat}, xs.Pairwise (· < ·) → ys.Pairwise (· < ·) → (∀ k, k ∈ xs ↔ k ∈ ys) → xs = ys
  | [], [], _, _, _ => rfl
  | [], y :: ys, _, _, h => absurd ((h y).mpr List.mem_cons_self) (by simp)
  | x :: xs, [], _, _, h => absurd ((h x).mp List.mem_cons_self) (by simp)
  | x :: xs, y :: ys, hx, hy, h => by
    rw [List.pairwise_cons] at hx hy
    have e : x = y := by
      rcases List.mem_cons.mp ((h x).mp List.mem_cons_self) with e | e
      · exact e
      · rcases List.mem_cons.mp ((h y).mpr List.mem_cons_self) with e2 | e2
        · exact e2.symm
        · have a := hy.1 x e; have b := hx.1 y e2; omega
    subst e
    rw [pw_ext hx.2 hy.2 fun k => ⟨fun hk => ?_, fun hk => ?_⟩]
    · rcases List.mem_cons.mp ((h k).mp (List.mem_cons_of_mem _ hk)) with e | e
      · have := hx.1 k hk; omega
      · exact e
    · rcases List.mem_cons.mp ((h k).mpr (List.mem_cons_of_mem _ hk)) with e | e
      · have := hy.1 k hk; omega
      · exact e
theorem stepC_pw (T : List (List Nat)) (C : List Nat) : (stepC T C).Pairwise (· < ·) := List.Pairwise.filter _ (by
  have := @List.pairwise_lt_range T.length
  exact this)
theorem ints_nats : ∀ (ns : List Int), (∀ n ∈ ns, 0 ≤ n) → ns = (ns.map Int.toNat).map Int.ofNat
  | [], _ => rfl
  | n :: ns, h => by
    rw [List.map_cons, List.map_cons, ← ints_nats ns fun k hk => h k (List.mem_cons_of_mem _ hk)]
    rw [show Int.ofNat n.toNat = n from Int.toNat_of_nonneg (h n List.mem_cons_self)]
theorem few_below {n : Nat} (hn : n < 64) {ns : List Int} (h : ∀ k ∈ ns, 0 ≤ k ∧ k < n) : Few ns := fun l nd hl => by
  have e : ∀ k ∈ l, k ∈ (List.range n).map Int.ofNat := fun k hk => by
    obtain ⟨a, b⟩ := h k (hl k hk)
    exact List.mem_map.mpr ⟨k.toNat, List.mem_range.mpr (by omega), Int.toNat_of_nonneg a⟩
  have := List.Nodup.length_le_of_subset nd e
  rw [List.length_map, List.length_range] at this
  omega
/-- a sorted crowd of the goals is the next crowd -/
theorem crowd_eq {T : List (List Nat)} {C : List Nat} (hT : ∀ r ∈ T, ∀ n ∈ r, n < T.length) {gs : List Nat} (hg : ∀ k, k ∈ gs ↔ k ∈ C.flatMap fun r => T.getD r []) {ns' : List Int} (h1 : ns'.Pairwise (· < ·)) (h2 : ∀ k, k ∈ ns' ↔ k ∈ gs.map Int.ofNat) : ns'.map D.int = (stepC T C).map intD := by
  have nn : ∀ k ∈ ns', 0 ≤ k := fun k hk => by
    obtain ⟨m, _, rfl⟩ := List.mem_map.mp ((h2 k).mp hk)
    exact Int.natCast_nonneg _
  have e1 := ints_nats ns' nn
  have e2 : ns'.map Int.toNat = stepC T C := by
    refine pw_ext (List.pairwise_map.mpr (h1.imp_of_mem fun {a b} ha hb hab => by have := nn a ha; have := nn b hb; omega)) (stepC_pw T C) fun k => ?_
    unfold stepC
    rw [List.mem_filter, List.mem_range, decide_eq_true_eq, ← hg k, List.mem_map]
    constructor
    · rintro ⟨z, hz, rfl⟩
      obtain ⟨m, hm, rfl⟩ := List.mem_map.mp ((h2 z).mp hz)
      have hm' : m ∈ gs := hm
      refine ⟨?_, hm⟩
      obtain ⟨r, _, hr⟩ := List.mem_flatMap.mp ((hg m).mp hm')
      rw [List.getD_eq_getElem?_getD] at hr
      cases q : T[r]? with
      | none => rw [q] at hr; simp at hr
      | some row => rw [q] at hr; exact hT row (List.mem_of_getElem? q) m hr
    · rintro ⟨_, hk⟩
      exact ⟨(k : Int), (h2 _).mpr (List.mem_map.mpr ⟨k, hk, rfl⟩), Int.toNat_natCast k⟩
  rw [e1, e2, List.map_map]
  rfl
theorem run_rooms_of_size (a : Ad) (ds : List D) (Q : D → Prop) (E : EX) (h : sp_rooms_of_size a ds Q E) : ds.length = 2 ∧ sem_rooms_of_size a { nx := fun _ => Q .non, rt := Q } (startD 4 ds) E := by
  obtain ⟨c, T, g, C, rfl, ok, hC, hC6, hq⟩ := h
  refine ⟨rfl, ?_⟩
  have h2 := ok.t.l2
  have hrow : ∀ r ∈ C, ∃ row, T[r]? = some row ∧ row.length = c + 1 ∧ T.getD r [] = row := fun r hr => by
    have e := List.getElem?_eq_getElem (hC r hr)
    exact ⟨_, e, (ok.t.row _ (List.mem_of_getElem? e)).1, by rw [List.getD_eq_getElem?_getD, e]; rfl⟩
  have hflat : ∀ C' : List Nat, (∀ r ∈ C', r ∈ C) → (C'.flatMap fun r => T.getD r []).length = C'.length * (c + 1) := fun C' => by
    induction C' with
    | nil => intro _; simp
    | cons r C' ih =>
      intro hc
      obtain ⟨row, _, e2, e3⟩ := hrow r (hc r List.mem_cons_self)
      rw [List.flatMap_cons, List.length_append, ih fun k hk => hc k (List.mem_cons_of_mem _ hk), e3, e2, List.length_cons, Nat.add_mul]
      omega
  have hlen : (C.flatMap fun r => T.getD r []).length ≤ 300 := by
    rw [hflat C fun _ h => h]
    have hc4 := ok.c2
    have : C.length * (c + 1) ≤ 60 * 5 := Nat.mul_le_mul hC6 (by omega)
    omega
  have hF : ∀ C' : List Nat, (C'.map intD).flatMap (fun d => match d with | .int n => (T.getD n.toNat []).map intD | _ => []) = (C'.flatMap fun r => T.getD r []).map intD := fun C' => by
    induction C' with
    | nil => rfl
    | cons r C' ih => rw [List.map_cons, List.flatMap_cons, ih, List.flatMap_cons, List.map_append]; rfl
  unfold sem_rooms_of_size crowdD
  simp
  refine lc2_pure (fun d => match d with | .int n => (T.getD n.toNat []).map intD | _ => []) [Sl.im (mchD a c T g), Sl.im (D.tup (List.map intD C)), Sl.un, Sl.un] rfl (by rw [hF, List.length_map, sizeLine_eq]; omega) (fun d hd acc R hacc hR => ?_) ?_
  · obtain ⟨r, hr, rfl⟩ := List.mem_map.mp hd
    obtain ⟨row, e1, e2, e3⟩ := hrow r hr
    have hc4 := ok.c2
    have hF1 : (match intD r with | .int n => (T.getD n.toNat []).map intD | _ => []) = row.map intD := by
      show (T.getD (Int.toNat (r : Int)) []).map intD = _
      rw [Int.toNat_natCast, e3]
    rw [hF1] at hacc hR
    have hin : dSeqI (dIx (dO (dFld (fun C => C = a.Machine) "table" (dB 0))) (dB 2)) [Sl.im (mchD a c T g), Sl.im (D.tup (List.map intD C)), Sl.im (intD r), Sl.un] (fun es Δ5 => dLCi [3] (dgName 3) dYes (dVar 3) es Δ5 acc fun acc1 Δ6 => R acc1 (wipeD Δ6 [2, 3])) noE := by
      simp
      refine ⟨a.Machine, mchF c T g, rfl, rfl, tblD T, mch_table, ?_⟩
      rw [show intD r = D.int (r : Int) from rfl]
      unfold tblD
      simp [atI_nat, e1]
      refine ⟨_, rfl, lci_pure some _ rfl (by simpa using hacc) (fun d hd R hR => ?_) ?_⟩
      · simpa using hR
      · simpa using hR
    exact hin
  · rw [hF]
    simp
    refine ⟨(C.flatMap fun r => T.getD r []).map Int.ofNat, ?_, ?_, ?_, ?_⟩
    · rw [List.map_map]; rfl
    · rw [List.length_map]; unfold scanBound; omega
    · refine few_below (n := T.length) (by omega) fun k hk => ?_
      obtain ⟨m, hm, rfl⟩ := List.mem_map.mp hk
      obtain ⟨r, hr, hmr⟩ := List.mem_flatMap.mp hm
      obtain ⟨row, e1, e2, e3⟩ := hrow r hr
      rw [e3] at hmr
      have := (ok.t.row row (List.mem_of_getElem? e1)).2 m hmr
      exact ⟨Int.natCast_nonneg _, Int.ofNat_lt.mpr this⟩
    · intro ns' h1 h2
      rw [crowd_eq (fun r hr => (ok.t.row r hr).2) (gs := C.flatMap fun r => T.getD r []) (fun _ => Iff.rfl) h1 h2]
      simp
      exact hq
end DL
-- K72f
set_option Elab.async false
set_option linter.all false
set_option maxRecDepth 100000
set_option maxHeartbeats 2000000
set_option autoImplicit false
namespace DL
open PySem PySem.Spec L2
open PyProof.Rows hiding St
def keyC (C : List Nat) : List Key := C.map fun n => (Sum.inl (Int.ofNat n) : Key)
theorem keys_crowd : ∀ C : List Nat, D.keys (C.map intD) = some (keyC C)
  | [] => rfl
  | n :: C => by
    show (match (D.int (n : Int)).key, D.keys (C.map intD) with | some k, some ks => some (k :: ks) | _, _ => none) = _
    rw [keys_crowd C]
    rfl
@[simp] theorem keyT_crowd {C : List Nat} : (crowdD C).keyT = some (keyC C) := keys_crowd C
theorem keyC_inj : ∀ {C C' : List Nat}, keyC C = keyC C' → C = C'
  | [], [], _ => rfl
  | [], _ :: _, h => by simp [keyC] at h
  | _ :: _, [], h => by simp [keyC] at h
  | n :: C, m :: C', h => by
    simp only [keyC, List.map_cons, List.cons.injEq, Sum.inl.injEq] at h
    have e1 : n = m := Int.ofNat.inj h.1
    rw [e1, keyC_inj (C := C) (C' := C') h.2]
def metL (T : List (List Nat)) (k : Nat) : List (List Key × D) := (List.range k).map fun i => (keyC (cr T i), D.int (i : Int))
theorem val_met_none {T : List (List Nat)} {C : List Nat} : ∀ {k : Nat}, (∀ i, i < k → cr T i ≠ C) → val (metL T k) (keyC C) = none := fun {k} h => by
  unfold val metL
  rw [List.find?_eq_none.mpr]
  · rfl
  · intro p hp
    obtain ⟨i, hi, rfl⟩ := List.mem_map.mp hp
    simp only [decide_eq_true_eq]
    exact fun e => h i (List.mem_range.mp hi) (keyC_inj e)
theorem val_met_some {T : List (List Nat)} {C : List Nat} {k j : Nat} (hj : j < k) (e : cr T j = C) (hn : ∀ i, i < j → cr T i ≠ C) : val (metL T k) (keyC C) = some (.int j) := by
  unfold val metL
  have : ((List.range k).map fun i => (keyC (cr T i), D.int (i : Int))).find? (fun kv => decide (kv.1 = keyC C)) = some (keyC (cr T j), D.int (j : Int)) := by
    rw [List.find?_eq_some_iff_getElem]
    refine ⟨by simp [e], j, by simpa using hj, by simp, fun i hi => ?_⟩
    simp only [List.getElem_map, List.getElem_range, Bool.not_eq_true', decide_eq_false_iff_not]
    exact fun z => hn i hi (keyC_inj z)
  rw [this]
  rfl
theorem put_met {T : List (List Nat)} {k : Nat} (h : ∀ i, i < k → cr T i ≠ cr T k) : put (metL T k) (keyC (cr T k)) (.int k) = metL T (k + 1) := by
  unfold put
  rw [if_neg]
  · unfold metL
    rw [List.range_succ, List.map_append]
    rfl
  · intro z
    rw [List.any_eq_true] at z
    obtain ⟨p, hp, e⟩ := z
    obtain ⟨i, hi, rfl⟩ := List.mem_map.mp hp
    exact h i (List.mem_range.mp hi) (keyC_inj (by simpa using e))
theorem cr_ok {T : List (List Nat)} (h1 : 1 ≤ T.length) : ∀ k, (∀ r ∈ cr T k, r < T.length) ∧ (cr T k).length ≤ T.length
  | 0 => ⟨fun r hr => by simp [cr] at hr; omega, by simpa [cr] using h1⟩
  | k + 1 => ⟨fun r hr => by
      simp only [cr, stepC, List.mem_filter, List.mem_range] at hr
      exact hr.1, by
      simp only [cr, stepC]
      have := List.length_filter_le (fun k_1 => decide (k_1 ∈ (cr T k).flatMap fun r => T.getD r [])) (List.range T.length)
      rwa [List.length_range] at this⟩
abbrev szC : DTT := (dCmpT rdNotIn (dB 1) (dB 2))
abbrev szB (a : Ad) : DTS := (dSeq (dIfS (dCmpT rdEq (dO (dClean (dBlt rdLen (dConsO (dB 3) dNilO)))) (dO (dC (.int 5000))))
  (dRaise a.TooMany)
  dNext)
  (dSeq (dSetIx 2 (dClean (dBlt rdLen (dConsO (dB 3) dNilO))) (dVar 1))
  (dSeq (dAppend 3 (dCons (dClean (dBlt rdAny (dConsO (dO (dClean (dLC [4] (dSeqI (dVar 1)) (dgName 4) dYes (dIx (dO (dFld (fun C => C = a.Machine) "good" (dB 0))) (dB 4))))) dNilO))) dNil))
  (dSet 1 (dFn (sp_rooms_of_size a) (dCons (dVar 0) (dCons (dVar 1) dNil)))))))
def szSt (a : Ad) (c : Nat) (T : List (List Nat)) (g : List Bool) (k : Nat) (u : Sl) : List Sl := [.im (mchD a c T g), .im (crowdD (cr T k)), .ot (metL T k), .ol ((toldL T g k).map D.bl), u]
theorem while_sizes {a : Ad} {c : Nat} {T : List (List Nat)} {g : List Bool} {N : DEnds} {E : EX} (ok : OkM c T g) (u : Sl) (hE : (∀ i k, i < k → k ≤ 5000 → cr T i ≠ cr T k) → E a.TooMany) (h : ∀ n j u, Rep T n j → n ≤ 5000 → N.nx (szSt a c T g n u)) : dWhile szC (szB a) N (szSt a c T g 0 u) E := by
  refine ⟨fun m Δ => ∃ k u, k ≤ 5000 ∧ m = 5000 - k ∧ Δ = szSt a c T g k u ∧ ∀ i j, i < j → j < k → cr T i ≠ cr T j, ⟨5000, 0, u, by omega, rfl, rfl, fun i j _ h => by omega⟩, ?_⟩
  rintro m Δ ⟨k, u, hk, rfl, rfl, hd⟩
  by_cases hin : ∃ j, j < k ∧ cr T j = cr T k
  · obtain ⟨j, hj, e⟩ := hin
    have hv := val_met_some hj e (fun i hi z => hd i j hi hj (z.trans e.symm))
    unfold szSt
    simp [hv]
    exact h k j u ⟨hj, e.symm, fun i j h1 h2 => hd i j h1 h2⟩ hk
  · have hnew : ∀ i, i < k → cr T i ≠ cr T k := fun i hi z => hin ⟨i, hi, z⟩
    have hv := val_met_none hnew
    unfold szSt
    simp [hv]
    have hl : (toldL T g k).length = k := by simp [toldL]
    rw [hl]
    by_cases h5 : k = 5000
    · rw [if_pos (by omega)]
      exact hE fun i j h1 h2 => by
        by_cases hj : j < k
        · exact hd i j h1 hj
        · obtain rfl : j = k := by omega
          exact hnew i h1
    · rw [if_neg (by omega)]
      refine .inr (.inr ⟨⟨_, rfl⟩, ?_⟩)
      simp [hl]
      have h2 := ok.t.l2
      obtain ⟨hc1, hc2⟩ := cr_ok ok.t.l1 k
      have hm : (metL T k).length = k := by simp [metL]
      refine ⟨by rw [hm, sizeLine_eq]; omega, _, rfl, lc_map (fun r => some (.bl (g.getD r false))) [Sl.im (mchD a c T g), Sl.im (crowdD (cr T k)), Sl.ot (put (metL T k) (keyC (cr T k)) (D.int k)), Sl.ol (List.map D.bl (toldL T g k)), .un] rfl (by rw [sizeLine_eq]; omega) (fun r hr R hR => ?_) ?_⟩
      · have hrg : r < g.length := by rw [ok.g]; exact hc1 r hr
        have e := List.getElem?_eq_getElem hrg
        have hin : dIx (dO (dFld (fun C => C = a.Machine) "good" (dB 0))) (dB 4) [Sl.im (mchD a c T g), Sl.im (crowdD (cr T k)), Sl.ot (put (metL T k) (keyC (cr T k)) (D.int k)), Sl.ol (List.map D.bl (toldL T g k)), Sl.im (intD r)] (fun e Δ5 => R (some e) (wipeD Δ5 [4])) noE := by
          simp
          refine ⟨a.Machine, mchF c T g, rfl, rfl, .tup (blsD g), mch_good, ?_⟩
          rw [show intD r = D.int (r : Int) from rfl]
          unfold blsD
          simp [atI_nat, e]
          rw [List.getD_eq_getElem?_getD, e] at hR
          exact hR
        exact hin
      · simp
        refine ⟨(cr T k).map fun r => g.getD r false, by simp, ?_⟩
        have e5 : (toldL T g (k + 1)).map D.bl = (toldL T g k).map D.bl ++ [D.bl (((cr T k).map fun r => g.getD r false).any id)] := by
          unfold toldL
          rw [List.range_succ, List.map_append, List.map_append]
          simp [tell, List.any_map]
        refine ⟨by rw [hl, sizeLine_eq]; omega, c, T, g, cr T k, rfl, ok, hc1, by omega, 5000 - (k + 1), by omega, k + 1, by omega, rfl, ⟨rfl, put_met hnew, e5.symm⟩, fun i j h1 h2 => ?_⟩
        by_cases hj : j < k
        · exact hd i j h1 hj
        · obtain rfl : j = k := by omega
          exact hnew i h1
theorem rep_one {T : List (List Nat)} {n j n' j' : Nat} (R : Rep T n j) (R' : Rep T n' j') : n = n' ∧ j = j' := by
  have e : n = n' := by
    rcases Nat.lt_trichotomy n n' with h | h | h
    · exact absurd R.eq.symm (R'.ne j n R.lt h)
    · exact h
    · exact absurd R'.eq.symm (R.ne j' n' R'.lt h)
  subst e
  refine ⟨rfl, ?_⟩
  rcases Nat.lt_trichotomy j j' with h | h | h
  · exact absurd (R.eq.symm.trans R'.eq) (R.ne j j' h R'.lt)
  · exact h
  · exact absurd (R'.eq.symm.trans R.eq) (R.ne j' j h R.lt)
theorem run_sizes (a : Ad) (ds : List D) (Q : D → Prop) (E : EX) (h : sp_sizes a ds Q E) : ds.length = 1 ∧ sem_sizes a { nx := fun _ => Q .non, rt := Q } (startD 5 ds) E := by
  obtain ⟨c, T, g, rfl, ok, hs⟩ := h
  refine ⟨rfl, ?_⟩
  have two : 1 ≤ sizeLine := by rw [sizeLine_eq]; omega
  have loop : ∀ N : DEnds, (∀ n j u, Rep T n j → n ≤ 5000 → N.nx (szSt a c T g n u)) → ((∀ i k, i < k → k ≤ 5000 → cr T i ≠ cr T k) → E a.TooMany) → (dSeq (dPar3 1 2 3 (dConsM (dIm (dTup (dCons (dC (.int 0)) dNil))) (dConsM dDict0 (dConsM (dLst dNil) dNilM)))) (dWhile szC (szB a))) N (startD 5 [mchD a c T g]) E := fun N h1 h2 => by
    rw [sDSeq]
    generalize hM : ({ N with nx := fun Δ' => dWhile szC (szB a) N Δ' E } : DEnds) = M
    simp [two]
    refine .inr ?_
    rw [← hM]
    exact ⟨_, _, _, ⟨rfl, rfl, rfl⟩, while_sizes ok .un h2 h1⟩
  have fin : ∀ n j u, Rep T n j → n ≤ 5000 → Q (pairD (ansS T g n j)) → dRet (dFn (sp_shortest_told a) (dCons (dClean (dSl (dB 3) dNoPart (dPart (dO (dIx (dB 2) (dB 1)))))) (dCons (dClean (dSl (dB 3) (dPart (dO (dIx (dB 2) (dB 1)))) dNoPart)) dNil))) { nx := fun _ => Q .non, rt := Q } (szSt a c T g n u) E := fun n j u R hn hq => by
    have hv := val_met_some R.lt R.eq.symm (fun i hi z => R.ne i j hi R.lt (z.trans R.eq))
    have hl : (toldL T g n).length = n := by simp [toldL]
    have hj := R.lt
    unfold szSt
    simp [hv, cut_to, cut_from]
    refine ⟨(toldL T g n).take j, (toldL T g n).drop j, ?_, ?_, by rw [List.length_take]; omega, by rw [List.length_drop]; omega, hq⟩
    · unfold blsD; simp [List.map_take, List.map_drop]
    · intro z
      have := congrArg List.length z
      rw [List.length_drop, hl] at this
      simp at this
      omega
  refine loop { nx := fun Δ' => _, rt := Q } ?_ ?_
  · intro n j u R hn
    rcases hs with ⟨N, j', R', hN, hq⟩ | ⟨hd, _⟩
    · obtain ⟨e1, e2⟩ := rep_one R R'
      subst e1; subst e2
      exact fin n j u R hn hq
    · exact absurd R.eq.symm (hd j n R.lt hn)
  · intro hd
    rcases hs with ⟨N, j', R', hN, hq⟩ | ⟨_, he⟩
    · exact absurd R'.eq.symm (hd j' N R'.lt hN)
    · exact he
end DL
-- K72g
set_option Elab.async false
set_option linter.all false
set_option maxRecDepth 100000
set_option maxHeartbeats 2000000
set_option autoImplicit false
namespace DL
open PySem PySem.Spec L2
open PyProof.Rows hiding St
theorem trim_ne : ∀ (n : Nat) (A R : List Bool), R ≠ [] → (trim n A R).2 ≠ [] ∧ (trim n A R).2.length = R.length ∧ (trim n A R).1.length ≤ A.length
  | 0, A, R, h => ⟨h, rfl, Nat.le_refl _⟩
  | n + 1, A, R, h => by
    unfold trim
    split
    · have hl : 0 < R.length := List.length_pos_iff.mpr h
      have hlen : (R.drop (R.length - 1) ++ R.dropLast).length = R.length := by simp <;> omega
      obtain ⟨a, b, c⟩ := trim_ne n A.dropLast (R.drop (R.length - 1) ++ R.dropLast) (fun z => by rw [z] at hlen; simp at hlen; omega)
      exact ⟨a, b.trans hlen, Nat.le_trans c (by rw [List.length_dropLast]; omega)⟩
    · exact ⟨h, rfl, Nat.le_refl _⟩
theorem short_ne {A R : List Bool} (h : R ≠ []) : (short A R).2 ≠ [] ∧ (short A R).2.length ≤ R.length ∧ (short A R).1.length ≤ A.length := by
  obtain ⟨h1, h2⟩ := sh1_len (List.length_pos_iff.mpr h)
  obtain ⟨a, b, c⟩ := trim_ne A.length A (sh1 R) h2
  exact ⟨a, by unfold short; rw [b]; exact h1, c⟩
theorem ans_ne {T : List (List Nat)} {g : List Bool} {n j : Nat} (R : Rep T n j) : (ansS T g n j).2 ≠ [] ∧ (ansS T g n j).2.length ≤ n ∧ (ansS T g n j).1.length ≤ n := by
  have hl : (toldL T g n).length = n := by simp [toldL]
  have hj := R.lt
  have h0 : (toldL T g n).drop j ≠ [] := fun z => by
    have := congrArg List.length z
    rw [List.length_drop, hl] at this
    simp at this
    omega
  obtain ⟨a, b, c⟩ := short_ne (A := (toldL T g n).take j) h0
  rw [List.length_drop, hl] at b
  rw [List.length_take, hl] at c
  exact ⟨a, by unfold ansS; omega, by unfold ansS; omega⟩
theorem line_get {xs : List Bool} {n : Nat} (h : n < xs.length) : atI (xs.map D.bl) (n : Int) = some (.bl (xs.getD n false)) := by
  rw [atI_nat, List.getElem?_map, List.getElem?_eq_getElem h, List.getD_eq_getElem?_getD, List.getElem?_eq_getElem h]
  rfl
theorem run_has_lines (a : Ad) (ds : List D) (Q : D → Prop) (E : EX) (h : sp_has_lines a ds Q E) : ds.length = 2 ∧ sem_has_lines a { nx := fun _ => Q .non, rt := Q } (startD 4 ds) E := by
  obtain ⟨c, T, g, d, k, rfl, hk, ok, h⟩ := h
  refine ⟨rfl, ?_⟩
  unfold sem_has_lines
  simp [sp_is_between, hk]
  have e60 : (10 : Int) ^ 60 = 1000000000000000000000000000000000000000000000000000000000000 := by decide
  have n60 : (10 : Nat) ^ 60 = 1000000000000000000000000000000000000000000000000000000000000 := by decide
  refine ⟨⟨by decide, by decide, by decide⟩, ?_⟩
  rw [e60] at h
  rcases h with ⟨h1, h2⟩ | ⟨n, rfl, hn, hs⟩
  · exact .inl ⟨h1, h2⟩
  · rw [n60] at hn
    refine .inr ⟨by simp; omega, c, T, g, rfl, ok, ?_⟩
    rcases hs with ⟨N, j, R, hN, hq⟩ | h
    · refine .inl ⟨N, j, R, hN, ?_⟩
      obtain ⟨a1, a2, a3⟩ := ans_ne (g := g) R
      generalize ansS T g N j = p at hq a1 a2 a3
      obtain ⟨A, B⟩ := p
      have hB : 0 < B.length := List.length_pos_iff.mpr a1
      refine ⟨_, .inl rfl, rfl, _, _, rfl, _, _, rfl, rfl, ?_⟩
      unfold blsD
      simp
      simp only [lineAt] at hq
      by_cases hlt : n < A.length
      · rw [if_pos (by omega), line_get hlt]
        rw [if_pos hlt] at hq
        exact ⟨_, rfl, hq⟩
      · rw [if_neg (by omega)]
        rw [if_neg hlt] at hq
        have e : ((n : Int) - (A.length : Int)) % (B.length : Int) = (((n - A.length) % B.length : Nat) : Int) := by
          rw [Int.natCast_emod, Int.natCast_sub (by omega)]
        refine ⟨by omega, ?_⟩
        rw [e, line_get (Nat.mod_lt _ hB)]
        exact ⟨_, rfl, hq⟩
    · exact .inr h
end DL
-- K72h
set_option Elab.async false
set_option linter.all false
set_option maxRecDepth 100000
set_option maxHeartbeats 2000000
set_option autoImplicit false
namespace DL
open PySem PySem.Spec L2
open PyProof.Rows hiding St
def sp__law_mixed (a : Ad) : SpD := fun ds Q _ => ds = [.drw] ∧ ∀ n : Int, Q (.int n)
theorem sp_mixed_any {a : Ad} {Q : D → Prop} {E : EX} (h : ∀ n : Int, Q (.int n)) : sp__law_mixed a [.drw] Q E := ⟨rfl, h⟩
def sp__law_take (a : Ad) : SpD := fun ds Q _ => ∃ n : Int, ds = [.drw, .int n] ∧ 0 < n ∧ n < 2 ^ 30 ∧ ∀ r : Int, 0 ≤ r → r < n → Q (.int r)
def sp__law_pick (a : Ad) : SpD := fun ds Q _ => ∃ xs, ds = [.drw, .lst xs] ∧ 0 < xs.length ∧ xs.length < 2 ^ 30 ∧ ∀ x ∈ xs, Q x
/-- a table of n rooms and c colours -/
structure TabN (T : List (List Nat)) (n c : Nat) : Prop where
  len : T.length = n
  row : ∀ r ∈ T, r.length = c + 1 ∧ ∀ k ∈ r, k < n
def sp__law_table (a : Ad) : SpD := fun ds Q _ => ∃ n c : Nat, ds = [.drw, .int n, .int c] ∧ 1 ≤ n ∧ n ≤ 60 ∧ c ≤ 4 ∧ ∀ T g, TabN T n c → g.length = n → Q (.tup [tblD T, .tup (blsD g)])
def planD (c : Nat) (T : List (List Nat)) (g : List Bool) : D := .tup [.int c, tblD T, .tup (blsD g)]
def sp__law_plan (a : Ad) : SpD := fun ds Q _ => ∃ m : Nat, ds = [.drw, .int m] ∧ 1 ≤ m ∧ m ≤ 60 ∧ ∀ c T g, OkM c T g → T.length ≤ max 5 m → Q (planD c T g)
def sp__law_told_sizes (a : Ad) : SpD := fun ds Q _ => ∃ c T g N j, ds = [planD c T g, .int 4999] ∧ OkM c T g ∧ Rep T N j ∧ N ≤ 5000 ∧ Q (.tup [.lst (blsD ((toldL T g N).take j)), .lst (blsD ((toldL T g N).drop j))])
def sp__law_shortest (a : Ad) : SpD := fun ds Q _ => ∃ A R, ds = [.lst (blsD A), .lst (blsD R)] ∧ R ≠ [] ∧ A.length ≤ 5000 ∧ R.length ≤ 5000 ∧ Q (pairD (short A R))
end DL
-- K72i
set_option Elab.async false
set_option linter.all false
set_option maxRecDepth 100000
set_option maxHeartbeats 2000000
set_option autoImplicit false
namespace DL
open PySem PySem.Spec L2
open PyProof.Rows hiding St
/-! ### _law_mixed -/
abbrev st__law_mixed : Stmt := top 23
abbrev N__law_mixed : List Str := ["draw", "great", "turn", "found", "blend", "cell"]
theorem sc__law_mixed : FnScope N__law_mixed ["draw"] (defScope st__law_mixed) := ⟨rfl, rfl, rfl, by decide +kernel, rfl, by decide +kernel, by decide +kernel⟩
def sem__law_mixed (a : Ad) : DTS :=
  (dSeq (dPutI 0 (dClean (dOpM rdAdd (dO (dAnyI 0)) (dO (dC (.int 1))))))
  (dSeq (dPar2 2 3 (dConsM (dBlt rdInt (dConsO (dO (dAnyI 0)) dNilO)) (dConsM (dIm (dC (.int 0))) dNilM)))
  (dSeq (dFor (dSeqI (dClean (dLst (dCons (dC (.int 2147483647)) (dCons (dC (.int 2147483629)) (dCons (dC (.int 2147483587)) dNil)))))) (dgName 1)
  (dSeq (dSet 4 (dClean (dOpM rdMod (dO (dClean (dOpM rdAdd (dO (dClean (dOpM rdMul (dB 2) (dO (dC (.int 48271)))))) (dO (dClean (dOpM rdDiv (dB 1) (dO (dC (.int 11))))))))) (dB 1))))
  (dSeq (dFor (dCells 0) (dgName 5)
  (dSet 4 (dClean (dOpM rdMod (dO (dClean (dOpM rdAdd (dO (dClean (dOpM rdAdd (dO (dClean (dOpM rdMul (dB 4) (dO (dC (.int 69621)))))) (dO (dClean (dBlt rdInt (dConsO (dB 5) dNilO))))))) (dB 2)))) (dB 1)))))
  (dSetM 3 (dOpM rdAdd (dO (dClean (dOpM rdMul (dB 3) (dO (dC (.int 2147483659)))))) (dO (dClean (dOpM rdMod (dO (dClean (dOpM rdPow (dB 4) (dO (dC (.int 5)))))) (dB 1)))))))))
  (dRet (dVar 3)))))
theorem body__law_mixed {P : Program} {w : World} {K : PySem.W.Frag} {mg : Str → Option Value} {base : Heap} {a : Ad} {f : Addr} (T : Txt K mg a) {cdv : Value} {A : Around} {outer : List Env} {s : Shared} {H : Hp} {E : XK} {W : Wd K} {H0 B : Hp} {Ed : EX} {hE : ∀ C H' B', Ed C → Grow W H0 B H' B' → E (.ref C) none H'}
    (hr : Room 0 (A.deeper (envOfC "_law_mixed" (defScope st__law_mixed) s.heap.objs.size f cdv))) : PSs (cxB P w K mg base N__law_mixed "_law_mixed" st__law_mixed f cdv A outer s H E) (defBody st__law_mixed) (upS (⟨W, H0, B, E, Ed, hE⟩ : Gx K) (sem__law_mixed a)) :=
  have sc := sc__law_mixed
  (dss_cons (ds_putTurn 0 (DL.hu_of hr) (de_of_m (dm_op op_add5 r2_add (do_of_e (de_turn 0 (DL.hu_of hr))) (do_of_e de_int))))
  (dss_cons (ds_par2 (i := 2) (j := 3) rfl sc.nd (dma_cons (dm_callTy call_int1 rc_int (by rfl) T.z_int (by decide +kernel) (dao_cons (do_of_e (de_turn 0 (DL.hu_of hr))) dao_nil)) fun _ _ => (dma_cons (dm_of_e de_int) fun _ _ => dma_nil)))
  (dss_cons (ds_for (passes_of rfl) rfl (di_seq (de_of_m (dm_lst (da_cons de_int (da_cons de_int (da_cons de_int da_nil)))))) (dg_name (i := 1) sc.nd)
  (dss_cons (ds_set (i := 4) sc.nd (de_of_m (dm_op op_mod r2_int (do_of_e (de_of_m (dm_op op_add5 r2_add (do_of_e (de_of_m (dm_op op_mul3 r2_mul (do_name 2) (do_of_e de_int)))) (do_of_e (de_of_m (dm_op op_fdiv r2_int (do_name 1) (do_of_e de_int))))))) (do_name 1))))
  (dss_cons (ds_for (passes_of rfl) rfl (di_cells 0 (DL.hu_of hr)) (dg_name (i := 5) sc.nd)
  (dss_one (ds_set (i := 4) sc.nd (de_of_m (dm_op op_mod r2_int (do_of_e (de_of_m (dm_op op_add5 r2_add (do_of_e (de_of_m (dm_op op_add5 r2_add (do_of_e (de_of_m (dm_op op_mul3 r2_mul (do_name 4) (do_of_e de_int)))) (do_of_e (de_of_m (dm_callTy call_int1 rc_int (by rfl) T.z_int (by decide +kernel) (dao_cons (do_name 5) dao_nil))))))) (do_name 2)))) (do_name 1))))))
  (dss_one (ds_setM (i := 3) sc.nd (dm_op op_add5 r2_add (do_of_e (de_of_m (dm_op op_mul3 r2_mul (do_name 3) (do_of_e de_int)))) (do_of_e (de_of_m (dm_op op_mod r2_int (do_of_e (de_of_m (dm_op op_pow r2_int (do_name 4) (do_of_e de_int)))) (do_name 1))))))))))
  (dss_one (ds_ret (de_var 3))))))

/-! ### _law_take -/
abbrev st__law_take : Stmt := top 24
abbrev N__law_take : List Str := ["draw", "amount", "found"]
theorem sc__law_take : FnScope N__law_take ["draw", "amount"] (defScope st__law_take) := ⟨rfl, rfl, rfl, by decide +kernel, rfl, by decide +kernel, by decide +kernel⟩
def sem__law_take (a : Ad) : DTS :=
  (dSeq (dIfS (dCmpT rdEq (dO (dAnyI 0)) (dO (dC (.int 0))))
  (dPutI 0 (dLarge 0))
  dNext)
  (dSeq (dSet 2 (dClean (dOpM rdMod (dO (dClean (dBlt rdInt (dConsO (dO (dAnyI 0)) dNilO)))) (dB 1))))
  (dSeq (dPutI 0 (dClean (dOpM rdDiv (dO (dClean (dBlt rdInt (dConsO (dO (dAnyI 0)) dNilO)))) (dB 1))))
  (dRet (dVar 2)))))
theorem body__law_take {P : Program} {w : World} {K : PySem.W.Frag} {mg : Str → Option Value} {base : Heap} {a : Ad} {f : Addr} (T : Txt K mg a) (c__law_mixed : Cal P w K mg base 1 "_law_mixed" ["draw"] (sp__law_mixed a)) {cdv : Value} {A : Around} {outer : List Env} {s : Shared} {H : Hp} {E : XK} {W : Wd K} {H0 B : Hp} {Ed : EX} {hE : ∀ C H' B', Ed C → Grow W H0 B H' B' → E (.ref C) none H'}
    (hr : Room 1 (A.deeper (envOfC "_law_take" (defScope st__law_take) s.heap.objs.size f cdv))) : PSs (cxB P w K mg base N__law_take "_law_take" st__law_take f cdv A outer s H E) (defBody st__law_take) (upS (⟨W, H0, B, E, Ed, hE⟩ : Gx K) (sem__law_take a)) :=
  have sc := sc__law_take
  (dss_cons (ds_if (dt_cmp (op_eqD hr.units) r2_eq (do_of_e (de_rest 0 (DL.hu_of hr))) (do_of_e de_int))
  (dss_one (ds_putRest 0 (DL.hu_of hr) (de_large 0 hr (de_cal (c__law_mixed.mono (by decide)) hr (pass_up (takes_of rfl rfl rfl rfl)) (da_cons (de_var 0) da_nil)) (ht_mixed fun Q E h => sp_mixed_any h))))
  dss_nil)
  (dss_cons (ds_set (i := 2) sc.nd (de_of_m (dm_op op_mod r2_int (do_of_e (de_of_m (dm_callTy call_int1 rc_int (by rfl) T.z_int (by decide +kernel) (dao_cons (do_of_e (de_rest 0 (DL.hu_of hr))) dao_nil)))) (do_name 1))))
  (dss_cons (ds_putRest 0 (DL.hu_of hr) (de_of_m (dm_op op_fdiv r2_int (do_of_e (de_of_m (dm_callTy call_int1 rc_int (by rfl) T.z_int (by decide +kernel) (dao_cons (do_of_e (de_rest 0 (DL.hu_of hr))) dao_nil)))) (do_name 1))))
  (dss_one (ds_ret (de_var 2))))))

/-! ### _law_pick -/
abbrev st__law_pick : Stmt := top 25
abbrev N__law_pick : List Str := ["draw", "some"]
theorem sc__law_pick : FnScope N__law_pick ["draw", "some"] (defScope st__law_pick) := ⟨rfl, rfl, rfl, by decide +kernel, rfl, by decide +kernel, by decide +kernel⟩
def sem__law_pick (a : Ad) : DTS :=
  (dRet (dIx (dB 1) (dO (dFn (sp__law_take a) (dCons (dVar 0) (dCons (dClean (dBlt rdLen (dConsO (dB 1) dNilO))) dNil))))))
theorem body__law_pick {P : Program} {w : World} {K : PySem.W.Frag} {mg : Str → Option Value} {base : Heap} {a : Ad} {f : Addr} (T : Txt K mg a) (c__law_take : Cal P w K mg base 2 "_law_take" ["draw", "amount"] (sp__law_take a)) {cdv : Value} {A : Around} {outer : List Env} {s : Shared} {H : Hp} {E : XK} {W : Wd K} {H0 B : Hp} {Ed : EX} {hE : ∀ C H' B', Ed C → Grow W H0 B H' B' → E (.ref C) none H'}
    (hr : Room 2 (A.deeper (envOfC "_law_pick" (defScope st__law_pick) s.heap.objs.size f cdv))) : PSs (cxB P w K mg base N__law_pick "_law_pick" st__law_pick f cdv A outer s H E) (defBody st__law_pick) (upS (⟨W, H0, B, E, Ed, hE⟩ : Gx K) (sem__law_pick a)) :=
  have sc := sc__law_pick
  (dss_one (ds_ret (de_ix (DL.hu_of hr) (do_name 1) (do_of_e (de_cal (c__law_take.mono (by decide)) hr (pass_up (takes_of rfl rfl rfl rfl)) (da_cons (de_var 0) (da_cons (de_of_m (dm_callB call_len2 rc_len (by rfl) T.z_len (by decide +kernel) (dao_cons (do_name 1) dao_nil))) da_nil)))))))

/-! ### _law_table -/
abbrev st__law_table : Stmt := top 27
abbrev N__law_table : List Str := ["draw", "rooms", "colours", "room", "dense", "good", "way", "table", "row", "ink", "goals"]
theorem sc__law_table : FnScope N__law_table ["draw", "rooms", "colours"] (defScope st__law_table) := ⟨rfl, rfl, rfl, by decide +kernel, rfl, by decide +kernel, by decide +kernel⟩
def sem__law_table (a : Ad) : DTS :=
  (dSeq (dPar2 6 7 (dConsM (dIm (dFn (sp__law_take a) (dCons (dVar 0) (dCons (dC (.int 6)) dNil)))) (dConsM (dLst dNil) dNilM)))
  (dSeq (dFor (dRng1 (dCons (dVar 1) dNil)) (dgName 3)
  (dSeq (dSetM 8 (dLst dNil))
  (dSeq (dFor (dRng1 (dCons (dClean (dOpM rdAdd (dB 2) (dO (dC (.int 1))))) dNil)) (dgName 9)
  (dSeq (dSetM 10 (dLst (dCons (dFn (sp__law_take a) (dCons (dVar 0) (dCons (dVar 1) dNil))) dNil)))
  (dSeq (dIfS (dCmpT rdEq (dB 6) (dO (dC (.int 0))))
  (dSetM 10 (dLst (dCons (dClean (dOpM rdMod (dO (dClean (dOpM rdAdd (dB 3) (dO (dC (.int 1)))))) (dB 1))) (dCons (dClean (dOpM rdMod (dO (dClean (dOpM rdAdd (dB 3) (dO (dC (.int 1)))))) (dB 1))) (dCons (dC (.int 0)) dNil)))))
  dNext)
  (dSeq (dIfS (dCmpT rdEq (dB 6) (dO (dC (.int 1))))
  (dSetM 10 (dLst (dCons (dVar 3) (dCons (dClean (dBlt rdMin2 (dConsO (dO (dClean (dOpM rdAdd (dB 3) (dO (dC (.int 1)))))) (dConsO (dO (dClean (dOpM rdSub (dB 1) (dO (dC (.int 1)))))) dNilO)))) dNil))))
  dNext)
  (dSeq (dIfS (dCmpT rdEq (dB 6) (dO (dC (.int 2))))
  (dSetM 10 (dLst (dCons (dClean (dBlt rdMin2 (dConsO (dO (dClean (dOpM rdAdd (dO (dClean (dOpM rdAdd (dB 3) (dO (dC (.int 1)))))) (dO (dFn (sp__law_take a) (dCons (dVar 0) (dCons (dC (.int 2)) dNil))))))) (dConsO (dO (dClean (dOpM rdSub (dB 1) (dO (dC (.int 1)))))) dNilO)))) dNil)))
  dNext)
  (dSeq (dIfS (dCmpT rdEq (dB 6) (dO (dC (.int 3))))
  (dSetM 10 (dLst (dCons (dClean (dOpM rdMod (dO (dClean (dOpM rdAdd (dB 3) (dB 9)))) (dB 1))) (dCons (dFn (sp__law_take a) (dCons (dVar 0) (dCons (dVar 1) dNil))) (dCons (dClean (dOpM rdSub (dB 1) (dO (dC (.int 1))))) dNil)))))
  dNext)
  (dSeq (dIfS (dAnd (dCmpT rdEq (dB 6) (dO (dC (.int 4)))) (dCmpT rdEq (dB 3) (dO (dClean (dOpM rdSub (dB 1) (dO (dC (.int 1))))))))
  (dSetM 10 (dLst (dCons (dVar 3) dNil)))
  dNext)
  (dAppend 8 (dCons (dFn (sp__law_pick a) (dCons (dVar 0) (dCons (dVar 10) dNil))) dNil)))))))))
  (dAppend 7 (dCons (dClean (dBlt rdTuple (dConsO (dB 8) dNilO))) dNil)))))
  (dSeq (dSet 4 (dFn (sp__law_pick a) (dCons (dVar 0) (dCons (dClean (dLst (dCons (dC (.int 1)) (dCons (dC (.int 1)) (dCons (dC (.int 2)) (dCons (dC (.int 3)) dNil)))))) dNil))))
  (dSeq (dSet 5 (dClean (dBlt rdTuple (dConsO (dO (dClean (dLC [3] (dRng1 (dCons (dVar 1) dNil)) (dgName 3) dYes (dCmpE rdLt (dO (dFn (sp__law_take a) (dCons (dVar 0) (dCons (dC (.int 4)) dNil)))) (dB 4))))) dNilO))))
  (dRet (dTup (dCons (dClean (dBlt rdTuple (dConsO (dB 7) dNilO))) (dCons (dVar 5) dNil))))))))
theorem body__law_table {P : Program} {w : World} {K : PySem.W.Frag} {mg : Str → Option Value} {base : Heap} {a : Ad} {f : Addr} (T : Txt K mg a) (c__law_take : Cal P w K mg base 2 "_law_take" ["draw", "amount"] (sp__law_take a)) (c__law_pick : Cal P w K mg base 3 "_law_pick" ["draw", "some"] (sp__law_pick a)) {cdv : Value} {A : Around} {outer : List Env} {s : Shared} {H : Hp} {E : XK} {W : Wd K} {H0 B : Hp} {Ed : EX} {hE : ∀ C H' B', Ed C → Grow W H0 B H' B' → E (.ref C) none H'}
    (hr : Room 3 (A.deeper (envOfC "_law_table" (defScope st__law_table) s.heap.objs.size f cdv))) : PSs (cxB P w K mg base N__law_table "_law_table" st__law_table f cdv A outer s H E) (defBody st__law_table) (upS (⟨W, H0, B, E, Ed, hE⟩ : Gx K) (sem__law_table a)) :=
  have sc := sc__law_table
  (dss_cons (ds_par2 (i := 6) (j := 7) rfl sc.nd (dma_cons (dm_of_e (de_cal (c__law_take.mono (by decide)) hr (pass_up (takes_of rfl rfl rfl rfl)) (da_cons (de_var 0) (da_cons de_int da_nil)))) fun _ _ => (dma_cons (dm_lst da_nil) fun _ _ => dma_nil)))
  (dss_cons (ds_for (passes_of rfl) rfl (di_range1 (by rfl) T.z_range (da_cons (de_var 1) da_nil)) (dg_name (i := 3) sc.nd)
  (dss_cons (ds_setM (i := 8) sc.nd (dm_lst da_nil))
  (dss_cons (ds_for (passes_of rfl) rfl (di_range1 (by rfl) T.z_range (da_cons (de_of_m (dm_op op_add5 r2_add (do_name 2) (do_of_e de_int))) da_nil)) (dg_name (i := 9) sc.nd)
  (dss_cons (ds_setM (i := 10) sc.nd (dm_lst (da_cons (de_cal (c__law_take.mono (by decide)) hr (pass_up (takes_of rfl rfl rfl rfl)) (da_cons (de_var 0) (da_cons (de_var 1) da_nil))) da_nil)))
  (dss_cons (ds_if (dt_cmp (op_eqD hr.units) r2_eq (do_name 6) (do_of_e de_int))
  (dss_one (ds_setM (i := 10) sc.nd (dm_lst (da_cons (de_of_m (dm_op op_mod r2_int (do_of_e (de_of_m (dm_op op_add5 r2_add (do_name 3) (do_of_e de_int)))) (do_name 1))) (da_cons (de_of_m (dm_op op_mod r2_int (do_of_e (de_of_m (dm_op op_add5 r2_add (do_name 3) (do_of_e de_int)))) (do_name 1))) (da_cons de_int da_nil))))))
  dss_nil)
  (dss_cons (ds_if (dt_cmp (op_eqD hr.units) r2_eq (do_name 6) (do_of_e de_int))
  (dss_one (ds_setM (i := 10) sc.nd (dm_lst (da_cons (de_var 3) (da_cons (de_of_m (dm_callB (call_min2 rfl) rc_min2 (by rfl) T.z_min (by decide +kernel) (dao_cons (do_of_e (de_of_m (dm_op op_add5 r2_add (do_name 3) (do_of_e de_int)))) (dao_cons (do_of_e (de_of_m (dm_op op_sub r2_int0 (do_name 1) (do_of_e de_int)))) dao_nil)))) da_nil)))))
  dss_nil)
  (dss_cons (ds_if (dt_cmp (op_eqD hr.units) r2_eq (do_name 6) (do_of_e de_int))
  (dss_one (ds_setM (i := 10) sc.nd (dm_lst (da_cons (de_of_m (dm_callB (call_min2 rfl) rc_min2 (by rfl) T.z_min (by decide +kernel) (dao_cons (do_of_e (de_of_m (dm_op op_add5 r2_add (do_of_e (de_of_m (dm_op op_add5 r2_add (do_name 3) (do_of_e de_int)))) (do_of_e (de_cal (c__law_take.mono (by decide)) hr (pass_up (takes_of rfl rfl rfl rfl)) (da_cons (de_var 0) (da_cons de_int da_nil))))))) (dao_cons (do_of_e (de_of_m (dm_op op_sub r2_int0 (do_name 1) (do_of_e de_int)))) dao_nil)))) da_nil))))
  dss_nil)
  (dss_cons (ds_if (dt_cmp (op_eqD hr.units) r2_eq (do_name 6) (do_of_e de_int))
  (dss_one (ds_setM (i := 10) sc.nd (dm_lst (da_cons (de_of_m (dm_op op_mod r2_int (do_of_e (de_of_m (dm_op op_add5 r2_add (do_name 3) (do_name 9)))) (do_name 1))) (da_cons (de_cal (c__law_take.mono (by decide)) hr (pass_up (takes_of rfl rfl rfl rfl)) (da_cons (de_var 0) (da_cons (de_var 1) da_nil))) (da_cons (de_of_m (dm_op op_sub r2_int0 (do_name 1) (do_of_e de_int))) da_nil))))))
  dss_nil)
  (dss_cons (ds_if (PW.pt (dw_and (dt_cmp (op_eqD hr.units) r2_eq (do_name 6) (do_of_e de_int)) (dw_and1 (dt_cmp (op_eqD hr.units) r2_eq (do_name 3) (do_of_e (de_of_m (dm_op op_sub r2_int0 (do_name 1) (do_of_e de_int))))))))
  (dss_one (ds_setM (i := 10) sc.nd (dm_lst (da_cons (de_var 3) da_nil))))
  dss_nil)
  (dss_one (ds_append 8 (da_cons (de_cal (c__law_pick.mono (by decide)) hr (pass_up (takes_of rfl rfl rfl rfl)) (da_cons (de_var 0) (da_cons (de_var 10) da_nil))) da_nil))))))))))
  (dss_one (ds_append 7 (da_cons (de_of_m (dm_callTy call_tuple_of rc_tuple (by rfl) T.z_tuple (by decide +kernel) (dao_cons (do_name 8) dao_nil))) da_nil))))))
  (dss_cons (ds_set (i := 4) sc.nd (de_cal (c__law_pick.mono (by decide)) hr (pass_up (takes_of rfl rfl rfl rfl)) (da_cons (de_var 0) (da_cons (de_of_m (dm_lst (da_cons de_int (da_cons de_int (da_cons de_int (da_cons de_int da_nil)))))) da_nil))))
  (dss_cons (ds_set (i := 5) sc.nd (de_of_m (dm_callTy call_tuple_of rc_tuple (by rfl) T.z_tuple (by decide +kernel) (dao_cons (do_of_e (de_of_m (dm_lc (own := [("room", 3)]) rfl sc.nd (di_range1 (by rfl) T.z_range (da_cons (de_var 1) da_nil)) (blkOk_by (by rfl)) (fun _ _ _ _ _ _ _ => (dg_name (i := 3) sc.nd)) (fun _ _ _ _ _ _ _ => dts_nil) (fun _ _ _ _ _ _ _ => (de_cmp op_lt r2_cmp0 (do_of_e (de_cal (c__law_take.mono (by decide)) hr pass_no (da_cons (de_var 0) (da_cons de_int da_nil)))) (do_name 4)))))) dao_nil))))
  (dss_one (ds_ret (de_tup (da_cons (de_of_m (dm_callTy call_tuple_of rc_tuple (by rfl) T.z_tuple (by decide +kernel) (dao_cons (do_name 7) dao_nil))) (da_cons (de_var 5) da_nil)))))))))

/-! ### _law_plan -/
abbrev st__law_plan : Stmt := top 28
abbrev N__law_plan : List Str := ["draw", "most", "colours", "rooms"]
theorem sc__law_plan : FnScope N__law_plan ["draw", "most"] (defScope st__law_plan) := ⟨rfl, rfl, rfl, by decide +kernel, rfl, by decide +kernel, by decide +kernel⟩
def sem__law_plan (a : Ad) : DTS :=
  (dSeq (dSetM 2 (dOpM rdAdd (dO (dC (.int 1))) (dO (dFn (sp__law_take a) (dCons (dVar 0) (dCons (dC (.int 4)) dNil))))))
  (dSeq (dSet 3 (dFn (sp__law_pick a) (dCons (dVar 0) (dCons (dClean (dLst (dCons (dC (.int 1)) (dCons (dC (.int 2)) (dCons (dC (.int 3)) (dCons (dC (.int 4)) (dCons (dC (.int 5)) (dCons (dClean (dOpM rdAdd (dO (dC (.int 1))) (dO (dFn (sp__law_take a) (dCons (dVar 0) (dCons (dVar 1) dNil)))))) (dCons (dVar 1) dNil))))))))) dNil))))
  (dRet (dClean (dOpM rdAdd (dO (dTup (dCons (dVar 2) dNil))) (dO (dFn (sp__law_table a) (dCons (dVar 0) (dCons (dVar 3) (dCons (dVar 2) dNil))))))))))
theorem body__law_plan {P : Program} {w : World} {K : PySem.W.Frag} {mg : Str → Option Value} {base : Heap} {a : Ad} {f : Addr} (T : Txt K mg a) (c__law_take : Cal P w K mg base 2 "_law_take" ["draw", "amount"] (sp__law_take a)) (c__law_pick : Cal P w K mg base 3 "_law_pick" ["draw", "some"] (sp__law_pick a)) (c__law_table : Cal P w K mg base 4 "_law_table" ["draw", "rooms", "colours"] (sp__law_table a)) {cdv : Value} {A : Around} {outer : List Env} {s : Shared} {H : Hp} {E : XK} {W : Wd K} {H0 B : Hp} {Ed : EX} {hE : ∀ C H' B', Ed C → Grow W H0 B H' B' → E (.ref C) none H'}
    (hr : Room 4 (A.deeper (envOfC "_law_plan" (defScope st__law_plan) s.heap.objs.size f cdv))) : PSs (cxB P w K mg base N__law_plan "_law_plan" st__law_plan f cdv A outer s H E) (defBody st__law_plan) (upS (⟨W, H0, B, E, Ed, hE⟩ : Gx K) (sem__law_plan a)) :=
  have sc := sc__law_plan
  (dss_cons (ds_setM (i := 2) sc.nd (dm_op op_add5 r2_add (do_of_e de_int) (do_of_e (de_cal (c__law_take.mono (by decide)) hr (pass_up (takes_of rfl rfl rfl rfl)) (da_cons (de_var 0) (da_cons de_int da_nil))))))
  (dss_cons (ds_set (i := 3) sc.nd (de_cal (c__law_pick.mono (by decide)) hr (pass_up (takes_of rfl rfl rfl rfl)) (da_cons (de_var 0) (da_cons (de_of_m (dm_lst (da_cons de_int (da_cons de_int (da_cons de_int (da_cons de_int (da_cons de_int (da_cons (de_of_m (dm_op op_add5 r2_add (do_of_e de_int) (do_of_e (de_cal (c__law_take.mono (by decide)) hr (pass_up (takes_of rfl rfl rfl rfl)) (da_cons (de_var 0) (da_cons (de_var 1) da_nil)))))) (da_cons (de_var 1) da_nil))))))))) da_nil))))
  (dss_one (ds_ret (de_of_m (dm_op op_add5 r2_add (do_of_e (de_tup (da_cons (de_var 2) da_nil))) (do_of_e (de_cal (c__law_table.mono (by decide)) hr (pass_up (takes_of rfl rfl rfl rfl)) (da_cons (de_var 0) (da_cons (de_var 3) (da_cons (de_var 2) da_nil)))))))))))

/-! ### _law_told_sizes -/
abbrev st__law_told_sizes : Stmt := top 29
abbrev N__law_told_sizes : List Str := ["plan", "most", "crowd", "met", "told_here", "room"]
theorem sc__law_told_sizes : FnScope N__law_told_sizes ["plan", "most"] (defScope st__law_told_sizes) := ⟨rfl, rfl, rfl, by decide +kernel, rfl, by decide +kernel, by decide +kernel⟩
def sem__law_told_sizes (a : Ad) : DTS :=
  (dSeq (dPar3 2 3 4 (dConsM (dIm (dTup (dCons (dC (.int 0)) dNil))) (dConsM dDict0 (dConsM (dLst dNil) dNilM))))
  (dSeq (dWhile (dCmpT rdNotIn (dB 2) (dB 3))
  (dSeq (dIfS (dCmpT rdGt (dO (dClean (dBlt rdLen (dConsO (dB 4) dNilO)))) (dB 1))
  (dRet (dC .non))
  dNext)
  (dSeq (dSetIx 3 (dClean (dBlt rdLen (dConsO (dB 4) dNilO))) (dVar 2))
  (dSeq (dAppend 4 (dCons (dCmpE rdNe (dO (dClean (dLC [5] (dSeqI (dVar 2)) (dgName 5) (dTst (dIx (dO (dIx (dB 0) (dO (dC (.int 2))))) (dB 5))) (dVar 5)))) (dO (dClean (dLst dNil)))) dNil))
  (dSet 2 (dClean (dBlt rdTuple (dConsO (dO (dClean (dBlt rdSortSet (dConsO (dO (dClean (dBlt rdSumL (dConsO (dO (dClean (dLC [5] (dSeqI (dVar 2)) (dgName 5) dYes (dClean (dBlt rdList (dConsO (dO (dIx (dO (dIx (dB 0) (dO (dC (.int 1))))) (dB 5))) dNilO)))))) (dConsO (dO (dClean (dLst dNil))) dNilO))))) dNilO)))) dNilO))))))))
  (dRet (dTup (dCons (dClean (dSl (dB 4) dNoPart (dPart (dO (dIx (dB 3) (dB 2)))))) (dCons (dClean (dSl (dB 4) (dPart (dO (dIx (dB 3) (dB 2)))) dNoPart)) dNil))))))
theorem body__law_told_sizes {P : Program} {w : World} {K : PySem.W.Frag} {mg : Str → Option Value} {base : Heap} {a : Ad} {f : Addr} (T : Txt K mg a) {cdv : Value} {A : Around} {outer : List Env} {s : Shared} {H : Hp} {E : XK} {W : Wd K} {H0 B : Hp} {Ed : EX} {hE : ∀ C H' B', Ed C → Grow W H0 B H' B' → E (.ref C) none H'}
    (hr : Room 0 (A.deeper (envOfC "_law_told_sizes" (defScope st__law_told_sizes) s.heap.objs.size f cdv))) : PSs (cxB P w K mg base N__law_told_sizes "_law_told_sizes" st__law_told_sizes f cdv A outer s H E) (defBody st__law_told_sizes) (upS (⟨W, H0, B, E, Ed, hE⟩ : Gx K) (sem__law_told_sizes a)) :=
  have sc := sc__law_told_sizes
  (dss_cons (ds_par3 (i := 2) (j := 3) (l := 4) rfl sc.nd (dma_cons (dm_of_e (de_tup (da_cons de_int da_nil))) fun _ _ => (dma_cons dm_dict0 fun _ _ => (dma_cons (dm_lst da_nil) fun _ _ => dma_nil))))
  (dss_cons (ds_while (passes_of rfl) (dt_cmp (op_notIn3 (hu65 hr)) r2_notIn (do_name 2) (do_name 3))
  (dss_cons (ds_if (dt_cmp op_gt r2_cmp0 (do_of_e (de_of_m (dm_callB call_len2 rc_len (by rfl) T.z_len (by decide +kernel) (dao_cons (do_name 4) dao_nil)))) (do_name 1))
  (dss_one (ds_ret de_non))
  dss_nil)
  (dss_cons (ds_setIx 3 (DL.hu_of hr) (de_of_m (dm_callB call_len2 rc_len (by rfl) T.z_len (by decide +kernel) (dao_cons (do_name 4) dao_nil))) (de_var 2))
  (dss_cons (ds_append 4 (da_cons (de_cmp (op_neD hr.units) r2_ne (do_of_e (de_of_m (dm_lc (own := [("room", 5)]) rfl sc.nd (di_seq (de_var 2)) (blkOk_by (by rfl)) (fun _ _ _ _ _ _ _ => (dg_name (i := 5) sc.nd)) (fun _ _ _ _ _ _ _ => (dts_one (dt_val (de_ix (DL.hu_of hr) (do_of_e (de_ix (DL.hu_of hr) (do_name 0) (do_of_e de_int))) (do_name 5))))) (fun _ _ _ _ _ _ _ => (de_var 5))))) (do_of_e (de_of_m (dm_lst da_nil)))) da_nil))
  (dss_one (ds_set (i := 2) sc.nd (de_of_m (dm_callTy call_tuple_of rc_tuple (by rfl) T.z_tuple (by decide +kernel) (dao_cons (do_of_e (de_of_m (dm_sortset rfl T.z_sorted T.z_set (dao_cons (do_of_e (de_of_m (dm_callB (cr_sumL rfl) rc_sumL (by rfl) T.z_sum (by decide +kernel) (dao_cons (do_of_e (de_of_m (dm_lc (own := [("room", 5)]) rfl sc.nd (di_seq (de_var 2)) (blkOk_by (by rfl)) (fun _ _ _ _ _ _ _ => (dg_name (i := 5) sc.nd)) (fun _ _ _ _ _ _ _ => dts_nil) (fun _ _ _ _ _ _ _ => (de_of_m (dm_callTy call_list_of rc_list (by rfl) T.z_list (by decide +kernel) (dao_cons (do_of_e (de_ix (DL.hu_of hr) (do_of_e (de_ix (DL.hu_of hr) (do_name 0) (do_of_e de_int))) (do_name 5))) dao_nil))))))) (dao_cons (do_of_e (de_of_m (dm_lst da_nil))) dao_nil))))) dao_nil)))) dao_nil)))))))))
  (dss_one (ds_ret (de_tup (da_cons (de_of_m (dm_slice (do_name 4) dp_none (dp_some (do_of_e (de_ix (DL.hu_of hr) (do_name 3) (do_name 2)))))) (da_cons (de_of_m (dm_slice (do_name 4) (dp_some (do_of_e (de_ix (DL.hu_of hr) (do_name 3) (do_name 2)))) dp_none)) da_nil)))))))

/-! ### _law_shortest -/
abbrev st__law_shortest : Stmt := top 30
abbrev N__law_shortest : List Str := ["ahead", "ring", "sizes_of_ring", "size"]
theorem sc__law_shortest : FnScope N__law_shortest ["ahead", "ring"] (defScope st__law_shortest) := ⟨rfl, rfl, rfl, by decide +kernel, rfl, by decide +kernel, by decide +kernel⟩
def sem__law_shortest (a : Ad) : DTS :=
  (dSeq (dSetM 2 (dLC [3] (dRng2 (dCons (dC (.int 1)) (dCons (dClean (dOpM rdAdd (dO (dClean (dBlt rdLen (dConsO (dB 1) dNilO)))) (dO (dC (.int 1))))) dNil))) (dgName 3) (dCmpT rdEq (dO (dClean (dOpM rdMod (dO (dClean (dBlt rdLen (dConsO (dB 1) dNilO)))) (dB 3)))) (dO (dC (.int 0)))) (dVar 3)))
  (dSeq (dSet 1 (dIx (dO (dClean (dLC [3] (dSeqI (dVar 2)) (dgName 3) (dCmpT rdEq (dO (dClean (dOpM rdMul (dO (dClean (dSl (dB 1) dNoPart (dPart (dB 3))))) (dO (dClean (dOpM rdDiv (dO (dClean (dBlt rdLen (dConsO (dB 1) dNilO)))) (dB 3))))))) (dB 1)) (dClean (dSl (dB 1) dNoPart (dPart (dB 3))))))) (dO (dC (.int 0)))))
  (dSeq (dWhile (dAnd (dCmpT rdNe (dB 0) (dO (dClean (dLst dNil)))) (dCmpT rdEq (dO (dIx (dB 0) (dO (dNeg (dO (dC (.int 1))))))) (dO (dIx (dB 1) (dO (dNeg (dO (dC (.int 1)))))))))
  (dAsg (dTup (dCons (dClean (dSl (dB 0) dNoPart (dPart (dO (dNeg (dO (dC (.int 1)))))))) (dCons (dClean (dOpM rdAdd (dO (dClean (dSl (dB 1) (dPart (dO (dNeg (dO (dC (.int 1)))))) dNoPart))) (dO (dClean (dSl (dB 1) dNoPart (dPart (dO (dNeg (dO (dC (.int 1))))))))))) dNil))) (dgTup 2 (dgCons (dgName 0) (dgCons (dgName 1) dgNil)))))
  (dRet (dTup (dCons (dClean (dBlt rdTuple (dConsO (dB 0) dNilO))) (dCons (dClean (dBlt rdTuple (dConsO (dB 1) dNilO))) dNil)))))))
theorem body__law_shortest {P : Program} {w : World} {K : PySem.W.Frag} {mg : Str → Option Value} {base : Heap} {a : Ad} {f : Addr} (T : Txt K mg a) {cdv : Value} {A : Around} {outer : List Env} {s : Shared} {H : Hp} {E : XK} {W : Wd K} {H0 B : Hp} {Ed : EX} {hE : ∀ C H' B', Ed C → Grow W H0 B H' B' → E (.ref C) none H'}
    (hr : Room 0 (A.deeper (envOfC "_law_shortest" (defScope st__law_shortest) s.heap.objs.size f cdv))) : PSs (cxB P w K mg base N__law_shortest "_law_shortest" st__law_shortest f cdv A outer s H E) (defBody st__law_shortest) (upS (⟨W, H0, B, E, Ed, hE⟩ : Gx K) (sem__law_shortest a)) :=
  have sc := sc__law_shortest
  (dss_cons (ds_setLC (i := 2) (own := [("size", 3)]) rfl sc.nd (di_range2 (by rfl) T.z_range (da_cons de_int (da_cons (de_of_m (dm_op op_add5 r2_add (do_of_e (de_of_m (dm_callB call_len2 rc_len (by rfl) T.z_len (by decide +kernel) (dao_cons (do_name 1) dao_nil)))) (do_of_e de_int))) da_nil))) (blkOk_by (by rfl)) (fun _ _ _ _ _ _ _ => (dg_name (i := 3) sc.nd)) (fun _ _ _ _ _ _ _ => (dts_one (dt_cmp (op_eqD hr.units) r2_eq (do_of_e (de_of_m (dm_op op_mod r2_int (do_of_e (de_of_m (dm_callB call_len2 rc_len (by rfl) T.z_len (by decide +kernel) (dao_cons (do_name 1) dao_nil)))) (do_name 3)))) (do_of_e de_int)))) (fun _ _ _ _ _ _ _ => (de_var 3)) (sw_true rfl rfl rfl (by decide +kernel)))
  (dss_cons (ds_set (i := 1) sc.nd (de_ix (DL.hu_of hr) (do_of_e (de_of_m (dm_lc (own := [("size", 3)]) rfl sc.nd (di_seq (de_var 2)) (blkOk_by (by rfl)) (fun _ _ _ _ _ _ _ => (dg_name (i := 3) sc.nd)) (fun _ _ _ _ _ _ _ => (dts_one (dt_cmp (op_eqD hr.units) r2_eq (do_of_e (de_of_m (dm_op op_mul3 r2_mul (do_of_e (de_of_m (dm_slice (do_name 1) dp_none (dp_some (do_name 3))))) (do_of_e (de_of_m (dm_op op_fdiv r2_int (do_of_e (de_of_m (dm_callB call_len2 rc_len (by rfl) T.z_len (by decide +kernel) (dao_cons (do_name 1) dao_nil)))) (do_name 3))))))) (do_name 1)))) (fun _ _ _ _ _ _ _ => (de_of_m (dm_slice (do_name 1) dp_none (dp_some (do_name 3)))))))) (do_of_e de_int)))
  (dss_cons (ds_while (passes_of rfl) (PW.pt (dw_and (dt_cmp (op_neD hr.units) r2_ne (do_name 0) (do_of_e (de_of_m (dm_lst da_nil)))) (dw_and1 (dt_cmp (op_eqD hr.units) r2_eq (do_of_e (de_ix (DL.hu_of hr) (do_name 0) (do_of_e (de_neg (do_of_e de_int))))) (do_of_e (de_ix (DL.hu_of hr) (do_name 1) (do_of_e (de_neg (do_of_e de_int)))))))))
  (dss_one (ds_asg (de_tup (da_cons (de_of_m (dm_slice (do_name 0) dp_none (dp_some (do_of_e (de_neg (do_of_e de_int)))))) (da_cons (de_of_m (dm_op op_add5 r2_add (do_of_e (de_of_m (dm_slice (do_name 1) (dp_some (do_of_e (de_neg (do_of_e de_int)))) dp_none))) (do_of_e (de_of_m (dm_slice (do_name 1) dp_none (dp_some (do_of_e (de_neg (do_of_e de_int))))))))) da_nil))) (dg_tup rfl (dgs_cons (dg_name (i := 0) sc.nd) (dgs_cons (dg_name (i := 1) sc.nd) dgs_nil))))))
  (dss_one (ds_ret (de_tup (da_cons (de_of_m (dm_callTy call_tuple_of rc_tuple (by rfl) T.z_tuple (by decide +kernel) (dao_cons (do_name 0) dao_nil))) (da_cons (de_of_m (dm_callTy call_tuple_of rc_tuple (by rfl) T.z_tuple (by decide +kernel) (dao_cons (do_name 1) dao_nil))) da_nil))))))))

/- used: ['int', 'len', 'list', 'min', 'range', 'set', 'sorted', 'sum', 'tuple'] {'_law_mixed': 1, '_law_take': 2, '_law_pick': 3, '_law_table': 4, '_law_plan': 5, '_law_told_sizes': 1, '_law_shortest': 1} -/
end DL
-- K72j
set_option Elab.async false
set_option linter.all false
set_option maxRecDepth 100000
set_option maxHeartbeats 2000000
set_option autoImplicit false
namespace DL
open PySem PySem.Spec L2
open PyProof.Rows hiding St
theorem run__law_take (a : Ad) (ds : List D) (Q : D → Prop) (E : EX) (h : sp__law_take a ds Q E) : ds.length = 2 ∧ sem__law_take a { nx := fun _ => Q .non, rt := Q } (startD 3 ds) E := by
  obtain ⟨n, rfl, h1, h2, hq⟩ := h
  refine ⟨rfl, ?_⟩
  unfold sem__law_take
  simp
  have go : ∀ m : Int, Q (.int (m % n)) := fun m => hq _ (Int.emod_nonneg _ (by omega)) (Int.emod_lt_of_pos _ h1)
  exact fun r => ⟨h1, fun r2 => ⟨⟨h1, by omega⟩, go r⟩⟩
theorem run__law_pick (a : Ad) (ds : List D) (Q : D → Prop) (E : EX) (h : sp__law_pick a ds Q E) : ds.length = 2 ∧ sem__law_pick a { nx := fun _ => Q .non, rt := Q } (startD 2 ds) E := by
  obtain ⟨xs, rfl, h1, h2, hq⟩ := h
  refine ⟨rfl, ?_⟩
  unfold sem__law_pick
  simp
  refine ⟨xs.length, rfl, by omega, by omega, fun r r1 r2 => ?_⟩
  obtain ⟨k, rfl⟩ := Int.eq_ofNat_of_zero_le r1
  have hk : k < xs.length := by omega
  simp [atI_nat]
  exact ⟨_, List.getElem?_eq_getElem hk, hq _ (List.getElem_mem hk)⟩
theorem run__law_mixed (a : Ad) (ds : List D) (Q : D → Prop) (E : EX) (h : sp__law_mixed a ds Q E) : ds.length = 1 ∧ sem__law_mixed a { nx := fun _ => Q .non, rt := Q } (startD 6 ds) E := by
  obtain ⟨rfl, hq⟩ := h
  refine ⟨rfl, ?_⟩
  unfold sem__law_mixed
  simp
  refine fun t => ⟨_, _, ⟨rfl, rfl⟩, by rw [sizeLine_eq]; omega, ?_⟩
  refine for_map (f := D.int) (xs := [2147483647, 2147483629, 2147483587]) (fun _ Δ => ∃ s1 f s4 s5, Δ = [.im .drw, s1, .im (.int t), .im (.int f), s4, s5]) ⟨_, _, _, _, rfl⟩ ?_ ?_
  · rintro i x Δ hi ⟨s1, f, s4, s5, rfl⟩
    have hx : 0 < x ∧ x < 2147483648 := by
      have := List.mem_of_getElem? hi
      simp at this
      rcases this with rfl | rfl | rfl <;> omega
    simp
    refine ⟨.inr ⟨by omega, by omega⟩, ⟨by omega, by omega⟩, hx.1, fun cs => ?_⟩
    refine for_map (fun _ Δ => ∃ b s5, 0 ≤ b ∧ b < x ∧ Δ = [.im .drw, .im (.int x), .im (.int t), .im (.int f), .im (.int b), s5]) ⟨_, _, Int.emod_nonneg _ (by omega), Int.emod_lt_of_pos _ hx.1, rfl⟩ ?_ ?_
    · rintro j c Δ hj ⟨b, s5, hb1, hb2, rfl⟩
      simp
      exact ⟨.inr ⟨by omega, by omega⟩, hx.1, Int.emod_nonneg _ (by omega), Int.emod_lt_of_pos _ hx.1⟩
    · rintro Δ ⟨b, s5, hb1, hb2, rfl⟩
      simp
      exact ⟨.inr ⟨by omega, by omega⟩, ⟨by omega, by omega, by omega⟩, hx.1⟩
  · rintro Δ ⟨s1, f, s4, s5, rfl⟩
    simp
    exact hq f
end DL
-- K72k
set_option Elab.async false
set_option linter.all false
set_option maxRecDepth 100000
set_option maxHeartbeats 2000000
set_option autoImplicit false
namespace DL
open PySem PySem.Spec L2
open PyProof.Rows hiding St
theorem seqN {a b : DTS} {N : DEnds} {Δ : List Sl} {E : EX} (h : ∀ M : DEnds, (∀ Δ', b N Δ' E → M.nx Δ') → M.rt = N.rt → M.bk = N.bk → M.ct = N.ct → a M Δ E) : dSeq a b N Δ E := h { N with nx := fun Δ' => b N Δ' E } (fun _ h => h) rfl rfl rfl
theorem ifN {c : DTT} {t : DTS} {N : DEnds} {Δ : List Sl} {E : EX} {b : Bool} (hc : ∀ Q : Bool → List Sl → Prop, Q b Δ → c Δ Q E) (ht : b = true → t N Δ E) (hn : b = false → N.nx Δ) : dIfS c t dNext N Δ E := hc _ (by
  cases b with
  | true => exact ht rfl
  | false => exact hn rfl)
theorem run__law_table (a : Ad) (ds : List D) (Q : D → Prop) (E : EX) (h : sp__law_table a ds Q E) : ds.length = 3 ∧ sem__law_table a { nx := fun _ => Q .non, rt := Q } (startD N__law_table.length ds) E := by
  obtain ⟨n, c, rfl, h1, h2, h3, hq⟩ := h
  refine ⟨rfl, ?_⟩
  have z1 : 1 ≤ sizeLine := by rw [sizeLine_eq]; omega
  have z2 : 2 ≤ sizeLine := by rw [sizeLine_eq]; omega
  have z3 : 3 ≤ sizeLine := by rw [sizeLine_eq]; omega
  have z4 : 4 ≤ sizeLine := by rw [sizeLine_eq]; omega
  unfold sem__law_table sp__law_take
  simp
  intro w w1 w2
  refine ⟨_, _, ⟨rfl, rfl⟩, by omega, ?_⟩
  refine for_range (fun i Δ => ∃ s3 s4 s5 s8 s9 s10 T', Δ = [.im .drw, .im (.int n), .im (.int c), s3, s4, s5, .im (.int w), .ol (T'.map rowD), s8, s9, s10] ∧ T'.length = i ∧ ∀ r ∈ T', r.length = c + 1 ∧ ∀ k ∈ r, k < n) ⟨_, _, _, _, _, _, [], rfl, rfl, fun r hr => by simp at hr⟩ ?_ ?_
  · rintro i Δ hi ⟨s3, s4, s5, s8, s9, s10, T', rfl, hT1, hT2⟩
    simp
    refine ⟨by omega, by omega, ?_⟩
    refine for_range (fun j Δ => ∃ s9 s10 row, Δ = [.im .drw, .im (.int n), .im (.int c), .im (.int i), s4, s5, .im (.int w), .ol (T'.map rowD), .ol (row.map intD), s9, s10] ∧ row.length = j ∧ ∀ k ∈ row, k < n) ⟨_, _, [], rfl, rfl, fun k hk => by simp at hk⟩ ?_ ?_
    · rintro j Δ hj ⟨s9, s10, row, rfl, hr1, hr2⟩
      have fin : ∀ (z : Int) (s9 s10 : Sl), 0 ≤ z → z < n → ∃ (s9' s10' : Sl) (row' : List Nat), [Sl.im .drw, .im (.int n), .im (.int c), .im (.int i), s4, s5, .im (.int w), .ol (T'.map rowD), .ol (row.map intD ++ [.int z]), s9, s10] = [.im .drw, .im (.int n), .im (.int c), .im (.int i), s4, s5, .im (.int w), .ol (T'.map rowD), .ol (row'.map intD), s9', s10'] ∧ row'.length = j + 1 ∧ ∀ k ∈ row', k < n := fun z s9 s10 a1 a2 => by
        obtain ⟨k, rfl⟩ := Int.eq_ofNat_of_zero_le a1
        refine ⟨s9, s10, row ++ [k], by simp [intD], by simp [hr1], fun m hm => ?_⟩
        rcases List.mem_append.mp hm with hm | hm
        · exact hr2 m hm
        · simp at hm; omega
      have rsz : row.length < sizeLine := by rw [sizeLine_eq]; omega
      have em : ∀ x : Int, 0 ≤ x % (n : Int) ∧ x % (n : Int) < n := fun x => ⟨Int.emod_nonneg _ (by omega), Int.emod_lt_of_pos _ (by omega)⟩
      have tk : ∀ (Q : D → Prop) (E : EX) (m : Int), 0 < m → m < 1073741824 → (∀ r : Int, 0 ≤ r → r < m → Q (.int r)) → sp__law_take a [.drw, .int m] Q E := fun Q E m a1 a2 a3 => ⟨m, rfl, a1, by omega, a3⟩
      -- goals: some of the rooms
      let St : List Int → List Sl := fun gs => [.im .drw, .im (.int n), .im (.int c), .im (.int i), s4, s5, .im (.int w), .ol (T'.map rowD), .ol (row.map intD), .im (.int j), .ol (gs.map D.int)]
      have wq : ∀ (m : Int) (Q : Bool → List Sl → Prop) (gs : List Int), Q (decide (w = m)) (St gs) → dCmpT rdEq (dB 6) (dO (dC (.int m))) (St gs) Q E := fun m Q gs q => by simp [St]; exact q
      show dSeq _ _ _ [.im .drw, .im (.int n), .im (.int c), .im (.int i), s4, s5, .im (.int w), .ol (T'.map rowD), .ol (row.map intD), .im (.int (0 + j)), s10] E
      rw [show (0 : Int) + (j : Int) = j by omega]
      refine seqN fun M1 m1 _ _ _ => ?_
      simp [z1]
      refine ⟨by omega, by omega, fun r0 a1 a2 => m1 _ ?_⟩
      have g0 : ∀ z ∈ [r0], 0 ≤ z ∧ z < (n : Int) := by simpa using ⟨a1, a2⟩
      show dSeq _ _ _ (St [r0]) E
      -- one after the other
      have step : ∀ (m : Int) (t : DTM) (M : DEnds) (gs : List Int), (∀ z ∈ gs, 0 ≤ z ∧ z < (n : Int)) → gs ≠ [] → gs.length ≤ 3 → (∀ Q : Sl → List Sl → Prop, (∀ gs' : List Int, (∀ z ∈ gs', 0 ≤ z ∧ z < (n : Int)) → gs' ≠ [] → gs'.length ≤ 3 → Q (.ol (gs'.map D.int)) (St gs)) → t (St gs) Q E) →
          (∀ gs' : List Int, (∀ z ∈ gs', 0 ≤ z ∧ z < (n : Int)) → gs' ≠ [] → gs'.length ≤ 3 → M.nx (St gs')) → dIfS (dCmpT rdEq (dB 6) (dO (dC (.int m)))) (dSetM 10 t) dNext M (St gs) E := fun m t M gs h1 h2 h3 ht hM => by
        refine ifN (fun Q q => wq m Q gs q) (fun _ => ?_) fun _ => hM gs h1 h2 h3
        rw [sDSetM]
        exact ht _ fun gs' b1 b2 b3 => ⟨by simp [St], by simpa [St] using hM gs' b1 b2 b3⟩
      refine seqN fun M2 m2 _ _ _ => step 0 _ M2 [r0] g0 (by simp) (by simp) (fun Q q => ?_) fun gs2 b1 b2 b3 => m2 _ ?_
      · simp [z3, St]
        exact ⟨by omega, q [((i : Int) + 1) % n, ((i : Int) + 1) % n, 0] (by intro z hz; simp at hz; rcases hz with rfl | rfl; exact em _; omega) (by simp) (by simp)⟩
      refine seqN fun M3 m3 _ _ _ => step 1 _ M3 gs2 b1 b2 b3 (fun Q q => ?_) fun gs3 c1 c2 c3 => m3 _ ?_
      · simp [z2, St]
        exact q [(i : Int), if (n : Int) - 1 < i + 1 then (n : Int) - 1 else i + 1] (by intro z hz; simp at hz; rcases hz with rfl | rfl; omega; split <;> omega) (by simp) (by simp)
      refine seqN fun M4 m4 _ _ _ => step 2 _ M4 gs3 c1 c2 c3 (fun Q q => ?_) fun gs4 d1 d2 d3 => m4 _ ?_
      · simp [z1, St]
        exact fun r r1 r2 => q [if (n : Int) - 1 < i + 1 + r then (n : Int) - 1 else i + 1 + r] (by intro z hz; simp at hz; subst hz; split <;> omega) (by simp) (by simp)
      refine seqN fun M5 m5 _ _ _ => step 3 _ M5 gs4 d1 d2 d3 (fun Q q => ?_) fun gs5 e1 e2 e3 => m5 _ ?_
      · simp [z3, St]
        refine ⟨by omega, by omega, fun r r1 r2 => ?_⟩
        exact q [((i : Int) + j) % n, r, (n : Int) - 1] (by intro z hz; simp at hz; rcases hz with rfl | rfl | rfl; exact em _; omega; omega) (by simp) (by simp)
      have last : ∀ (M : DEnds) (gs : List Int), (∀ z ∈ gs, 0 ≤ z ∧ z < (n : Int)) → gs ≠ [] → gs.length ≤ 3 → (∀ (z : Int) (s10 : Sl), 0 ≤ z → z < n → M.nx [.im .drw, .im (.int n), .im (.int c), .im (.int i), s4, s5, .im (.int w), .ol (T'.map rowD), .ol (row.map intD ++ [.int z]), .im (.int j), s10]) → dAppend 8 (dCons (DL.dFn (sp__law_pick a) (dCons (dVar 0) (dCons (dVar 10) dNil))) dNil) M (St gs) E := fun M gs h1 h2 h3 hM => by
        simp [St, sp__law_pick, rsz]
        refine ⟨List.length_pos_iff.mpr h2, by omega, fun z hz => hM z _ (h1 z hz).1 (h1 z hz).2⟩
      refine seqN fun M6 m6 _ _ _ => ifN (b := decide (w = 4) && decide (i = n - 1)) (fun Q q => ?_) (fun _ => ?_) fun _ => m6 _ ?_
      · simp [St]
        by_cases h4 : w = 4
        · simp [h4] at q ⊢
          have e : decide ((i : Int) = (n : Int) - 1) = decide (i = n - 1) := decide_eq_decide.mpr (by omega)
          rw [e]
          simpa [St, h4] using q
        · simp [h4] at q ⊢
          simpa [St] using q
      · rw [sDSetM]
        simp [St, z1]
        refine m6 _ (last _ [(i : Int)] (by intro z hz; simp at hz; omega) (by simp) (by simp) fun z s10 y1 y2 => fin z _ _ y1 y2)
      · exact last _ gs5 e1 e2 e3 fun z s10 y1 y2 => fin z _ _ y1 y2
    · rintro Δ ⟨s9, s10, row, rfl, hr1, hr2⟩
      simp
      refine ⟨by rw [sizeLine_eq]; omega, _, _, _, _, _, _, T' ++ [row], ⟨rfl, rfl, rfl, by simp [rowD], rfl, rfl, rfl⟩, by simp [hT1], fun r hr => ?_⟩
      rcases List.mem_append.mp hr with hr | hr
      · exact hT2 r hr
      · simp at hr; subst hr; exact ⟨hr1, hr2⟩
  · rintro Δ ⟨s3, s4, s5, s8, s9, s10, T', rfl, hT1, hT2⟩
    simp [z4]
    refine ⟨_, rfl, by simp, by simp, fun d hd => ?_⟩
    obtain ⟨k, rfl⟩ : ∃ k : Int, d = .int k := by simp at hd; rcases hd with rfl | rfl | rfl <;> exact ⟨_, rfl⟩
    refine ⟨by omega, ?_⟩
    refine ⟨fun i acc Δ => Δ = [.im .drw, .im (.int n), .im (.int c), .un, .im (.int k), s5, .im (.int w), .ol (T'.map rowD), s8, s9, s10] ∧ ∃ bs : List Bool, acc = bs.map D.bl ∧ bs.length = i, ⟨rfl, [], rfl, rfl⟩, ?_, ?_⟩
    · rintro i d acc Δ hi ⟨rfl, bs, rfl, hb⟩
      have hil := (List.getElem?_eq_some_iff.mp hi).1
      rw [rngD_length] at hil
      simp
      intro r r1 r2
      exact ⟨by rw [hb, sizeLine_eq]; omega, bs ++ [decide (r < k)], by simp, by simp [hb]⟩
    · rintro acc Δ ⟨rfl, bs, rfl, hb⟩
      rw [rngD_length] at hb
      simp
      exact ⟨z2, hq T' bs ⟨hT1, hT2⟩ hb⟩
end DL
-- K72l
set_option Elab.async false
set_option linter.all false
set_option maxRecDepth 100000
set_option maxHeartbeats 2000000
set_option autoImplicit false
namespace DL
open PySem PySem.Spec L2
open PyProof.Rows hiding St
theorem run__law_plan (a : Ad) (ds : List D) (Q : D → Prop) (E : EX) (h : sp__law_plan a ds Q E) : ds.length = 2 ∧ sem__law_plan a { nx := fun _ => Q .non, rt := Q } (startD N__law_plan.length ds) E := by
  obtain ⟨m, rfl, h1, h2, hq⟩ := h
  refine ⟨rfl, ?_⟩
  have z1 : 1 ≤ sizeLine := by rw [sizeLine_eq]; omega
  have z3 : 3 ≤ sizeLine := by rw [sizeLine_eq]; omega
  have z7 : 7 ≤ sizeLine := by rw [sizeLine_eq]; omega
  unfold sem__law_plan sp__law_take sp__law_pick sp__law_table
  simp [z1, z7]
  intro r r1 r2
  refine ⟨by omega, by omega, fun r' r3 r4 => ?_⟩
  have fin : ∀ (x : Int), 1 ≤ x → x ≤ (max 5 m : Nat) → ∃ n c : Nat, (x = (n : Int) ∧ 1 + r = (c : Int)) ∧ 1 ≤ n ∧ n ≤ 60 ∧ c ≤ 4 ∧ ∀ (T : List (List Nat)) (g : List Bool), TabN T n c → g.length = n → 3 ≤ sizeLine ∧ Q (D.tup [D.int (1 + r), tblD T, D.tup (blsD g)]) := fun x x1 x2 => by
    obtain ⟨n, rfl⟩ := Int.eq_ofNat_of_zero_le (by omega : 0 ≤ x)
    obtain ⟨c, hc⟩ := Int.eq_ofNat_of_zero_le (by omega : 0 ≤ 1 + r)
    refine ⟨n, c, ⟨rfl, hc⟩, by omega, by omega, by omega, fun T g hT hg => ⟨z3, ?_⟩⟩
    rw [hc]
    have hn := hT.len
    exact hq c T g ⟨by omega, by omega, ⟨by omega, by omega, fun rr hr => by
      obtain ⟨a1, a2⟩ := hT.row rr hr
      exact ⟨a1, fun k hk => by have := a2 k hk; omega⟩⟩, by omega⟩ (by omega)
  exact ⟨fin 1 (by omega) (by omega), fin 2 (by omega) (by omega), fin 3 (by omega) (by omega), fin 4 (by omega) (by omega), fin 5 (by omega) (by omega), fin (1 + r') (by omega) (by omega), fin m (by omega) (by omega)⟩
end DL
-- K72m
set_option Elab.async false
set_option linter.all false
set_option maxRecDepth 100000
set_option maxHeartbeats 2000000
set_option autoImplicit false
namespace DL
open PySem PySem.Spec L2
open PyProof.Rows hiding St
theorem fm_p (p : Nat → Bool) : ∀ C : List Nat, (C.filterMap fun r => if p r = true then some (intD r) else none) = (C.filter p).map intD
  | [] => rfl
  | r :: C => by
    have ih := fm_p p C
    cases q : p r with
    | true => simp only [List.filterMap_cons, List.filter_cons, q, if_true, List.map_cons, ih]
    | false => simp only [List.filterMap_cons, List.filter_cons, q, Bool.false_eq_true, if_false, ih]
theorem ne_any (p : Nat → Bool) : ∀ C : List Nat, (!decide ((C.filter p).map intD = [])) = C.any p
  | [] => rfl
  | r :: C => by
    have ih := ne_any p C
    cases q : p r with
    | true => simp only [List.filter_cons, q, if_true, List.map_cons, List.any_cons, Bool.true_or]; rfl
    | false => simp only [List.filter_cons, q, Bool.false_eq_true, if_false, List.any_cons, Bool.false_or, ih]
@[simp] theorem okEq_ints (xs : List Nat) : OkEq (.lst (xs.map intD)) := (okN_lst (n := 0) (okN_map fun x => okN_int 0 _)).eq
theorem cr_ne {c : Nat} {T : List (List Nat)} {g : List Bool} (ok : OkM c T g) : ∀ k, cr T k ≠ []
  | 0 => by simp [cr]
  | k + 1 => fun z => by
    have ih := cr_ne ok k
    obtain ⟨hc1, _⟩ := cr_ok ok.t.l1 k
    cases q : cr T k with
    | nil => exact ih q
    | cons r C =>
      have hr : r ∈ cr T k := by rw [q]; exact List.mem_cons_self
      have e := List.getElem?_eq_getElem (hc1 r hr)
      obtain ⟨a1, a2⟩ := ok.t.row _ (List.mem_of_getElem? e)
      have h0 : 0 < (T[r]'(hc1 r hr)).length := by omega
      have hm : (T[r]'(hc1 r hr))[0] ∈ T[r]'(hc1 r hr) := List.getElem_mem h0
      have : (T[r]'(hc1 r hr))[0] ∈ cr T (k + 1) := by
        simp only [cr, stepC, List.mem_filter, List.mem_range, decide_eq_true_eq]
        exact ⟨a2 _ hm, List.mem_flatMap.mpr ⟨r, hr, by rw [List.getD_eq_getElem?_getD, e]; exact hm⟩⟩
      rw [z] at this
      cases this
def ldSt (c : Nat) (T : List (List Nat)) (g : List Bool) (k : Nat) (u : Sl) : List Sl := [.im (planD c T g), .im (.int 4999), .im (crowdD (cr T k)), .ot (metL T k), .ol ((toldL T g k).map D.bl), u]
abbrev ldB : DTS := (dSeq (dIfS (dCmpT rdGt (dO (dClean (dBlt rdLen (dConsO (dB 4) dNilO)))) (dB 1))
  (dRet (dC .non))
  dNext)
  (dSeq (dSetIx 3 (dClean (dBlt rdLen (dConsO (dB 4) dNilO))) (dVar 2))
  (dSeq (dAppend 4 (dCons (dCmpE rdNe (dO (dClean (dLC [5] (dSeqI (dVar 2)) (dgName 5) (dTst (dIx (dO (dIx (dB 0) (dO (dC (.int 2))))) (dB 5))) (dVar 5)))) (dO (dClean (dLst dNil)))) dNil))
  (dSet 2 (dClean (dBlt rdTuple (dConsO (dO (dClean (dBlt rdSortSet (dConsO (dO (dClean (dBlt rdSumL (dConsO (dO (dClean (dLC [5] (dSeqI (dVar 2)) (dgName 5) dYes (dClean (dBlt rdList (dConsO (dO (dIx (dO (dIx (dB 0) (dO (dC (.int 1))))) (dB 5))) dNilO)))))) (dConsO (dO (dClean (dLst dNil))) dNilO))))) dNilO)))) dNilO)))))))
theorem while_told {c : Nat} {T : List (List Nat)} {g : List Bool} {N : DEnds} {E : EX} {n j : Nat} (ok : OkM c T g) (R : Rep T n j) (hn : n ≤ 5000) (u : Sl) (h : ∀ u, N.nx (ldSt c T g n u)) : dWhile (dCmpT rdNotIn (dB 2) (dB 3)) ldB N (ldSt c T g 0 u) E := by
  refine ⟨fun m Δ => ∃ k u, k ≤ n ∧ m = n - k ∧ Δ = ldSt c T g k u, ⟨n, 0, u, Nat.zero_le _, rfl, rfl⟩, ?_⟩
  rintro m Δ ⟨k, u, hk, rfl, rfl⟩
  by_cases hkn : k = n
  · subst hkn
    have hv := val_met_some R.lt R.eq.symm (fun i hi z => R.ne i j hi R.lt (z.trans R.eq))
    unfold ldSt
    simp [hv]
    exact h u
  · have hlt : k < n := by omega
    have hnew : ∀ i, i < k → cr T i ≠ cr T k := fun i hi => R.ne i k hi hlt
    have hv := val_met_none hnew
    have hl : (toldL T g k).length = k := by simp [toldL]
    have h2 := ok.t.l2
    obtain ⟨hc1, hc2⟩ := cr_ok ok.t.l1 k
    have hcond : ∀ Q : Bool → List Sl → Prop, Q true (ldSt c T g k u) → dCmpT rdNotIn (dB 2) (dB 3) (ldSt c T g k u) Q E := fun Q q => by
      unfold ldSt
      simp [hv]
      exact q
    refine hcond _ ?_
    rw [if_pos rfl]
    refine seqN fun M1 m1 _ _ _ => ifN (b := false) (fun Q q => ?_) (fun z => by cases z) fun _ => m1 _ ?_
    · unfold ldSt
      simp [hl]
      have e : decide ((4999 : Int) < k) = false := decide_eq_false (by omega)
      rw [e]
      exact q
    refine seqN fun M2 m2 _ _ _ => .inr (.inr ⟨⟨_, rfl⟩, ?_⟩)
    unfold ldSt
    simp [hl]
    refine ⟨by rw [show (metL T k).length = k by simp [metL], sizeLine_eq]; omega, m2 _ ?_⟩
    rw [put_met hnew]
    refine seqN fun M3 m3 _ _ _ => ?_
    simp
    obtain ⟨p, hp⟩ : ∃ p : Nat → Bool, p = fun r => g.getD r false := ⟨_, rfl⟩
    have ok2 := okEq_ints ((cr T k).filter p)
    have tell_eq := ne_any p (cr T k)
    have e5 : (toldL T g k).map D.bl ++ [D.bl (tell T g k)] = (toldL T g (k + 1)).map D.bl := by
      unfold toldL
      rw [List.range_succ, List.map_append, List.map_append]
      rfl
    refine ⟨_, rfl, lc_map (fun r => if p r = true then some (intD r) else none) [Sl.im (planD c T g), Sl.im (D.int 4999), Sl.im (crowdD (cr T k)), Sl.ot (metL T (k + 1)), Sl.ol (List.map D.bl (toldL T g k)), .un] rfl (by rw [sizeLine_eq]; omega) (fun r hr R hR => ?_) ?_⟩
    · have hrg : r < g.length := by rw [ok.g]; exact hc1 r hr
      have e := List.getElem?_eq_getElem hrg
      have eg : g.getD r false = g[r] := by rw [List.getD_eq_getElem?_getD, e]; rfl
      rw [show p r = g[r] by rw [hp]; exact eg] at hR
      rw [show intD r = D.int (r : Int) from rfl] at hR ⊢
      have e2 : atI [D.int (c : Int), tblD T, D.tup (blsD g)] 2 = some (D.tup (blsD g)) := rfl
      have e3 : atI (blsD g) (r : Int) = some (D.bl g[r]) := by unfold blsD; rw [atI_nat, List.getElem?_map, e]; rfl
      simp [planD, e2, e3]
      cases q : g[r] with
      | true => rw [q] at hR; simpa [planD] using hR
      | false => rw [q] at hR; simpa [planD] using hR
    · rw [fm_p p]
      generalize ((cr T k).filter p).map intD = L at ok2 tell_eq ⊢
      simp
      refine ⟨ok2, by rw [hl, sizeLine_eq]; omega, ?_⟩
      rw [tell_eq, show (cr T k).any p = tell T g k by rw [hp]; rfl, e5]
      refine m3 _ ?_
      simp
      have hrow : ∀ r ∈ cr T k, ∃ row, T[r]? = some row ∧ row.length = c + 1 ∧ T.getD r [] = row := fun r hr => by
        have e := List.getElem?_eq_getElem (hc1 r hr)
        exact ⟨_, e, (ok.t.row _ (List.mem_of_getElem? e)).1, by rw [List.getD_eq_getElem?_getD, e]; rfl⟩
      have hc4 := ok.c2
      refine ⟨_, rfl, lc_map (fun r => some (.lst ((T.getD r []).map intD))) [Sl.im (planD c T g), Sl.im (D.int 4999), Sl.im (crowdD (cr T k)), Sl.ot (metL T (k + 1)), Sl.ol (List.map D.bl (toldL T g (k + 1))), .un] rfl (by rw [sizeLine_eq]; omega) (fun r hr R hR => ?_) ?_⟩
      · obtain ⟨row, r1, r2, r3⟩ := hrow r hr
        rw [r3] at hR
        rw [show intD r = D.int (r : Int) from rfl]
        have e2 : atI [D.int (c : Int), tblD T, D.tup (blsD g)] 1 = some (tblD T) := rfl
        have e3 : atI (T.map rowD) (r : Int) = some (rowD row) := by rw [atI_nat, List.getElem?_map, r1]; rfl
        simp [planD, e2]
        unfold tblD
        simp [e3, rowD]
        simpa [planD, tblD, rowD] using hR
      · rw [filterMap_some_map]
        have hsum : ((cr T k).map fun r => D.lst ((T.getD r []).map intD)) = ((cr T k).map fun r => (T.getD r []).map intD).map D.lst := by rw [List.map_map]; rfl
        have hflat : ((cr T k).map fun r => (T.getD r []).map intD).flatten = ((((cr T k).flatMap fun r => T.getD r []).map Int.ofNat).map D.int) := by
          rw [List.map_map, List.map_flatMap, List.flatMap_def]
          rfl
        have hlen : ∀ C : List Nat, (∀ r ∈ C, r ∈ cr T k) → (C.flatMap fun r => T.getD r []).length = C.length * (c + 1) := fun C => by
          induction C with
          | nil => intro _; simp
          | cons r C ih =>
            intro hc
            obtain ⟨row, _, e2, e3⟩ := hrow r (hc r List.mem_cons_self)
            rw [List.flatMap_cons, List.length_append, ih fun k hk => hc k (List.mem_cons_of_mem _ hk), e3, e2, List.length_cons, Nat.add_mul]
            omega
        have hl3 : ((cr T k).flatMap fun r => T.getD r []).length ≤ 300 := by
          rw [hlen _ fun _ h => h]
          have : (cr T k).length * (c + 1) ≤ 60 * 5 := Nat.mul_le_mul (by omega) (by omega)
          omega
        rw [hsum]
        generalize hX : ((cr T k).map fun r => (T.getD r []).map intD) = X at hflat ⊢
        have hX0 : X ≠ [] := by rw [← hX]; intro z; exact cr_ne ok k (List.map_eq_nil_iff.mp z)
        refine ⟨_, rfl, X, rfl, by rw [hflat, List.length_map, List.length_map, sizeLine_eq]; omega, hX0, ?_⟩
        rw [hflat]
        generalize hY : ((cr T k).flatMap fun r => T.getD r []) = Y at hl3 ⊢
        refine ⟨_, rfl, Y.map Int.ofNat, rfl, by rw [List.length_map]; unfold scanBound; omega, ?_, fun ns' s1 s2 => ?_⟩
        · refine few_below (n := T.length) (by omega) fun z hz => ?_
          obtain ⟨m, hm, rfl⟩ := List.mem_map.mp hz
          rw [← hY] at hm
          obtain ⟨r, hr, hmr⟩ := List.mem_flatMap.mp hm
          obtain ⟨row, e1, e2, e3⟩ := hrow r hr
          rw [e3] at hmr
          exact ⟨Int.natCast_nonneg _, Int.ofNat_lt.mpr ((ok.t.row row (List.mem_of_getElem? e1)).2 m hmr)⟩
        · rw [crowd_eq (C := cr T k) (fun r hr => (ok.t.row r hr).2) (gs := Y) (fun z => by rw [hY]) s1 s2]
          exact ⟨_, rfl, _, rfl, n - (k + 1), by omega, k + 1, by omega, rfl, _, rfl⟩
end DL
-- K72n
set_option Elab.async false
set_option linter.all false
set_option maxRecDepth 100000
set_option maxHeartbeats 2000000
set_option autoImplicit false
namespace DL
open PySem PySem.Spec L2
open PyProof.Rows hiding St
theorem run__law_told_sizes (a : Ad) (ds : List D) (Q : D → Prop) (E : EX) (h : sp__law_told_sizes a ds Q E) : ds.length = 2 ∧ sem__law_told_sizes a { nx := fun _ => Q .non, rt := Q } (startD 6 ds) E := by
  obtain ⟨c, T, g, n, j, rfl, ok, R, hn, hq⟩ := h
  refine ⟨rfl, ?_⟩
  have two : 1 ≤ sizeLine := by rw [sizeLine_eq]; omega
  unfold sem__law_told_sizes
  refine seqN fun M1 m1 _ _ _ => ?_
  simp [two]
  refine .inr ?_
  refine ⟨_, _, _, ⟨rfl, rfl, rfl⟩, m1 _ ?_⟩
  refine seqN fun M2 m2 _ r2 _ => ?_
  refine while_told ok R hn .un fun u => m2 _ ?_
  have hv := val_met_some R.lt R.eq.symm (fun i hi z => R.ne i j hi R.lt (z.trans R.eq))
  have hl : (toldL T g n).length = n := by simp [toldL]
  have hj := R.lt
  unfold ldSt
  simp [hv, cut_to, cut_from]
  refine ⟨by rw [sizeLine_eq]; omega, ?_⟩
  simpa [blsD, List.map_take, List.map_drop] using hq
end DL
-- K72o
set_option Elab.async false
set_option linter.all false
set_option maxRecDepth 100000
set_option maxHeartbeats 2000000
set_option autoImplicit false
namespace DL
open PySem PySem.Spec L2
open PyProof.Rows hiding St
abbrev lsB : DTS := (dAsg (dTup (dCons (dClean (dSl (dB 0) dNoPart (dPart (dO (dNeg (dO (dC (.int 1)))))))) (dCons (dClean (dOpM rdAdd (dO (dClean (dSl (dB 1) (dPart (dO (dNeg (dO (dC (.int 1)))))) dNoPart))) (dO (dClean (dSl (dB 1) dNoPart (dPart (dO (dNeg (dO (dC (.int 1))))))))))) dNil))) (dgTup 2 (dgCons (dgName 0) (dgCons (dgName 1) dgNil))))
theorem while_trim2 {N : DEnds} {E : EX} {s t u v : Sl} {A R : List Bool} (hs : s.er = some (.lst (A.map D.bl))) (ht : t.er = some (.lst (R.map D.bl))) (hR : R ≠ []) (hA5 : A.length ≤ 5000) (hR5 : R.length ≤ 5000)
    (h : ∀ s t, s.er = some (.lst ((trim A.length A R).1.map D.bl)) → t.er = some (.lst ((trim A.length A R).2.map D.bl)) → N.nx [s, t, u, v]) : dWhile trimC lsB N [s, t, u, v] E := by
  refine ⟨fun m Δ => ∃ s t A' R', Δ = [s, t, u, v] ∧ s.er = some (.lst (A'.map D.bl)) ∧ t.er = some (.lst (R'.map D.bl)) ∧ R' ≠ [] ∧ A'.length = m ∧ A'.length ≤ 5000 ∧ R'.length ≤ 5000 ∧ trim A'.length A' R' = trim A.length A R, ⟨_, s, t, A, R, rfl, hs, ht, hR, rfl, hA5, hR5, rfl⟩, ?_⟩
  rintro m Δ ⟨s, t, A', R', rfl, hs, ht, hR', hm, h1, h2, h3⟩
  have fin : ¬ (A' ≠ [] ∧ A'.getLast? = R'.getLast?) → N.nx [s, t, u, v] := fun hc => by
    have e : trim A'.length A' R' = (A', R') := by
      cases k : A'.length with
      | zero => rfl
      | succ k => unfold trim; rw [if_neg hc]
    rw [e] at h3
    exact h s t (by rw [← h3]; exact hs) (by rw [← h3]; exact ht)
  obtain ⟨r, hr⟩ : ∃ r, R'.getLast? = some r := by
    cases q : R'.getLast? with
    | none => exact absurd (List.getLast?_eq_none_iff.mp q) hR'
    | some r => exact ⟨r, rfl⟩
  simp [hs, ht]
  by_cases hA : A' = []
  · simp [hA]
    exact fin fun z => z.1 hA
  · obtain ⟨x, hx⟩ : ∃ x, A'.getLast? = some x := by
      cases q : A'.getLast? with
      | none => exact absurd (List.getLast?_eq_none_iff.mp q) hA
      | some r => exact ⟨r, rfl⟩
    simp [hA, hr, hx, atI_m1, List.getLast?_map]
    have hlr : 0 < R'.length := List.length_pos_iff.mpr hR'
    have hla : 0 < A'.length := List.length_pos_iff.mpr hA
    have e1 : cut (A'.map D.bl) none (some (-1)) = A'.dropLast.map D.bl := by rw [cut_but, List.map_dropLast]
    have e2 : cut (R'.map D.bl) none (some (-1)) = R'.dropLast.map D.bl := by rw [cut_but, List.map_dropLast]
    have e3 : cut (R'.map D.bl) (some (-1)) none = (R'.drop (R'.length - 1)).map D.bl := by rw [cut_last, List.map_drop, List.length_map]
    rw [e1, e2, e3]
    by_cases hxr : x = r
    · rw [if_pos hxr]
      have hlen : (R'.drop (R'.length - 1) ++ R'.dropLast).length = R'.length := by simp <;> omega
      refine ⟨by simp [sizeLine_eq]; omega, by rw [sizeLine_eq]; omega, ?_⟩
      simp
      refine ⟨_, _, ⟨rfl, rfl⟩, _, _, rfl, rfl, A'.dropLast.length, by rw [List.length_dropLast]; omega, _, _, ⟨rfl, rfl⟩, A'.dropLast, by simp [List.map_dropLast], R'.drop (R'.length - 1) ++ R'.dropLast, by simp [List.map_dropLast], ?_, rfl, by rw [List.length_dropLast]; omega, by rw [hlen]; exact h2, ?_⟩
      · intro z; rw [z] at hlen; simp at hlen; omega
      · rw [← h3]
        have : A'.length = A'.dropLast.length + 1 := by rw [List.length_dropLast]; omega
        rw [this]
        conv => rhs; unfold trim
        rw [if_pos ⟨hA, by rw [hx, hr, hxr]⟩]
    · rw [if_neg hxr]
      exact fin fun z => hxr (by rw [hx, hr] at z; exact Option.some.inj z.2)
theorem find_two {α β : Type} (p q : α → Bool) (h : α → β) : ∀ l : List α, ((l.filter p).filterMap fun i => if q i = true then some (h i) else none).head? = (l.find? fun i => p i && q i).map h
  | [] => rfl
  | x :: l => by
    have ih := find_two p q h l
    cases e : p x with
    | false => simp only [List.filter_cons, List.find?_cons, e, Bool.false_and, Bool.false_eq_true, if_false, ih]
    | true =>
      cases e2 : q x with
      | false => simp only [List.filter_cons, List.find?_cons, List.filterMap_cons, e, e2, Bool.true_and, Bool.false_eq_true, if_false, if_true, ih]
      | true => simp only [List.filter_cons, List.find?_cons, List.filterMap_cons, e, e2, Bool.true_and, if_true, List.head?_cons, Option.map_some]
theorem fm_two {α β : Type} (p : α → Bool) (h : α → β) : ∀ l : List α, (l.filterMap fun i => if p i = true then some (h i) else none) = (l.filter p).map h
  | [] => rfl
  | x :: l => by
    have ih := fm_two p h l
    cases e : p x with
    | false => simp only [List.filter_cons, List.filterMap_cons, e, Bool.false_eq_true, if_false, ih]
    | true => simp only [List.filter_cons, List.filterMap_cons, e, if_true, List.map_cons, ih]
theorem sh1_find {R : List Bool} (hR : 0 < R.length) : ((List.range R.length).find? fun i => decide (R.length % (i + 1) = 0) && decide (R = (List.replicate (R.length / (i + 1)) (R.take (i + 1))).flatten)).map (fun i => R.take (i + 1)) = some (sh1 R) := by
  unfold sh1
  split
  · next i e => rw [e]; rfl
  · next e =>
    exfalso
    rw [List.find?_eq_none] at e
    refine sh1_last hR fun k hk z => e k (List.mem_range.mpr hk) ?_
    rw [decide_eq_true z.1, decide_eq_true z.2]; rfl
theorem run__law_shortest (a : Ad) (ds : List D) (Q : D → Prop) (E : EX) (h : sp__law_shortest a ds Q E) : ds.length = 2 ∧ sem__law_shortest a { nx := fun _ => Q .non, rt := Q } (startD 4 ds) E := by
  obtain ⟨A, R, rfl, hR, hA5, hR5, hq⟩ := h
  refine ⟨rfl, ?_⟩
  have hr0 : 0 < R.length := List.length_pos_iff.mpr hR
  have two : 2 ≤ sizeLine := by rw [sizeLine_eq]; omega
  obtain ⟨h1, h2⟩ := sh1_len hr0
  unfold sem__law_shortest
  refine seqN fun M1 m1 _ _ _ => ?_
  simp
  obtain ⟨p, hp⟩ : ∃ p : Nat → Bool, p = fun i => decide (R.length % (i + 1) = 0) := ⟨_, rfl⟩
  obtain ⟨q, hqq⟩ : ∃ q : Nat → Bool, q = fun i => decide (R = (List.replicate (R.length / (i + 1)) (R.take (i + 1))).flatten) := ⟨_, rfl⟩
  have hbl : (blsD R).length = R.length := by unfold blsD; simp
  rw [hbl]
  refine ⟨1, R.length + 1, ⟨rfl, rfl⟩, by omega, ?_⟩
  rw [show ((R.length : Int) + 1 - 1).toNat = R.length by omega]
  refine lc_range (fun i => if p i = true then some (D.int ((i + 1 : Nat) : Int)) else none) [.im (.lst (blsD A)), .im (.lst (blsD R)), .un, .un] rfl (by rw [sizeLine_eq]; omega) (fun i hi K hK => ?_) ?_
  · rw [hp] at hK
    simp [hbl]
    have en : (1 : Int) + i = ((i + 1 : Nat) : Int) := by omega
    rw [en]
    simp only [← Int.natCast_emod, ← Int.natCast_ediv, Int.toNat_natCast]
    refine ⟨by omega, ?_⟩
    by_cases hm : R.length % (i + 1) = 0
    · rw [if_pos (by rw [hm]; rfl)]
      simpa [hm] using hK
    · rw [if_neg (fun z => hm (by exact_mod_cast z))]
      simpa [hm] using hK
  · rw [fm_two p]
    simp
    refine m1 _ ?_
    refine seqN fun M2 m2 _ _ _ => ?_
    simp
    have hflen : ((List.range R.length).filter p).length ≤ R.length := by
      have := List.length_filter_le p (List.range R.length)
      rwa [List.length_range] at this
    have hX : ∀ i, q i = true → (List.replicate (R.length / (i + 1)) (R.take (i + 1))).flatten = R := fun i hi => by
      rw [hqq] at hi
      exact (of_decide_eq_true hi).symm
    have big : R.length ≤ sizeLine := by rw [sizeLine_eq]; omega
    refine lc_map (f := fun i : Nat => D.int ((i : Int) + 1)) (xs := (List.range R.length).filter p) (fun i => if q i = true then some (D.lst (blsD (R.take (i + 1)))) else none) [.im (.lst (blsD A)), .im (.lst (blsD R)), .im (.lst (((List.range R.length).filter p).map fun i : Nat => D.int ((i : Int) + 1))), .un] rfl (by omega) (fun i hi K hK => ?_) ?_
    · rw [hqq] at hK
      obtain ⟨hi1, hi2⟩ := List.mem_filter.mp hi
      have hi1 := List.mem_range.mp hi1
      rw [hp] at hi2
      have hm := of_decide_eq_true hi2
      simp [hbl]
      have en : (i : Int) + 1 = ((i + 1 : Nat) : Int) := by omega
      rw [en]
      have eb : blsD R = R.map D.bl := rfl
      rw [eb] at hK ⊢
      simp only [← Int.natCast_emod, ← Int.natCast_ediv, Int.toNat_natCast, cut_to, ← List.map_take]
      have hd : R.length / (i + 1) ≤ R.length := Nat.div_le_self _ _
      have em : (List.replicate (R.length / (i + 1)) ((R.take (i + 1)).map D.bl)).flatten = ((List.replicate (R.length / (i + 1)) (R.take (i + 1))).flatten).map D.bl := by rw [List.map_flatten, List.map_replicate]
      have hmul : (i + 1) * (R.length / (i + 1)) ≤ R.length := Nat.mul_div_le _ _
      rw [em]
      refine ⟨⟨by omega, by omega⟩, Int.le_trans (by decide) (Int.natCast_nonneg _), Int.lt_of_le_of_lt (Int.ofNat_le.mpr hd) (by omega), ?_, okEq_bls _, ?_⟩
      · rw [List.length_map, List.length_take, sizeLine_eq, Nat.min_eq_left (by omega)]
        omega
      · refine ⟨okEq_bls _, ?_⟩
        rw [eqD_bls]
        by_cases he : (List.replicate (R.length / (i + 1)) (R.take (i + 1))).flatten = R
        · rw [if_pos (decide_eq_true he)]
          have h3 : (decide (R = (List.replicate (R.length / (i + 1)) (R.take (i + 1))).flatten)) = true := decide_eq_true he.symm
          simp only [h3, if_true] at hK
          exact hK
        · rw [if_neg (by simpa using he)]
          have h3 : (decide (R = (List.replicate (R.length / (i + 1)) (R.take (i + 1))).flatten)) = false := decide_eq_false fun z => he z.symm
          simp only [h3, Bool.false_eq_true, if_false] at hK
          exact hK
    · have hh := find_two p q (fun i => D.lst (blsD (R.take (i + 1)))) (List.range R.length)
      have hs : ((List.range R.length).find? fun i => p i && q i).map (fun i => D.lst (blsD (R.take (i + 1)))) = some (D.lst (blsD (sh1 R))) := by
        have := sh1_find hr0
        rw [hp, hqq]
        cases e : (List.range R.length).find? (fun i => decide (R.length % (i + 1) = 0) && decide (R = (List.replicate (R.length / (i + 1)) (R.take (i + 1))).flatten)) with
        | none => rw [e] at this; cases this
        | some i =>
          rw [e] at this
          have t2 := Option.some.inj this
          simp only [Option.map_some]
          rw [← t2]
      rw [hs] at hh
      generalize ((List.range R.length).filter p).filterMap (fun i => if q i = true then some (D.lst (blsD (R.take (i + 1)))) else none) = Z at hh ⊢
      cases Z with
      | nil => cases hh
      | cons z Z =>
        cases hh
        have e0 : atI (D.lst (blsD (sh1 R)) :: Z) 0 = some (D.lst (blsD (sh1 R))) := (atI_nat (D.lst (blsD (sh1 R)) :: Z) 0).trans rfl
        simp [e0]
        refine m2 _ ?_
        refine seqN fun M3 m3 _ _ _ => ?_
        refine while_trim2 (A := A) (R := sh1 R) rfl rfl h2 hA5 (by omega) fun s t hs ht => m3 _ ?_
        simp [hs, ht, two]
        exact hq
end DL
-- K72p
set_option Elab.async false
set_option linter.all false
set_option maxRecDepth 100000
set_option maxHeartbeats 2000000
set_option autoImplicit false
namespace DL
open PySem PySem.Spec L2
open PyProof.Rows hiding St
/-! ### _law_rings -/
abbrev st__law_rings : Stmt := top 31
abbrev N__law_rings : List Str := ["draw", "lengths", "length", "table", "good", "begins", "spot", "at", "goal"]
theorem sc__law_rings : FnScope N__law_rings ["draw", "lengths"] (defScope st__law_rings) := ⟨rfl, rfl, rfl, by decide +kernel, rfl, by decide +kernel, by decide +kernel⟩
def sem__law_rings (a : Ad) : DTS :=
  (dSeq (dPar3 3 4 5 (dConsM (dLst (dCons (dTup dNil) dNil)) (dConsM (dLst (dCons (dCmpE rdEq (dO (dFn (sp__law_take a) (dCons (dVar 0) (dCons (dC (.int 2)) dNil)))) (dO (dC (.int 0)))) dNil)) (dConsM (dLst dNil) dNilM))))
  (dSeq (dFor (dSeqI (dVar 1)) (dgName 2)
  (dSeq (dAppend 5 (dCons (dClean (dBlt rdLen (dConsO (dB 3) dNilO))) dNil))
  (dSeq (dSet 6 (dFn (sp__law_take a) (dCons (dVar 0) (dCons (dVar 2) dNil))))
  (dFor (dRng1 (dCons (dVar 2) dNil)) (dgName 7)
  (dSeq (dSetM 8 (dOpM rdAdd (dO (dIx (dB 5) (dO (dNeg (dO (dC (.int 1))))))) (dO (dClean (dIfM (dCmpT rdLt (dO (dClean (dOpM rdAdd (dB 7) (dO (dC (.int 1)))))) (dB 2)) (dOpM rdAdd (dB 7) (dO (dC (.int 1)))) (dIm (dC (.int 0))))))))
  (dSeq (dAppend 3 (dCons (dClean (dOpM rdMul (dO (dTup (dCons (dVar 8) dNil))) (dO (dClean (dBlt rdLen (dConsO (dB 1) dNilO)))))) dNil))
  (dAppend 4 (dCons (dOrV (dCmpE rdEq (dB 7) (dB 6)) (dCmpE rdEq (dO (dFn (sp__law_take a) (dCons (dVar 0) (dCons (dC (.int 9)) dNil)))) (dO (dC (.int 0))))) dNil))))))))
  (dSeq (dSetIx 3 (dClean (dBlt rdTuple (dConsO (dB 5) dNilO))) (dC (.int 0)))
  (dRet (dTup (dCons (dClean (dOpM rdSub (dO (dClean (dBlt rdLen (dConsO (dB 1) dNilO)))) (dO (dC (.int 1))))) (dCons (dClean (dBlt rdTuple (dConsO (dB 3) dNilO))) (dCons (dClean (dBlt rdTuple (dConsO (dB 4) dNilO))) dNil))))))))
theorem body__law_rings {P : Program} {w : World} {K : PySem.W.Frag} {mg : Str → Option Value} {base : Heap} {a : Ad} {f : Addr} (T : Txt K mg a) (c__law_take : Cal P w K mg base 2 "_law_take" ["draw", "amount"] (sp__law_take a)) {cdv : Value} {A : Around} {outer : List Env} {s : Shared} {H : Hp} {E : XK} {W : Wd K} {H0 B : Hp} {Ed : EX} {hE : ∀ C H' B', Ed C → Grow W H0 B H' B' → E (.ref C) none H'}
    (hr : Room 2 (A.deeper (envOfC "_law_rings" (defScope st__law_rings) s.heap.objs.size f cdv))) : PSs (cxB P w K mg base N__law_rings "_law_rings" st__law_rings f cdv A outer s H E) (defBody st__law_rings) (upS (⟨W, H0, B, E, Ed, hE⟩ : Gx K) (sem__law_rings a)) :=
  have sc := sc__law_rings
  (dss_cons (ds_par3 (i := 3) (j := 4) (l := 5) rfl sc.nd (dma_cons (dm_lst (da_cons (de_tup da_nil) da_nil)) fun _ _ => (dma_cons (dm_lst (da_cons (de_cmp (op_eqD hr.units) r2_eq (do_of_e (de_cal (c__law_take.mono (by decide)) hr (pass_up (takes_of rfl rfl rfl rfl)) (da_cons (de_var 0) (da_cons de_int da_nil)))) (do_of_e de_int)) da_nil)) fun _ _ => (dma_cons (dm_lst da_nil) fun _ _ => dma_nil))))
  (dss_cons (ds_for (passes_of rfl) rfl (di_seq (de_var 1)) (dg_name (i := 2) sc.nd)
  (dss_cons (ds_append 5 (da_cons (de_of_m (dm_callB call_len2 rc_len (by rfl) T.z_len (by decide +kernel) (dao_cons (do_name 3) dao_nil))) da_nil))
  (dss_cons (ds_set (i := 6) sc.nd (de_cal (c__law_take.mono (by decide)) hr (pass_up (takes_of rfl rfl rfl rfl)) (da_cons (de_var 0) (da_cons (de_var 2) da_nil))))
  (dss_one (ds_for (passes_of rfl) rfl (di_range1 (by rfl) T.z_range (da_cons (de_var 2) da_nil)) (dg_name (i := 7) sc.nd)
  (dss_cons (ds_setM (i := 8) sc.nd (dm_op op_add5 r2_add (do_of_e (de_ix (DL.hu_of hr) (do_name 5) (do_of_e (de_neg (do_of_e de_int))))) (do_of_e (de_of_m (dm_if (dt_cmp op_lt r2_cmp0 (do_of_e (de_of_m (dm_op op_add5 r2_add (do_name 7) (do_of_e de_int)))) (do_name 2)) (dm_op op_add5 r2_add (do_name 7) (do_of_e de_int)) (dm_of_e de_int))))))
  (dss_cons (ds_append 3 (da_cons (de_of_m (dm_op op_mul3 r2_mul (do_of_e (de_tup (da_cons (de_var 8) da_nil))) (do_of_e (de_of_m (dm_callB call_len2 rc_len (by rfl) T.z_len (by decide +kernel) (dao_cons (do_name 1) dao_nil)))))) da_nil))
  (dss_one (ds_append 4 (da_cons (de_or (de_cmp (op_eqD hr.units) r2_eq (do_name 7) (do_name 6)) (de_one (de_cmp (op_eqD hr.units) r2_eq (do_of_e (de_cal (c__law_take.mono (by decide)) hr (pass_up (takes_of rfl rfl rfl rfl)) (da_cons (de_var 0) (da_cons de_int da_nil)))) (do_of_e de_int)))) da_nil))))))))))
  (dss_cons (ds_setIx 3 (DL.hu_of hr) (de_of_m (dm_callTy call_tuple_of rc_tuple (by rfl) T.z_tuple (by decide +kernel) (dao_cons (do_name 5) dao_nil))) de_int)
  (dss_one (ds_ret (de_tup (da_cons (de_of_m (dm_op op_sub r2_int0 (do_of_e (de_of_m (dm_callB call_len2 rc_len (by rfl) T.z_len (by decide +kernel) (dao_cons (do_name 1) dao_nil)))) (do_of_e de_int))) (da_cons (de_of_m (dm_callTy call_tuple_of rc_tuple (by rfl) T.z_tuple (by decide +kernel) (dao_cons (do_name 3) dao_nil))) (da_cons (de_of_m (dm_callTy call_tuple_of rc_tuple (by rfl) T.z_tuple (by decide +kernel) (dao_cons (do_name 4) dao_nil))) da_nil)))))))))

/- used: ['int', 'len', 'range', 'tuple'] {'_law_mixed': 1, '_law_take': 2, '_law_pick': 3, '_law_rings': 3} -/
end DL
-- K72q
set_option Elab.async false
set_option linter.all false
set_option maxRecDepth 100000
set_option maxHeartbeats 2000000
set_option autoImplicit false
namespace DL
open PySem PySem.Spec L2
open PyProof.Rows hiding St
/-! ### rings -/
def offs : Nat → List Nat → List Nat
  | _, [] => []
  | b, l :: ls => b :: offs (b + l) ls
def nxt (l i : Nat) : Nat := if i + 1 < l then i + 1 else 0
def ringRow (m b l i : Nat) : List Nat := List.replicate m (b + nxt l i)
def ringRows (m b l : Nat) : List (List Nat) := (List.range l).map (ringRow m b l)
def rowsR (m : Nat) : Nat → List Nat → List (List Nat)
  | _, [] => []
  | b, l :: ls => ringRows m b l ++ rowsR m (b + l) ls
def ringT (Ls : List Nat) : List (List Nat) := offs 1 Ls :: rowsR Ls.length 1 Ls
def rpos : Nat → List Nat → Nat → List Nat
  | _, [], _ => []
  | b, l :: ls, k => (b + k % l) :: rpos (b + l) ls k
theorem ringRows_len (m b l : Nat) : (ringRows m b l).length = l := by simp [ringRows]
theorem rowsR_len (m : Nat) : ∀ (b : Nat) (ls : List Nat), (rowsR m b ls).length = ls.sum
  | _, [] => rfl
  | b, l :: ls => by simp [rowsR, ringRows_len, rowsR_len m (b + l) ls]
theorem offs_len : ∀ (b : Nat) (ls : List Nat), (offs b ls).length = ls.length
  | _, [] => rfl
  | b, l :: ls => by simp [offs, offs_len (b + l) ls]
theorem offs_snoc : ∀ (b : Nat) (ls : List Nat) (l : Nat), offs b (ls ++ [l]) = offs b ls ++ [b + ls.sum]
  | b, [], l => by simp [offs]
  | b, k :: ls, l => by
    show b :: offs (b + k) (ls ++ [l]) = b :: (offs (b + k) ls ++ [b + (k + ls.sum)])
    rw [offs_snoc (b + k) ls l, Nat.add_assoc]
theorem rowsR_snoc (m : Nat) : ∀ (b : Nat) (ls : List Nat) (l : Nat), rowsR m b (ls ++ [l]) = rowsR m b ls ++ ringRows m (b + ls.sum) l
  | b, [], l => by simp [rowsR]
  | b, k :: ls, l => by
    show ringRows m b k ++ rowsR m (b + k) (ls ++ [l]) = (ringRows m b k ++ rowsR m (b + k) ls) ++ ringRows m (b + (k + ls.sum)) l
    rw [rowsR_snoc m (b + k) ls l, Nat.add_assoc, List.append_assoc]
theorem nxt_lt {l i : Nat} (h : 0 < l) : nxt l i < l := by
  unfold nxt
  split
  · assumption
  · exact h
theorem nxt_mod {l k : Nat} (h : 0 < l) : nxt l (k % l) = (k + 1) % l := by
  unfold nxt
  have e : (k + 1) % l = (k % l + 1) % l := by rw [Nat.add_mod, Nat.add_mod (k % l) 1, Nat.mod_mod]
  have hk := Nat.mod_lt k h
  rw [e]
  split
  · rename_i hlt; rw [Nat.mod_eq_of_lt hlt]
  · have : k % l + 1 = l := by omega
    rw [this, Nat.mod_self]
theorem rowsR_ok (m : Nat) : ∀ (b : Nat) (ls : List Nat), (∀ l ∈ ls, 0 < l) → ∀ r ∈ rowsR m b ls, r.length = m ∧ ∀ n ∈ r, n < b + ls.sum
  | _, [], _, r, hr => by cases hr
  | b, l :: ls, hp, r, hr => by
    rcases List.mem_append.mp hr with h | h
    · obtain ⟨i, hi, rfl⟩ := List.mem_map.mp h
      refine ⟨by simp [ringRow], fun n hn => ?_⟩
      have := List.eq_of_mem_replicate hn
      have h2 := nxt_lt (i := i) (hp l List.mem_cons_self)
      simp only [List.sum_cons]
      omega
    · obtain ⟨h1, h2⟩ := rowsR_ok m (b + l) ls (fun k hk => hp k (List.mem_cons_of_mem _ hk)) r h
      refine ⟨h1, fun n hn => ?_⟩
      have := h2 n hn
      simp only [List.sum_cons]
      omega
theorem offs_lt : ∀ (b : Nat) (ls : List Nat), (∀ l ∈ ls, 0 < l) → ∀ n ∈ offs b ls, b ≤ n ∧ n < b + ls.sum
  | _, [], _, n, h => by cases h
  | b, l :: ls, hp, n, h => by
    have hl := hp l List.mem_cons_self
    simp only [List.sum_cons]
    rcases List.mem_cons.mp h with rfl | h
    · omega
    · have := offs_lt (b + l) ls (fun k hk => hp k (List.mem_cons_of_mem _ hk)) n h
      omega
structure RingOk (Ls : List Nat) : Prop where
  l2 : 2 ≤ Ls.length
  l5 : Ls.length ≤ 5
  pos : ∀ l ∈ Ls, 0 < l
  sum : Ls.sum < 60
theorem ringT_len (Ls : List Nat) : (ringT Ls).length = 1 + Ls.sum := by
  show (rowsR Ls.length 1 Ls).length + 1 = _
  rw [rowsR_len, Nat.add_comm]
theorem ringT_ok {Ls : List Nat} (ok : RingOk Ls) : OkT (ringT Ls) (Ls.length - 1) := by
  have h2 := ok.l2
  refine ⟨by rw [ringT_len]; omega, by rw [ringT_len]; have := ok.sum; omega, fun r hr => ?_⟩
  rw [ringT_len]
  rcases List.mem_cons.mp hr with rfl | hr
  · refine ⟨by rw [offs_len]; omega, fun n hn => (offs_lt 1 Ls ok.pos n hn).2⟩
  · obtain ⟨h1, h3⟩ := rowsR_ok _ 1 Ls ok.pos r hr
    exact ⟨by omega, h3⟩
def sp__law_rings (a : Ad) : SpD := fun ds Q _ => ∃ Ls, ds = [.drw, .lst (Ls.map intD)] ∧ RingOk Ls ∧ ∀ g, g.length = 1 + Ls.sum → Q (planD (Ls.length - 1) (ringT Ls) g)
theorem sum_take {Ls : List Nat} : ∀ {i : Nat}, (Ls.take i).sum ≤ Ls.sum := fun {i} => by
  have : Ls.sum = (Ls.take i).sum + (Ls.drop i).sum := by rw [← List.sum_append, List.take_append_drop]
  omega
theorem flat_one {α : Type} (n : Nat) (x : α) : (List.replicate n [x]).flatten = List.replicate n x := by
  induction n with
  | zero => rfl
  | succ n ih => rw [List.replicate_succ, List.flatten_cons, ih]; rfl
theorem rings_turn {a : Ad} {N : DEnds} {E : EX} {Ls : List Nat} (ok : RingOk Ls) {b l j : Nat} (hl : 0 < l) (hj : j < l) {r : Int} {tb gd bg : List D} {s8 : Sl} (htb : tb.length ≤ 100) (hgd : gd.length ≤ 100)
    (h : ∀ (c : Bool) s7 s8, N.nx [.im .drw, .im (.lst (Ls.map intD)), .im (intD l), .ol (tb ++ [rowD (ringRow Ls.length b l j)]), .ol (gd ++ [.bl c]), .ol (bg ++ [intD b]), .im (.int r), s7, s8]) :
    dSeq (dSetM 8 (dOpM rdAdd (dO (dIx (dB 5) (dO (dNeg (dO (dC (.int 1))))))) (dO (dClean (dIfM (dCmpT rdLt (dO (dClean (dOpM rdAdd (dB 7) (dO (dC (.int 1)))))) (dB 2)) (dOpM rdAdd (dB 7) (dO (dC (.int 1)))) (dIm (dC (.int 0))))))))
  (dSeq (dAppend 3 (dCons (dClean (dOpM rdMul (dO (dTup (dCons (dVar 8) dNil))) (dO (dClean (dBlt rdLen (dConsO (dB 1) dNilO)))))) dNil))
  (dAppend 4 (dCons (dOrV (dCmpE rdEq (dB 7) (dB 6)) (dCmpE rdEq (dO (DL.dFn (sp__law_take a) (dCons (dVar 0) (dCons (dC (.int 9)) dNil)))) (dO (dC (.int 0))))) dNil))) N
    [.im .drw, .im (.lst (Ls.map intD)), .im (intD l), .ol tb, .ol gd, .ol (bg ++ [intD b]), .im (.int r), .im (.int (j : Nat)), s8] E := by
  have h2 := ok.l2
  have h5 := ok.l5
  have z1 : 1 ≤ sizeLine := by rw [sizeLine_eq]; omega
  have z2 : tb.length < sizeLine := by rw [sizeLine_eq]; omega
  have z3 : gd.length < sizeLine := by rw [sizeLine_eq]; omega
  have el : atI (bg ++ [D.int b]) (-1) = some (D.int b) := by rw [atI_m1, List.getLast?_append]; rfl
  have key : ∀ z : Int, z = (nxt l j : Nat) → D.tup (List.replicate Ls.length (D.int ((b : Int) + z))) = rowD (ringRow Ls.length b l j) := fun z e => by
    subst e
    unfold rowD ringRow intD
    rw [List.map_replicate]
    simp
  have fin : ∀ (z : Int), z = (nxt l j : Nat) → (2 ≤ (Ls.length : Int) ∧ (Ls.length : Int) ≤ 1000 ∧
      ((¬(j : Int) = r ∧ sp__law_take a [D.drw, D.int 9] (fun d => OkEq d ∧ gd.length < sizeLine ∧ N.nx [.im .drw, .im (.lst (Ls.map intD)), .im (.int l), .ol (tb ++ [.tup (List.replicate Ls.length (.int ((b : Int) + z)))]), .ol (gd ++ [.bl (eqD d (.int 0))]), .ol (bg ++ [.int b]), .im (.int r), .im (.int j), .im (.int ((b : Int) + z))]) E) ∨
      ((j : Int) = r ∧ gd.length < sizeLine ∧ N.nx [.im .drw, .im (.lst (Ls.map intD)), .im (.int l), .ol (tb ++ [.tup (List.replicate Ls.length (.int ((b : Int) + z)))]), .ol (gd ++ [.bl true]), .ol (bg ++ [.int b]), .im (.int r), .im (.int j), .im (.int ((b : Int) + z))]))) := fun z e => by
    refine ⟨by omega, by omega, ?_⟩
    rw [key z e]
    by_cases hr : (j : Int) = r
    · exact .inr ⟨hr, z3, h true _ _⟩
    · exact .inl ⟨hr, 9, rfl, by omega, by omega, fun r' _ _ => ⟨okEq_int _, z3, h _ _ _⟩⟩
  simp [intD, z1, z2]
  refine ⟨_, el, ?_⟩
  by_cases hlt : j + 1 < l
  · rw [if_pos (by omega)]
    simp
    exact fin _ (by unfold nxt; rw [if_pos hlt]; omega)
  · rw [if_neg (by omega)]
    simp
    have := fin 0 (by unfold nxt; rw [if_neg hlt]; omega)
    simpa using this
theorem run__law_rings (a : Ad) (ds : List D) (Q : D → Prop) (E : EX) (h : sp__law_rings a ds Q E) : ds.length = 2 ∧ sem__law_rings a { nx := fun _ => Q .non, rt := Q } (startD N__law_rings.length ds) E := by
  obtain ⟨Ls, rfl, ok, hq⟩ := h
  refine ⟨rfl, ?_⟩
  have h2 := ok.l2
  have h5 := ok.l5
  have hs := ok.sum
  have z0 : 0 ≤ sizeLine := Nat.zero_le _
  have z1 : 1 ≤ sizeLine := by rw [sizeLine_eq]; omega
  have z3 : 3 ≤ sizeLine := by rw [sizeLine_eq]; omega
  unfold sem__law_rings
  refine seqN fun M1 m1 _ _ _ => ?_
  simp [z1, sp__law_take]
  intro r0 _ _
  refine ⟨_, _, _, ⟨rfl, rfl, rfl⟩, m1 _ ?_⟩
  refine seqN fun M2 m2 _ r2 _ => ?_
  simp
  refine for_map (f := intD) (xs := Ls) (fun i Δ => ∃ s2 s6 s7 s8 g, Δ = [.im .drw, .im (.lst (Ls.map intD)), s2, .ol (.tup [] :: (rowsR Ls.length 1 (Ls.take i)).map rowD), .ol (blsD g), .ol ((offs 1 (Ls.take i)).map intD), s6, s7, s8] ∧ g.length = 1 + (Ls.take i).sum) ⟨_, _, _, _, [decide (r0 = 0)], rfl, rfl⟩ ?_ ?_
  · rintro i l Δ2 hi ⟨s2, s6, s7, s8, g, rfl, hg⟩
    have hl := ok.pos l (List.mem_of_getElem? hi)
    obtain ⟨hil, hie⟩ := List.getElem?_eq_some_iff.mp hi
    have et : Ls.take (i + 1) = Ls.take i ++ [l] := by rw [List.take_add_one, hi]; rfl
    have esum : (Ls.take i).sum + l ≤ Ls.sum := by
      have := sum_take (Ls := Ls) (i := i + 1)
      rw [et, List.sum_append] at this
      simpa using this
    have hlen := rowsR_len Ls.length 1 (Ls.take i)
    have hol := offs_len 1 (Ls.take i)
    generalize hb : (Ls.take i).sum = S at *
    refine seqN fun M3 m3 _ _ _ => ?_
    simp
    refine ⟨by rw [hol, List.length_take, sizeLine_eq]; omega, m3 _ ?_⟩
    refine seqN fun M4 m4 _ _ _ => ?_
    simp [sp__law_take]
    refine ⟨l, rfl, by omega, by omega, fun r q1 q2 => m4 _ ?_⟩
    have eb : ((rowsR Ls.length 1 (Ls.take i)).length : Int) + 1 = ((1 + S : Nat) : Int) := by rw [hlen]; omega
    rw [eb]
    simp
    refine ⟨l, rfl, by omega, by omega, ?_⟩
    rw [show ((l : Int)).toNat = l by omega]
    refine for_range (fun j Δ => ∃ s7 s8 g, Δ = [.im .drw, .im (.lst (Ls.map intD)), .im (intD l), .ol (.tup [] :: (rowsR Ls.length 1 (Ls.take i) ++ (ringRows Ls.length (1 + S) l).take j).map rowD), .ol (blsD g), .ol ((offs 1 (Ls.take i)).map intD ++ [intD (1 + S)]), .im (.int r), s7, s8] ∧ g.length = 1 + S + j) ⟨s7, s8, g, by simp [intD], by omega⟩ ?_ ?_
    · rintro j Δ2 hj ⟨s7, s8, g, rfl, hg⟩
      have hrl := ringRows_len Ls.length (1 + S) l
      have en : (ringRows Ls.length (1 + S) l).take (j + 1) = (ringRows Ls.length (1 + S) l).take j ++ [ringRow Ls.length (1 + S) l j] := by
        rw [List.take_add_one, List.getElem?_eq_getElem (by rw [hrl]; exact hj)]
        simp [ringRows]
      rw [show (0 : Int) + (j : Int) = (j : Nat) by omega]
      refine rings_turn ok hl hj (by simp [hlen, hrl]; omega) (by unfold blsD; rw [List.length_map]; omega) fun c s7 s8 => ⟨s7, s8, g ++ [c], ?_, by simp; omega⟩
      rw [en]
      simp [blsD]
    · rintro Δ2 ⟨s7, s8, g, rfl, hg⟩
      refine ⟨.im (intD l), .im (.int r), s7, s8, g, ?_, by rw [et, List.sum_append, hb, hg]; simp; omega⟩
      rw [et, rowsR_snoc, offs_snoc, hb, List.take_of_length_le (l := ringRows Ls.length (1 + S) l) (by rw [ringRows_len]; exact Nat.le_refl _)]
      simp
  · rintro Δ2 ⟨s2, s6, s7, s8, g, rfl, hg⟩
    refine m2 _ ?_
    refine seqN fun M3 m3 _ r3 _ => .inl ⟨⟨_, rfl⟩, ?_⟩
    simp
    refine ⟨0, by unfold ixN; rw [if_pos (by decide), if_pos (by omega)]; rfl, m3 _ ?_⟩
    simp [z3]
    have hg2 : g.length = 1 + Ls.sum := by rw [hg, List.take_of_length_le (Nat.le_refl _)]
    have := hq g hg2
    have ec : ((Ls.length - 1 : Nat) : Int) = (Ls.length : Int) - 1 := by omega
    unfold planD at this
    rw [ec] at this
    exact this
end DL
-- K72r
set_option Elab.async false
set_option linter.all false
set_option maxRecDepth 100000
set_option maxHeartbeats 2000000
set_option autoImplicit false
namespace DL
open PySem PySem.Spec L2
open PyProof.Rows hiding St
/-! ### when a crowd comes again -/
theorem rep_least {T : List (List Nat)} : ∀ (k : Nat), (∃ i, i < k ∧ cr T i = cr T k) → ∃ N j, Rep T N j ∧ N ≤ k := fun k => by
  induction k using Nat.strongRecOn with
  | _ k ih =>
    rintro ⟨i, hi, e⟩
    by_cases h : ∃ n, n < k ∧ ∃ m, m < n ∧ cr T m = cr T n
    · obtain ⟨n, hn, m, hm, q⟩ := h
      obtain ⟨N, j, R, hN⟩ := ih n hn ⟨m, hm, q⟩
      exact ⟨N, j, R, by omega⟩
    · exact ⟨k, i, ⟨hi, e.symm, fun a b h1 h2 z => h ⟨b, h2, a, h1, z⟩⟩, Nat.le_refl _⟩
/-- all that a filter may leave -/
def subs : List Nat → List (List Nat)
  | [] => [[]]
  | x :: xs => subs xs ++ (subs xs).map (x :: ·)
theorem subs_len : ∀ xs, (subs xs).length = 2 ^ xs.length
  | [] => rfl
  | x :: xs => by simp [subs, subs_len xs, Nat.pow_succ]; omega
theorem filter_subs (p : Nat → Bool) : ∀ xs : List Nat, xs.filter p ∈ subs xs
  | [] => by simp [subs]
  | x :: xs => by
    have ih := filter_subs p xs
    cases q : p x with
    | true => simp only [List.filter_cons, q, if_true, subs]; exact List.mem_append_right _ (List.mem_map.mpr ⟨_, ih, rfl⟩)
    | false => simp only [List.filter_cons, q, Bool.false_eq_true, if_false, subs]; exact List.mem_append_left _ ih
theorem one_subs : ∀ {n : Nat}, 1 ≤ n → [0] ∈ subs (List.range n) := fun {n} h => by
  have := filter_subs (fun k => decide (k = 0)) (List.range n)
  have e : (List.range n).filter (fun k => decide (k = 0)) = [0] := by
    cases n with
    | zero => omega
    | succ n =>
      rw [List.range_succ_eq_map, List.filter_cons]
      simp
  rwa [e] at this
theorem cr_subs {T : List (List Nat)} (h : 1 ≤ T.length) : ∀ k, cr T k ∈ subs (List.range T.length)
  | 0 => one_subs h
  | k + 1 => filter_subs _ _
theorem few_rooms {T : List (List Nat)} (h1 : 1 ≤ T.length) (h2 : T.length ≤ 12) : ∃ N j, Rep T N j ∧ N ≤ 4096 := by
  by_cases h : ∃ k, k ≤ 4096 ∧ ∃ i, i < k ∧ cr T i = cr T k
  · obtain ⟨k, hk, z⟩ := h
    obtain ⟨N, j, R, hN⟩ := rep_least k z
    exact ⟨N, j, R, by omega⟩
  · exfalso
    have nd : ((List.range 4097).map (cr T)).Nodup := by
      refine List.pairwise_map.mpr ((List.pairwise_lt_range (n := 4097)).imp_of_mem fun {a b} ha hb hab z => h ⟨b, by have := List.mem_range.mp hb; omega, a, hab, z⟩)
    have := List.Nodup.length_le_of_subset nd (l₂ := subs (List.range T.length)) (fun c hc => by
      obtain ⟨k, _, rfl⟩ := List.mem_map.mp hc
      exact cr_subs h1 k)
    rw [List.length_map, List.length_range, subs_len, List.length_range] at this
    have h3 : 2 ^ T.length ≤ 2 ^ 12 := Nat.pow_le_pow_right (by omega) h2
    omega
/-! ### the crowds of rings -/
theorem rings_goals (m : Nat) (hm : 0 < m) (k : Nat) : ∀ (ls : List Nat) (pre : List (List Nat)), (∀ l ∈ ls, 0 < l) → ∀ x, x ∈ (rpos pre.length ls k).flatMap (fun r => (pre ++ rowsR m pre.length ls).getD r []) ↔ x ∈ rpos pre.length ls (k + 1)
  | [], pre, _, x => by simp [rpos]
  | l :: ls, pre, hp, x => by
    have hl := hp l List.mem_cons_self
    have hk := Nat.mod_lt k hl
    have ih := rings_goals m hm k ls (pre ++ ringRows m pre.length l) (fun y hy => hp y (List.mem_cons_of_mem _ hy)) x
    rw [List.length_append, ringRows_len] at ih
    have e : (pre ++ rowsR m pre.length (l :: ls)) = (pre ++ ringRows m pre.length l) ++ rowsR m (pre.length + l) ls := by
      show pre ++ (ringRows m pre.length l ++ rowsR m (pre.length + l) ls) = _
      rw [List.append_assoc]
    have e2 : (pre ++ rowsR m pre.length (l :: ls)).getD (pre.length + k % l) [] = List.replicate m (pre.length + (k + 1) % l) := by
      rw [e, List.append_assoc, List.getD_eq_getElem?_getD, List.getElem?_append_right (by omega), Nat.add_sub_cancel_left, List.getElem?_append_left (by rw [ringRows_len]; exact hk)]
      simp [ringRows, hk, ringRow, nxt_mod hl]
    show x ∈ ((pre.length + k % l) :: rpos (pre.length + l) ls k).flatMap _ ↔ x ∈ (pre.length + (k + 1) % l) :: rpos (pre.length + l) ls (k + 1)
    rw [List.flatMap_cons, List.mem_append, List.mem_cons, e2, e, ih]
    have : x ∈ List.replicate m (pre.length + (k + 1) % l) ↔ x = pre.length + (k + 1) % l := by
      rw [List.mem_replicate]
      exact ⟨fun h => h.2, fun h => ⟨by omega, h⟩⟩
    rw [this]
theorem rpos_lt : ∀ (b : Nat) (ls : List Nat) (k : Nat), (∀ l ∈ ls, 0 < l) → ∀ x ∈ rpos b ls k, b ≤ x ∧ x < b + ls.sum
  | _, [], _, _, x, h => by cases h
  | b, l :: ls, k, hp, x, h => by
    have hl := hp l List.mem_cons_self
    have hk := Nat.mod_lt k hl
    simp only [List.sum_cons]
    rcases List.mem_cons.mp h with rfl | h
    · omega
    · have := rpos_lt (b + l) ls k (fun y hy => hp y (List.mem_cons_of_mem _ hy)) x h
      omega
theorem rpos_pw : ∀ (b : Nat) (ls : List Nat) (k : Nat), (∀ l ∈ ls, 0 < l) → (rpos b ls k).Pairwise (· < ·)
  | _, [], _, _ => .nil
  | b, l :: ls, k, hp => by
    have hl := hp l List.mem_cons_self
    have hk := Nat.mod_lt k hl
    have hq : ∀ y ∈ ls, 0 < y := fun y hy => hp y (List.mem_cons_of_mem _ hy)
    exact .cons (fun x hx => by have := rpos_lt (b + l) ls k hq x hx; omega) (rpos_pw (b + l) ls k hq)
theorem rpos_zero : ∀ (b : Nat) (ls : List Nat), rpos b ls 0 = offs b ls
  | _, [] => rfl
  | b, l :: ls => by simp [rpos, offs, rpos_zero (b + l) ls]
theorem stepC_is {T : List (List Nat)} {C P : List Nat} (hp : P.Pairwise (· < ·)) (hl : ∀ x ∈ P, x < T.length) (h : ∀ x, x ∈ C.flatMap (fun r => T.getD r []) ↔ x ∈ P) : stepC T C = P :=
  pw_ext (stepC_pw T C) hp fun x => by
    unfold stepC
    rw [List.mem_filter, List.mem_range, decide_eq_true_eq, h]
    exact ⟨fun z => z.2, fun z => ⟨hl x z, z⟩⟩
theorem cr_rings {Ls : List Nat} (ok : RingOk Ls) : ∀ k, cr (ringT Ls) (k + 1) = rpos 1 Ls k
  | 0 => by
    have lt : ∀ x ∈ rpos 1 Ls 0, x < (ringT Ls).length := fun x hx => by
      rw [ringT_len]
      exact (rpos_lt 1 Ls 0 ok.pos x hx).2
    refine stepC_is (rpos_pw 1 Ls 0 ok.pos) lt fun x => ?_
    show x ∈ [0].flatMap _ ↔ _
    rw [rpos_zero]
    simp [ringT]
  | k + 1 => by
    have lt : ∀ x ∈ rpos 1 Ls (k + 1), x < (ringT Ls).length := fun x hx => by
      rw [ringT_len]
      exact (rpos_lt 1 Ls (k + 1) ok.pos x hx).2
    have h2 := ok.l2
    show stepC (ringT Ls) (cr (ringT Ls) (k + 1)) = _
    rw [cr_rings ok k]
    exact stepC_is (rpos_pw 1 Ls (k + 1) ok.pos) lt (rings_goals Ls.length (by omega) k Ls [offs 1 Ls] ok.pos)
theorem rpos_same : ∀ (b : Nat) (ls : List Nat) (k k' : Nat), (∀ l ∈ ls, k % l = k' % l) → rpos b ls k = rpos b ls k'
  | _, [], _, _, _ => rfl
  | b, l :: ls, k, k', h => by
    unfold rpos
    rw [h l List.mem_cons_self, rpos_same (b + l) ls k k' fun y hy => h y (List.mem_cons_of_mem _ hy)]
theorem rpos_of : ∀ (b : Nat) (ls : List Nat) (k k' : Nat), rpos b ls k = rpos b ls k' → ∀ l ∈ ls, k % l = k' % l
  | _, [], _, _, _, l, hl => by cases hl
  | b, l :: ls, k, k', h, y, hy => by
    unfold rpos at h
    rw [List.cons.injEq] at h
    rcases List.mem_cons.mp hy with rfl | hy
    · omega
    · exact rpos_of (b + l) ls k k' h.2 y hy
theorem rings_rep {Ls : List Nat} (ok : RingOk Ls) {L : Nat} (h0 : 0 < L) (h : ∀ l ∈ Ls, L % l = 0) : ∃ N j, Rep (ringT Ls) N j ∧ N ≤ L + 1 :=
  rep_least (L + 1) ⟨1, by omega, by
    rw [cr_rings ok L, cr_rings ok 0]
    exact rpos_same 1 Ls 0 L fun l hl => by rw [h l hl, Nat.zero_mod]⟩
theorem rings_far : ∀ i k, i < k → k ≤ 5000 → cr (ringT [5, 7, 9, 16]) i ≠ cr (ringT [5, 7, 9, 16]) k := by
  have ok : RingOk [5, 7, 9, 16] := ⟨by decide, by decide, by decide, by decide⟩
  rintro i (_ | k) h1 h2 e
  · omega
  · rw [cr_rings ok k] at e
    cases i with
    | zero =>
      have z := congrArg List.length e
      simp [cr, rpos] at z
    | succ i =>
      rw [cr_rings ok i] at e
      have r := rpos_of 1 _ _ _ e
      have r5 := r 5 (by simp)
      have r7 := r 7 (by simp)
      have r9 := r 9 (by simp)
      have r16 := r 16 (by simp)
      omega
end DL
-- K72t
set_option Elab.async false
set_option linter.all false
set_option maxRecDepth 100000
set_option maxHeartbeats 2000000
set_option autoImplicit false
namespace DL
open PySem PySem.Spec L2
open PyProof.Rows hiding St
/-! ### errors caught -/
def isInk (a : Ad) (C : Addr) : Prop := C = a.NoMachine ∨ C = a.NoNumber ∨ C = a.TooMany
open Classical in
noncomputable def isaOf (a : Ad) (C C' : Addr) : Option Bool := if isInk a C ∧ C = C' then some true else none
structure TxtX (K : PySem.W.Frag) (mg : Str → Option Value) (a : Ad) : Prop extends Txt K mg a where
  g_InkError : mg "InkError" = some (.ref a.InkError)
  ink : ∀ C, isInk a C → PySem.W.exmOne K (.ref C) (.ref a.InkError) = some true
  exc : ∀ C, isInk a C → ExcC K C ∧ PySem.W.kitOne K (.ref C) (.ref C) = some true
theorem TxtX.g_NoNumber {K : PySem.W.Frag} {mg : Str → Option Value} {a : Ad} (T : TxtX K mg a) : mg "NoNumber" = some (.ref a.NoNumber) := T.e_NoNumber.g
theorem TxtX.g_TooMany {K : PySem.W.Frag} {mg : Str → Option Value} {a : Ad} (T : TxtX K mg a) : mg "TooMany" = some (.ref a.TooMany) := T.e_TooMany.g
theorem TxtX.isa {K : PySem.W.Frag} {mg : Str → Option Value} {a : Ad} (T : TxtX K mg a) : ∀ C C' b, isaOf a C C' = some b → ExcC K C ∧ PySem.W.kitOne K (.ref C) (.ref C') = some b := fun C C' b h => by
  unfold isaOf at h
  split at h
  · next z =>
    obtain ⟨z1, rfl⟩ := z
    cases h
    exact T.exc C z1
  · cases h
theorem isa_yes {a : Ad} {C : Addr} (h : isInk a C) : isaOf a C C = some true := if_pos ⟨h, rfl⟩
/-! ### _law_caught -/
abbrev st__law_caught : Stmt := top 26
abbrev N__law_caught : List Str := ["work", "caught", "error"]
theorem sc__law_caught : FnScope N__law_caught ["work"] (defScope st__law_caught) := ⟨rfl, rfl, rfl, by decide +kernel, rfl, by decide +kernel, by decide +kernel⟩
def sem__law_caught (a : Ad) (beh : Clo → SpD) : DTS :=
  (dSeq (dSet 1 (dC .non))
  (dSeq (dTryAs (isInk a) 1 (dDrop (dCallF0 0 beh)))
  (dRet (dVar 1))))
def sp__law_caught (a : Ad) : SpF := fun beh ds Q E => ∃ clo, ds = [.fn clo] ∧ beh clo [] (fun _ => Q .non) (fun C => isInk a C ∧ Q (.exc C))
theorem body__law_caught {P : Program} {w : World} {K : PySem.W.Frag} {mg : Str → Option Value} {base : Heap} {a : Ad} {f : Addr} {lv : Nat} (T : TxtX K mg a) {W : Wd K} {Bm : Hp} {beh : Clo → SpD} (EV : ∀ clo, CallOk P w K mg base W Bm lv clo (beh clo)) {cdv : Value} {A : Around} {outer : List Env} {s : Shared} {H : Hp} {E : XK} {B : Hp} {Ed : EX} {hE : ∀ C H' B', Ed C → Grow W H B H' B' → E (.ref C) none H'} (sb : Sub Bm B)
    (hr : Room lv (A.deeper (envOfC "_law_caught" (defScope st__law_caught) s.heap.objs.size f cdv))) : PSs (cxB P w K mg base N__law_caught "_law_caught" st__law_caught f cdv A outer s H E) (defBody st__law_caught) (upS (⟨W, H, B, E, Ed, hE⟩ : Gx K) (sem__law_caught a beh)) :=
  have sc := sc__law_caught
  dss_cons (ds_set (i := 1) sc.nd de_non)
  (dss_cons (ds_try (x := "InkError") (n := "error") (i := 2) (m := 1) (c := .ref a.InkError) rfl rfl rfl sc.nd rfl rfl ⟨rfl, rfl, .inl T.g_InkError⟩ (by decide) rfl (.inl rfl) (.inl rfl) rfl rfl (.inr rfl) T.ink
    fun pn xe B0 E' Ed' hE' sb0 hp => dss_one (ds_expr (de_callfn0 0 EV (sb.trans sb0) hr hp)))
  (dss_one (ds_ret (de_var 1))))
theorem run__law_caught (a : Ad) (beh : Clo → SpD) (ds : List D) (Q : D → Prop) (E : EX) (h : sp__law_caught a beh ds Q E) : ds.length = 1 ∧ sem__law_caught a beh { nx := fun _ => Q .non, rt := Q } (startD N__law_caught.length ds) E := by
  obtain ⟨clo, rfl, hb⟩ := h
  refine ⟨rfl, ?_⟩
  unfold sem__law_caught
  simp [dTryAs, dCallF0]
  exact hb
end DL
-- K72u
set_option Elab.async false
set_option linter.all false
set_option maxRecDepth 100000
set_option maxHeartbeats 2000000
set_option autoImplicit false
namespace DL
open PySem PySem.Spec L2
open PyProof.Rows hiding St
/-! ### _law_begun -/
abbrev st__law_begun : Stmt := top 22
abbrev N__law_begun : List Str := ["script", "large", "cell"]
theorem sc__law_begun : FnScope N__law_begun ["script"] (defScope st__law_begun) := ⟨rfl, rfl, rfl, by decide +kernel, rfl, by decide +kernel, by decide +kernel⟩
theorem body__law_begun {P : Program} {w : World} {K : PySem.W.Frag} {mg : Str → Option Value} {base : Heap} {f : Addr} (hm : mg "abs" = none) {cdv : Value} {A : Around} {outer : List Env} {s : Shared} {H : Hp} {E : XK} :
    PSs (cxB P w K mg base N__law_begun "_law_begun" st__law_begun f cdv A outer s H E) (defBody st__law_begun) (t_begun K) :=
  have sc := sc__law_begun
  have ab : ∀ {Y : Cx} {p1 p2 p3 : Pos}, Y.mg = mg → Y.N = N__law_begun → Gl Y "abs" → Vis Y.env.scope "cell" → starEach [(.Name "cell" p1 : Expr)] Y.env = (false, eval (.Name "cell" p1) Y.env) :: starEach [] Y.env → PE Y (.Call (.Name "abs" p2) [.Name "cell" p1] [] p3) tAbs := fun e1 e2 e3 e4 e5 =>
    pe_callB call_abs e3 (by rw [e1]; exact hm) (by decide +kernel) (pa_cons (pe_var (i := 2) (by rw [e2]; rfl) e4 (by decide) (by decide)) pa_nil e5)
  pss_cons (ps_setLc (i := 1) (own := [("cell", 2)]) rfl sc.nd rfl rfl (sw_true rfl rfl rfl (by decide +kernel)) (pi_list (pe_var (i := 0) rfl (.inl rfl) (by decide) (by decide))) (blkOk_by (by rfl))
    (fun _ _ _ _ _ => pg_name (i := 2) sc.nd rfl (.inl rfl))
    (fun _ _ _ _ _ => pts_one (pt_cmpR op_ge (ab rfl rfl rfl (.inl rfl) rfl) (pe_op op_pow pe_int pe_int) (nomark _)))
    (fun _ _ _ _ _ => pe_op op_sub (ab rfl rfl rfl (.inl rfl) rfl) (pe_op op_pow pe_int pe_int)))
  (pss_one (ps_ret (pe_disp (pps_cons pe_str (pe_var (i := 1) rfl (.inl rfl) (by decide) (by decide)) (pps_cons pe_str pe_int (pps_cons pe_str (pe_lc (own := [("cell", 2)]) rfl sc.nd (pi_list (pe_var (i := 0) rfl (.inl rfl) (by decide) (by decide))) (blkOk_by (by rfl))
    (fun _ _ _ _ _ => pg_name (i := 2) sc.nd rfl (.inl rfl)) (fun _ _ _ _ _ => pts_nil) (fun _ _ _ _ _ => ab rfl rfl rfl (.inl rfl) rfl)) (pps_cons pe_str pe_int pps_nil)))) rfl rfl (by simp) (by decide))))
end DL
-- K72v
set_option Elab.async false
set_option linter.all false
set_option maxRecDepth 100000
set_option maxHeartbeats 2000000
set_option autoImplicit false
namespace DL
open PySem PySem.Spec L2
open PyProof.Rows hiding St
/-! ### law -/
abbrev st_law : Stmt := top 32
abbrev N_law : List Str := ["script", "draw", "lap", "one", "rings", "plan", "machine", "due", "size", "bad", "far", "near", "works", "truth", "work"]
theorem sc_law : FnScope N_law ["script"] (defScope st_law) := ⟨rfl, rfl, rfl, by decide +kernel, rfl, by decide +kernel, by decide +kernel⟩
def sem_law (a : Ad) (k0 : Clo) (k1 : Clo) (k2 : Clo) (k3 : Clo) : DTS :=
  (dSeq (dFor (dRng1 (dCons (dClean (dOpM rdAdd (dO (dC (.int 3))) (dO (dClean (dBlt rdMin2 (dConsO (dO (dClean (dBlt rdLen (dConsO (dB 0) dNilO)))) (dConsO (dO (dC (.int 5))) dNilO))))))) dNil)) (dgName 2)
  (dSeq (dSet 4 (dFn (sp__law_pick a) (dCons (dVar 1) (dCons (dClean (dLst (dCons (dClean (dLst (dCons (dC (.int 2)) (dCons (dC (.int 3)) dNil)))) (dCons (dClean (dLst (dCons (dC (.int 4)) (dCons (dC (.int 6)) dNil)))) (dCons (dClean (dLst (dCons (dC (.int 5)) (dCons (dC (.int 7)) (dCons (dC (.int 3)) dNil))))) (dCons (dClean (dLst (dCons (dC (.int 2)) (dCons (dC (.int 3)) (dCons (dC (.int 5)) (dCons (dC (.int 7)) dNil)))))) (dCons (dClean (dLst (dCons (dC (.int 1)) (dCons (dC (.int 8)) dNil)))) (dCons (dClean (dLst (dCons (dC (.int 9)) (dCons (dC (.int 4)) (dCons (dC (.int 5)) dNil))))) dNil)))))))) dNil))))
  (dSeq (dSet 5 (dFn (sp__law_pick a) (dCons (dVar 1) (dCons (dClean (dLst (dCons (dFn (sp__law_plan a) (dCons (dVar 1) (dCons (dC (.int 12)) dNil))) (dCons (dFn (sp__law_rings a) (dCons (dVar 1) (dCons (dVar 4) dNil))) dNil)))) dNil))))
  (dSeq (dSet 6 (dMake a.Machine (sp_Machine___init__ a) (dCons (dIx (dB 5) (dO (dC (.int 0)))) (dCons (dIx (dB 5) (dO (dC (.int 1)))) (dCons (dIx (dB 5) (dO (dC (.int 2)))) dNil)))))
  (dSeq (dSet 7 (dFn (sp__law_shortest a) (dCons (dIx (dO (dFn (sp__law_told_sizes a) (dCons (dVar 5) (dCons (dC (.int 4999)) dNil)))) (dO (dC (.int 0)))) (dCons (dIx (dO (dFn (sp__law_told_sizes a) (dCons (dVar 5) (dCons (dC (.int 4999)) dNil)))) (dO (dC (.int 1)))) dNil))))
  (dSeq (dIfS (dCmpT rdNeS (dO (dClean (dBlt rdRepr (dConsO (dO (dClean (dLst (dCons (dFn (sp_sizes a) (dCons (dVar 6) dNil)) (dCons (dFnW (sp_sizes a) 0 1 [0] dNil (dCons (dVar 6) dNil)) dNil))))) dNilO)))) (dO (dClean (dBlt rdRepr (dConsO (dO (dClean (dLst (dCons (dVar 7) (dCons (dVar 7) dNil))))) dNilO)))))
  (dRet (dC (.bl false)))
  dNext)
  (dSeq (dFor (dSeqI (dClean (dLst (dCons (dC (.int 0)) (dCons (dC (.int 1)) (dCons (dFn (sp__law_take a) (dCons (dVar 1) (dCons (dC (.int 900)) dNil))) (dCons (dClean (dOpM rdPow (dO (dC (.int 10))) (dO (dC (.int 60))))) (dCons (dClean (dOpM rdSub (dO (dClean (dOpM rdPow (dO (dC (.int 10))) (dO (dC (.int 60)))))) (dO (dFn (sp__law_take a) (dCons (dVar 1) (dCons (dC (.int 99)) dNil)))))) dNil)))))))) (dgName 8)
  (dSeq (dSet 13 (dIf (dCmpT rdLt (dB 8) (dO (dClean (dBlt rdLen (dConsO (dO (dIx (dB 7) (dO (dC (.int 0))))) dNilO))))) (dIx (dO (dIx (dB 7) (dO (dC (.int 0))))) (dB 8)) (dIx (dO (dIx (dB 7) (dO (dC (.int 1))))) (dO (dClean (dOpM rdMod (dO (dClean (dBlt rdInt (dConsO (dO (dClean (dOpM rdSub (dB 8) (dO (dClean (dBlt rdLen (dConsO (dO (dIx (dB 7) (dO (dC (.int 0))))) dNilO))))))) dNilO)))) (dO (dClean (dBlt rdLen (dConsO (dO (dIx (dB 7) (dO (dC (.int 1))))) dNilO))))))))))
  (dIfS (dCmpT rdNeS (dO (dClean (dBlt rdRepr (dConsO (dO (dClean (dLst (dCons (dFn (sp_has_lines a) (dCons (dVar 6) (dCons (dVar 8) dNil))) (dCons (dFnW (sp_has_lines a) 0 2 [1, 0] dNil (dCons (dVar 8) (dCons (dVar 6) dNil))) dNil))))) dNilO)))) (dO (dClean (dBlt rdRepr (dConsO (dO (dClean (dLst (dCons (dVar 13) (dCons (dVar 13) dNil))))) dNilO)))))
  (dRet (dC (.bl false)))
  dNext)))
  (dFor (dSeqI (dClean (dLst (dCons (dC .non) (dCons (dNeg (dO (dC (.int 1)))) (dCons (dClean (dOpM rdAdd (dO (dClean (dOpM rdPow (dO (dC (.int 10))) (dO (dC (.int 60)))))) (dO (dC (.int 1))))) (dCons (dC (.bl true)) (dCons (dC (.str "3")) dNil)))))))) (dgName 9)
  (dIfS (dNot (dTst (dClean (dBlt (rdIsE (isaOf a)) (dConsO (dO (dFnF (sp__law_caught a) noBeh [(⟨k0, ["machine", "bad"], [], [6, 9], (dFn (sp_has_lines a) (dCons (dVar 0) (dCons (dVar 1) dNil)))⟩ : LamD)] (dCons (dC (.fn k0)) dNil))) (dConsO (dO (dC (.cls a.NoNumber))) dNilO))))))
  (dRet (dC (.bl false)))
  dNext)))))))))
  (dSeq (dIfS (dCmpT rdEq (dO (dFn (sp__law_take a) (dCons (dVar 1) (dCons (dC (.int 5)) dNil)))) (dO (dC (.int 0))))
  (dSeq (dSet 10 (dFn (sp__law_rings a) (dCons (dVar 1) (dCons (dClean (dLst (dCons (dC (.int 5)) (dCons (dC (.int 7)) (dCons (dC (.int 9)) (dCons (dC (.int 16)) dNil)))))) dNil))))
  (dSeq (dSet 11 (dFn (sp__law_rings a) (dCons (dVar 1) (dCons (dClean (dLst (dCons (dC (.int 4)) (dCons (dC (.int 5)) (dCons (dC (.int 13)) (dCons (dC (.int 19)) dNil)))))) dNil))))
  (dSeq (dSetM 12 (dLst (dCons (dC (.fn k1)) dNil)))
  (dSeq (dAppend 12 (dCons (dC (.fn k2)) dNil))
  (dSeq (dIfS (dCmpT rdNe (dO (dClean (dLCF [(⟨k1, ["far"], [], [10], (dFn (sp_sizes a) (dCons (dMake a.Machine (sp_Machine___init__ a) (dCons (dIx (dB 0) (dO (dC (.int 0)))) (dCons (dIx (dB 0) (dO (dC (.int 1)))) (dCons (dIx (dB 0) (dO (dC (.int 2)))) dNil)))) dNil))⟩ : LamD), (⟨k2, ["far"], [], [10], (dFn (sp_has_lines a) (dCons (dMake a.Machine (sp_Machine___init__ a) (dCons (dIx (dB 0) (dO (dC (.int 0)))) (dCons (dIx (dB 0) (dO (dC (.int 1)))) (dCons (dIx (dB 0) (dO (dC (.int 2)))) dNil)))) (dCons (dC (.int 5)) dNil)))⟩ : LamD)] [14] (dSeqI (dVar 12)) (dgName 14) (fun beh => (dNot (dTst (dClean (dBlt (rdIsE (isaOf a)) (dConsO (dO (dFnF (sp__law_caught a) beh [] (dCons (dVar 14) dNil))) (dConsO (dO (dC (.cls a.TooMany))) dNilO))))))) (dC (.int 1))))) (dO (dClean (dLst dNil))))
  (dRet (dC (.bl false)))
  dNext)
  (dIfS (dCmpT rdNotN (dO (dFnF (sp__law_caught a) noBeh [(⟨k3, ["near"], [], [11], (dFn (sp_sizes a) (dCons (dMake a.Machine (sp_Machine___init__ a) (dCons (dIx (dB 0) (dO (dC (.int 0)))) (dCons (dIx (dB 0) (dO (dC (.int 1)))) (dCons (dIx (dB 0) (dO (dC (.int 2)))) dNil)))) dNil))⟩ : LamD)] (dCons (dC (.fn k3)) dNil))) (dO (dC .non)))
  (dRet (dC (.bl false)))
  dNext))))))
  dNext)
  (dSeq (dSet 3 (dMake a.Machine (sp_Machine___init__ a) (dCons (dC (.int 1)) (dCons (dTup (dCons (dTup (dCons (dC (.int 1)) (dCons (dC (.int 1)) dNil))) (dCons (dTup (dCons (dC (.int 2)) (dCons (dC (.int 2)) dNil))) (dCons (dTup (dCons (dC (.int 2)) (dCons (dC (.int 2)) dNil))) dNil)))) (dCons (dTup (dCons (dC (.bl false)) (dCons (dC (.bl true)) (dCons (dC (.bl false)) dNil)))) dNil)))))
  (dRet (dCmpE rdEqS (dO (dClean (dBlt rdRepr (dConsO (dO (dClean (dLst (dCons (dFn (sp_sizes a) (dCons (dVar 3) dNil)) (dCons (dFn (sp_sizes a) (dCons (dMake a.Machine (sp_Machine___init__ a) (dCons (dC (.int 2)) (dCons (dTup (dCons (dTup (dCons (dC (.int 0)) (dCons (dC (.int 0)) (dCons (dC (.int 0)) dNil)))) dNil)) (dCons (dTup (dCons (dC (.bl true)) dNil)) dNil)))) dNil)) dNil))))) dNilO)))) (dO (dClean (dBlt rdRepr (dConsO (dO (dClean (dLst (dCons (dTup (dCons (dTup (dCons (dC (.bl false)) (dCons (dC (.bl true)) dNil))) (dCons (dTup (dCons (dC (.bl false)) dNil)) dNil))) (dCons (dTup (dCons (dTup dNil) (dCons (dTup (dCons (dC (.bl true)) dNil)) dNil))) dNil))))) dNilO)))))))))
theorem body_law {P : Program} {w : World} {K : PySem.W.Frag} {mg : Str → Option Value} {base : Heap} {a : Ad} {f : Addr} (T : TxtX K mg a) (c__law_pick : Cal P w K mg base 3 "_law_pick" ["draw", "some"] (sp__law_pick a)) (c__law_rings : Cal P w K mg base 3 "_law_rings" ["draw", "lengths"] (sp__law_rings a)) (c__law_plan : Cal P w K mg base 5 "_law_plan" ["draw", "most"] (sp__law_plan a)) (c_Machine : CalI P w K mg base 3 "Machine" a.Machine ["self", "colours", "table", "good"] (sp_Machine___init__ a)) (c__law_shortest : Cal P w K mg base 1 "_law_shortest" ["ahead", "ring"] (sp__law_shortest a)) (c__law_told_sizes : Cal P w K mg base 1 "_law_told_sizes" ["plan", "most"] (sp__law_told_sizes a)) (c_sizes : Cal P w K mg base 2 "sizes" ["machine"] (sp_sizes a)) (c__law_take : Cal P w K mg base 2 "_law_take" ["draw", "amount"] (sp__law_take a)) (c_has_lines : Cal P w K mg base 3 "has_lines" ["machine", "size"] (sp_has_lines a)) (cw_sizes_machine : CalW P w K mg base 2 "sizes" ["machine"] (sp_sizes a) 0 ["machine"] [0]) (cw_has_lines_size_machine : CalW P w K mg base 3 "has_lines" ["machine", "size"] (sp_has_lines a) 0 ["size", "machine"] [1, 0]) (c__law_caught : CalF P w K mg 6 5 "_law_caught" ["work"] (sp__law_caught a)) {cdv : Value} {A : Around} {outer : List Env} {s : Shared} {H : Hp} {E : XK} {W : Wd K} {H0 B : Hp} {Ed : EX} {hE : ∀ C H' B', Ed C → Grow W H0 B H' B' → E (.ref C) none H'} (M : LamMk (cxB P w K mg base N_law "law" st_law f cdv A outer s H E) W.T)
    (hr : Room 6 (A.deeper (envOfC "law" (defScope st_law) s.heap.objs.size f cdv))) : ∃ k0 k1 k2 k3, PSs (cxB P w K mg base N_law "law" st_law f cdv A outer s H E) ((defBody st_law).drop 1) (upS (⟨W, H0, B, E, Ed, hE⟩ : Gx K) (sem_law a k0 k1 k2 k3)) :=
  have sc := sc_law
  ⟨_, _, _, _, (dss_cons (ds_for (passes_of rfl) rfl (di_range1 (by rfl) T.z_range (da_cons (de_of_m (dm_op op_add5 r2_add (do_of_e de_int) (do_of_e (de_of_m (dm_callB (call_min2 rfl) rc_min2 (by rfl) T.z_min (by decide +kernel) (dao_cons (do_of_e (de_of_m (dm_callB call_len2 rc_len (by rfl) T.z_len (by decide +kernel) (dao_cons (do_name 0) dao_nil)))) (dao_cons (do_of_e de_int) dao_nil))))))) da_nil)) (dg_name (i := 2) sc.nd)
  (dss_cons (ds_set (i := 4) sc.nd (de_cal (c__law_pick.mono (by decide)) hr (pass_up (takes_of rfl rfl rfl rfl)) (da_cons (de_var 1) (da_cons (de_of_m (dm_lst (da_cons (de_of_m (dm_lst (da_cons de_int (da_cons de_int da_nil)))) (da_cons (de_of_m (dm_lst (da_cons de_int (da_cons de_int da_nil)))) (da_cons (de_of_m (dm_lst (da_cons de_int (da_cons de_int (da_cons de_int da_nil))))) (da_cons (de_of_m (dm_lst (da_cons de_int (da_cons de_int (da_cons de_int (da_cons de_int da_nil)))))) (da_cons (de_of_m (dm_lst (da_cons de_int (da_cons de_int da_nil)))) (da_cons (de_of_m (dm_lst (da_cons de_int (da_cons de_int (da_cons de_int da_nil))))) da_nil)))))))) da_nil))))
  (dss_cons (ds_set (i := 5) sc.nd (de_cal (c__law_pick.mono (by decide)) hr (pass_up (takes_of rfl rfl rfl rfl)) (da_cons (de_var 1) (da_cons (de_of_m (dm_lst (da_cons (de_cal (c__law_plan.mono (by decide)) hr (pass_up (takes_of rfl rfl rfl rfl)) (da_cons (de_var 1) (da_cons de_int da_nil))) (da_cons (de_cal (c__law_rings.mono (by decide)) hr (pass_up (takes_of rfl rfl rfl rfl)) (da_cons (de_var 1) (da_cons (de_var 4) da_nil))) da_nil)))) da_nil))))
  (dss_cons (ds_set (i := 6) sc.nd (de_mk (c_Machine.mono (by decide)) hr (pass_up (takes_of rfl rfl rfl rfl)) (da_cons (de_ix (DL.hu_of hr) (do_name 5) (do_of_e de_int)) (da_cons (de_ix (DL.hu_of hr) (do_name 5) (do_of_e de_int)) (da_cons (de_ix (DL.hu_of hr) (do_name 5) (do_of_e de_int)) da_nil)))))
  (dss_cons (ds_set (i := 7) sc.nd (de_cal (c__law_shortest.mono (by decide)) hr (pass_up (takes_of rfl rfl rfl rfl)) (da_cons (de_ix (DL.hu_of hr) (do_of_e (de_cal (c__law_told_sizes.mono (by decide)) hr (pass_up (takes_of rfl rfl rfl rfl)) (da_cons (de_var 5) (da_cons de_int da_nil)))) (do_of_e de_int)) (da_cons (de_ix (DL.hu_of hr) (do_of_e (de_cal (c__law_told_sizes.mono (by decide)) hr (pass_up (takes_of rfl rfl rfl rfl)) (da_cons (de_var 5) (da_cons de_int da_nil)))) (do_of_e de_int)) da_nil))))
  (dss_cons (ds_if (dt_cmp op_ne r2_neS (do_of_e (de_of_m (dm_callB (call_repr hr) rc_repr (by rfl) T.z_repr (by decide +kernel) (dao_cons (do_of_e (de_of_m (dm_lst (da_cons (de_cal (c_sizes.mono (by decide)) hr (pass_up (takes_of rfl rfl rfl rfl)) (da_cons (de_var 6) da_nil)) (da_cons (de_kw0 (cw_sizes_machine.mono (by decide)) hr (pass_up (takes_of rfl rfl rfl rfl)) (dk_cons (de_var 6) dk_nil)) da_nil))))) dao_nil)))) (do_of_e (de_of_m (dm_callB (call_repr hr) rc_repr (by rfl) T.z_repr (by decide +kernel) (dao_cons (do_of_e (de_of_m (dm_lst (da_cons (de_var 7) (da_cons (de_var 7) da_nil))))) dao_nil)))))
  (dss_one (ds_ret de_bl))
  dss_nil)
  (dss_cons (ds_for (passes_of rfl) rfl (di_seq (de_of_m (dm_lst (da_cons de_int (da_cons de_int (da_cons (de_cal (c__law_take.mono (by decide)) hr (pass_up (takes_of rfl rfl rfl rfl)) (da_cons (de_var 1) (da_cons de_int da_nil))) (da_cons (de_of_m (dm_op op_pow r2_int (do_of_e de_int) (do_of_e de_int))) (da_cons (de_of_m (dm_op op_sub r2_int0 (do_of_e (de_of_m (dm_op op_pow r2_int (do_of_e de_int) (do_of_e de_int)))) (do_of_e (de_cal (c__law_take.mono (by decide)) hr (pass_up (takes_of rfl rfl rfl rfl)) (da_cons (de_var 1) (da_cons de_int da_nil)))))) da_nil)))))))) (dg_name (i := 8) sc.nd)
  (dss_cons (ds_set (i := 13) sc.nd (de_if (dt_cmp op_lt r2_cmp0 (do_name 8) (do_of_e (de_of_m (dm_callB call_len2 rc_len (by rfl) T.z_len (by decide +kernel) (dao_cons (do_of_e (de_ix (DL.hu_of hr) (do_name 7) (do_of_e de_int))) dao_nil))))) (de_ix (DL.hu_of hr) (do_of_e (de_ix (DL.hu_of hr) (do_name 7) (do_of_e de_int))) (do_name 8)) (de_ix (DL.hu_of hr) (do_of_e (de_ix (DL.hu_of hr) (do_name 7) (do_of_e de_int))) (do_of_e (de_of_m (dm_op op_mod r2_int (do_of_e (de_of_m (dm_callTy call_int1 rc_int (by rfl) T.z_int (by decide +kernel) (dao_cons (do_of_e (de_of_m (dm_op op_sub r2_int0 (do_name 8) (do_of_e (de_of_m (dm_callB call_len2 rc_len (by rfl) T.z_len (by decide +kernel) (dao_cons (do_of_e (de_ix (DL.hu_of hr) (do_name 7) (do_of_e de_int))) dao_nil))))))) dao_nil)))) (do_of_e (de_of_m (dm_callB call_len2 rc_len (by rfl) T.z_len (by decide +kernel) (dao_cons (do_of_e (de_ix (DL.hu_of hr) (do_name 7) (do_of_e de_int))) dao_nil))))))))))
  (dss_one (ds_if (dt_cmp op_ne r2_neS (do_of_e (de_of_m (dm_callB (call_repr hr) rc_repr (by rfl) T.z_repr (by decide +kernel) (dao_cons (do_of_e (de_of_m (dm_lst (da_cons (de_cal (c_has_lines.mono (by decide)) hr (pass_up (takes_of rfl rfl rfl rfl)) (da_cons (de_var 6) (da_cons (de_var 8) da_nil))) (da_cons (de_kw0 (cw_has_lines_size_machine.mono (by decide)) hr (pass_up (takes_of rfl rfl rfl rfl)) (dk_cons (de_var 8) (dk_cons (de_var 6) dk_nil))) da_nil))))) dao_nil)))) (do_of_e (de_of_m (dm_callB (call_repr hr) rc_repr (by rfl) T.z_repr (by decide +kernel) (dao_cons (do_of_e (de_of_m (dm_lst (da_cons (de_var 13) (da_cons (de_var 13) da_nil))))) dao_nil)))))
  (dss_one (ds_ret de_bl))
  dss_nil))))
  (dss_one (ds_for (passes_of rfl) rfl (di_seq (de_of_m (dm_lst (da_cons de_non (da_cons (de_neg (do_of_e de_int)) (da_cons (de_of_m (dm_op op_add5 r2_add (do_of_e (de_of_m (dm_op op_pow r2_int (do_of_e de_int) (do_of_e de_int)))) (do_of_e de_int))) (da_cons de_bl (da_cons de_str da_nil)))))))) (dg_name (i := 9) sc.nd)
  (dss_one (ds_if (dt_not (dt_val (de_of_m (dm_callB call_isEx (rc_isE T.isa) (by rfl) T.z_isinstance (by decide +kernel) (dao_cons (do_of_e (de_calF c__law_caught hr (pass_up (takes_of rfl rfl rfl rfl)) ev_no sub_no (by exact hls_cons ⟨4, by decide, ⟨lamP_by (by rfl), fun _ _ _ us hl => match us, hl with | [], _ => rfl, fun W f c A outer s H B E Ed hE hr => (de_cal (c_has_lines.mono (by decide)) hr (pass_up (takes_of rfl rfl rfl rfl)) (da_cons (de_var 0) (da_cons (de_var 1) da_nil)))⟩, capAt_by (by rfl) (fun _ => rfl)⟩ hls_nil) (da_cons (de_lam M rfl (hf_by (by rfl))) da_nil))) (dao_cons (do_of_e (de_c (pe_glob (v := .ref a.NoNumber) (by rfl) T.g_NoNumber rfl) fun _ => .cls _)) dao_nil))))))
  (dss_one (ds_ret de_bl))
  dss_nil)))))))))))
  (dss_cons (ds_if (dt_cmp (op_eqD hr.units) r2_eq (do_of_e (de_cal (c__law_take.mono (by decide)) hr (pass_up (takes_of rfl rfl rfl rfl)) (da_cons (de_var 1) (da_cons de_int da_nil)))) (do_of_e de_int))
  (dss_cons (ds_set (i := 10) sc.nd (de_cal (c__law_rings.mono (by decide)) hr (pass_up (takes_of rfl rfl rfl rfl)) (da_cons (de_var 1) (da_cons (de_of_m (dm_lst (da_cons de_int (da_cons de_int (da_cons de_int (da_cons de_int da_nil)))))) da_nil))))
  (dss_cons (ds_set (i := 11) sc.nd (de_cal (c__law_rings.mono (by decide)) hr (pass_up (takes_of rfl rfl rfl rfl)) (da_cons (de_var 1) (da_cons (de_of_m (dm_lst (da_cons de_int (da_cons de_int (da_cons de_int (da_cons de_int da_nil)))))) da_nil))))
  (dss_cons (ds_setM (i := 12) sc.nd (dm_lst (da_cons (de_lam M rfl (hf_by (by rfl))) da_nil)))
  (dss_cons (ds_append 12 (da_cons (de_lam M rfl (hf_by (by rfl))) da_nil))
  (dss_cons (ds_if (dt_cmp (op_neD hr.units) r2_ne (do_of_e (de_of_m (dm_lcF (own := [("work", 14)]) (lv := 5) rfl sc.nd (di_seq (de_var 12)) (blkOk_by (by rfl)) (by exact hls_cons ⟨4, by decide, ⟨lamP_by (by rfl), fun _ _ _ us hl => match us, hl with | [], _ => rfl, fun W f c A outer s H B E Ed hE hr => (de_cal (c_sizes.mono (by decide)) hr (pass_up (takes_of rfl rfl rfl rfl)) (da_cons (de_mk (c_Machine.mono (by decide)) hr (pass_up (takes_of rfl rfl rfl rfl)) (da_cons (de_ix (DL.hu_of hr) (do_name 0) (do_of_e de_int)) (da_cons (de_ix (DL.hu_of hr) (do_name 0) (do_of_e de_int)) (da_cons (de_ix (DL.hu_of hr) (do_name 0) (do_of_e de_int)) da_nil)))) da_nil))⟩, capAt_by (by rfl) (fun _ => rfl)⟩ (by exact hls_cons ⟨4, by decide, ⟨lamP_by (by rfl), fun _ _ _ us hl => match us, hl with | [], _ => rfl, fun W f c A outer s H B E Ed hE hr => (de_cal (c_has_lines.mono (by decide)) hr (pass_up (takes_of rfl rfl rfl rfl)) (da_cons (de_mk (c_Machine.mono (by decide)) hr (pass_up (takes_of rfl rfl rfl rfl)) (da_cons (de_ix (DL.hu_of hr) (do_name 0) (do_of_e de_int)) (da_cons (de_ix (DL.hu_of hr) (do_name 0) (do_of_e de_int)) (da_cons (de_ix (DL.hu_of hr) (do_name 0) (do_of_e de_int)) da_nil)))) (da_cons de_int da_nil)))⟩, capAt_by (by rfl) (fun _ => rfl)⟩ hls_nil)) (fun _ _ _ _ _ _ _ => (dg_name (i := 14) sc.nd)) (fun _ _ _ _ _ _ _ _ beh EV => (dts_one (dt_not (dt_val (de_of_m (dm_callB call_isEx (rc_isE T.isa) (by rfl) T.z_isinstance (by decide +kernel) (dao_cons (do_of_e (de_calF c__law_caught hr pass_no EV (Sub.refl _) hls_nil (da_cons (de_var 14) da_nil))) (dao_cons (do_of_e (de_c (pe_glob (v := .ref a.TooMany) (by rfl) T.g_TooMany rfl) fun _ => .cls _)) dao_nil)))))))) (fun _ _ _ _ _ _ _ => de_int)))) (do_of_e (de_of_m (dm_lst da_nil))))
  (dss_one (ds_ret de_bl))
  dss_nil)
  (dss_one (ds_if (dt_cmp op_notN r2_notN (do_of_e (de_calF c__law_caught hr (pass_up (takes_of rfl rfl rfl rfl)) ev_no sub_no (by exact hls_cons ⟨4, by decide, ⟨lamP_by (by rfl), fun _ _ _ us hl => match us, hl with | [], _ => rfl, fun W f c A outer s H B E Ed hE hr => (de_cal (c_sizes.mono (by decide)) hr (pass_up (takes_of rfl rfl rfl rfl)) (da_cons (de_mk (c_Machine.mono (by decide)) hr (pass_up (takes_of rfl rfl rfl rfl)) (da_cons (de_ix (DL.hu_of hr) (do_name 0) (do_of_e de_int)) (da_cons (de_ix (DL.hu_of hr) (do_name 0) (do_of_e de_int)) (da_cons (de_ix (DL.hu_of hr) (do_name 0) (do_of_e de_int)) da_nil)))) da_nil))⟩, capAt_by (by rfl) (fun _ => rfl)⟩ hls_nil) (da_cons (de_lam M rfl (hf_by (by rfl))) da_nil))) (do_of_e de_non))
  (dss_one (ds_ret de_bl))
  dss_nil)))))))
  dss_nil)
  (dss_cons (ds_set (i := 3) sc.nd (de_mk (c_Machine.mono (by decide)) hr (pass_up (takes_of rfl rfl rfl rfl)) (da_cons de_int (da_cons (de_tup (da_cons (de_tup (da_cons de_int (da_cons de_int da_nil))) (da_cons (de_tup (da_cons de_int (da_cons de_int da_nil))) (da_cons (de_tup (da_cons de_int (da_cons de_int da_nil))) da_nil)))) (da_cons (de_tup (da_cons de_bl (da_cons de_bl (da_cons de_bl da_nil)))) da_nil)))))
  (dss_one (ds_ret (de_cmp op_eq r2_eqS (do_of_e (de_of_m (dm_callB (call_repr hr) rc_repr (by rfl) T.z_repr (by decide +kernel) (dao_cons (do_of_e (de_of_m (dm_lst (da_cons (de_cal (c_sizes.mono (by decide)) hr (pass_up (takes_of rfl rfl rfl rfl)) (da_cons (de_var 3) da_nil)) (da_cons (de_cal (c_sizes.mono (by decide)) hr (pass_up (takes_of rfl rfl rfl rfl)) (da_cons (de_mk (c_Machine.mono (by decide)) hr (pass_up (takes_of rfl rfl rfl rfl)) (da_cons de_int (da_cons (de_tup (da_cons (de_tup (da_cons de_int (da_cons de_int (da_cons de_int da_nil)))) da_nil)) (da_cons (de_tup (da_cons de_bl da_nil)) da_nil)))) da_nil)) da_nil))))) dao_nil)))) (do_of_e (de_of_m (dm_callB (call_repr hr) rc_repr (by rfl) T.z_repr (by decide +kernel) (dao_cons (do_of_e (de_of_m (dm_lst (da_cons (de_tup (da_cons (de_tup (da_cons de_bl (da_cons de_bl da_nil))) (da_cons (de_tup (da_cons de_bl da_nil)) da_nil))) (da_cons (de_tup (da_cons (de_tup da_nil) (da_cons (de_tup (da_cons de_bl da_nil)) da_nil))) da_nil))))) dao_nil))))))))))⟩

/- used: ['NoNumber', 'TooMany', 'int', 'isinstance', 'len', 'min', 'range', 'repr'] {"is_between": 1, "is_table": 2, "are_truths": 1, "Machine.__init__": 3, "shortest_told": 1, "rooms_of_size": 1, "sizes": 2, "has_lines": 3, "_law_mixed": 1, "_law_take": 2, "_law_pick": 3, "_law_table": 4, "_law_plan": 5, "_law_told_sizes": 1, "_law_shortest": 1, "_law_rings": 3, "law": 7} -/
end DL
-- K72w
set_option Elab.async false
set_option linter.all false
set_option maxRecDepth 100000
set_option maxHeartbeats 2000000
set_option autoImplicit false
namespace DL
open PySem PySem.Spec L2
open PyProof.Rows hiding St
/-! ### law -/
structure GoodR (Ls : List Nat) : Prop where
  ok : RingOk Ls
  rep : ∃ N j, Rep (ringT Ls) N j ∧ N ≤ 5000
theorem goodR_of {Ls : List Nat} (ok : RingOk Ls) {L : Nat} (h0 : 0 < L) (h5 : L ≤ 4999) (h : ∀ l ∈ Ls, L % l = 0) : GoodR Ls := by
  obtain ⟨N, j, R, hN⟩ := rings_rep ok h0 h
  exact ⟨ok, N, j, R, by omega⟩
theorem ringM {Ls : List Nat} (ok : RingOk Ls) {g : List Bool} (hg : g.length = 1 + Ls.sum) : OkM (Ls.length - 1) (ringT Ls) g := by
  have h2 := ok.l2
  have h5 := ok.l5
  exact ⟨by omega, by omega, ringT_ok ok, by rw [ringT_len, hg]⟩
def GoodP (x : D) : Prop := ∃ c T g N j, x = planD c T g ∧ OkM c T g ∧ Rep T N j ∧ N ≤ 5000
theorem goodP_plan {c : Nat} {T : List (List Nat)} {g : List Bool} (ok : OkM c T g) (h : T.length ≤ 12) : GoodP (planD c T g) := by
  obtain ⟨N, j, R, hN⟩ := few_rooms ok.t.l1 h
  exact ⟨c, T, g, N, j, rfl, ok, R, by omega⟩
theorem goodP_ring {Ls : List Nat} (h : GoodR Ls) {g : List Bool} (hg : g.length = 1 + Ls.sum) : GoodP (planD (Ls.length - 1) (ringT Ls) g) := by
  obtain ⟨N, j, R, hN⟩ := h.rep
  exact ⟨_, _, g, N, j, rfl, ringM h.ok hg, R, hN⟩
theorem some_rings : ∀ Ls ∈ ([[2, 3], [4, 6], [5, 7, 3], [2, 3, 5, 7], [1, 8], [9, 4, 5]] : List (List Nat)), GoodR Ls := by
  intro Ls h
  simp only [List.mem_cons, List.not_mem_nil, or_false] at h
  rcases h with rfl | rfl | rfl | rfl | rfl | rfl
  · exact goodR_of ⟨by decide, by decide, by decide, by decide⟩ (L := 6) (by decide) (by decide) (by decide)
  · exact goodR_of ⟨by decide, by decide, by decide, by decide⟩ (L := 12) (by decide) (by decide) (by decide)
  · exact goodR_of ⟨by decide, by decide, by decide, by decide⟩ (L := 105) (by decide) (by decide) (by decide)
  · exact goodR_of ⟨by decide, by decide, by decide, by decide⟩ (L := 210) (by decide) (by decide) (by decide)
  · exact goodR_of ⟨by decide, by decide, by decide, by decide⟩ (L := 8) (by decide) (by decide) (by decide)
  · exact goodR_of ⟨by decide, by decide, by decide, by decide⟩ (L := 180) (by decide) (by decide) (by decide)
theorem okS_pair {p : List Bool × List Bool} (h1 : p.1.length ≤ 5000) (h2 : p.2.length ≤ 5000) : OkS 10002 2 (pairD p) := by
  have a : ∀ {xs : List Bool}, xs.length ≤ 5000 → OkS 5000 1 (.tup (blsD xs)) := fun {xs} h => okS_tup (b := 0) (n := 0) (m := 5000) (fun x hx => by
    obtain ⟨b, _, rfl⟩ := List.mem_map.mp hx
    exact okS_bl b) (by unfold blsD; rw [List.length_map]; exact h)
  exact okS_tup (b := 5000) (n := 1) (m := 2) (fun x hx => by
    simp only [List.mem_cons, List.not_mem_nil, or_false] at hx
    rcases hx with rfl | rfl
    · exact a h1
    · exact a h2) (by simp)
theorem okR_two {b n : Nat} {x y : D} (hx : OkS b n x) (hy : OkS b n y) (hb : (b + 1) * 2 ≤ 2 ^ 20) (hn : n + 1 ≤ 60) : OkR (.lst [x, y]) :=
  (okS_lst (m := 2) (fun z hz => by
    simp only [List.mem_cons, List.not_mem_nil, or_false] at hz
    rcases hz with rfl | rfl
    · exact hx
    · exact hy) (by simp)).okR hb hn
theorem pair_at0 (p : List Bool × List Bool) : atI [D.tup (blsD p.1), D.tup (blsD p.2)] 0 = some (.tup (blsD p.1)) := (atI_nat [D.tup (blsD p.1), D.tup (blsD p.2)] 0).trans rfl
theorem pair_at1 (p : List Bool × List Bool) : atI [D.tup (blsD p.1), D.tup (blsD p.2)] 1 = some (.tup (blsD p.2)) := (atI_nat [D.tup (blsD p.1), D.tup (blsD p.2)] 1).trans rfl
theorem plan_at0 (c : Nat) (T : List (List Nat)) (g : List Bool) : atI [D.int (c : Int), tblD T, D.tup (blsD g)] 0 = some (.int c) := (atI_nat [D.int (c : Int), tblD T, D.tup (blsD g)] 0).trans rfl
theorem plan_at1 (c : Nat) (T : List (List Nat)) (g : List Bool) : atI [D.int (c : Int), tblD T, D.tup (blsD g)] 1 = some (tblD T) := (atI_nat [D.int (c : Int), tblD T, D.tup (blsD g)] 1).trans rfl
theorem plan_at2 (c : Nat) (T : List (List Nat)) (g : List Bool) : atI [D.int (c : Int), tblD T, D.tup (blsD g)] 2 = some (.tup (blsD g)) := (atI_nat [D.int (c : Int), tblD T, D.tup (blsD g)] 2).trans rfl
theorem two_at0 (x y : D) : atI [x, y] 0 = some x := (atI_nat [x, y] 0).trans rfl
theorem two_at1 (x y : D) : atI [x, y] 1 = some y := (atI_nat [x, y] 1).trans rfl
end DL
-- K72x0
set_option Elab.async false
set_option linter.all false
set_option maxRecDepth 100000
set_option maxHeartbeats 2000000
set_option autoImplicit false
namespace DL
open PySem PySem.Spec L2
open PyProof.Rows hiding St
abbrev szB8 (a : Ad) : DTS := (dSeq (dSet 13 (dIf (dCmpT rdLt (dB 8) (dO (dClean (dBlt rdLen (dConsO (dO (dIx (dB 7) (dO (dC (.int 0))))) dNilO))))) (dIx (dO (dIx (dB 7) (dO (dC (.int 0))))) (dB 8)) (dIx (dO (dIx (dB 7) (dO (dC (.int 1))))) (dO (dClean (dOpM rdMod (dO (dClean (dBlt rdInt (dConsO (dO (dClean (dOpM rdSub (dB 8) (dO (dClean (dBlt rdLen (dConsO (dO (dIx (dB 7) (dO (dC (.int 0))))) dNilO))))))) dNilO)))) (dO (dClean (dBlt rdLen (dConsO (dO (dIx (dB 7) (dO (dC (.int 1))))) dNilO))))))))))
  (dIfS (dCmpT rdNeS (dO (dClean (dBlt rdRepr (dConsO (dO (dClean (dLst (dCons (dFn (sp_has_lines a) (dCons (dVar 6) (dCons (dVar 8) dNil))) (dCons (dFnW (sp_has_lines a) 0 2 [1, 0] dNil (dCons (dVar 8) (dCons (dVar 6) dNil))) dNil))))) dNilO)))) (dO (dClean (dBlt rdRepr (dConsO (dO (dClean (dLst (dCons (dVar 13) (dCons (dVar 13) dNil))))) dNilO)))))
  (dRet (dC (.bl false)))
  dNext))
theorem size_turn {a : Ad} {c n : Nat} {T : List (List Nat)} {g : List Bool} {p : List Bool × List Bool} {N : DEnds} {E : EX} (h2 : p.2 ≠ []) (hn : n ≤ 10 ^ 60)
    (has : ∀ (QQ : D → Prop) (EE : EX), QQ (.bl (lineAt p n)) → sp_has_lines a [mchD a c T g, .int (n : Nat)] QQ EE) {s0 s1 s2 s3 s4 s5 s9 s10 s11 s12 s13 s14 : Sl}
    (h : ∀ s13, N.nx [s0, s1, s2, s3, s4, s5, .im (mchD a c T g), .im (pairD p), .im (.int n), s9, s10, s11, s12, s13, s14]) : szB8 a N [s0, s1, s2, s3, s4, s5, .im (mchD a c T g), .im (pairD p), .im (.int n), s9, s10, s11, s12, s13, s14] E := by
  have z2 : 2 ≤ sizeLine := by rw [sizeLine_eq]; omega
  have hB : 0 < p.2.length := List.length_pos_iff.mpr h2
  refine seqN fun M1 m1 _ _ _ => ?_
  simp [pairD, pair_at0, pair_at1]
  have fin : ∀ d, d = D.bl (lineAt p n) → M1.nx [s0, s1, s2, s3, s4, s5, .im (mchD a c T g), .im (pairD p), .im (.int n), s9, s10, s11, s12, .im d, s14] := fun d e => by
    subst e
    refine m1 _ (ifN (b := false) (fun QT q => ?_) (fun z => by cases z) fun _ => h _)
    simp
    refine has _ _ ?_
    simp [pick]
    refine has _ _ ?_
    have okr := okR_two (okS_bl (lineAt p n)) (okS_bl (lineAt p n)) (by decide) (by decide)
    simp [z2, okr]
    exact q
  have lb : ∀ xs : List Bool, (blsD xs).length = xs.length := fun xs => by unfold blsD; rw [List.length_map]
  rw [lb, lb]
  unfold lineAt at fin
  by_cases hlt : n < p.1.length
  · rw [if_pos hlt]
    rw [if_pos hlt] at fin
    exact ⟨_, line_get hlt, fin _ rfl⟩
  · rw [if_neg hlt]
    rw [if_neg hlt] at fin
    have e : ((n : Int) - (p.1.length : Int)) % (p.2.length : Int) = (((n - p.1.length) % p.2.length : Nat) : Int) := by
      rw [Int.natCast_emod, Int.natCast_sub (by omega)]
    rw [e]
    exact ⟨hB, _, line_get (Nat.mod_lt _ hB), fin _ rfl⟩
end DL
-- K72x1
set_option Elab.async false
set_option linter.all false
set_option maxRecDepth 100000
set_option maxHeartbeats 2000000
set_option autoImplicit false
namespace DL
open PySem PySem.Spec L2
open PyProof.Rows hiding St
abbrev badB (a : Ad) (k0 : Clo) : DTS := (dIfS (dNot (dTst (dClean (dBlt (rdIsE (isaOf a)) (dConsO (dO (dFnF (sp__law_caught a) noBeh [(⟨k0, ["machine", "bad"], [], [6, 9], (dFn (sp_has_lines a) (dCons (dVar 0) (dCons (dVar 1) dNil)))⟩ : LamD)] (dCons (dC (.fn k0)) dNil))) (dConsO (dO (dC (.cls a.NoNumber))) dNilO))))))
  (dRet (dC (.bl false)))
  dNext)
theorem bad_turn {a : Ad} {k0 : Clo} {c : Nat} {T : List (List Nat)} {g : List Bool} {d : D} {N : DEnds} {E : EX} (hb : ∀ (QQ : D → Prop) (EE : EX), EE a.NoNumber → sp_has_lines a [mchD a c T g, d] QQ EE) {s0 s1 s2 s3 s4 s5 s7 s8 s10 s11 s12 s13 s14 : Sl}
    (h : N.nx [s0, s1, s2, s3, s4, s5, .im (mchD a c T g), s7, s8, .im d, s10, s11, s12, s13, s14]) : badB a k0 N [s0, s1, s2, s3, s4, s5, .im (mchD a c T g), s7, s8, .im d, s10, s11, s12, s13, s14] E := by
  refine ifN (b := false) (fun QT q => ?_) (fun z => by cases z) fun _ => h
  simp
  refine ⟨[[mchD a c T g, d]], rfl, k0, rfl, .inl ⟨rfl, rfl, ?_⟩⟩
  show DL.dFn (sp_has_lines a) (dCons (dVar 0) (dCons (dVar 1) dNil)) [.im (mchD a c T g), .im d] _ _
  simp
  refine hb _ _ ⟨.inr (.inl rfl), ?_⟩
  exact .inr ⟨isa_yes (.inr (.inl rfl)), q⟩
end DL
-- K72x
set_option Elab.async false
set_option linter.all false
set_option maxRecDepth 100000
set_option maxHeartbeats 2000000
set_option autoImplicit false
namespace DL
open PySem PySem.Spec L2
open PyProof.Rows hiding St
theorem ifN2 {c : DTT} {t : DTS} {N : DEnds} {Δ Δ' : List Sl} {E : EX} {b : Bool} (hc : ∀ Q : Bool → List Sl → Prop, Q b Δ' → c Δ Q E) (ht : b = true → t N Δ' E) (hn : b = false → N.nx Δ') : dIfS c t dNext N Δ E := hc _ (by
  cases b with
  | true => exact ht rfl
  | false => exact hn rfl)
theorem run_law (a : Ad) (k0 k1 k2 k3 : Clo) (ns : List Int) (Q : D → Prop) (E : EX) (hq : Q (.bl true)) : sem_law a k0 k1 k2 k3 { nx := fun _ => Q .non, rt := Q } [.im (.scr ns), .im .drw, .un, .un, .un, .un, .un, .un, .un, .un, .un, .un, .un, .un, .un] E := by
  unfold sem_law
  have z1 : 1 ≤ sizeLine := by rw [sizeLine_eq]; omega
  have z2 : 2 ≤ sizeLine := by rw [sizeLine_eq]; omega
  have z3 : 3 ≤ sizeLine := by rw [sizeLine_eq]; omega
  have z4 : 4 ≤ sizeLine := by rw [sizeLine_eq]; omega
  have z5 : 5 ≤ sizeLine := by rw [sizeLine_eq]; omega
  have z6 : 6 ≤ sizeLine := by rw [sizeLine_eq]; omega
  refine seqN fun M1 m1 r1 _ _ => ?_
  simp
  refine ⟨by split <;> omega, by split <;> omega, ?_⟩
  refine for_range (fun i Δ => ∃ s2 s4 s5 s6 s7 s8 s9 s13, Δ = [.im (.scr ns), .im .drw, s2, .un, s4, s5, s6, s7, s8, s9, .un, .un, .un, s13, .un]) ⟨_, _, _, _, _, _, _, _, rfl⟩ ?_ ?_
  · rintro i Δ2 hi ⟨s2, s4, s5, s6, s7, s8, s9, s13, rfl⟩
    refine seqN fun M2 m2 r2 _ _ => ?_
    simp [sp__law_pick, z1, z2, z3, z4, z5, z6]
    have fin : ∀ Ls ∈ ([[2, 3], [4, 6], [5, 7, 3], [2, 3, 5, 7], [1, 8], [9, 4, 5]] : List (List Nat)), M2.nx [.im (.scr ns), .im .drw, .im (.int i), .un, .im (.lst (Ls.map intD)), s5, s6, s7, s8, s9, .un, .un, .un, s13, .un] := fun Ls hLs => by
      have G := some_rings Ls hLs
      refine m2 _ (seqN fun M3 m3 r3 _ _ => ?_)
      simp [sp__law_pick, sp__law_plan, sp__law_rings, z2]
      have fin2 : ∀ x, GoodP x → M3.nx [.im (.scr ns), .im .drw, .im (.int i), .un, .im (.lst (Ls.map intD)), .im x, s6, s7, s8, s9, .un, .un, .un, s13, .un] := fun x hx => by
        obtain ⟨c, T, g, N, j, rfl, ok, R, hN⟩ := hx
        refine m3 _ (seqN fun M4 m4 r4 _ _ => ?_)
        simp [planD, plan_at0, plan_at1, plan_at2]
        refine ⟨c, T, g, rfl, ok, m4 _ (seqN fun M5 m5 r5 _ _ => ?_)⟩
        have hL : (toldL T g N).length = N := by simp [toldL]
        have hj := R.lt
        have told : ∀ (QQ : D → Prop) (EE : EX), QQ (.tup [.lst (blsD ((toldL T g N).take j)), .lst (blsD ((toldL T g N).drop j))]) → sp__law_told_sizes a [planD c T g, .int 4999] QQ EE := fun QQ EE h => ⟨c, T, g, N, j, rfl, ok, R, hN, h⟩
        simp
        refine told _ _ ?_
        simp
        refine ⟨_, two_at0 _ _, told _ _ ?_⟩
        simp
        refine ⟨_, two_at1 _ _, (toldL T g N).take j, (toldL T g N).drop j, rfl, ?_, by rw [List.length_take]; omega, by rw [List.length_drop]; omega, ?_⟩
        · intro z
          have := congrArg List.length z
          rw [List.length_drop, hL] at this
          simp at this
          omega
        show M5.nx [.im (.scr ns), .im .drw, .im (.int i), .un, .im (.lst (Ls.map intD)), .im (planD c T g), .im (mchD a c T g), .im (pairD (ansS T g N j)), s8, s9, .un, .un, .un, s13, .un]
        obtain ⟨b1, b2, b3⟩ := ans_ne (g := g) R
        have siz : ∀ (QQ : D → Prop) (EE : EX), QQ (pairD (ansS T g N j)) → sp_sizes a [mchD a c T g] QQ EE := fun QQ EE h => ⟨c, T, g, rfl, ok, .inl ⟨N, j, R, hN, h⟩⟩
        have has : ∀ n : Nat, n ≤ 10 ^ 60 → ∀ (QQ : D → Prop) (EE : EX), QQ (.bl (lineAt (ansS T g N j) n)) → sp_has_lines a [mchD a c T g, .int n] QQ EE := fun n hn QQ EE h => ⟨c, T, g, _, "int", rfl, rfl, ok, .inr ⟨n, rfl, hn, .inl ⟨N, j, R, hN, h⟩⟩⟩
        have bad : ∀ (d : D) (k : String), tyN d = some k → isBt d 0 (10 ^ 60) = false → ∀ (QQ : D → Prop) (EE : EX), EE a.NoNumber → sp_has_lines a [mchD a c T g, d] QQ EE := fun d k hk hd QQ EE h => ⟨c, T, g, _, k, rfl, hk, ok, .inl ⟨hd, h⟩⟩
        generalize ansS T g N j = p at b1 b2 b3 siz has
        have okr : OkR (.lst [pairD p, pairD p]) := okR_two (okS_pair (by omega) (by omega)) (okS_pair (by omega) (by omega)) (by decide) (by decide)
        refine m5 _ (seqN fun M6 m6 r6 _ _ => ifN (b := false) (fun QT h => ?_) (fun z => by cases z) fun _ => m6 _ ?_)
        · simp
          refine siz _ _ ?_
          simp [pick]
          refine siz _ _ ?_
          simp [z2, okr]
          exact h
        refine seqN fun M7 m7 r7 _ _ => ?_
        simp [sp__law_take, z5]
        intro q1 q2 q3
        refine ⟨⟨by decide, by decide, by decide⟩, fun q4 q5 q6 => ?_⟩
        have e60 : ((10 ^ 60 : Nat) : Int) = 1000000000000000000000000000000000000000000000000000000000000 := by decide
        have hx : ∀ x ∈ [(0 : Int), 1, q1, 1000000000000000000000000000000000000000000000000000000000000, 1000000000000000000000000000000000000000000000000000000000000 - q4], ∃ n : Nat, x = n ∧ n ≤ 10 ^ 60 := fun x hx => by
          simp only [List.mem_cons, List.not_mem_nil, or_false] at hx
          refine ⟨x.toNat, ?_, ?_⟩
          · rcases hx with rfl | rfl | rfl | rfl | rfl <;> omega
          · rcases hx with rfl | rfl | rfl | rfl | rfl <;> omega
        refine for_map (f := D.int) (xs := [(0 : Int), 1, q1, 1000000000000000000000000000000000000000000000000000000000000, 1000000000000000000000000000000000000000000000000000000000000 - q4]) (fun _ Δ => ∃ s8 s13, Δ = [.im (.scr ns), .im .drw, .im (.int i), .un, .im (.lst (Ls.map intD)), .im (planD c T g), .im (mchD a c T g), .im (pairD p), s8, s9, .un, .un, .un, s13, .un]) ⟨_, _, rfl⟩ ?_ ?_
        · rintro i2 x Δ2 hi2 ⟨s8, s13, rfl⟩
          obtain ⟨n, rfl, hn⟩ := hx x (List.mem_of_getElem? hi2)
          exact size_turn b1 hn (has n hn) fun s13 => ⟨_, _, rfl⟩
        · rintro Δ2 ⟨s8, s13, rfl⟩
          refine m7 _ ?_
          simp [z5]
          refine ⟨⟨by decide, by decide, by decide⟩, ?_⟩
          refine ⟨fun _ Δ => ∃ s9, Δ = [.im (.scr ns), .im .drw, .im (.int i), .un, .im (.lst (Ls.map intD)), .im (planD c T g), .im (mchD a c T g), .im (pairD p), s8, s9, .un, .un, .un, s13, .un], ⟨_, rfl⟩, ?_, ?_⟩
          · rintro i2 d Δ2 hi2 ⟨s9, rfl⟩
            have hd := List.mem_of_getElem? hi2
            refine bad_turn (d := d) ?_ ⟨_, rfl⟩
            simp only [List.mem_cons, List.not_mem_nil, or_false] at hd
            rcases hd with rfl | rfl | rfl | rfl | rfl
            · exact bad _ _ rfl rfl
            · exact bad _ _ rfl rfl
            · exact bad _ _ rfl rfl
            · exact bad _ _ rfl rfl
            · exact bad _ _ rfl rfl
          · rintro Δ2 ⟨s9, rfl⟩
            exact ⟨_, _, _, _, _, _, _, _, rfl⟩
      refine ⟨12, rfl, by omega, by omega, fun c T g ok hT => ⟨Ls, rfl, G.ok, fun g' hg' => ⟨fin2 _ (goodP_plan ok (by omega)), fin2 _ (goodP_ring G hg')⟩⟩⟩
    exact ⟨fin [2, 3] (by simp), fin [4, 6] (by simp), fin [5, 7, 3] (by simp), fin [2, 3, 5, 7] (by simp), fin [1, 8] (by simp), fin [9, 4, 5] (by simp)⟩
  · rintro Δ2 ⟨s2, s4, s5, s6, s7, s8, s9, s13, rfl⟩
    refine m1 _ (seqN fun M2 m2 r2 _ _ => ?_)
    have key : ∀ (t : DTS) (Δ : List Sl), Δ[1]? = some (.im .drw) → Δ.set 1 (.im .drw) = Δ → t M2 Δ E → M2.nx Δ → dIfS (dCmpT rdEq (dO (DL.dFn (sp__law_take a) (dCons (dVar 1) (dCons (dC (.int 5)) dNil)))) (dO (dC (.int 0)))) t dNext M2 Δ E := fun t Δ h1 h2 h3 h4 => by
      simp [sp__law_take, h1, h2]
      intro r q1 q2
      by_cases hr : r = 0
      · rw [if_pos hr]; exact h3
      · rw [if_neg hr]; exact h4
    have last : ∀ s10 s11 s12, M2.nx [.im (.scr ns), .im .drw, s2, .un, s4, s5, s6, s7, s8, s9, s10, s11, s12, s13, .un] := fun s10 s11 s12 => by
      refine m2 _ (seqN fun M3 m3 r3 _ _ => ?_)
      simp [z1, z2, z3]
      have o1 : OkM 1 [[1, 1], [2, 2], [2, 2]] [false, true, false] := ⟨by decide, by decide, ⟨by decide, by decide, by decide⟩, rfl⟩
      have o2 : OkM 2 [[0, 0, 0]] [true] := ⟨by decide, by decide, ⟨by decide, by decide, by decide⟩, rfl⟩
      have R1 : Rep [[1, 1], [2, 2], [2, 2]] 3 2 := ⟨by decide, by decide, fun i k h1 h2 => by
        have : k = 1 ∨ k = 2 := by omega
        rcases this with rfl | rfl
        · have : i = 0 := by omega
          subst this; decide
        · have : i = 0 ∨ i = 1 := by omega
          rcases this with rfl | rfl <;> decide⟩
      have R2 : Rep [[0, 0, 0]] 1 0 := ⟨by decide, by decide, fun i k h1 h2 => by omega⟩
      refine ⟨1, [[1, 1], [2, 2], [2, 2]], [false, true, false], rfl, o1, m3 _ ?_⟩
      simp
      refine ⟨_, _, _, rfl, o1, .inl ⟨3, 2, R1, by omega, ?_⟩⟩
      have a1 : ansS [[1, 1], [2, 2], [2, 2]] [false, true, false] 3 2 = ([false, true], [false]) := by decide
      have a2 : ansS [[0, 0, 0]] [true] 1 0 = ([], [true]) := by decide
      rw [a1]
      refine ⟨z3, z1, 2, [[0, 0, 0]], [true], rfl, o2, _, _, _, rfl, o2, .inl ⟨1, 0, R2, by omega, ?_⟩⟩
      rw [a2]
      have okr : OkR (.lst [pairD ([false, true], [false]), pairD ([], [true])]) := okR_two (okS_pair (by decide) (by decide)) (okS_pair (by decide) (by decide)) (by decide) (by decide)
      refine ⟨z2, okr, z2, z1, z2, z1, z2, okr, ?_⟩
      show Q (.bl (decide (txt (.lst [pairD ([false, true], [false]), pairD ([], [true])]) = txt (.lst [pairD ([false, true], [false]), pairD ([], [true])]))))
      rw [decide_eq_true rfl]
      exact hq
    refine key _ _ rfl rfl ?_ (last _ _ _)
    have mk : ∀ {Ls : List Nat} {g : List Bool}, RingOk Ls → g.length = 1 + Ls.sum → ∀ (sp : SpD) (QQ : D → Prop) (EE : EX), sp [mchD a (Ls.length - 1) (ringT Ls) g] QQ EE → DL.dFn sp (dCons (dMake a.Machine (sp_Machine___init__ a) (dCons (dIx (dB 0) (dO (dC (.int 0)))) (dCons (dIx (dB 0) (dO (dC (.int 1)))) (dCons (dIx (dB 0) (dO (dC (.int 2)))) dNil)))) dNil) [.im (planD (Ls.length - 1) (ringT Ls) g)] (fun d _ => QQ d) EE := fun {Ls g} ok hg sp QQ EE h => by
      simp [planD, plan_at0, plan_at1, plan_at2]
      exact ⟨_, _, _, rfl, ringM ok hg, h⟩
    have okF : RingOk [5, 7, 9, 16] := ⟨by decide, by decide, by decide, by decide⟩
    have okN : RingOk [4, 5, 13, 19] := ⟨by decide, by decide, by decide, by decide⟩
    refine seqN fun M3 m3 r3 _ _ => ?_
    simp [z4]
    refine ⟨[5, 7, 9, 16], rfl, okF, fun gF hF => m3 _ (seqN fun M4 m4 r4 _ _ => ?_)⟩
    simp [z4]
    refine ⟨[4, 5, 13, 19], rfl, okN, fun gN hN => m4 _ (seqN fun M5 m5 r5 _ _ => ?_)⟩
    simp [z1]
    refine m5 _ (seqN fun M6 m6 r6 _ _ => ?_)
    simp
    refine ⟨by rw [sizeLine_eq]; omega, m6 _ (seqN fun M7 m7 r7 _ _ => ifN2 (Δ' := [.im (.scr ns), .im .drw, s2, .un, s4, s5, s6, s7, s8, s9, .im (planD 3 (ringT [5, 7, 9, 16]) gF), .im (planD 3 (ringT [4, 5, 13, 19]) gN), .im (.lst [.fn k1, .fn k2]), s13, .un]) (b := false) (fun QT q => ?_) (fun z => by cases z) fun _ => m7 _ (ifN (b := false) (fun QT q => ?_) (fun z => by cases z) fun _ => last _ _ _))⟩
    · simp
      refine ⟨[[planD 3 (ringT [5, 7, 9, 16]) gF], [planD 3 (ringT [5, 7, 9, 16]) gF]], rfl, ?_⟩
      refine lc_map (f := D.fn) (xs := [k1, k2]) (fun _ => none) _ rfl (by simpa using z2) (fun k hk R hR => ?_) ?_
      · simp
        refine ⟨[], rfl, k, rfl, ?_⟩
        have hk : k = k1 ∨ k = k2 := by simpa using hk
        rcases hk with rfl | rfl
        · refine .inl ⟨rfl, rfl, mk okF hF (sp_sizes a) _ _ ⟨_, _, _, rfl, ringM okF hF, .inr ⟨rings_far, .inr (.inr rfl), ?_⟩⟩⟩
          exact ⟨true, isa_yes (.inr (.inr rfl)), _, rfl, .inr ⟨rfl, hR⟩⟩
        · refine .inr (.inl ⟨rfl, rfl, ?_⟩)
          show DL.dFn (sp_has_lines a) (dCons (dMake a.Machine (sp_Machine___init__ a) (dCons (dIx (dB 0) (dO (dC (.int 0)))) (dCons (dIx (dB 0) (dO (dC (.int 1)))) (dCons (dIx (dB 0) (dO (dC (.int 2)))) dNil)))) (dCons (dC (.int 5)) dNil)) [.im (planD ([5, 7, 9, 16].length - 1) (ringT [5, 7, 9, 16]) gF)] _ _
          simp [planD, plan_at0, plan_at1, plan_at2]
          refine ⟨_, plan_at0 3 _ _, _, plan_at1 3 _ _, _, plan_at2 3 _ _, _, _, _, rfl, ringM okF hF, ?_⟩
          refine ⟨_, _, _, _, "int", rfl, rfl, ringM okF hF, .inr ⟨5, rfl, by decide, .inr ⟨rings_far, .inr (.inr rfl), ?_⟩⟩⟩
          exact .inr ⟨isa_yes (.inr (.inr rfl)), hR⟩
      · simp
        exact q
    · simp
      refine ⟨[[planD 3 (ringT [4, 5, 13, 19]) gN]], rfl, k3, rfl, .inl ⟨rfl, rfl, ?_⟩⟩
      have G : GoodR [4, 5, 13, 19] := goodR_of okN (L := 4940) (by decide) (by decide) (by decide)
      obtain ⟨N, j, R, hNN⟩ := G.rep
      refine mk okN hN (sp_sizes a) _ _ ⟨_, _, _, rfl, ringM okN hN, .inl ⟨N, j, R, hNN, ?_⟩⟩
      exact q
end DL
-- K72ya
set_option Elab.async false
set_option linter.all false
set_option maxRecDepth 100000
set_option maxHeartbeats 2000000
set_option autoImplicit false
namespace DL
open PySem PySem.Spec L2
open PyProof.Rows hiding St
/-! ### the head: facts by names, the run -/
def dD_is_between : He.DefD := ⟨("is_between", none), "is_between", "is_between", defArgs st_is_between, defBody st_is_between, defScope st_is_between, [], []⟩
def dD_is_table : He.DefD := ⟨("is_table", none), "is_table", "is_table", defArgs st_is_table, defBody st_is_table, defScope st_is_table, [], []⟩
def dD_are_truths : He.DefD := ⟨("are_truths", none), "are_truths", "are_truths", defArgs st_are_truths, defBody st_are_truths, defScope st_are_truths, [], []⟩
def dD_Machine___init__ : He.DefD := ⟨("Machine", some "__init__"), "__init__", "Machine.__init__", defArgs st_Machine___init__, defBody st_Machine___init__, defScope st_Machine___init__, [], []⟩
def dD_shortest_told : He.DefD := ⟨("shortest_told", none), "shortest_told", "shortest_told", defArgs st_shortest_told, defBody st_shortest_told, defScope st_shortest_told, [], []⟩
def dD_rooms_of_size : He.DefD := ⟨("rooms_of_size", none), "rooms_of_size", "rooms_of_size", defArgs st_rooms_of_size, defBody st_rooms_of_size, defScope st_rooms_of_size, [], []⟩
def dD_sizes : He.DefD := ⟨("sizes", none), "sizes", "sizes", defArgs st_sizes, defBody st_sizes, defScope st_sizes, [], []⟩
def dD_has_lines : He.DefD := ⟨("has_lines", none), "has_lines", "has_lines", defArgs st_has_lines, defBody st_has_lines, defScope st_has_lines, [], []⟩
def dD__law_mixed : He.DefD := ⟨("_law_mixed", none), "_law_mixed", "_law_mixed", defArgs st__law_mixed, defBody st__law_mixed, defScope st__law_mixed, [], []⟩
def dD__law_take : He.DefD := ⟨("_law_take", none), "_law_take", "_law_take", defArgs st__law_take, defBody st__law_take, defScope st__law_take, [], []⟩
def dD__law_pick : He.DefD := ⟨("_law_pick", none), "_law_pick", "_law_pick", defArgs st__law_pick, defBody st__law_pick, defScope st__law_pick, [], []⟩
def dD__law_table : He.DefD := ⟨("_law_table", none), "_law_table", "_law_table", defArgs st__law_table, defBody st__law_table, defScope st__law_table, [], []⟩
def dD__law_plan : He.DefD := ⟨("_law_plan", none), "_law_plan", "_law_plan", defArgs st__law_plan, defBody st__law_plan, defScope st__law_plan, [], []⟩
def dD__law_told_sizes : He.DefD := ⟨("_law_told_sizes", none), "_law_told_sizes", "_law_told_sizes", defArgs st__law_told_sizes, defBody st__law_told_sizes, defScope st__law_told_sizes, [], []⟩
def dD__law_shortest : He.DefD := ⟨("_law_shortest", none), "_law_shortest", "_law_shortest", defArgs st__law_shortest, defBody st__law_shortest, defScope st__law_shortest, [], []⟩
def dD__law_rings : He.DefD := ⟨("_law_rings", none), "_law_rings", "_law_rings", defArgs st__law_rings, defBody st__law_rings, defScope st__law_rings, [], []⟩
def dD__law_begun : He.DefD := ⟨("_law_begun", none), "_law_begun", "_law_begun", defArgs st__law_begun, defBody st__law_begun, defScope st__law_begun, [], []⟩
def dD__law_caught : He.DefD := ⟨("_law_caught", none), "_law_caught", "_law_caught", defArgs st__law_caught, defBody st__law_caught, defScope st__law_caught, [], []⟩
def dD_law : He.DefD := ⟨("law", none), "law", "law", defArgs st_law, defBody st_law, defScope st_law, [], []⟩
def fnK : List He.DefD := [dD_is_between, dD_is_table, dD_are_truths, dD_Machine___init__, dD_shortest_told, dD_rooms_of_size, dD_sizes, dD_has_lines, dD__law_mixed, dD__law_take, dD__law_pick, dD__law_table, dD__law_plan, dD__law_told_sizes, dD__law_shortest, dD__law_rings, dD__law_begun, dD__law_caught, dD_law]
def faK : List He.Fa := [.glo "is_between", .glo "is_table", .glo "are_truths", .glo "shortest_told", .glo "rooms_of_size", .glo "sizes", .glo "has_lines", .glo "_law_mixed", .glo "_law_take", .glo "_law_pick", .glo "_law_table", .glo "_law_plan", .glo "_law_told_sizes", .glo "_law_shortest", .glo "_law_rings", .glo "_law_begun", .glo "_law_caught", .glo "law", .glo "InkError", .glo "NoMachine", .glo "NoNumber", .glo "TooMany", .glo "Machine", .free "isinstance", .free "int", .free "bool", .free "tuple", .free "len", .free "all", .free "any", .free "range", .free "sorted", .free "set", .free "abs", .free "min", .free "list", .free "sum", .free "repr", .int "MOST_ROOMS" 60, .int "MOST_PAINTS" 4, .int "MOST_STEPS" 5000, .cls "Machine", .mkr "Machine", .noat "Machine" "colours", .noat "Machine" "table", .noat "Machine" "good", .exc "NoMachine", .exc "NoNumber", .exc "TooMany", .exm "NoMachine" "InkError" true, .exm "NoNumber" "InkError" true, .exm "TooMany" "InkError" true]
def exK (K : PySem.W.Frag) : Bool := excB K (He.ga K "NoMachine") && excB K (He.ga K "NoNumber") && excB K (He.ga K "TooMany")
def tfK : List He.Defn := [("law", none)]
def adK (K : PySem.W.Frag) : Ad := { InkError := He.ga K "InkError", NoMachine := He.ga K "NoMachine", NoNumber := He.ga K "NoNumber", TooMany := He.ga K "TooMany", Machine := He.ga K "Machine" }
theorem facts {w : World} {K : PySem.W.Frag} {h : Heap} {mg : Str → Option Value} (X : K.In h) (G : h.Ns mainGlobals mg) (c : He.SaysX faK fnK [] tfK exK w h K) : TxtX K mg (adK K) := by
  have d := c.t.d
  have ex := c.more
  simp only [exK, Bool.and_eq_true] at ex
  exact {
    z_isinstance := He.free_ok X G (d.fact 23 (f := .free "isinstance") rfl)
    z_int := He.free_ok X G (d.fact 24 (f := .free "int") rfl)
    z_bool := He.free_ok X G (d.fact 25 (f := .free "bool") rfl)
    z_tuple := He.free_ok X G (d.fact 26 (f := .free "tuple") rfl)
    z_len := He.free_ok X G (d.fact 27 (f := .free "len") rfl)
    z_all := He.free_ok X G (d.fact 28 (f := .free "all") rfl)
    z_any := He.free_ok X G (d.fact 29 (f := .free "any") rfl)
    z_range := He.free_ok X G (d.fact 30 (f := .free "range") rfl)
    z_sorted := He.free_ok X G (d.fact 31 (f := .free "sorted") rfl)
    z_set := He.free_ok X G (d.fact 32 (f := .free "set") rfl)
    z_abs := He.free_ok X G (d.fact 33 (f := .free "abs") rfl)
    z_min := He.free_ok X G (d.fact 34 (f := .free "min") rfl)
    z_list := He.free_ok X G (d.fact 35 (f := .free "list") rfl)
    z_sum := He.free_ok X G (d.fact 36 (f := .free "sum") rfl)
    z_repr := He.free_ok X G (d.fact 37 (f := .free "repr") rfl)
    g_MOST_ROOMS := (He.int_ok X G (d.fact 38 (f := .int "MOST_ROOMS" 60) rfl)).elim fun t e => ⟨_, e, ⟨t, rfl⟩⟩
    g_MOST_PAINTS := (He.int_ok X G (d.fact 39 (f := .int "MOST_PAINTS" 4) rfl)).elim fun t e => ⟨_, e, ⟨t, rfl⟩⟩
    g_MOST_STEPS := (He.int_ok X G (d.fact 40 (f := .int "MOST_STEPS" 5000) rfl)).elim fun t e => ⟨_, e, ⟨t, rfl⟩⟩
    g_Machine := He.glo_ok X G (d.fact 22 (f := .glo "Machine") rfl)
    f_Machine_colours := fun C e => by subst e; exact ⟨He.cls_ok (d.fact 41 (f := .cls "Machine") rfl), He.noat_ok (d.fact 43 (f := .noat "Machine" "colours") rfl)⟩
    f_Machine_table := fun C e => by subst e; exact ⟨He.cls_ok (d.fact 41 (f := .cls "Machine") rfl), He.noat_ok (d.fact 44 (f := .noat "Machine" "table") rfl)⟩
    f_Machine_good := fun C e => by subst e; exact ⟨He.cls_ok (d.fact 41 (f := .cls "Machine") rfl), He.noat_ok (d.fact 45 (f := .noat "Machine" "good") rfl)⟩
    e_NoMachine := ⟨(He.exc_ok (d.fact 46 (f := .exc "NoMachine") rfl)).1, He.glo_ok X G (d.fact 19 (f := .glo "NoMachine") rfl), (He.exc_ok (d.fact 46 (f := .exc "NoMachine") rfl)).2.1, (He.exc_ok (d.fact 46 (f := .exc "NoMachine") rfl)).2.2.1, (He.exc_ok (d.fact 46 (f := .exc "NoMachine") rfl)).2.2.2⟩
    e_NoNumber := ⟨(He.exc_ok (d.fact 47 (f := .exc "NoNumber") rfl)).1, He.glo_ok X G (d.fact 20 (f := .glo "NoNumber") rfl), (He.exc_ok (d.fact 47 (f := .exc "NoNumber") rfl)).2.1, (He.exc_ok (d.fact 47 (f := .exc "NoNumber") rfl)).2.2.1, (He.exc_ok (d.fact 47 (f := .exc "NoNumber") rfl)).2.2.2⟩
    e_TooMany := ⟨(He.exc_ok (d.fact 48 (f := .exc "TooMany") rfl)).1, He.glo_ok X G (d.fact 21 (f := .glo "TooMany") rfl), (He.exc_ok (d.fact 48 (f := .exc "TooMany") rfl)).2.1, (He.exc_ok (d.fact 48 (f := .exc "TooMany") rfl)).2.2.1, (He.exc_ok (d.fact 48 (f := .exc "TooMany") rfl)).2.2.2⟩
    g_InkError := He.glo_ok X G (d.fact 18 (f := .glo "InkError") rfl)
    ink := fun C e => by
      rcases e with rfl | rfl | rfl
      · exact He.exm_ok (d.fact 49 (f := .exm "NoMachine" "InkError" true) rfl)
      · exact He.exm_ok (d.fact 50 (f := .exm "NoNumber" "InkError" true) rfl)
      · exact He.exm_ok (d.fact 51 (f := .exm "TooMany" "InkError" true) rfl)
    exc := fun C e => by
      rcases e with rfl | rfl | rfl
      · exact excB_ok ex.1.1
      · exact excB_ok ex.1.2
      · exact excB_ok ex.2 }
theorem law_at {w : World} {K : PySem.W.Frag} {h : Heap} {mg : Str → Option Value} {f : Addr} (X : K.In h) (G : h.Ns mainGlobals mg) (hfa : mg ("law" : Str) = some (.ref f)) (c : He.SaysX faK fnK [] tfK exK w h K) : LawAtD PySem.Challenge.rw_inkforall_k72_whole_sizes_that_have_line w K 7 63 "script" mg f h := by
  have d := c.t.d
  have T := facts X G c
  let a := adK K
  obtain ⟨fd_is_between, F_is_between⟩ := d.def_ 0 (d := dD_is_between) rfl
  obtain ⟨fd_is_table, F_is_table⟩ := d.def_ 1 (d := dD_is_table) rfl
  obtain ⟨fd_are_truths, F_are_truths⟩ := d.def_ 2 (d := dD_are_truths) rfl
  obtain ⟨fd_Machine___init__, F_Machine___init__⟩ := d.def_ 3 (d := dD_Machine___init__) rfl
  obtain ⟨fd_shortest_told, F_shortest_told⟩ := d.def_ 4 (d := dD_shortest_told) rfl
  obtain ⟨fd_rooms_of_size, F_rooms_of_size⟩ := d.def_ 5 (d := dD_rooms_of_size) rfl
  obtain ⟨fd_sizes, F_sizes⟩ := d.def_ 6 (d := dD_sizes) rfl
  obtain ⟨fd_has_lines, F_has_lines⟩ := d.def_ 7 (d := dD_has_lines) rfl
  obtain ⟨fd__law_mixed, F__law_mixed⟩ := d.def_ 8 (d := dD__law_mixed) rfl
  obtain ⟨fd__law_take, F__law_take⟩ := d.def_ 9 (d := dD__law_take) rfl
  obtain ⟨fd__law_pick, F__law_pick⟩ := d.def_ 10 (d := dD__law_pick) rfl
  obtain ⟨fd__law_table, F__law_table⟩ := d.def_ 11 (d := dD__law_table) rfl
  obtain ⟨fd__law_plan, F__law_plan⟩ := d.def_ 12 (d := dD__law_plan) rfl
  obtain ⟨fd__law_told_sizes, F__law_told_sizes⟩ := d.def_ 13 (d := dD__law_told_sizes) rfl
  obtain ⟨fd__law_shortest, F__law_shortest⟩ := d.def_ 14 (d := dD__law_shortest) rfl
  obtain ⟨fd__law_rings, F__law_rings⟩ := d.def_ 15 (d := dD__law_rings) rfl
  obtain ⟨fd__law_begun, F__law_begun⟩ := d.def_ 16 (d := dD__law_begun) rfl
  obtain ⟨fd__law_caught, F__law_caught⟩ := d.def_ 17 (d := dD__law_caught) rfl
  obtain ⟨fd_law, F_law⟩ := d.def_ 18 (d := dD_law) rfl
  have ef := hfa.symm.trans (He.glo_ok X G (d.fact 17 (f := .glo "law") rfl))
  cases ef
  refine ⟨fd_law, tfK.map (He.cT K), spLaw K (tfK.map fun p => ((He.cT K p).2, (envOfC "law" (defScope st_law) 0 0 .none).qual ++ "<lambda>")), fun q hq => ?_, fun q hq => ?_, fun q hq => ?_, fun s u => FunD.bindsA (ps := ["script"]) F_law (fun _ _ _ _ _ _ us hl => match us, hl with | [_], _ => rfl) s [u] rfl, fun H a0 ns hl hT hS => ⟨a0, ns, rfl, hS, hl, fun q hq => ?_, fun _ => rfl⟩, fun base kin nsb tb => ?_⟩
  · obtain ⟨p, hp, rfl⟩ := List.mem_map.mp hq; exact c.empty p hp
  · obtain ⟨p, hp, rfl⟩ := List.mem_map.mp hq; exact c.out p hp
  · obtain ⟨p, hp, rfl⟩ := List.mem_map.mp hq; exact PySem.W.codeHd_of_K X (c.hd p hp)
  · obtain ⟨p, hp, rfl⟩ := List.mem_map.mp hq; exact hT _ (List.mem_map.mpr ⟨p, hp, rfl⟩)
  have c_is_between : Cal PySem.Challenge.rw_inkforall_k72_whole_sizes_that_have_line.prog w K mg base 1 "is_between" ["thing", "least", "most"] (sp_is_between a) := ⟨_, fd_is_between, (He.glo_ok X G (d.fact 0 (f := .glo "is_between") rfl)), F_is_between.kp, (F_is_between.bindsN (ps := ["thing", "least", "most"]) fun _ _ _ _ _ _ us hl => match us, hl with | [_, _, _], _ => rfl), fun W => fn_ok F_is_between sc_is_between (fun W cdv A outer s H B E Ed hE hr => body_is_between (T.toTxt) hr) (run_is_between a) W⟩
  have c_is_table : Cal PySem.Challenge.rw_inkforall_k72_whole_sizes_that_have_line.prog w K mg base 2 "is_table" ["thing", "colours"] (sp_is_table a) := ⟨_, fd_is_table, (He.glo_ok X G (d.fact 1 (f := .glo "is_table") rfl)), F_is_table.kp, (F_is_table.bindsN (ps := ["thing", "colours"]) fun _ _ _ _ _ _ us hl => match us, hl with | [_, _], _ => rfl), fun W => fn_ok F_is_table sc_is_table (fun W cdv A outer s H B E Ed hE hr => body_is_table (T.toTxt) c_is_between hr) (run_is_table a) W⟩
  have c_are_truths : Cal PySem.Challenge.rw_inkforall_k72_whole_sizes_that_have_line.prog w K mg base 1 "are_truths" ["thing", "size"] (sp_are_truths a) := ⟨_, fd_are_truths, (He.glo_ok X G (d.fact 2 (f := .glo "are_truths") rfl)), F_are_truths.kp, (F_are_truths.bindsN (ps := ["thing", "size"]) fun _ _ _ _ _ _ us hl => match us, hl with | [_, _], _ => rfl), fun W => fn_ok F_are_truths sc_are_truths (fun W cdv A outer s H B E Ed hE hr => body_are_truths (T.toTxt) hr) (run_are_truths a) W⟩
  have c_Machine : CalI PySem.Challenge.rw_inkforall_k72_whole_sizes_that_have_line.prog w K mg base 3 "Machine" a.Machine ["self", "colours", "table", "good"] (sp_Machine___init__ a) := ⟨_, fd_Machine___init__, (He.glo_ok X G (d.fact 22 (f := .glo "Machine") rfl)), He.mkr_ok (d.fact 42 (f := .mkr "Machine") rfl), (F_Machine___init__.bindsN (ps := ["self", "colours", "table", "good"]) fun _ _ _ _ _ _ us hl => match us, hl with | [_, _, _, _], _ => rfl), fun W => init_ok F_Machine___init__ sc_Machine___init__ (fun W cdv A outer s H H0 B E Ed hE hr => body_Machine___init__ (T.toTxt) c_is_between c_is_table c_are_truths hr) (run_Machine___init__ a) (by decide) W⟩
  have c_shortest_told : Cal PySem.Challenge.rw_inkforall_k72_whole_sizes_that_have_line.prog w K mg base 1 "shortest_told" ["ahead", "ring"] (sp_shortest_told a) := ⟨_, fd_shortest_told, (He.glo_ok X G (d.fact 3 (f := .glo "shortest_told") rfl)), F_shortest_told.kp, (F_shortest_told.bindsN (ps := ["ahead", "ring"]) fun _ _ _ _ _ _ us hl => match us, hl with | [_, _], _ => rfl), fun W => fn_ok F_shortest_told sc_shortest_told (fun W cdv A outer s H B E Ed hE hr => body_shortest_told (T.toTxt) hr) (run_shortest_told a) W⟩
  have c_rooms_of_size : Cal PySem.Challenge.rw_inkforall_k72_whole_sizes_that_have_line.prog w K mg base 1 "rooms_of_size" ["machine", "rooms"] (sp_rooms_of_size a) := ⟨_, fd_rooms_of_size, (He.glo_ok X G (d.fact 4 (f := .glo "rooms_of_size") rfl)), F_rooms_of_size.kp, (F_rooms_of_size.bindsN (ps := ["machine", "rooms"]) fun _ _ _ _ _ _ us hl => match us, hl with | [_, _], _ => rfl), fun W => fn_ok F_rooms_of_size sc_rooms_of_size (fun W cdv A outer s H B E Ed hE hr => body_rooms_of_size (T.toTxt) hr) (run_rooms_of_size a) W⟩
  have c_sizes : Cal PySem.Challenge.rw_inkforall_k72_whole_sizes_that_have_line.prog w K mg base 2 "sizes" ["machine"] (sp_sizes a) := ⟨_, fd_sizes, (He.glo_ok X G (d.fact 5 (f := .glo "sizes") rfl)), F_sizes.kp, (F_sizes.bindsN (ps := ["machine"]) fun _ _ _ _ _ _ us hl => match us, hl with | [_], _ => rfl), fun W => fn_ok F_sizes sc_sizes (fun W cdv A outer s H B E Ed hE hr => body_sizes (T.toTxt) c_rooms_of_size c_shortest_told hr) (run_sizes a) W⟩
  have c_has_lines : Cal PySem.Challenge.rw_inkforall_k72_whole_sizes_that_have_line.prog w K mg base 3 "has_lines" ["machine", "size"] (sp_has_lines a) := ⟨_, fd_has_lines, (He.glo_ok X G (d.fact 6 (f := .glo "has_lines") rfl)), F_has_lines.kp, (F_has_lines.bindsN (ps := ["machine", "size"]) fun _ _ _ _ _ _ us hl => match us, hl with | [_, _], _ => rfl), fun W => fn_ok F_has_lines sc_has_lines (fun W cdv A outer s H B E Ed hE hr => body_has_lines (T.toTxt) c_is_between c_sizes hr) (run_has_lines a) W⟩
  have c__law_mixed : Cal PySem.Challenge.rw_inkforall_k72_whole_sizes_that_have_line.prog w K mg base 1 "_law_mixed" ["draw"] (sp__law_mixed a) := ⟨_, fd__law_mixed, (He.glo_ok X G (d.fact 7 (f := .glo "_law_mixed") rfl)), F__law_mixed.kp, (F__law_mixed.bindsN (ps := ["draw"]) fun _ _ _ _ _ _ us hl => match us, hl with | [_], _ => rfl), fun W => fn_ok F__law_mixed sc__law_mixed (fun W cdv A outer s H B E Ed hE hr => body__law_mixed (T.toTxt) hr) (run__law_mixed a) W⟩
  have c__law_take : Cal PySem.Challenge.rw_inkforall_k72_whole_sizes_that_have_line.prog w K mg base 2 "_law_take" ["draw", "amount"] (sp__law_take a) := ⟨_, fd__law_take, (He.glo_ok X G (d.fact 8 (f := .glo "_law_take") rfl)), F__law_take.kp, (F__law_take.bindsN (ps := ["draw", "amount"]) fun _ _ _ _ _ _ us hl => match us, hl with | [_, _], _ => rfl), fun W => fn_ok F__law_take sc__law_take (fun W cdv A outer s H B E Ed hE hr => body__law_take (T.toTxt) c__law_mixed hr) (run__law_take a) W⟩
  have c__law_pick : Cal PySem.Challenge.rw_inkforall_k72_whole_sizes_that_have_line.prog w K mg base 3 "_law_pick" ["draw", "some"] (sp__law_pick a) := ⟨_, fd__law_pick, (He.glo_ok X G (d.fact 9 (f := .glo "_law_pick") rfl)), F__law_pick.kp, (F__law_pick.bindsN (ps := ["draw", "some"]) fun _ _ _ _ _ _ us hl => match us, hl with | [_, _], _ => rfl), fun W => fn_ok F__law_pick sc__law_pick (fun W cdv A outer s H B E Ed hE hr => body__law_pick (T.toTxt) c__law_take hr) (run__law_pick a) W⟩
  have c__law_table : Cal PySem.Challenge.rw_inkforall_k72_whole_sizes_that_have_line.prog w K mg base 4 "_law_table" ["draw", "rooms", "colours"] (sp__law_table a) := ⟨_, fd__law_table, (He.glo_ok X G (d.fact 10 (f := .glo "_law_table") rfl)), F__law_table.kp, (F__law_table.bindsN (ps := ["draw", "rooms", "colours"]) fun _ _ _ _ _ _ us hl => match us, hl with | [_, _, _], _ => rfl), fun W => fn_ok F__law_table sc__law_table (fun W cdv A outer s H B E Ed hE hr => body__law_table (T.toTxt) c__law_take c__law_pick hr) (run__law_table a) W⟩
  have c__law_plan : Cal PySem.Challenge.rw_inkforall_k72_whole_sizes_that_have_line.prog w K mg base 5 "_law_plan" ["draw", "most"] (sp__law_plan a) := ⟨_, fd__law_plan, (He.glo_ok X G (d.fact 11 (f := .glo "_law_plan") rfl)), F__law_plan.kp, (F__law_plan.bindsN (ps := ["draw", "most"]) fun _ _ _ _ _ _ us hl => match us, hl with | [_, _], _ => rfl), fun W => fn_ok F__law_plan sc__law_plan (fun W cdv A outer s H B E Ed hE hr => body__law_plan (T.toTxt) c__law_take c__law_pick c__law_table hr) (run__law_plan a) W⟩
  have c__law_told_sizes : Cal PySem.Challenge.rw_inkforall_k72_whole_sizes_that_have_line.prog w K mg base 1 "_law_told_sizes" ["plan", "most"] (sp__law_told_sizes a) := ⟨_, fd__law_told_sizes, (He.glo_ok X G (d.fact 12 (f := .glo "_law_told_sizes") rfl)), F__law_told_sizes.kp, (F__law_told_sizes.bindsN (ps := ["plan", "most"]) fun _ _ _ _ _ _ us hl => match us, hl with | [_, _], _ => rfl), fun W => fn_ok F__law_told_sizes sc__law_told_sizes (fun W cdv A outer s H B E Ed hE hr => body__law_told_sizes (T.toTxt) hr) (run__law_told_sizes a) W⟩
  have c__law_shortest : Cal PySem.Challenge.rw_inkforall_k72_whole_sizes_that_have_line.prog w K mg base 1 "_law_shortest" ["ahead", "ring"] (sp__law_shortest a) := ⟨_, fd__law_shortest, (He.glo_ok X G (d.fact 13 (f := .glo "_law_shortest") rfl)), F__law_shortest.kp, (F__law_shortest.bindsN (ps := ["ahead", "ring"]) fun _ _ _ _ _ _ us hl => match us, hl with | [_, _], _ => rfl), fun W => fn_ok F__law_shortest sc__law_shortest (fun W cdv A outer s H B E Ed hE hr => body__law_shortest (T.toTxt) hr) (run__law_shortest a) W⟩
  have c__law_rings : Cal PySem.Challenge.rw_inkforall_k72_whole_sizes_that_have_line.prog w K mg base 3 "_law_rings" ["draw", "lengths"] (sp__law_rings a) := ⟨_, fd__law_rings, (He.glo_ok X G (d.fact 14 (f := .glo "_law_rings") rfl)), F__law_rings.kp, (F__law_rings.bindsN (ps := ["draw", "lengths"]) fun _ _ _ _ _ _ us hl => match us, hl with | [_, _], _ => rfl), fun W => fn_ok F__law_rings sc__law_rings (fun W cdv A outer s H B E Ed hE hr => body__law_rings (T.toTxt) c__law_take hr) (run__law_rings a) W⟩
  have cw_sizes_machine : CalW PySem.Challenge.rw_inkforall_k72_whole_sizes_that_have_line.prog w K mg base 2 "sizes" ["machine"] (sp_sizes a) 0 ["machine"] [0] := by
    obtain ⟨f0, fd0, h1, h2, h3, h4⟩ := c_sizes.ex
    exact ⟨_, fd_sizes, (He.glo_ok X G (d.fact 5 (f := .glo "sizes") rfl)), F_sizes.kp, kwB_of F_sizes (fun _ _ _ _ _ _ us ws l1 l2 => match us, ws, l1, l2 with | [], [_], _, _ => rfl), fun W => fn_ok F_sizes sc_sizes (fun W cdv A outer s H B E Ed hE hr => body_sizes (T.toTxt) c_rooms_of_size c_shortest_told hr) (run_sizes a) W⟩
  have cw_has_lines_size_machine : CalW PySem.Challenge.rw_inkforall_k72_whole_sizes_that_have_line.prog w K mg base 3 "has_lines" ["machine", "size"] (sp_has_lines a) 0 ["size", "machine"] [1, 0] := by
    obtain ⟨f0, fd0, h1, h2, h3, h4⟩ := c_has_lines.ex
    exact ⟨_, fd_has_lines, (He.glo_ok X G (d.fact 6 (f := .glo "has_lines") rfl)), F_has_lines.kp, kwB_of F_has_lines (fun _ _ _ _ _ _ us ws l1 l2 => match us, ws, l1, l2 with | [], [_, _], _, _ => rfl), fun W => fn_ok F_has_lines sc_has_lines (fun W cdv A outer s H B E Ed hE hr => body_has_lines (T.toTxt) c_is_between c_sizes hr) (run_has_lines a) W⟩
  have c__law_caught : CalF PySem.Challenge.rw_inkforall_k72_whole_sizes_that_have_line.prog w K mg 6 5 "_law_caught" ["work"] (sp__law_caught a) := ⟨_, fd__law_caught, (He.glo_ok X G (d.fact 16 (f := .glo "_law_caught") rfl)), F__law_caught.kp, (F__law_caught.bindsN (ps := ["work"]) fun _ _ _ _ _ _ us hl => match us, hl with | [_], _ => rfl), fn_okF F__law_caught sc__law_caught (fun base M W Bm beh EV cdv A outer s H B E Ed hE sb hr => body__law_caught T EV sb hr) (run__law_caught a)⟩
  have Fb : DL.FnOk PySem.Challenge.rw_inkforall_k72_whole_sizes_that_have_line.prog w K mg base (L2.CX PySem.Challenge.rw_inkforall_k72_whole_sizes_that_have_line.prog w) 1 (He.fAd K ("_law_begun", none)) fd__law_begun ["script"] (spBegun K) := fund_ok F__law_begun sc__law_begun (fun vs H Q E ⟨a0, ns, e, _⟩ => by rw [e]; rfl) (fun cdv A outer s H vs Q E hr h0 => ⟨_, body__law_begun T.z_abs, pure_begun vs H Q E h0⟩)
  refine law_ok (s0 := (defBody st_law).getD 0 (.Pass ⟨0, 0, 0, 0⟩)) (rest := (defBody st_law).drop 1) F_law sc_law (by decide) (by rfl) (fun cdv A outer s H E hr => ?_) fun W cdv A outer s H H0 B E eT hcd hr => ?_
  · exact ps_set (i := 1) sc_law.nd rfl (.inl rfl) (DL.pe_call Fb (hr.mono (by decide)) rfl (He.glo_ok X G (d.fact 15 (f := .glo "_law_begun") rfl)) F__law_begun.kp (F__law_begun.bindsN (ps := ["script"]) fun _ _ _ _ _ _ us hl => match us, hl with | [_], _ => rfl) .nil passL (pa_cons (pe_var (i := 0) rfl (.inl rfl) (by decide) (by decide)) pa_nil))
  · have M : LamMk (cxB PySem.Challenge.rw_inkforall_k72_whole_sizes_that_have_line.prog w K mg base N_law "law" st_law (He.fAd K ("law", none)) cdv A outer s H E) W.T := by
      obtain ⟨oc, od, dV, kV, doc, pm, an, cdv', ct, osl, e1, lk, hcd', _, _⟩ := F_law.ex
      obtain ⟨c0, ec⟩ := He.codeIn_ref hcd'
      have e2 : fd_law.code = .ref c0 := by rw [e1, ← ec] <;> rfl
      have e3 := He.codeOf_eq (p := ("law", none)) lk e2
      have tq := tb (He.cT K ("law", none)) (List.mem_map.mpr ⟨_, List.mem_cons_self, rfl⟩)
      refine ⟨_, _, tq, ?_, ?_, fun p hp _ => ?_⟩
      · show cdv = .ref (He.codeOf K ("law", none))
        rw [e3, ← hcd, e2]
      · rw [eT]; exact List.mem_map.mpr ⟨_, List.mem_cons_self, rfl⟩
      · rw [eT] at hp
        obtain ⟨q, hq, rfl⟩ := List.mem_map.mp hp
        rfl
    obtain ⟨k0, k1, k2, k3, hps⟩ := body_law T c__law_pick c__law_rings c__law_plan c_Machine c__law_shortest c__law_told_sizes c_sizes c__law_take c_has_lines cw_sizes_machine cw_has_lines_size_machine c__law_caught (E := E) (Ed := noE) (W := W) (H0 := H0) (B := B) (hE := fun _ _ _ h => h.elim) M hr
    exact ⟨_, hps, fun ns Q hq => run_law a k0 k1 k2 k3 ns Q noE hq⟩
end DL
-- K72yb
set_option Elab.async false
set_option linter.all false
set_option maxRecDepth 100000
set_option maxHeartbeats 2000000
set_option autoImplicit false
namespace DL
open PySem PySem.Spec L2
open PyProof.Rows hiding St
abbrev RR : PySem.W.OpenRow := PySem.W.OpenLaw.row PySem.Challenge.rw_inkforall_k72_whole_sizes_that_have_line
abbrev hkK : PySem.W.Hook := He.hookX 6 faK fnK [] tfK exK
def obK (s : PySem.W.SharedT) : He.AlX := He.obsX 6 faK fnK [] tfK exK (HandSHeadRun.getT s)
theorem obK_eq (s : PySem.W.SharedT) : obK s = hkK.obs s.abs := He.obsX_eq (HandSHeadRun.getT_eq s)
def nm0 : List PySem.Str := ["_wall", "InkError", "NoMachine", "NoNumber", "TooMany", "is_between", "MOST_PAINTS", "MOST_ROOMS", "is_table", "are_truths", "Machine", "shortest_told", "MOST_STEPS", "rooms_of_size", "sizes", "has_lines", "_law_begun", "_law_mixed", "_law_take", "_law_pick", "_law_caught", "_law_table", "_law_plan", "_law_told_sizes", "_law_shortest", "_law_rings"]
def nmK : List PySem.Str := nm0
set_option maxHeartbeats 0 in
theorem runK (w : World) : HandSHeadRun.RunEq RR (PySem.W.view RR.prog [32]) hkK obK 4000 nmK w := by
  intro os
  kernel_rfl
end DL
-- K72yc
set_option Elab.async false
set_option linter.all false
set_option maxRecDepth 100000
set_option maxHeartbeats 2000000
set_option autoImplicit false
namespace DL
open PySem PySem.Spec L2
open PyProof.Rows hiding St
end DL
open PySem PySem.W PySem.Calls PyProof.Rows
set_option maxHeartbeats 0 in
theorem PySem.Challenge.cw_inkforall_k72_whole_sizes_that_have_line_holds : PySem.Challenge.rw_inkforall_k72_whole_sizes_that_have_line.Holds := by
  w_on; o_law
  refine HandSHeadRun.head_any (r := OpenLaw.row PySem.Challenge.rw_inkforall_k72_whole_sizes_that_have_line) (q := view (OpenLaw.row PySem.Challenge.rw_inkforall_k72_whole_sizes_that_have_line).prog [32]) (H := DL.hkK) (ob := DL.obK) (M := 4000) (loose := DL.nmK) (d := HandSHeadRun.topDef (OpenLaw.row PySem.Challenge.rw_inkforall_k72_whole_sizes_that_have_line).prog 32) (kwd := []) DL.obK_eq
    (by kernel_rfl) (fun s => by kernel_rfl) DL.runK (by kernel_rfl) (by kernel_rfl) (by kernel_rfl) (by rfl) (by first | assumption | decide +kernel) (by decide +kernel) ⟨rfl, rfl, rfl, rfl, rfl, by decide +kernel⟩ ?hw ?hc
  case hw => w_witness2
  case hc =>
    refine DL.walk_D (l := PySem.Challenge.rw_inkforall_k72_whole_sizes_that_have_line) (n := 63) (k := 7) (x := "script") rfl (by decide) (by kernel_rfl) ⟨⟨rfl, by decide, by decide⟩, rfl⟩ ?F
    intro w mg fa h Y G hmg0
    obtain ⟨K, KX, c⟩ := Y
    have hmg : mg ("law" : PySem.Str) = some (.ref fa) := by
      have e : (HandSHeadRun.topDef (OpenLaw.row PySem.Challenge.rw_inkforall_k72_whole_sizes_that_have_line).prog 32).name = ("law" : PySem.Str) := by kernel_rfl
      rw [← e]
      exact hmg0
    exact ⟨K, KX, DL.law_at KX G hmg c⟩
namespace DL
end DL
