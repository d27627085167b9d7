import PyProof.Rows.All
import Wide.All
import OpenK.AllK
import Wide.FinOn
import HandS.ForMost
import HandS.ForExc
import HandS.Wide
import HandS.Gcd
import HandS.HotCalls
import HandS.ExcIs
import HandS.ExcOwn
import HandS.Lambda
import HandS.EndTab
import HandS.IsInst
import HandS.Property
import HandS.Style
import HandS.Defaults
import KE.SortKeyHeap
import KE.SortData
import HandS.SortInts
import HandS.IterVal
import HandS.IterNext
import HandS.MakeKwOnly
import KE.SortLaws
import PySem.Challenge.RW_whattwosettle_k75_risk_is_the_lesser_pro
set_option Elab.async false
set_option linter.all false
set_option maxRecDepth 100000
set_option maxHeartbeats 4000000
/-! # Rf1: data, what stands for it in the heap, results -/
namespace Rf
open PySem PySem.Spec L2

/-- values of the pure reading: no addresses in them -/
inductive D where
  | non | bl (b : Bool) | int (i : Int) | str (s : Str) | tup (xs : List D) | lst (xs : List D)
  | obj (c : Str) (fs : List (Str × D)) | exc (c : Str) (fs : List (Str × D))
  deriving Inhabited
/-- an error of the pure reading: its class by name, its fields -/
structure Exn where
  cls : Str
  fs : List (Str × D)
inductive R (α : Type) where
  | ok (a : α) | err (x : Exn) | bad
def R.bind {α β : Type} (r : R α) (f : α → R β) : R β := match r with
  | .ok a => f a
  | .err x => .err x
  | .bad => .bad
@[simp] theorem R.bind_ok {α β : Type} (a : α) (f : α → R β) : (R.ok a).bind f = f a := id rfl
@[simp] theorem R.bind_err {α β : Type} (x : Exn) (f : α → R β) : (R.err x : R α).bind f = .err x := id rfl
@[simp] theorem R.bind_bad {α β : Type} (f : α → R β) : (R.bad : R α).bind f = .bad := id rfl
abbrev Fn := List D → R D

/-- what is fixed for a whole program -/
structure G where
  P : Program
  w : World
  K : PySem.W.Frag
  mg : Str → Option Value
  base : Heap
  /-- the exception that a suite holds -/
  hx : Option (Addr × Obj)

/-- a list that is to be read -/
def LsK (K : PySem.W.Frag) (H : Hp) (a : Addr) (xs : List V) : Prop :=
  Rd H a (.lst xs) ∨ ∃ (its : List Value) (n : Nat), K.lookup a = some { cls := .type "list", data := .seq its.toArray n } ∧ its.length ≤ sizeLine ∧ Vals xs its
theorem LsK.of {K : PySem.W.Frag} {H : Hp} {a : Addr} {xs : List V} (h : H a = some (.lst xs)) : LsK K H a xs := .inl (.inl h)
theorem lsq {K : PySem.W.Frag} {H : Hp} {a : Addr} {xs : List V} (h : LsK K H a xs) : SqL K H a xs := by
  rcases h with h | ⟨its, n, hk, hl, r⟩
  · exact .inl h
  · exact .inr ⟨_, its.toArray, n, hk, rfl, rfl, rfl, by simpa using hl, by simpa using r⟩
mutual
inductive Rep (g : G) (H : Hp) : V → D → Prop where
  | non : Rep g H .non .non
  | bl (b : Bool) : Rep g H (.bl b) (.bl b)
  | int (i : Int) : Rep g H (.int i) (.int i)
  | str (x : Str) : Rep g H (.str x) (.str x)
  | tup {a : Addr} {vs : List V} {ds : List D} : SqT g.K H a vs → Reps g H vs ds → Rep g H (.ref a) (.tup ds)
  | lst {a : Addr} {vs : List V} {ds : List D} : LsK g.K H a vs → Reps g H vs ds → Rep g H (.ref a) (.lst ds)
  | obj {a C dx : Addr} {c : Str} {fs : List (Str × V)} {gs : List (Str × D)} : g.mg c = some (.ref C) → H a = some (.ins C dx fs) → RepF g H fs gs → Rep g H (.ref a) (.obj c gs)
  | exc0 {a : Addr} {oe : Obj} {c : Str} : g.hx = some (a, oe) → g.mg c = some oe.cls → oe.dict = none → Rep g H (.ref a) (.exc c [])
  | excD {a dd : Addr} {oe : Obj} {c : Str} {fs : List (Str × V)} {gs : List (Str × D)} : g.hx = some (a, oe) → g.mg c = some oe.cls → oe.dict = some dd → H dd = some (.xd fs) → RepF g H fs gs → Rep g H (.ref a) (.exc c gs)
inductive Reps (g : G) (H : Hp) : List V → List D → Prop where
  | nil : Reps g H [] []
  | cons {v : V} {d : D} {vs : List V} {ds : List D} : Rep g H v d → Reps g H vs ds → Reps g H (v :: vs) (d :: ds)
inductive RepF (g : G) (H : Hp) : List (Str × V) → List (Str × D) → Prop where
  | nil : RepF g H [] []
  | cons {f : Str} {v : V} {d : D} {fs : List (Str × V)} {gs : List (Str × D)} : Rep g H v d → RepF g H fs gs → RepF g H ((f, v) :: fs) ((f, d) :: gs)
end

theorem same_rd {K : PySem.W.Frag} {H H' : Hp} {a : Addr} {o : List V} (e : Same H H') (h : LsK K H a o) : LsK K H' a o := by
  rcases h with (h | ⟨u, h⟩) | h
  · exact .inl (.inl (e _ _ h))
  · exact .inl (.inr ⟨u, e _ _ h⟩)
  · exact .inr h
theorem same_sqT {K : PySem.W.Frag} {H H' : Hp} {a : Addr} {xs : List V} (e : Same H H') (h : SqT K H a xs) : SqT K H' a xs := by
  rcases h with (h | ⟨o, h⟩) | h
  · exact .inl (.inl (e _ _ h))
  · exact .inl (.inr ⟨o, e _ _ h⟩)
  · exact .inr h
mutual
theorem Rep.mono {g : G} {H H' : Hp} (e : Same H H') : ∀ {v : V} {d : D}, Rep g H v d → Rep g H' v d
  | _, _, .non => .non
  | _, _, .bl b => .bl b
  | _, _, .int b => .int b
  | _, _, .str b => .str b
  | _, _, .tup h r => .tup (same_sqT e h) (Reps.mono e r)
  | _, _, .lst h r => .lst (same_rd e h) (Reps.mono e r)
  | _, _, .obj m h r => .obj m (e _ _ h) (RepF.mono e r)
  | _, _, .exc0 h m d => .exc0 h m d
  | _, _, .excD h m d k r => .excD h m d (e _ _ k) (RepF.mono e r)
theorem Reps.mono {g : G} {H H' : Hp} (e : Same H H') : ∀ {v : List V} {d : List D}, Reps g H v d → Reps g H' v d
  | _, _, .nil => .nil
  | _, _, .cons h r => .cons (Rep.mono e h) (Reps.mono e r)
theorem RepF.mono {g : G} {H H' : Hp} (e : Same H H') : ∀ {v : List (Str × V)} {d : List (Str × D)}, RepF g H v d → RepF g H' v d
  | _, _, .nil => .nil
  | _, _, .cons h r => .cons (Rep.mono e h) (RepF.mono e r)
end
section
variable {g : G} {H : Hp}
theorem Reps.length : ∀ {vs : List V} {ds : List D}, Reps g H vs ds → vs.length = ds.length
  | _, _, .nil => rfl
  | _, _, .cons _ r => by rw [List.length_cons, List.length_cons, Reps.length r]
theorem Reps.get : ∀ {vs : List V} {ds : List D} {i : Nat} {d : D}, Reps g H vs ds → ds[i]? = some d → ∃ v, vs[i]? = some v ∧ Rep g H v d
  | _, _, _, _, .nil, e => by simp at e
  | _, _, 0, _, .cons r _, e => by simp at e; subst e; exact ⟨_, rfl, r⟩
  | _, _, i + 1, _, .cons _ t, e => by
    obtain ⟨u, h1, h2⟩ := Reps.get (i := i) t (by simpa using e)
    exact ⟨u, by simpa using h1, h2⟩
theorem Reps.append : ∀ {vs vs' : List V} {ds ds' : List D}, Reps g H vs ds → Reps g H vs' ds' → Reps g H (vs ++ vs') (ds ++ ds')
  | _, _, _, _, .nil, s => s
  | _, _, _, _, .cons r t, s => .cons r (Reps.append t s)
theorem Reps.take : ∀ {vs : List V} {ds : List D} (n : Nat), Reps g H vs ds → Reps g H (vs.take n) (ds.take n)
  | _, _, 0, _ => .nil
  | _, _, _ + 1, .nil => .nil
  | _, _, n + 1, .cons r t => .cons r (Reps.take n t)
theorem Reps.drop : ∀ {vs : List V} {ds : List D} (n : Nat), Reps g H vs ds → Reps g H (vs.drop n) (ds.drop n)
  | _, _, 0, r => r
  | _, _, _ + 1, .nil => .nil
  | _, _, n + 1, .cons r t => Reps.drop n t
theorem Reps.set {v : V} {d : D} (r : Rep g H v d) : ∀ {vs : List V} {ds : List D} (i : Nat), Reps g H vs ds → Reps g H (vs.set i v) (ds.set i d)
  | _, _, _, .nil => .nil
  | _, _, 0, .cons _ t => .cons r t
  | _, _, i + 1, .cons q t => .cons q (Reps.set r i t)
theorem reps_rev {vs : List V} {ds : List D} (r : Reps g H vs ds) : Reps g H vs.reverse ds.reverse := by
  induction vs generalizing ds with
  | nil => cases r; exact .nil
  | cons v vs ih => cases r with
    | cons h t => rw [List.reverse_cons, List.reverse_cons]; exact (ih t).append (.cons h .nil)
theorem Reps.dropLast {vs : List V} {ds : List D} (r : Reps g H vs ds) : Reps g H vs.dropLast ds.dropLast := by
  rw [List.dropLast_eq_take, List.dropLast_eq_take, r.length]; exact r.take _
theorem RepF.lookup {f : Str} : ∀ {fs : List (Str × V)} {gs : List (Str × D)} {d : D}, RepF g H fs gs → gs.lookup f = some d → ∃ v, fs.lookup f = some v ∧ Rep g H v d
  | _, _, _, .nil, e => by simp [List.lookup] at e
  | _, _, _, .cons (f := f') r t, e => by
    by_cases h : f = f'
    · subst h
      simp [List.lookup] at e ⊢
      subst e
      exact r
    · have hb : (f == f') = false := by simpa using h
      simp only [List.lookup, hb] at e ⊢
      exact RepF.lookup t e
theorem RepF.lookup_none {f : Str} : ∀ {fs : List (Str × V)} {gs : List (Str × D)}, RepF g H fs gs → gs.lookup f = none → fs.lookup f = none
  | _, _, .nil, e => rfl
  | _, _, .cons (f := f') r t, e => by
    by_cases h : f = f'
    · subst h
      simp [List.lookup] at e
    · have hb : (f == f') = false := by simpa using h
      simp only [List.lookup, hb] at e ⊢
      exact RepF.lookup_none t e
theorem reps_ints : ∀ (ns : List Int), Reps g H (ns.map V.int) (ns.map D.int)
  | [] => .nil
  | n :: ns => .cons (.int n) (reps_ints ns)
end

/-! ### data without objects: the library's own -/
mutual
def D.py : D → Option PyData
  | .non => some .none
  | .bl b => some (.bool b)
  | .int i => some (.int i)
  | .str s => some (.str s)
  | .tup xs => (pys xs).map .tuple
  | .lst xs => (pys xs).map .list
  | .obj _ _ => none
  | .exc _ _ => none
def pys : List D → Option (List PyData)
  | [] => some []
  | d :: ds => match d.py, pys ds with
    | some p, some ps => some (p :: ps)
    | _, _ => none
end
mutual
theorem Rep.dp {g : G} {H : Hp} : ∀ {v : V} {d : D} {p : PyData}, Rep g H v d → d.py = some p → Dp g.K H v p
  | _, _, _, .non, e => by simp [D.py] at e; subst e; exact .non
  | _, _, _, .bl b, e => by simp [D.py] at e; subst e; exact .bl b
  | _, _, _, .int b, e => by simp [D.py] at e; subst e; exact .int b
  | _, _, _, .str b, e => by simp [D.py] at e; subst e; exact .str b
  | _, _, _, .tup h r, e => by
    simp only [D.py, Option.map_eq_some_iff] at e
    obtain ⟨ps, e1, rfl⟩ := e
    exact .tup h (Reps.dps r e1)
  | _, _, _, .lst h r, e => by
    simp only [D.py, Option.map_eq_some_iff] at e
    obtain ⟨ps, e1, rfl⟩ := e
    exact .lst (lsq h) (Reps.dps r e1)
  | _, _, _, .obj _ _ _, e => by simp [D.py] at e
  | _, _, _, .exc0 _ _ _, e => by simp [D.py] at e
  | _, _, _, .excD _ _ _ _ _, e => by simp [D.py] at e
theorem Reps.dps {g : G} {H : Hp} : ∀ {v : List V} {d : List D} {p : List PyData}, Reps g H v d → pys d = some p → DpAll g.K H v p
  | _, _, _, .nil, e => by simp [pys] at e; subst e; exact .nil
  | _, _, _, .cons (d := d) (ds := ds) h r, e => by
    unfold pys at e
    split at e
    · rename_i p ps e1 e2
      cases e
      exact .cons (Rep.dp h e1) (Reps.dps r e2)
    · cases e
end

/-! ### the frozen heap Hf within H -/
/-- the name that the lambda of ascending bears -/
def lamName : Str := "ascending.<locals>.<lambda>"
/-- all but tables of code objects stay, tables grow -/
structure Ext (H H' : Hp) : Prop where
  o : ∀ b u, H b = some u → (∀ ps, u ≠ .tbl ps) → H' b = some u
  t : ∀ b ps, H b = some (.tbl ps) → ∃ qs, H' b = some (.tbl qs)
  q : ∀ P, LamX.TabS H P lamName → LamX.TabS H' P lamName
section
variable {H H1 H2 H' : Hp}
theorem Ext.of (e : Same H H') : Ext H H' := ⟨fun b u h _ => e b u h, fun b ps h => ⟨ps, e b _ h⟩, fun P h => h.ext e⟩
theorem Ext.refl (H : Hp) : Ext H H := .of (.refl H)
theorem Ext.trans (a : Ext H H1) (b : Ext H1 H2) : Ext H H2 :=
  ⟨fun c u h n => b.o c u (a.o c u h n) n, fun c ps h => by obtain ⟨qs, z⟩ := a.t c ps h; exact b.t c qs z, fun P h => b.q P (a.q P h)⟩
theorem Ext.free (e : Ext H H') {a : Addr} (h : H' a = none) : H a = none := by
  cases q : H a with
  | none => rfl
  | some u =>
    cases u with
    | tbl ps => obtain ⟨qs, z⟩ := e.t a ps q; rw [h] at z; cases z
    | _ => have z := e.o a _ q (fun ps y => nomatch y); rw [h] at z; cases z
theorem Ext.lst (e : Ext H H') {a : Addr} {vs : List V} (h : H a = some (.lst vs)) : H' a = some (.lst vs) := e.o a _ h (fun ps y => nomatch y)
theorem tabS_lst {p P : Addr} {x : Str} {vs : List V} {o : HO} (hp : H p = some (.lst vs)) (h : LamX.TabS H P x) : LamX.TabS (upd H p o) P x := by
  obtain ⟨ps, h1, h2, h3⟩ := h
  have nP : P ≠ p := fun z => by rw [z, hp] at h1; cases h1
  refine ⟨ps, by rw [upd_ne nP]; exact h1, h2, fun pos cv hc => ?_⟩
  obtain ⟨c, e1, e2⟩ := h3 pos cv hc
  have nc : c ≠ p := fun z => by rw [z, hp] at e2; cases e2
  exact ⟨c, e1, by rw [upd_ne nc]; exact e2⟩
/-- a list of H, fresh since H0, is changed -/
theorem Ext.upd {H0 : Hp} {p : Addr} {vs : List V} {o : HO} (e : Ext H0 H) (h0 : H0 p = none) (hp : H p = some (.lst vs)) : Ext H0 (upd H p o) :=
  ⟨fun b u h n => by rw [upd_ne (ne_of_none h h0)]; exact e.o b u h n, fun b ps h => by rw [upd_ne (ne_of_none h h0)]; exact e.t b ps h, fun P h => tabS_lst hp (e.q P h)⟩
end
theorem same_rdE {K : PySem.W.Frag} {H H' : Hp} {a : Addr} {o : List V} (e : Ext H H') (h : LsK K H a o) : LsK K H' a o := by
  rcases h with (h | ⟨u, h⟩) | h
  · exact .inl (.inl (e.lst h))
  · exact .inl (.inr ⟨u, e.o _ _ h (fun ps y => nomatch y)⟩)
  · exact .inr h
structure Fut (H Hf H' Hf' : Hp) : Prop where
  s : Ext H H'
  f : Same Hf Hf'
  i : Same Hf' H'
  n : ∀ p, H p ≠ none → Hf p = none → Hf' p = none
section
variable {H Hf H1 Hf1 H2 Hf2 : Hp}
theorem Fut.refl (h : Same Hf H) : Fut H Hf H Hf := ⟨.refl _, .refl _, h, fun _ _ h => h⟩
theorem Fut.trans (a : Fut H Hf H1 Hf1) (b : Fut H1 Hf1 H2 Hf2) : Fut H Hf H2 Hf2 :=
  ⟨a.s.trans b.s, a.f.trans b.f, b.i, fun p h1 h2 => b.n p (fun e => h1 (a.s.free e)) (a.n p h1 h2)⟩
theorem same_upd {H : Hp} {p : Addr} {o : HO} (h : H p = none) : Same H (upd H p o) := fun b u e => by rw [upd_ne (ne_of_none e h)]; exact e
/-- a new object that is frozen at once -/
theorem Fut.new {p : Addr} {o : HO} (h : Same Hf H) (hp : H p = none) : Fut H Hf (upd H p o) (upd Hf p o) := by
  refine ⟨.of (same_upd hp), same_upd (h.free hp), fun b u e => ?_, fun q h1 h2 => ?_⟩
  · by_cases hb : b = p
    · subst hb; rw [upd_same] at e ⊢; exact e
    · rw [upd_ne hb] at e ⊢; exact h _ _ e
  · rw [upd_ne (fun z => h1 (by rw [z]; exact hp))]; exact h2
/-- a new object that is not frozen -/
theorem Fut.own {p : Addr} {o : HO} (h : Same Hf H) (hp : H p = none) : Fut H Hf (upd H p o) Hf :=
  ⟨.of (same_upd hp), .refl _, h.trans (same_upd hp), fun _ _ h => h⟩
theorem Fut.add {p : Addr} {o : HO} (h : Same Hf H) (hp : H p = some o) (hn : H1 p = none) (a : Fut H1 Hf1 H Hf) (hf : Hf p = none) : Fut H1 Hf1 H (upd Hf p o) := by
  refine ⟨a.s, a.f.trans (same_upd hf), fun b u e => ?_, fun q h1 h2 => ?_⟩
  · by_cases hb : b = p
    · subst hb; rw [upd_same] at e; cases e; exact hp
    · rw [upd_ne hb] at e; exact h _ _ e
  · rw [upd_ne (fun z => h1 (by rw [z]; exact hn))]; exact a.n q h1 h2
end
/-- P: the table of code objects of ascending, whose code is at c -/
def G.tbc (g : G) (c P : Addr) : Prop := ∃ (f : Addr) (o : Obj) (fd : FuncData), g.mg "ascending" = some (.ref f) ∧ g.K.lookup f = some o ∧ o.data = .func fd ∧ fd.code = .ref c ∧ LamX.TabB g.base g.mg c P
def G.tb (g : G) (P : Addr) : Prop := ∃ c, g.tbc c P
/-- the tables are tracked, not frozen -/
def TbOk (g : G) (H Hf : Hp) : Prop := ∀ P, g.tb P → LamX.TabS H P lamName ∧ Hf P = none
theorem TbOk.mono {g : G} {H Hf H' Hf' : Hp} (t : TbOk g H Hf) (f : Fut H Hf H' Hf') : TbOk g H' Hf' := fun P h => by
  obtain ⟨h1, h2⟩ := t P h
  refine ⟨f.s.q P h1, f.n P ?_ h2⟩
  obtain ⟨ps, h3, _⟩ := h1
  rw [h3]; exact fun z => nomatch z

/-! ### slots -/
inductive Sl where
  /-- data; a list that no one else holds -/
  | v (d : D) | o (xs : List D)
  /-- an object that is being made: its place, class, fields -/
  | n (p : Addr) (c : Str) (fs : List (Str × D))
/-- held by the slot alone -/
def Sl.own : Sl → Bool
  | .v _ => false
  | _ => true
abbrev Env := List (Option Sl)
/-- slot by slot; H0: the heap at the entry -/
inductive SlRep (g : G) (H0 H Hf : Hp) : V → Sl → Prop where
  | v {u : V} {d : D} : Rep g Hf u d → SlRep g H0 H Hf u (.v d)
  | o {p : Addr} {vs : List V} {ds : List D} : H p = some (.lst vs) → Hf p = none → H0 p = none → Reps g Hf vs ds → SlRep g H0 H Hf (.ref p) (.o ds)
  | n {p C dx : Addr} {c : Str} {vs : List (Str × V)} {fs : List (Str × D)} : H p = some (.ins C dx vs) → Hf p = none → H0 p = none → g.mg c = some (.ref C) → RepF g Hf vs fs → SlRep g H0 H Hf (.ref p) (.n p c fs)
structure SR (g : G) (H0 Hf0 : Hp) (σ : St) (H Hf : Hp) (env : Env) : Prop where
  fut : Fut H0 Hf0 H Hf
  len : env.length = σ.length
  slot : ∀ (i : Nat) (s : Sl), env[i]? = some (some s) → ∃ v, σ[i]? = some (some v) ∧ SlRep g H0 H Hf v s
  dis : ∀ (i j : Nat) (x y : Sl), i ≠ j → env[i]? = some (some x) → env[j]? = some (some y) → x.own = true → y.own = true → σ[i]? ≠ σ[j]?
  tb : TbOk g H Hf
section
variable {g : G} {H0 Hf0 H Hf H' Hf' : Hp} {σ : St} {env : Env}
theorem SlRep.mono {v : V} {s : Sl} (r : SlRep g H0 H Hf v s) (f : Fut H Hf H' Hf') : SlRep g H0 H' Hf' v s := by
  cases r with
  | v h => exact .v (h.mono f.f)
  | o h1 h2 h3 h4 => exact .o (f.s.lst h1) (f.n _ (by rw [h1]; exact fun z => nomatch z) h2) h3 (h4.mono f.f)
  | n h1 h2 h3 h4 h5 => exact .n (f.s.o _ _ h1 (fun ps y => nomatch y)) (f.n _ (by rw [h1]; exact fun z => nomatch z) h2) h3 h4 (h5.mono f.f)
theorem SR.mono (r : SR g H0 Hf0 σ H Hf env) (f : Fut H Hf H' Hf') : SR g H0 Hf0 σ H' Hf' env :=
  ⟨r.fut.trans f, r.len, fun i s h => let ⟨v, e, q⟩ := r.slot i s h; ⟨v, e, q.mono f⟩, r.dis, r.tb.mono f⟩
theorem SR.sub (r : SR g H0 Hf0 σ H Hf env) : Same Hf H := r.fut.i
/-- a slot set to data -/
theorem SR.setv {i : Nat} {u : V} {d : D} (r : SR g H0 Hf0 σ H Hf env) (q : Rep g Hf u d) : SR g H0 Hf0 (σ.set i (some u)) H Hf (env.set i (some (.v d))) := by
  refine ⟨r.fut, by simp [r.len], fun j s h => ?_, fun j k xs ys hne h1 h2 o1 o2 => ?_, r.tb⟩
  · by_cases hj : j = i
    · subst hj
      have hl : j < env.length := by
        rcases Nat.lt_or_ge j env.length with z | z
        · exact z
        · rw [List.getElem?_eq_none (by simpa using z)] at h; cases h
      rw [List.getElem?_set_self hl] at h; cases h
      exact ⟨u, by rw [List.getElem?_set_self (r.len ▸ hl)], .v q⟩
    · rw [List.getElem?_set_ne (Ne.symm hj)] at h
      obtain ⟨v, e, q⟩ := r.slot j s h
      exact ⟨v, by rw [List.getElem?_set_ne (Ne.symm hj)]; exact e, q⟩
  · have no : ∀ {j : Nat} {x : Sl}, (env.set i (some (.v d)))[j]? = some (some x) → x.own = true → j ≠ i := fun {j x} h o e => by
      subst e
      by_cases hl : j < env.length
      · rw [List.getElem?_set_self hl] at h; cases h; cases o
      · rw [List.getElem?_eq_none (by simpa using hl)] at h; cases h
    have n1 := no h1 o1
    have n2 := no h2 o2
    rw [List.getElem?_set_ne (Ne.symm n1)] at h1 ⊢
    rw [List.getElem?_set_ne (Ne.symm n2)] at h2 ⊢
    exact r.dis j k xs ys hne h1 h2 o1 o2
/-- a slot set to a list of its own, new at p -/
theorem SR.seto {i : Nat} {p : Addr} {vs : List V} {ds : List D} (r : SR g H0 Hf0 σ H Hf env) (hp : H p = some (.lst vs)) (hf : Hf p = none) (h0 : H0 p = none) (q : Reps g Hf vs ds)
    (hd : ∀ (j : Nat) (x : Sl), j ≠ i → env[j]? = some (some x) → x.own = true → σ[j]? ≠ some (some (.ref p))) : SR g H0 Hf0 (σ.set i (some (.ref p))) H Hf (env.set i (some (.o ds))) := by
  refine ⟨r.fut, by simp [r.len], fun j s h => ?_, fun j k xs ys hne h1 h2 o1 o2 => ?_, r.tb⟩
  · by_cases hj : j = i
    · subst hj
      have hl : j < env.length := by
        rcases Nat.lt_or_ge j env.length with z | z
        · exact z
        · rw [List.getElem?_eq_none (by simpa using z)] at h; cases h
      rw [List.getElem?_set_self hl] at h; cases h
      exact ⟨.ref p, by rw [List.getElem?_set_self (r.len ▸ hl)], .o hp hf h0 q⟩
    · rw [List.getElem?_set_ne (Ne.symm hj)] at h
      obtain ⟨v, e, q⟩ := r.slot j s h
      exact ⟨v, by rw [List.getElem?_set_ne (Ne.symm hj)]; exact e, q⟩
  · by_cases n1 : j = i
    · subst n1
      have n2 : k ≠ j := Ne.symm hne
      have hl : j < env.length := by
        rcases Nat.lt_or_ge j env.length with z | z
        · exact z
        · rw [List.getElem?_eq_none (by simpa using z)] at h1; cases h1
      rw [List.getElem?_set_ne (Ne.symm n2)] at h2 ⊢
      rw [List.getElem?_set_self (r.len ▸ hl)]
      exact fun e => hd k ys n2 h2 o2 e.symm
    · rw [List.getElem?_set_ne (Ne.symm n1)] at h1 ⊢
      by_cases n2 : k = i
      · subst n2
        have hl : k < env.length := by
          rcases Nat.lt_or_ge k env.length with z | z
          · exact z
          · rw [List.getElem?_eq_none (by simpa using z)] at h2; cases h2
        rw [List.getElem?_set_self (r.len ▸ hl)]
        exact hd j xs n1 h1 o1
      · rw [List.getElem?_set_ne (Ne.symm n2)] at h2 ⊢
        exact r.dis j k xs ys hne h1 h2 o1 o2
/-- a slot forgotten -/
theorem SR.setn {i : Nat} (r : SR g H0 Hf0 σ H Hf env) (u : Option V) : SR g H0 Hf0 (σ.set i u) H Hf (env.set i none) := by
  have key : ∀ (j : Nat) (s : Sl), (env.set i none)[j]? = some (some s) → j ≠ i ∧ env[j]? = some (some s) := fun j s h => by
    have hj : j ≠ i := fun e => by
      subst e
      by_cases hl : j < env.length
      · rw [List.getElem?_set_self hl] at h; cases h
      · rw [List.getElem?_eq_none (by simpa using hl)] at h; cases h
    rw [List.getElem?_set_ne (Ne.symm hj)] at h
    exact ⟨hj, h⟩
  refine ⟨r.fut, by simp [r.len], fun j s h => ?_, fun j k xs ys hne h1 h2 o1 o2 => ?_, r.tb⟩
  · obtain ⟨hj, h⟩ := key j s h
    obtain ⟨v, e, q⟩ := r.slot j s h
    exact ⟨v, by rw [List.getElem?_set_ne (Ne.symm hj)]; exact e, q⟩
  · obtain ⟨n1, h1⟩ := key j _ h1
    obtain ⟨n2, h2⟩ := key k _ h2
    rw [List.getElem?_set_ne (Ne.symm n1), List.getElem?_set_ne (Ne.symm n2)]
    exact r.dis j k xs ys hne h1 h2 o1 o2
/-- the list of slot i is changed -/
theorem SR.write {i : Nat} {p : Addr} {vs vs' : List V} {ds ds' : List D} (r : SR g H0 Hf0 σ H Hf env) (hi : env[i]? = some (some (.o ds))) (hσ : σ[i]? = some (some (.ref p))) (hp : H p = some (.lst vs)) (hf : Hf p = none) (h0 : H0 p = none)
    (q : Reps g Hf vs' ds') : SR g H0 Hf0 σ (upd H p (.lst vs')) Hf (env.set i (some (.o ds'))) := by
  have fut : Fut H0 Hf0 (upd H p (.lst vs')) Hf := ⟨r.fut.s.upd h0 hp, r.fut.f, fun b o e => by rw [upd_ne (ne_of_none e hf)]; exact r.fut.i _ _ e, r.fut.n⟩
  have hl : i < env.length := (List.getElem?_eq_some_iff.mp hi).1
  refine ⟨fut, by simp [r.len], fun j s h => ?_, fun j k xs ys hne h1 h2 o1 o2 => ?_, fun P h => ⟨tabS_lst hp (r.tb P h).1, (r.tb P h).2⟩⟩
  · by_cases hj : j = i
    · subst hj
      rw [List.getElem?_set_self hl] at h; cases h
      exact ⟨.ref p, hσ, .o upd_same hf h0 q⟩
    · rw [List.getElem?_set_ne (Ne.symm hj)] at h
      obtain ⟨v, e, z⟩ := r.slot j s h
      refine ⟨v, e, ?_⟩
      cases z with
      | v z => exact .v z
      | @o p2 vs2 ds2 z1 z2 z3 z4 =>
        have ne : p2 ≠ p := fun ep => by
          subst ep
          exact r.dis j i _ _ hj h hi rfl rfl (e.trans hσ.symm)
        exact .o (by rw [upd_ne ne]; exact z1) z2 z3 z4
      | @n p2 C2 dx2 c2 vs2 fs2 z1 z2 z3 z4 z5 =>
        have ne : p2 ≠ p := fun ep => by rw [ep, hp] at z1; cases z1
        exact .n (by rw [upd_ne ne]; exact z1) z2 z3 z4 z5
  · have old : ∀ {j : Nat} {x : Sl}, (env.set i (some (.o ds')))[j]? = some (some x) → x.own = true → ∃ z, env[j]? = some (some z) ∧ z.own = true := fun {j x} h o => by
      by_cases hj : j = i
      · subst hj; exact ⟨_, hi, rfl⟩
      · rw [List.getElem?_set_ne (Ne.symm hj)] at h; exact ⟨_, h, o⟩
    obtain ⟨z1, e1, w1⟩ := old h1 o1
    obtain ⟨z2, e2, w2⟩ := old h2 o2
    exact r.dis j k _ _ hne e1 e2 w1 w2
theorem tabS_ins {p P C dx : Addr} {x : Str} {vs : List (Str × V)} {o : HO} (hp : H p = some (.ins C dx vs)) (h : LamX.TabS H P x) : LamX.TabS (upd H p o) P x := by
  obtain ⟨ps, h1, h2, h3⟩ := h
  have nP : P ≠ p := fun z => by rw [z, hp] at h1; cases h1
  refine ⟨ps, by rw [upd_ne nP]; exact h1, h2, fun pos cv hc => ?_⟩
  obtain ⟨c, e1, e2⟩ := h3 pos cv hc
  have nc : c ≠ p := fun z => by rw [z, hp] at e2; cases e2
  exact ⟨c, e1, by rw [upd_ne nc]; exact e2⟩
/-- the object that slot i makes gets a field -/
theorem SR.writeN {i : Nat} {p C dx : Addr} {c : Str} {vs vs' : List (Str × V)} {fs fs' : List (Str × D)} (r : SR g H0 Hf0 σ H Hf env) (hi : env[i]? = some (some (.n p c fs))) (hσ : σ[i]? = some (some (.ref p))) (hp : H p = some (.ins C dx vs)) (hf : Hf p = none) (h0 : H0 p = none) (hc : g.mg c = some (.ref C))
    (q : RepF g Hf vs' fs') : SR g H0 Hf0 σ (upd H p (.ins C dx vs')) Hf (env.set i (some (.n p c fs'))) := by
  have ext : Ext H0 (upd H p (.ins C dx vs')) := ⟨fun b u h n => by rw [upd_ne (ne_of_none h h0)]; exact r.fut.s.o b u h n, fun b ps h => by rw [upd_ne (ne_of_none h h0)]; exact r.fut.s.t b ps h, fun P h => tabS_ins hp (r.fut.s.q P h)⟩
  have fut : Fut H0 Hf0 (upd H p (.ins C dx vs')) Hf := ⟨ext, r.fut.f, fun b o e => by rw [upd_ne (ne_of_none e hf)]; exact r.fut.i _ _ e, r.fut.n⟩
  have hl : i < env.length := (List.getElem?_eq_some_iff.mp hi).1
  refine ⟨fut, by simp [r.len], fun j s h => ?_, fun j k xs ys hne h1 h2 o1 o2 => ?_, fun P h => ⟨tabS_ins hp (r.tb P h).1, (r.tb P h).2⟩⟩
  · by_cases hj : j = i
    · subst hj
      rw [List.getElem?_set_self hl] at h; cases h
      exact ⟨.ref p, hσ, .n upd_same hf h0 hc q⟩
    · rw [List.getElem?_set_ne (Ne.symm hj)] at h
      obtain ⟨v, e, z⟩ := r.slot j s h
      refine ⟨v, e, ?_⟩
      cases z with
      | v z => exact .v z
      | @o p2 vs2 ds2 z1 z2 z3 z4 =>
        have ne : p2 ≠ p := fun ep => by rw [ep, hp] at z1; cases z1
        exact .o (by rw [upd_ne ne]; exact z1) z2 z3 z4
      | @n p2 C2 dx2 c2 vs2 fs2 z1 z2 z3 z4 z5 =>
        have ne : p2 ≠ p := fun ep => by
          subst ep
          exact r.dis j i _ _ hj h hi rfl rfl (e.trans hσ.symm)
        exact .n (by rw [upd_ne ne]; exact z1) z2 z3 z4 z5
  · have old : ∀ {j : Nat} {x : Sl}, (env.set i (some (.n p c fs')))[j]? = some (some x) → x.own = true → ∃ z, env[j]? = some (some z) ∧ z.own = true := fun {j x} h o => by
      by_cases hj : j = i
      · subst hj; exact ⟨_, hi, rfl⟩
      · rw [List.getElem?_set_ne (Ne.symm hj)] at h; exact ⟨_, h, o⟩
    obtain ⟨z1, e1, w1⟩ := old h1 o1
    obtain ⟨z2, e2, w2⟩ := old h2 o2
    exact r.dis j k _ _ hne e1 e2 w1 w2
/-- the list of slot i is frozen -/
theorem SR.freeze {i : Nat} {ds : List D} (r : SR g H0 Hf0 σ H Hf env) (hi : env[i]? = some (some (.o ds))) : ∃ Hf', SR g H0 Hf0 σ H Hf' (env.set i (some (.v (.lst ds)))) ∧ Same Hf Hf' := by
  obtain ⟨v, hσ, z⟩ := r.slot i _ hi
  have hl : i < env.length := (List.getElem?_eq_some_iff.mp hi).1
  cases z with
  | @o p vs _ hp hf h0 q =>
    refine ⟨upd Hf p (.lst vs), ⟨Fut.add r.sub hp h0 r.fut hf, by simp [r.len], fun j s h => ?_, fun j k xs ys hne h1 h2 o1 o2 => ?_, fun P h => ⟨(r.tb P h).1, by rw [upd_ne (fun z => by obtain ⟨ps, h3, _⟩ := (r.tb P h).1; rw [z, hp] at h3; cases h3)]; exact (r.tb P h).2⟩⟩, same_upd hf⟩
    · by_cases hj : j = i
      · subst hj
        rw [List.getElem?_set_self hl] at h; cases h
        exact ⟨.ref p, hσ, .v (.lst (LsK.of upd_same) (q.mono (same_upd hf)))⟩
      · rw [List.getElem?_set_ne (Ne.symm hj)] at h
        obtain ⟨v, e, z⟩ := r.slot j s h
        refine ⟨v, e, ?_⟩
        cases z with
        | v z => exact .v (z.mono (same_upd hf))
        | @o p2 vs2 ds2 z1 z2 z3 z4 =>
          have ne : p2 ≠ p := fun ep => by
            subst ep
            exact r.dis j i _ _ hj h hi rfl rfl (e.trans hσ.symm)
          exact .o z1 (by rw [upd_ne ne]; exact z2) z3 (z4.mono (same_upd hf))
        | @n p2 C2 dx2 c2 vs2 fs2 z1 z2 z3 z4 z5 =>
          have ne : p2 ≠ p := fun ep => by rw [ep, hp] at z1; cases z1
          exact .n z1 (by rw [upd_ne ne]; exact z2) z3 z4 (z5.mono (same_upd hf))
    · have old : ∀ {j : Nat} {x : Sl}, (env.set i (some (.v (.lst ds))))[j]? = some (some x) → x.own = true → env[j]? = some (some x) := fun {j x} h o => by
        by_cases hj : j = i
        · subst hj; rw [List.getElem?_set_self hl] at h; cases h; cases o
        · rw [List.getElem?_set_ne (Ne.symm hj)] at h; exact h
      exact r.dis j k _ _ hne (old h1 o1) (old h2 o2) o1 o2
end
end Rf
/-! # Rf2: operations on data, and that the machine's do the same -/
namespace Rf
open PySem PySem.Spec L2

def okMul (i j : Int) : Bool := decide (i.natAbs.log2 + j.natAbs.log2 < 100000000)
def okDiv (j : Int) : Bool := decide (j ≠ 0) && decide (j.natAbs.log2 < 9000)
def okPow (i j : Int) : Bool := decide (0 ≤ j) && decide (j ≤ 1000000) && decide (i.natAbs < 2 ^ 64)
def okLen (n : Nat) : Bool := decide (n ≤ 16777216)
inductive BOp where | add | sub | mul | fdiv | mod | pow
def bop : BOp → D → D → R D
  | .add, .int i, .int j => .ok (.int (i + j))
  | .sub, .int i, .int j => .ok (.int (i - j))
  | .mul, .int i, .int j => if okMul i j = true then .ok (.int (i * j)) else .bad
  | .fdiv, .int i, .int j => if okDiv j = true then .ok (.int (i.fdiv j)) else .bad
  | .mod, .int i, .int j => if j ≠ 0 then .ok (.int (i.fmod j)) else .bad
  | .pow, .int i, .int j => if okPow i j = true then .ok (.int (i ^ j.toNat)) else .bad
  | .add, .lst xs, .lst ys => if okLen (xs.length + ys.length) = true then .ok (.lst (xs ++ ys)) else .bad
  | .add, .tup xs, .tup ys => if okLen (xs.length + ys.length) && !xs.isEmpty then .ok (.tup (xs ++ ys)) else .bad
  | _, _, _ => .bad
/-- == -/
def eqP (p q : PyData) : R Bool := if SeqAt.shaped p && SeqAt.shaped q then .ok (PyData.eqv p q) else .bad
def eqD (d e : D) : R Bool := match d.py, e.py with
  | some p, some q => eqP p q
  | _, _ => .bad
/-- x in items -/
def memD (x : D) : List D → R Bool
  | [] => .ok false
  | d :: ds => (eqD d x).bind fun b => (memD x ds).bind fun c => .ok (b || c)
def itemsD : D → R (List D)
  | .lst xs => .ok xs
  | .tup xs => .ok xs
  | _ => .bad
inductive COp where | eq | ne | lt | le | gt | ge | isin | notin
def cop : COp → D → D → R D
  | .eq, d, e => (eqD d e).bind fun b => .ok (.bl b)
  | .ne, d, e => (eqD d e).bind fun b => .ok (.bl (!b))
  | .lt, .int i, .int j => .ok (.bl (decide (i < j)))
  | .le, .int i, .int j => .ok (.bl (decide (i ≤ j)))
  | .gt, .int i, .int j => .ok (.bl (decide (j < i)))
  | .ge, .int i, .int j => .ok (.bl (decide (j ≤ i)))
  | .isin, d, e => (itemsD e).bind fun xs => (memD d xs).bind fun b => .ok (.bl b)
  | .notin, d, e => (itemsD e).bind fun xs => (memD d xs).bind fun b => .ok (.bl (!b))
  | _, _, _ => .bad
def isNon : D → Bool
  | .non => true
  | _ => false
def truD : D → R Bool
  | .non => .ok false
  | .bl b => .ok b
  | .int i => .ok (i != 0)
  | .lst xs => .ok (!xs.isEmpty)
  | .tup xs => .ok (!xs.isEmpty)
  | _ => .bad
def ofO {α : Type} : Option α → R α
  | some a => .ok a
  | none => .bad
def ixD : D → D → R D
  | .lst xs, .int i => ofO (atI xs i)
  | .tup xs, .int i => ofO (atI xs i)
  | _, _ => .bad
def cutD (xs : List D) (lo hi : Option Int) : List D := (xs.drop (HT.sIx xs.length 0 lo)).take (HT.sIx xs.length xs.length hi - HT.sIx xs.length 0 lo)
def partD : D → R (Option Int)
  | .int i => .ok (some i)
  | _ => .bad
def slD (d : D) (lo hi : Option Int) : R D := match d with
  | .lst xs => .ok (.lst (cutD xs lo hi))
  | .tup xs => if HT.sIx xs.length 0 lo = 0 ∧ HT.sIx xs.length xs.length hi = xs.length then .bad else .ok (.tup (cutD xs lo hi))
  | _ => .bad

/-! ### what is wanted behind -/
/-- data, frozen -/
def OQ (g : G) (H Hf : Hp) (d : D) (Q : VK) : Prop := ∀ v H' Hf', Fut H Hf H' Hf' → Rep g Hf' v d → Q v H'
/-- a list of its own -/
def FQ (g : G) (H Hf : Hp) (ds : List D) (Q : VK) : Prop := ∀ p vs H' Hf', Fut H Hf H' Hf' → H p = none → H' p = some (.lst vs) → Hf' p = none → Reps g Hf' vs ds → Q (.ref p) H'
theorem FQ.of {g : G} {H Hf : Hp} {ds : List D} {Q : VK} (h : OQ g H Hf (.lst ds) Q) : FQ g H Hf ds Q := fun p vs H' Hf' f hn hp hf r =>
  h (.ref p) H' (upd Hf' p (.lst vs)) (Fut.add f.i hp hn f hf) (.lst (LsK.of upd_same) (r.mono (same_upd hf)))
/-- how a raised error stands for x -/
structure XRep (g : G) (H Hf : Hp) (cls : Value) (dx : Option Addr) (x : Exn) : Prop where
  c : g.mg x.cls = some cls
  d : (x.fs = [] ∧ dx = none) ∨ ∃ a vs, dx = some a ∧ Hf a = some (.xd vs) ∧ RepF g Hf vs x.fs
abbrev WE := Value → Option Addr → St → Hp → Prop
def EQ (g : G) (W : WE) (σ : St) (H Hf : Hp) (x : Exn) : Prop := ∀ cls dx H' Hf', Fut H Hf H' Hf' → XRep g H' Hf' cls dx x → W cls dx σ H'
def RQ (g : G) (W : WE) (σ : St) (H Hf : Hp) (r : R D) (Q : VK) : Prop := match r with
  | .ok d => OQ g H Hf d Q
  | .err x => EQ g W σ H Hf x
  | .bad => False
def RFQ (g : G) (W : WE) (σ : St) (H Hf : Hp) (r : R D) (Q : VK) : Prop := match r with
  | .ok (.lst ds) => FQ g H Hf ds Q
  | .err x => EQ g W σ H Hf x
  | _ => False
theorem RFQ.of {g : G} {W : WE} {σ : St} {H Hf : Hp} {r : R D} {Q : VK} (hl : ∀ d, r = .ok d → ∃ ds, d = .lst ds) (h : RQ g W σ H Hf r Q) : RFQ g W σ H Hf r Q := by
  cases r with
  | ok d => obtain ⟨ds, rfl⟩ := hl d rfl; exact FQ.of h
  | err x => exact h
  | bad => exact h

/-! ### the machine's operations, by data -/
def hxB (calm : Bool) (pn : List (Addr × Obj)) : Option (Addr × Obj) := match calm with
  | true => none
  | false => pn.head?
abbrev gOf (X : Cx) : G := ⟨X.prog, X.w, X.K, X.mg, X.base, hxB X.calm X.pn⟩
def rD (g : G) (F : D → D → R D) : R2 := fun x y H Q => ∃ Hf d e, Same Hf H ∧ Rep g Hf x d ∧ Rep g Hf y e ∧ ∃ r, F d e = .ok r ∧ OQ g H Hf r Q
section
variable {X : Cx}
theorem okMul_ok {i j : Int} (h : okMul i j = true) : IntMulOk i j := by
  have b : ∀ x : Int, Builtin.Int.intBits x ≤ x.natAbs.log2 + 1 := fun x => by
    unfold Builtin.Int.intBits
    split <;> omega
  have h1 := b i
  have h2 := b j
  have h3 : i.natAbs.log2 + j.natAbs.log2 < 100000000 := of_decide_eq_true h
  have e : PySem.bitsLine = 134217728 := by decide
  unfold IntMulOk
  intro z
  rw [Bool.and_eq_true] at z
  have z2 := z.2
  unfold Builtin.Int.intTooBig at z2
  have z3 := of_decide_eq_true z2
  rw [e] at z3
  omega
theorem opMulG : OpR X (binaryOp .Mult) (rI (fun i j => okMul i j = true) fun i j => .int (i * j)) := opI fun _ _ _ _ _ _ _ hc q => PyProof.Rows.mul_int q (okMul_ok hc)
theorem opDivG : OpR X (binaryOp .FloorDiv) (rI (fun _ j => okDiv j = true) fun i j => .int (i.fdiv j)) := opI fun i j _ _ _ _ _ hc q => by
  unfold okDiv at hc
  rw [Bool.and_eq_true] at hc
  exact PyProof.Rows.floordiv_int (of_decide_eq_true hc.1) q (.inl (PyProof.noPylong_of_log2 (of_decide_eq_true hc.2)))
theorem ls_get {pins : List (Addr × Obj)} {σ : St} {H : Hp} {s : Shared} {a : Addr} {xs : List V} (I : Inv X pins σ H s) (h : LsK X.K H a xs) : ∃ (its : List Value) (n : Nat), Vals xs its ∧ s.heap.get? a = some { cls := .type "list", data := .seq its.toArray n } := by
  rcases h with h | ⟨its, n, hk, _, r⟩
  · obtain ⟨_, its, n, r, e⟩ := h.ok I.hok
    exact ⟨its, n, r, e⟩
  · exact ⟨its, n, r, I.kIn _ _ hk⟩
/-- list + list, any that can be read -/
theorem opCatL : OpR X (binaryOp .Add) (fun x y H Q => ∃ l b xs zs, x = .ref l ∧ y = .ref b ∧ LsK X.K H l xs ∧ LsK X.K H b zs ∧ xs.length + zs.length ≤ sizeLine ∧ ∀ p, H p = none → Q (.ref p) (upd H p (.lst (xs ++ zs)))) := by
  intro pins s σ H x y v u Q I rx ry h
  obtain ⟨l, b, xs, zs, rfl, rfl, hH, hB, hz, q⟩ := h
  cases rx
  cases ry
  obtain ⟨its, n, r, e⟩ := ls_get I hH
  obtain ⟨its2, n2, r2, e2⟩ := ls_get I hB
  have hl := r.length
  have hl2 := r2.length
  refine PySem.P.add_list e e2 ?_ (by rw [List.size_toArray, List.size_toArray]; omega)
  have ea : its.toArray ++ its2.toArray = (its ++ its2).toArray := by simp
  rw [ea]
  exact ⟨.ref _, _, I.lnew (t' := s.toks) (r.append r2) (by rw [List.length_append]; omega), rfl, q _ I.fresh⟩
theorem sizeLine_val : (sizeLine : Nat) = 16777216 := sizeLine_eq

/-- a new tuple -/
theorem oq_tup {g : G} {H Hf : Hp} {vs : List V} {ds : List D} {Q : VK} (h : Same Hf H) (r : Reps g Hf vs ds) (q : OQ g H Hf (.tup ds) Q) : ∀ p, H p = none → Q (.ref p) (upd H p (.tup vs)) := fun p hp =>
  q (.ref p) _ _ (Fut.new h hp) (.tup (SqT.of upd_same) (r.mono (same_upd (h.free hp))))
/-- a new list of its own -/
theorem fq_lst {g : G} {H Hf : Hp} {vs : List V} {ds : List D} {Q : VK} (h : Same Hf H) (r : Reps g Hf vs ds) (q : FQ g H Hf ds Q) : ∀ p, H p = none → Q (.ref p) (upd H p (.lst vs)) := fun p hp =>
  q p vs _ Hf (Fut.own h hp) hp upd_same (h.free hp) r
theorem oq_here {g : G} {H Hf : Hp} {v : V} {d : D} {Q : VK} (h : Same Hf H) (r : Rep g Hf v d) (q : OQ g H Hf d Q) : Q v H := q v H Hf (Fut.refl h) r

/-- data in, a list of its own or other data out -/
def rDF (g : G) (F : D → D → R D) : R2 := fun x y H Q => ∃ Hf d e, Same Hf H ∧ Rep g Hf x d ∧ Rep g Hf y e ∧ ∃ r, F d e = .ok r ∧ (match r with | .lst ds => FQ g H Hf ds Q | r => OQ g H Hf r Q)
theorem okLen_iff {n : Nat} (h : okLen n = true) : n ≤ sizeLine := by rw [sizeLine_val]; exact of_decide_eq_true h

theorem bop_ok (op : BOp) (o : Operator) (ho : o = match op with | .add => .Add | .sub => .Sub | .mul => .Mult | .fdiv => .FloorDiv | .mod => .Mod | .pow => .Pow) : OpR X (binaryOp o) (rDF (gOf X) (bop op)) := by
  subst ho
  intro pins s σ H x y v u Q I rx ry h
  obtain ⟨Hf, d, e, sub, rd, re, r, er, q⟩ := h
  cases op with
  | add =>
    cases rd with
    | int i =>
      cases re with
      | int j => simp [bop] at er; subst er; exact op_add pins s σ H _ _ v u Q I rx ry ⟨i, j, rfl, rfl, oq_here sub (.int _) q⟩
      | _ => simp [bop] at er
    | lst h1 r1 =>
      cases re with
      | lst h2 r2 =>
        simp only [bop] at er
        split at er
        · rename_i hz
          cases er
          exact opCatL pins s σ H _ _ v u Q I rx ry ⟨_, _, _, _, rfl, rfl, same_rd sub h1, same_rd sub h2, by rw [r1.length, r2.length]; exact okLen_iff hz, fq_lst sub (r1.append r2) q⟩
        · cases er
      | _ => simp [bop] at er
    | tup h1 r1 =>
      cases re with
      | @tup a2 vs2 ds2 h2 r2 =>
        simp only [bop] at er
        split at er
        · rename_i hz
          cases er
          rw [Bool.and_eq_true] at hz
          refine op_catT pins s σ H _ _ v u Q I rx ry ⟨_, _, _, _, rfl, rfl, same_sqT sub h1, same_sqT sub h2, ?_, by rw [r1.length, r2.length]; exact okLen_iff hz.1, ?_, fun _ => oq_tup sub (r1.append r2) q⟩
          · intro z; subst z; cases r1; simp at hz
          · intro z; subst z; cases r2; exact oq_here sub (.tup h1 r1) (by simpa using q)
        · cases er
      | _ => simp [bop] at er
    | _ => simp [bop] at er
  | sub =>
    cases rd with
    | int i =>
      cases re with
      | int j => simp [bop] at er; subst er; exact op_sub pins s σ H _ _ v u Q I rx ry ⟨i, j, rfl, rfl, oq_here sub (.int _) q⟩
      | _ => simp [bop] at er
    | _ => simp [bop] at er
  | mul =>
    cases rd with
    | int i =>
      cases re with
      | int j =>
        simp only [bop] at er
        split at er
        · rename_i hz; cases er; exact opMulG pins s σ H _ _ v u Q I rx ry ⟨i, j, rfl, rfl, hz, oq_here sub (.int _) q⟩
        · cases er
      | _ => simp [bop] at er
    | _ => simp [bop] at er
  | fdiv =>
    cases rd with
    | int i =>
      cases re with
      | int j =>
        simp only [bop] at er
        split at er
        · rename_i hz; cases er; exact opDivG pins s σ H _ _ v u Q I rx ry ⟨i, j, rfl, rfl, hz, oq_here sub (.int _) q⟩
        · cases er
      | _ => simp [bop] at er
    | _ => simp [bop] at er
  | mod =>
    cases rd with
    | int i =>
      cases re with
      | int j =>
        simp only [bop] at er
        split at er
        · rename_i hz; cases er; exact op_modN pins s σ H _ _ v u Q I rx ry ⟨i, j, rfl, rfl, hz, oq_here sub (.int _) q⟩
        · cases er
      | _ => simp [bop] at er
    | _ => simp [bop] at er
  | pow =>
    cases rd with
    | int i =>
      cases re with
      | int j =>
        simp only [bop] at er
        split at er
        · rename_i hz; cases er
          unfold okPow at hz
          simp only [Bool.and_eq_true, decide_eq_true_eq] at hz
          exact op_pow pins s σ H _ _ v u Q I rx ry ⟨i, j, rfl, rfl, ⟨hz.1.1, hz.1.2, hz.2⟩, oq_here sub (.int _) q⟩
        · cases er
      | _ => simp [bop] at er
    | _ => simp [bop] at er

theorem eqD_ok {d e : D} {b : Bool} (h : eqD d e = .ok b) : ∃ p q, d.py = some p ∧ e.py = some q ∧ SeqAt.shaped p = true ∧ SeqAt.shaped q = true ∧ b = PyData.eqv p q := by
  unfold eqD at h
  split at h
  · rename_i p q h1 h2
    unfold eqP at h
    split at h
    · rename_i hs
      rw [Bool.and_eq_true] at hs
      cases h
      exact ⟨p, q, h1, h2, hs.1, hs.2, rfl⟩
    · cases h
  · cases h
def eqB (x d : D) : Bool := match eqD d x with
  | .ok c => c
  | _ => false
theorem memD_ok {x : D} : ∀ {ds : List D} {b : Bool}, memD x ds = .ok b → (∀ d ∈ ds, eqD d x = .ok (eqB x d)) ∧ b = ds.any (eqB x)
  | [], b, h => by simp [memD] at h; exact ⟨by simp, by simp [h]⟩
  | d :: ds, b, h => by
    simp only [memD] at h
    cases e1 : eqD d x with
    | ok b1 =>
      rw [e1] at h
      simp only [R.bind_ok] at h
      have q1 : eqB x d = b1 := by unfold eqB; rw [e1]
      cases e2 : memD x ds with
      | ok b2 =>
        rw [e2] at h
        simp only [R.bind_ok, R.ok.injEq] at h
        obtain ⟨hf, hb⟩ := memD_ok e2
        refine ⟨fun z hz => ?_, by rw [List.any_cons, q1, ← hb, h]⟩
        rcases List.mem_cons.mp hz with rfl | hz
        · rw [e1, q1]
        · exact hf z hz
      | err y => rw [e2] at h; simp at h
      | bad => rw [e2] at h; simp at h
    | err y => rw [e1] at h; simp at h
    | bad => rw [e1] at h; simp at h
/-- one item -/
theorem item_eqAt {pins : List (Addr × Obj)} {σ : St} {H Hf : Hp} {s : Shared} {A : Around} (I : Inv X pins σ H s) (sub : Same Hf H) (hu : A.units + 64 < cLine) {x : V} {u : Value} {d : D} (rx : RelV x u) (rd : Rep (gOf X) Hf x d) {y : V} {w : Value} {q : PyData} (ry : RelV y w) (rq : Dp X.K H y q) (sq : SeqAt.shaped q = true)
    {c : Bool} {e : D} (hq : e.py = some q) (h : eqD d e = .ok c) : ∃ p as, Reads s.heap u p as ∧ SeqAt.shaped p = true ∧ c = PyData.eqv p q ∧ SeqAt.EqAt A s u w c := by
  obtain ⟨p, q', h1, h2, h3, h4, h5⟩ := eqD_ok h
  rw [hq] at h2; cases h2
  obtain ⟨as, r1⟩ := Dp.reads I p x u ((rd.mono sub).dp h1) rx
  obtain ⟨bs, r2⟩ := Dp.reads I q y w rq ry
  refine ⟨p, as, r1, h3, h5, ?_⟩
  rw [h5]
  exact SeqAt.eqAt_reads p q A s u w as bs r1 r2 (SeqAt.canLay_of_shaped h3) (SeqAt.canLay_of_shaped sq) (SeqAt.room_of_shaped h3 hu)
open Classical in
theorem in_items {pins : List (Addr × Obj)} {σ : St} {H Hf : Hp} {s : Shared} {A : Around} (I : Inv X pins σ H s) (sub : Same Hf H) (hu : A.units + 64 < cLine) {y : V} {w : Value} {q : PyData} (ry : RelV y w) (rq : Dp X.K H y q) (sq : SeqAt.shaped q = true) {e : D} (hq : e.py = some q) :
    ∀ {vs : List V} {us : List Value} {ds : List D}, Vals vs us → Reps (gOf X) Hf vs ds → (∀ d ∈ ds, eqD d e = .ok (eqB e d)) →
      (∀ u ∈ us, SeqAt.EqAt A s u w (decide (∃ p as, Reads s.heap u p as ∧ SeqAt.shaped p = true ∧ PyData.eqv p q = true))) ∧ us.any (fun u => decide (∃ p as, Reads s.heap u p as ∧ SeqAt.shaped p = true ∧ PyData.eqv p q = true)) = ds.any (eqB e)
  | _, _, _, .nil, .nil, _ => ⟨by simp, by simp⟩
  | _, _, _, .cons r1 t1, .cons (d := d) r2 t2, h => by
    rename_i v u vs us ds
    obtain ⟨p, as, hr, hs, hc, ha⟩ := item_eqAt I sub hu r1 r2 ry rq sq hq (h d List.mem_cons_self)
    obtain ⟨h1, h2⟩ := in_items I sub hu ry rq sq hq t1 t2 fun z hz => h z (List.mem_cons_of_mem _ hz)
    have key : decide (∃ p as, Reads s.heap u p as ∧ SeqAt.shaped p = true ∧ PyData.eqv p q = true) = eqB e d := by
      rw [hc]
      by_cases z : PyData.eqv p q = true
      · rw [z]; exact decide_eq_true ⟨p, as, hr, hs, z⟩
      · rw [Bool.not_eq_true] at z
        rw [z]
        refine decide_eq_false fun ⟨p', as', hr', hs', z'⟩ => ?_
        have := SeqAt.Reads.unique p p' u as as' (SeqAt.canLay_of_shaped hs) hr hr'
        subst this
        rw [z] at z'; cases z'
    refine ⟨fun z hz => ?_, ?_⟩
    · rcases List.mem_cons.mp hz with rfl | hz
      · rw [key]; exact ha
      · exact h1 z hz
    · rw [List.any_cons, List.any_cons, key, h2]
theorem py_some {d e : D} {b : Bool} (h : eqD d e = .ok b) : ∃ q, e.py = some q ∧ SeqAt.shaped q = true := by
  obtain ⟨_, q, _, h2, _, h4, _⟩ := eqD_ok h
  exact ⟨q, h2, h4⟩
/-- x in items, at any depth -/
theorem in_any {neg : Bool} (hu : X.A.units + 128 < cLine) {pins : List (Addr × Obj)} {s : Shared} {σ : St} {H : Hp} {x y : V} {v u : Value} {Q : VK} (I : Inv X pins σ H s) (rx : RelV x v) (ry : RelV y u)
    {Hf : Hp} {d e : D} (sub : Same Hf H) (rd : Rep (gOf X) Hf x d) (re : Rep (gOf X) Hf y e) {xs : List D} (hi : itemsD e = .ok xs) {b : Bool} (hm : memD d xs = .ok b) (q : Q (.bl (if neg then !b else b)) H) :
    wpAny (model X.prog X.w) X.A (compareOp (if neg then .NotIn else .In) v u) (EP X pins σ Q) X.xe s := by
  obtain ⟨hall, hb⟩ := memD_ok hm
  have hu' : X.A.in1.units + 64 < cLine := by show X.A.units + 1 + 64 < cLine; omega
  cases xs with
  | nil =>
    simp at hb
    subst hb
    cases re with
    | @lst a vs ds h1 r1 =>
      simp [itemsD] at hi; subst hi; cases r1
      cases ry
      obtain ⟨its, r, pl, hz⟩ := I.list ((lsq (same_rd sub h1)))
      cases r
      cases neg with
      | false => exact SeqAt.in_listAt (fun _ => true) pl.isList (fun w hw => by simp at hw) ⟨.bl _, H, I, rfl, by simpa using q⟩
      | true => exact SeqAt.notIn_listAt (fun _ => true) pl.isList (fun w hw => by simp at hw) ⟨.bl _, H, I, rfl, by simpa using q⟩
    | @tup a vs ds h1 r1 =>
      simp [itemsD] at hi; subst hi; cases r1
      cases ry
      obtain ⟨its, r, pl, hz⟩ := I.tuple (same_sqT sub h1)
      cases r
      cases neg with
      | false => exact SeqAt.in_tupleAt (fun _ => true) pl (fun w hw => by simp at hw) ⟨.bl _, H, I, rfl, by simpa using q⟩
      | true => exact SeqAt.notIn_tupleAt (fun _ => true) pl (fun w hw => by simp at hw) ⟨.bl _, H, I, rfl, by simpa using q⟩
    | _ => simp [itemsD] at hi
  | cons d0 ds0 =>
    obtain ⟨qd, hq, sq⟩ := py_some (hall d0 List.mem_cons_self)
    have dq := (rd.mono sub).dp hq
    cases re with
    | @lst a vs ds h1 r1 =>
      simp [itemsD] at hi; subst hi
      cases ry
      obtain ⟨its, r, pl, hz⟩ := I.list ((lsq (same_rd sub h1)))
      obtain ⟨k1, k2⟩ := in_items (A := X.A.in1) I sub hu' rx dq sq hq r r1 hall
      cases neg with
      | false => exact SeqAt.in_listAt _ pl.isList (fun w hw => k1 w (by simpa using hw)) ⟨.bl _, H, I, rfl, by rw [List.any_toArray, k2, ← hb]; exact q⟩
      | true => exact SeqAt.notIn_listAt _ pl.isList (fun w hw => k1 w (by simpa using hw)) ⟨.bl _, H, I, rfl, by rw [List.any_toArray, k2, ← hb]; exact q⟩
    | @tup a vs ds h1 r1 =>
      simp [itemsD] at hi; subst hi
      cases ry
      obtain ⟨its, r, pl, hz⟩ := I.tuple (same_sqT sub h1)
      obtain ⟨k1, k2⟩ := in_items (A := X.A.in1) I sub hu' rx dq sq hq r r1 hall
      cases neg with
      | false => exact SeqAt.in_tupleAt _ pl (fun w hw => k1 w (by simpa using hw)) ⟨.bl _, H, I, rfl, by rw [List.any_toArray, k2, ← hb]; exact q⟩
      | true => exact SeqAt.notIn_tupleAt _ pl (fun w hw => k1 w (by simpa using hw)) ⟨.bl _, H, I, rfl, by rw [List.any_toArray, k2, ← hb]; exact q⟩
    | _ => simp [itemsD] at hi

def copC : COp → CmpOp
  | .eq => .Eq | .ne => .NotEq | .lt => .Lt | .le => .LtE | .gt => .Gt | .ge => .GtE | .isin => .In | .notin => .NotIn
theorem oq_bl {g : G} {H Hf : Hp} {b : Bool} {Q : VK} (h : Same Hf H) (q : OQ g H Hf (.bl b) Q) : Q (.bl b) H := oq_here h (.bl b) q
theorem cop_ok (op : COp) (hu : X.A.units + 128 < cLine) : OpR X (compareOp (copC op)) (rD (gOf X) (cop op)) := by
  intro pins s σ H x y v u Q I rx ry h
  obtain ⟨Hf, d, e, sub, rd, re, r, er, q⟩ := h
  cases op with
  | eq =>
    simp only [cop] at er
    cases hb : eqD d e with
    | ok b =>
      rw [hb] at er; simp at er; subst er
      obtain ⟨p, q', h1, h2, h3, h4, h5⟩ := eqD_ok hb
      exact op_eqD (by omega) pins s σ H x y v u Q I rx ry ⟨p, q', (rd.mono sub).dp h1, (re.mono sub).dp h2, h3, h4, by rw [← h5]; exact oq_bl sub q⟩
    | err z => rw [hb] at er; simp at er
    | bad => rw [hb] at er; simp at er
  | ne =>
    simp only [cop] at er
    cases hb : eqD d e with
    | ok b =>
      rw [hb] at er; simp at er; subst er
      obtain ⟨p, q', h1, h2, h3, h4, h5⟩ := eqD_ok hb
      exact op_neD (by omega) pins s σ H x y v u Q I rx ry ⟨p, q', (rd.mono sub).dp h1, (re.mono sub).dp h2, h3, h4, by rw [← h5]; exact oq_bl sub q⟩
    | err z => rw [hb] at er; simp at er
    | bad => rw [hb] at er; simp at er
  | isin =>
    simp only [cop] at er
    cases hi : itemsD e with
    | ok xs =>
      rw [hi] at er; simp only [R.bind_ok] at er
      cases hm : memD d xs with
      | ok b => rw [hm] at er; simp at er; subst er; exact in_any (neg := false) hu I rx ry sub rd re hi hm (oq_bl sub q)
      | err z => rw [hm] at er; simp at er
      | bad => rw [hm] at er; simp at er
    | err z => rw [hi] at er; simp at er
    | bad => rw [hi] at er; simp at er
  | notin =>
    simp only [cop] at er
    cases hi : itemsD e with
    | ok xs =>
      rw [hi] at er; simp only [R.bind_ok] at er
      cases hm : memD d xs with
      | ok b => rw [hm] at er; simp at er; subst er; exact in_any (neg := true) hu I rx ry sub rd re hi hm (oq_bl sub q)
      | err z => rw [hm] at er; simp at er
      | bad => rw [hm] at er; simp at er
    | err z => rw [hi] at er; simp at er
    | bad => rw [hi] at er; simp at er
  | lt =>
    cases rd with
    | int i => cases re with
      | int j => simp [cop] at er; subst er; exact op_lt pins s σ H _ _ v u Q I rx ry ⟨i, j, rfl, rfl, oq_bl sub q⟩
      | _ => simp [cop] at er
    | _ => simp [cop] at er
  | le =>
    cases rd with
    | int i => cases re with
      | int j => simp [cop] at er; subst er; exact op_le pins s σ H _ _ v u Q I rx ry ⟨i, j, rfl, rfl, oq_bl sub q⟩
      | _ => simp [cop] at er
    | _ => simp [cop] at er
  | gt =>
    cases rd with
    | int i => cases re with
      | int j => simp [cop] at er; subst er; exact op_gt pins s σ H _ _ v u Q I rx ry ⟨i, j, rfl, rfl, oq_bl sub q⟩
      | _ => simp [cop] at er
    | _ => simp [cop] at er
  | ge =>
    cases rd with
    | int i => cases re with
      | int j => simp [cop] at er; subst er; exact op_ge pins s σ H _ _ v u Q I rx ry ⟨i, j, rfl, rfl, oq_bl sub q⟩
      | _ => simp [cop] at er
    | _ => simp [cop] at er
theorem neg_ok : UnR X (unaryOp .USub) (fun x H Q => ∃ Hf d, Same Hf H ∧ Rep (gOf X) Hf x d ∧ ∃ i, d = .int i ∧ OQ (gOf X) H Hf (.int (-i)) Q) := by
  intro pins s σ H x v Q I rx h
  obtain ⟨Hf, d, sub, rd, i, rfl, q⟩ := h
  cases rd
  exact un_neg pins s σ H _ v Q I rx ⟨i, rfl, oq_here sub (.int _) q⟩
theorem isNon_iff {g : G} {H : Hp} {v : V} {d : D} (r : Rep g H v d) : decide (v = .non) = isNon d := by
  cases r <;> simp [isNon]
theorem tru_rep {Hf H : Hp} {v : V} {d : D} {b : Bool} (sub : Same Hf H) (r : Rep (gOf X) Hf v d) (h : truD d = .ok b) : TruV X.K v H b := by
  cases r with
  | non => simp [truD] at h; subst h; exact rfl
  | bl c => simp [truD] at h; subst h; exact rfl
  | int c => simp [truD] at h; subst h; exact rfl
  | str c => simp [truD] at h
  | lst h1 r1 =>
    simp only [truD, R.ok.injEq] at h; subst h
    refine .inl ⟨_, (lsq (same_rd sub h1)), ?_⟩
    cases r1 <;> rfl
  | tup h1 r1 =>
    simp only [truD, R.ok.injEq] at h; subst h
    refine .inr (.inl ⟨_, same_sqT sub h1, ?_⟩)
    cases r1 <;> rfl
  | obj _ _ _ => simp [truD] at h
  | exc0 _ _ _ => simp [truD] at h
  | excD _ _ _ _ _ => simp [truD] at h
/-- xs[i] -/
theorem ix_ok : IxR X (rD (gOf X) ixD) := by
  intro value slice pins s σ H x y v u Q I rx ry h hs
  obtain ⟨Hf, d, e, sub, rd, re, r, er, q⟩ := h
  have key : ∀ {vs : List V} {ds : List D} {i : Int} {r : D}, Reps (gOf X) Hf vs ds → ofO (atI ds i) = .ok r → ∃ v, atI vs i = some v ∧ Rep (gOf X) Hf v r := fun {vs ds i r} rr h => by
    unfold atI at h ⊢
    rw [rr.length]
    cases hj : ixN ds.length i with
    | none => rw [hj] at h; simp [ofO] at h
    | some j =>
      rw [hj] at h
      simp only [Option.bind_some] at h ⊢
      cases hd : ds[j]? with
      | none => rw [hd] at h; simp [ofO] at h
      | some d' =>
        rw [hd] at h
        simp [ofO] at h
        subst h
        exact rr.get hd
  cases rd with
  | lst h1 r1 =>
    cases re with
    | int i =>
      simp only [ixD] at er
      obtain ⟨w, hw, rw'⟩ := key r1 er
      exact ix_list value slice pins s σ H _ _ v u Q I rx ry ⟨_, _, _, _, rfl, rfl, (lsq (same_rd sub h1)), hw, oq_here sub rw' q⟩ hs
    | _ => simp [ixD] at er
  | tup h1 r1 =>
    cases re with
    | int i =>
      simp only [ixD] at er
      obtain ⟨w, hw, rw'⟩ := key r1 er
      exact ix_tup value slice pins s σ H _ _ v u Q I rx ry ⟨_, _, _, _, rfl, rfl, same_sqT sub h1, hw, oq_here sub rw' q⟩ hs
    | _ => simp [ixD] at er
  | _ => simp [ixD] at er
theorem cut_reps {g : G} {H : Hp} {vs : List V} {ds : List D} (lo hi : Option Int) (r : Reps g H vs ds) : Reps g H (cutV vs lo hi) (cutD ds lo hi) := by
  unfold cutV cutD
  rw [r.length]
  exact (r.drop _).take _
/-- xs[lo:hi] -/
theorem sl_ok : SlR X (fun x lo hi H Q => ∃ Hf d, Same Hf H ∧ Rep (gOf X) Hf x d ∧ ∃ r, slD d lo hi = .ok r ∧ (match r with | .lst ds => FQ (gOf X) H Hf ds Q | r => OQ (gOf X) H Hf r Q)) := by
  intro pins s σ H x v vl vu lo hi sl Q I rx hs pl pu h
  obtain ⟨Hf, d, sub, rd, r, er, q⟩ := h
  cases rd with
  | lst h1 r1 =>
    simp [slD] at er; subst er
    exact sl_list pins s σ H _ v vl vu lo hi sl Q I rx hs pl pu ⟨_, _, rfl, (lsq (same_rd sub h1)), fq_lst sub (cut_reps lo hi r1) q⟩
  | tup h1 r1 =>
    simp only [slD] at er
    split at er
    · cases er
    · rename_i hz
      cases er
      exact sl_tup pins s σ H _ v vl vu lo hi sl Q I rx hs pl pu ⟨_, _, rfl, same_sqT sub h1, by rw [r1.length]; exact hz, oq_tup sub (cut_reps lo hi r1) q⟩
  | _ => simp [slD] at er
end
end Rf
/-! # Rf3: the small syntax of expressions, its reading, the look that it is the program's -/
namespace Rf
open PySem PySem.Spec L2

/-- built-in functions and types, called -/
inductive Bi where | abs | int | len | list | tuple | min2 | max2 | gcd | lcm | min1 | max1 | sum1 | sorted
  deriving DecidableEq
def okLcm (i j : Int) : Bool := decide (i.natAbs.log2 < 13000) && decide (j.natAbs.log2 < 13000)
def intsOf : List D → Option (List Int)
  | [] => some []
  | .int i :: ds => (intsOf ds).map (i :: ·)
  | _ :: _ => none
/-- rows of ints -/
def rowsOf : List D → Option (List (List Int))
  | [] => some []
  | .tup xs :: ds => match intsOf xs, rowsOf ds with
    | some (i :: r), some rs => some ((i :: r) :: rs)
    | _, _ => none
  | _ :: _ => none
def leI (a b : Int) : Bool := decide (a ≤ b)
def leR (a b : List Int) : Bool := decide (a ≤ b)
def rowD (r : List Int) : D := .tup (r.map .int)
def sortD : List D → R D
  | [] => .ok (.lst [])
  | .int i :: ds => match intsOf ds with
    | some is => .ok (.lst (((i :: is).mergeSort leI).map .int))
    | none => .bad
  | .tup xs :: ds => match rowsOf (.tup xs :: ds) with
    | some rs => .ok (.lst ((rs.mergeSort leR).map rowD))
    | none => .bad
  | _ => .bad
def biF : Bi → List D → R D
  | .abs, [.int i] => .ok (.int (if i < 0 then -i else i))
  | .int, [.int i] => .ok (.int i)
  | .int, [.bl b] => .ok (.int (if b then 1 else 0))
  | .len, [.lst xs] => .ok (.int xs.length)
  | .len, [.tup xs] => .ok (.int xs.length)
  | .list, [.lst xs] => .ok (.lst xs)
  | .list, [.tup xs] => .ok (.lst xs)
  | .tuple, [.lst xs] => .ok (.tup xs)
  | .tuple, [.tup xs] => .ok (.tup xs)
  | .min2, [.int i, .int j] => .ok (.int (if j < i then j else i))
  | .max2, [.int i, .int j] => .ok (.int (if j > i then j else i))
  | .lcm, [.int i, .int j] => if okLcm i j = true then .ok (.int (Nat.lcm i.natAbs j.natAbs : Nat)) else .bad
  | .gcd, [.int i, .int j] => .ok (.int (Nat.gcd i.natAbs j.natAbs : Nat))
  | .max1, [.lst xs] => match intsOf xs with
    | some (i :: is) => .ok (.int (is.foldl max i))
    | _ => .bad
  | .min1, [.lst xs] => match intsOf xs with
    | some (i :: is) => .ok (.int (is.foldl min i))
    | _ => .bad
  | .sum1, [.lst xs] => match intsOf xs with
    | some is => .ok (.int is.sum)
    | _ => .bad
  | .sorted, [.lst xs] => sortD xs
  | _, _ => .bad
/-- how a built-in is named, what it is -/
inductive BiK where | fn (id : String) | ty (n : String) | mod (id : String)
def Bi.nm : Bi → Str
  | .abs => "abs" | .int => "int" | .len => "len" | .list => "list" | .tuple => "tuple" | .min2 => "min" | .max2 => "max" | .gcd => "gcd" | .lcm => "lcm" | .min1 => "min" | .max1 => "max" | .sum1 => "sum" | .sorted => "sorted"
def Bi.kd : Bi → BiK
  | .abs => .fn "abs" | .int => .ty "int" | .len => .fn "len" | .list => .ty "list" | .tuple => .ty "tuple" | .min2 => .fn "min" | .max2 => .fn "max" | .gcd => .mod "math.gcd" | .lcm => .mod "math.lcm" | .min1 => .fn "min" | .max1 => .fn "max" | .sum1 => .fn "sum" | .sorted => .fn "sorted"
/-- isinstance with a built-in class -/
inductive Ty where | int | bool | tuple | list | str
  deriving DecidableEq
def Ty.nm : Ty → Str
  | .int => "int" | .bool => "bool" | .tuple => "tuple" | .list => "list" | .str => "str"
def Ty.st : Ty → String
  | .int => "int" | .bool => "bool" | .tuple => "tuple" | .list => "list" | .str => "str"
def tyD : D → Option String
  | .non => some "NoneType" | .bl _ => some "bool" | .int _ => some "int" | .str _ => some "str" | .tup _ => some "tuple" | .lst _ => some "list" | _ => none
def isiB : Ty → D → R Bool
  | .int, .int _ => .ok true
  | .int, .bl _ => .ok true
  | .bool, .bl _ => .ok true
  | .tuple, .tup _ => .ok true
  | .list, .lst _ => .ok true
  | .str, .str _ => .ok true
  | _, .obj _ _ => .bad
  | _, .exc _ _ => .bad
  | _, _ => .ok false

/-- targets -/
inductive Tg where
  | name (i : Nat) | tup (r : Tg) | nil | cons (a r : Tg)
/-- expressions; argument lists and what a for walks are among them -/
inductive E where
  | var (i : Nat)
  | int (i : Int) | bl (b : Bool) | non | str (s : Str)
  | glob (j : Nat)
  | bin (op : BOp) (a b : E)
  | neg (a : E)
  | cmp (op : COp) (a b : E)
  | isN (a : E) (ng : Bool)
  | chain (op op' : COp) (a b c : E)
  | and (a b : E) | or (a b : E) | not (a : E)
  | ife (c a b : E)
  | tup (es : E) | lst (es : E)
  | nil | cons (a es : E)
  | ix (a b : E)
  | sl (a lo hi : E)
  | call (j : Nat) (es : E)
  | bi (b : Bi) (es : E)
  | isi (a : E) (t : Ty)
  | isx (a : E) (j : Nat)
  | att (a : E) (f : Str)
  | meth (j : Nat) (a : E) (es : E)
  | comp (elt : E) (tg : Tg) (it cond : E) (own : List Nat)
  | oix (i : Nat) (b : E) | olen (i : Nat)
  | rng1 (a : E) | rng2 (a b : E) | enum (a : E) | zip (a b : E)
  /-- a call with one, two keywords; xs[::-1] -/
  | callK1 (j : Nat) (es a : E) | callK2 (j : Nat) (es a b : E) | rev (a : E)
  /-- len(a), a in b, a property of a, walking a: a (b) an object of the class of mt, pr, itc at j -/
  | mlen (j : Nat) (a : E)
  /-- a def that gives a list of its own -/
  | calO (j : Nat) (es : E)
  | min_ (j : Nat) (ng : Bool) (a b : E)
  | prop (j : Nat) (a : E)
  | ito (j : Nat) (a : E)
/-- the tables of a def: what it calls, what constants it reads, whose methods it calls -/
structure Tb where
  fn : List (Str × Fn) := []
  gl : List (Str × D) := []
  mt : List (Str × Str × Fn) := []
  /-- what len does: class, __len__, what it gives -/
  ln : List (Str × Str × Fn) := []
  /-- properties: class, name, what it gives -/
  pr : List (Str × Str × Fn) := []
  /-- classes whose objects are walked by the tuple in a field -/
  itc : List (Str × Str) := []
  /-- names of built-ins that the module leaves alone; names of a module's functions -/
  at_ : List (Str × Str) := []
  bn : List Str := []
  md : List (Str × String) := []
  /-- defs called that give lists of their own; this is such a def -/
  ff : List (Str × Fn) := []
  /-- called with keywords: def, names, what it gives of all values -/
  kf : List (Str × List Str × Fn) := []
  fr : Bool := false
  /-- read within a suite -/
  hm : Bool := false
  /-- classes of errors that are raised -/
  xc : List Str := []
  /-- classes that are caught: for each class of an error that may come whether it is caught -/
  xh : List (Str × List (Str × Bool)) := []
  /-- classes asked by isinstance of an error: for each class of the error the answer -/
  xi : List (Str × List (Str × Bool)) := []
  /-- what a suite calls -/
  hfn : List (Str × Fn) := []
  /-- this is ascending, which makes a lambda -/
  lam : Bool := false
/-- the tables of a suite -/
abbrev Tb.hot (T : Tb) : Tb := { T with hm := true, fn := T.hfn, ff := [], kf := [], fr := false, mt := [], ln := [], pr := [], itc := [], lam := false }

def getV (env : Env) (i : Nat) : R D := match env[i]? with
  | some (some (.v d)) => .ok d
  | _ => .bad
def getO (env : Env) (i : Nat) : R (List D) := match env[i]? with
  | some (some (.o xs)) => .ok xs
  | _ => .bad
/-- a list, one's own or not -/
def getL (env : Env) (i : Nat) : R (List D) := match env[i]? with
  | some (some (.o xs)) => .ok xs
  | some (some (.v (.lst xs))) => .ok xs
  | _ => .bad
/-- without the lists of one's own -/
def hideO (env : Env) : Env := env.map fun s => match s with
  | some (.v d) => some (.v d)
  | _ => none
def setT : Tg → D → Env → Option Env
  | .name i, d, env => some (env.set i (some (.v d)))
  | .tup r, .tup ds, env => setT r (.tup ds) env
  | .nil, .tup [], env => some env
  | .cons a r, .tup (d :: ds), env => (setT a d env).bind fun env' => setT r (.tup ds) env'
  | _, _, _ => none
def Tg.slots : Tg → List Nat
  | .name i => [i]
  | .tup r => r.slots
  | .nil => []
  | .cons a r => a.slots ++ r.slots
def wipeE (env : Env) : List Nat → Env
  | [] => env
  | v :: vs => (wipeE env vs).set v none
def rngD (lo hi : Int) : List D := (List.range (hi - lo).toNat).map fun k : Nat => D.int (lo + (k : Int))
def okRng (i : Int) : Bool := decide (-(2 ^ 62) ≤ i) && decide (i < 2 ^ 62)
def enumD (xs : List D) : List D := xs.zipIdx.map fun p => D.tup [.int (p.2 : Int), p.1]
def zipD (xs ys : List D) : List D := (xs.zip ys).map fun p => D.tup [p.1, p.2]
/-- the comprehension's turns -/
def compL (f : Env → R (Option D)) (tg : Tg) (env : Env) : List D → R (List D)
  | [] => .ok []
  | d :: ds => match setT tg d env with
    | none => .bad
    | some env' => match f env' with
      | .ok o => (compL f tg env ds).bind fun rs => .ok (match o with | some r => r :: rs | none => rs)
      | _ => .bad
def asB : R D → R Bool
  | .ok (.bl b) => .ok b
  | .ok _ => .bad
  | .err x => .err x
  | .bad => .bad
def fldD (at_ : List (Str × Str)) (f : Str) : D → R D
  | .obj c fs => if (c, f) ∈ at_ then ofO (fs.lookup f) else .bad
  | _ => .bad
/-- isinstance of an error with an own class -/
def isxD (xi : List (Str × List (Str × Bool))) (j : Nat) : D → R D
  | .exc c _ => match xi[j]? with
    | some (_, tb) => match tb.lookup c with
      | some b => .ok (.bl b)
      | none => .bad
    | none => .bad
  | _ => .bad
/-- a method of an object -/
def methD (mt : List (Str × Str × Fn)) (j : Nat) (x : D) (r : R (List D)) : R D := match mt[j]?, x with
  | some (c, m, F), .obj c' fs => if c = c' ∧ fs.lookup m = none then r.bind fun ds => F (.obj c' fs :: ds) else .bad
  | _, _ => .bad
def revD : D → R D
  | .lst xs => .ok (.lst xs.reverse)
  | _ => .bad
def lstR : R D → R D
  | .ok (.lst xs) => .ok (.lst xs)
  | .err x => .err x
  | _ => .bad
def R.noErr {α : Type} : R α → R α
  | .err _ => .bad
  | r => r
/-- of the object's class, however the object's fields are named -/
def specD (mt : List (Str × Str × Fn)) (j : Nat) (x : D) (ds : List D) : R D := match mt[j]?, x with
  | some (c, _, F), .obj c' fs => if c = c' then F (.obj c' fs :: ds) else .bad
  | _, _ => .bad
def lenD : D → R D
  | .int k => if 0 ≤ k ∧ k < 4611686018427387904 then .ok (.int k) else .bad
  | _ => .bad
def itoD (itc : List (Str × Str)) (j : Nat) : D → R (List D)
  | .obj c fs => match itc[j]? with
    | some (c', f) => if c' = c then (match fs.lookup f with
      | some (.tup xs) => .ok xs
      | _ => .bad) else .bad
    | none => .bad
  | _ => .bad
def ordOp : COp → Bool
  | .isin => false | .notin => false | _ => true
mutual
def ev (T : Tb) : E → Env → R D
  | .var i, env => getV env i
  | .int i, _ => .ok (.int i)
  | .bl b, _ => .ok (.bl b)
  | .non, _ => .ok .non
  | .str s, _ => .ok (.str s)
  | .glob j, _ => match T.gl[j]? with
    | some (_, d) => .ok d
    | none => .bad
  | .bin op a b, env => (ev T a env).bind fun x => (ev T b env).bind fun y => bop op x y
  | .neg a, env => (ev T a env).bind fun x => match x with
    | .int i => .ok (.int (-i))
    | _ => .bad
  | .cmp op a b, env => (ev T a env).bind fun x => (ev T b env).bind fun y => cop op x y
  | .isN a ng, env => (ev T a env).bind fun x => .ok (.bl (if ng then !isNon x else isNon x))
  | .chain op op' a b c, env => (ev T a env).bind fun x => (ev T b env).bind fun y => (asB (cop op x y)).bind fun k =>
      if k = true then (ev T c env).bind fun z => cop op' y z else .ok (.bl false)
  | .and a b, env => (asB (ev T a env)).bind fun k => if k = true then ev T b env else .ok (.bl false)
  | .or a b, env => (asB (ev T a env)).bind fun k => if k = true then .ok (.bl true) else ev T b env
  | .not a, env => (asB (ev T a env)).bind fun k => .ok (.bl (!k))
  | .ife c a b, env => (evT T c env).bind fun k => if k = true then ev T a env else ev T b env
  | .tup es, env => (evs T es env).bind fun ds => if okLen ds.length = true then .ok (.tup ds) else .bad
  | .lst es, env => (evs T es env).bind fun ds => if okLen ds.length = true then .ok (.lst ds) else .bad
  | .ix a b, env => (ev T a env).bind fun x => (ev T b env).bind fun y => ixD x y
  | .sl a lo hi, env => (ev T a env).bind fun x => (evP T lo env).bind fun l => (evP T hi env).bind fun h => slD x l h
  | .call j es, env => (evs T es env).bind fun ds => match T.fn[j]? with
    | some (_, F) => F ds
    | none => .bad
  | .calO j es, env => (evs T es env).bind fun ds => match T.ff[j]? with
    | some (_, F) => lstR (F ds)
    | none => .bad
  | .callK1 j es a, env => (evs T es env).bind fun ds => (ev T a env).bind fun z => match T.kf[j]? with
    | some (_, _, F) => F (ds ++ [z])
    | none => .bad
  | .callK2 j es a b, env => (evs T es env).bind fun ds => (ev T a env).bind fun z => (ev T b env).bind fun w => match T.kf[j]? with
    | some (_, _, F) => F (ds ++ [z, w])
    | none => .bad
  | .rev a, env => (ev T a env).bind revD
  | .bi b es, env => (evs T es env).bind fun ds => biF b ds
  | .isi a t, env => (ev T a env).bind fun x => (isiB t x).bind fun b => .ok (.bl b)
  | .isx a j, env => (ev T a env).bind fun x => isxD T.xi j x
  | .att a f, env => (ev T a env).bind fun x => fldD T.at_ f x
  | .meth j a es, env => (ev T a env).bind fun x => methD T.mt j x (evs T es env)
  | .mlen j a, env => (ev T a env).bind fun x => (specD T.ln j x []).bind lenD
  | .min_ j ng a b, env => (ev T a env).bind fun x => (ev T b env).bind fun y => (asB (specD T.mt j y [x])).bind fun k => .ok (.bl (if ng then !k else k))
  | .prop j a, env => (ev T a env).bind fun x => (specD T.pr j x []).noErr
  | .comp elt tg it cond own, env => (evI T it env).bind fun ds =>
      (compL (fun env' => (evC T cond env').bind fun k => if k = true then (ev T elt env').bind fun d => .ok (some d) else .ok none) tg (wipeE (hideO env) own) ds).bind fun rs =>
        if okLen rs.length = true then .ok (.lst rs) else .bad
  | .oix i b, env => (getL env i).bind fun xs => (ev T b env).bind fun y => ixD (.lst xs) y
  | .olen i, env => (getL env i).bind fun xs => .ok (.int xs.length)
  | _, _ => .bad
/-- as a test -/
def evT (T : Tb) : E → Env → R Bool
  | .and a b, env => (evT T a env).bind fun k => if k = true then evT T b env else .ok false
  | .or a b, env => (evT T a env).bind fun k => if k = true then .ok true else evT T b env
  | .not a, env => (evT T a env).bind fun k => .ok (!k)
  | .bl b, _ => .ok b
  | .int i, _ => .ok (i != 0)
  | .var i, env => (getV env i).bind truD
  | .cmp op a b, env => (ev T a env).bind fun x => (ev T b env).bind fun y => asB (cop op x y)
  | .isN a ng, env => (ev T a env).bind fun x => .ok (if ng then !isNon x else isNon x)
  | .chain op op' a b c, env => (ev T a env).bind fun x => (ev T b env).bind fun y => (asB (cop op x y)).bind fun k =>
      if k = true then (ev T c env).bind fun z => asB (cop op' y z) else .ok false
  | .ix a b, env => ((ev T a env).bind fun x => (ev T b env).bind fun y => ixD x y).bind truD
  | .call j es, env => ((evs T es env).bind fun ds => match T.fn[j]? with
    | some (_, F) => F ds
    | none => .bad).bind truD
  | .callK1 j es a, env => ((evs T es env).bind fun ds => (ev T a env).bind fun z => match T.kf[j]? with
    | some (_, _, F) => F (ds ++ [z])
    | none => .bad).bind truD
  | .callK2 j es a b, env => ((evs T es env).bind fun ds => (ev T a env).bind fun z => (ev T b env).bind fun w => match T.kf[j]? with
    | some (_, _, F) => F (ds ++ [z, w])
    | none => .bad).bind truD
  | .bi b es, env => ((evs T es env).bind fun ds => biF b ds).bind truD
  | .isi a t, env => (ev T a env).bind fun x => isiB t x
  | .isx a j, env => ((ev T a env).bind fun x => isxD T.xi j x).bind truD
  | .att a f, env => ((ev T a env).bind fun x => fldD T.at_ f x).bind truD
  | .meth j a es, env => ((ev T a env).bind fun x => methD T.mt j x (evs T es env)).bind truD
  | .min_ j ng a b, env => (ev T a env).bind fun x => (ev T b env).bind fun y => (asB (specD T.mt j y [x])).bind fun k => .ok (if ng then !k else k)
  | _, _ => .bad
/-- an argument list -/
def evs (T : Tb) : E → Env → R (List D)
  | .nil, _ => .ok []
  | .cons a es, env => (ev T a env).bind fun d => (evs T es env).bind fun ds => .ok (d :: ds)
  | _, _ => .bad
/-- a part of a slice -/
def evP (T : Tb) : E → Env → R (Option Int)
  | .nil, _ => .ok none
  | .cons a .nil, env => (ev T a env).bind partD
  | _, _ => .bad
/-- a comprehension's if -/
def evC (T : Tb) : E → Env → R Bool
  | .nil, _ => .ok true
  | .cons a .nil, env => evT T a env
  | _, _ => .bad
/-- what a for walks: its items -/
def evI (T : Tb) : E → Env → R (List D)
  | .rng1 a, env => (ev T a env).bind fun x => match x with
    | .int j => if okRng j = true then .ok (rngD 0 j) else .bad
    | _ => .bad
  | .rng2 a b, env => (ev T a env).bind fun x => (ev T b env).bind fun y => match x, y with
    | .int i, .int j => if (okRng i && okRng j) = true then .ok (rngD i j) else .bad
    | _, _ => .bad
  | .enum a, env => (ev T a env).bind fun x => match x with
    | .lst xs => .ok (enumD xs)
    | _ => .bad
  | .zip a b, env => (ev T a env).bind fun x => (ev T b env).bind fun y => match x, y with
    | .lst xs, .lst ys => .ok (zipD xs ys)
    | _, _ => .bad
  | .cons a .nil, env => (ev T a env).bind itemsD
  | .ito j a, env => (ev T a env).bind (itoD T.itc j)
  | _, _ => .bad
end

/-! ### the look -/
def visB (sc : Scope) (x : Str) : Bool := match sc.names.lookup x with
  | some .local => true | some .cell => true | some .free => true | _ => false
def glB (sc : Scope) (x : Str) : Bool := match sc.names.lookup x with
  | some .globalImplicit => true | _ => false
def locB (sc : Scope) (x : Str) : Bool := match sc.names.lookup x with
  | some .local => true | some .cell => true | _ => false
def nmB (x : Str) : Bool := !(x == ("__debug__" : Str)) && !(x == ("__classdict__" : Str)) && !(x == ("__name__" : Str))
def slB : Expr → Bool
  | .Slice _ _ _ _ => true
  | _ => false
def staB : Expr → Bool
  | .Starred _ _ => true
  | _ => false
def setB : Expr → Bool
  | .Set _ _ _ => true
  | _ => false
def tgOkB : E → Expr → Bool
  | .enum _, .Tuple _ _ _ => true
  | .zip _ _, .Tuple _ _ _ => true
  | .enum _, _ => false
  | .zip _ _, _ => false
  | _, _ => true
def calB : Expr → Bool
  | .Call _ _ _ _ => true
  | _ => false
def bopC : BOp → Operator
  | .add => .Add | .sub => .Sub | .mul => .Mult | .fdiv => .FloorDiv | .mod => .Mod | .pow => .Pow
def ckTg (N : List Str) (sc : Scope) : Tg → Expr → Bool
  | .name i, .Name x _ => decide (N[i]? = some x) && locB sc x
  | .tup r, .Tuple es _ _ => ckTgs N sc r es
  | _, _ => false
where ckTgs (N : List Str) (sc : Scope) : Tg → List Expr → Bool
  | .nil, [] => true
  | .cons a r, e :: es => (match a, e with
      | .name i, .Name x _ => decide (N[i]? = some x) && locB sc x
      | .tup r', .Tuple es' _ _ => ckTgs N sc r' es'
      | _, _ => false) && ckTgs N sc r es
  | _, _ => false
mutual
def ckE (N : List Str) (T : Tb) : E → Scope → Expr → Bool
  | .var i, sc, .Name x _ => decide (N[i]? = some x) && visB sc x && nmB x
  | .int i, _, .Constant (.int j) _ _ => decide (i = j)
  | .bl b, _, .Constant (.bool c) _ _ => b == c
  | .non, _, .Constant .none _ _ => true
  | .str s, _, .Constant (.str t) _ _ => decide (s = t)
  | .glob j, sc, .Name x _ => decide ((T.gl[j]?).map (·.1) = some x) && glB sc x && nmB x
  | .bin op a b, sc, .BinOp x o y _ => decide (o = bopC op) && ckE N T a sc x && ckE N T b sc y
  | .neg a, sc, .UnaryOp .USub x _ => ckE N T a sc x
  | .cmp op a b, sc, .Compare x [o] [y] _ => decide (o = copC op) && ckE N T a sc x && ckE N T b sc y && !behindInMarks o y
  | .isN a ng, sc, .Compare x [o] [.Constant .none _ _] _ => decide (o = if ng then .IsNot else .Is) && ckE N T a sc x
  | .chain op op' a b c, sc, .Compare x [o, o'] [y, z] _ => decide (o = copC op) && decide (o' = copC op') && ckE N T a sc x && ckE N T b sc y && ckE N T c sc z && !lastMarks [o, o'] [y, z]
  | .and a b, sc, .BoolOp .And (x :: y :: r) p => ckE N T a sc x && (match r with | [] => ckE N T b sc y | _ => ckE N T b sc (.BoolOp .And (y :: r) p))
  | .or a b, sc, .BoolOp .Or (x :: y :: r) p => ckE N T a sc x && (match r with | [] => ckE N T b sc y | _ => ckE N T b sc (.BoolOp .Or (y :: r) p))
  | .not a, sc, .UnaryOp .Not x _ => ckE N T a sc x
  | .ife c a b, sc, .IfExp z x y _ => ckE N T c sc z && ckE N T a sc x && ckE N T b sc y
  | .tup es, sc, .Tuple xs _ _ => ckL N T es sc xs
  | .lst es, sc, .List xs _ => ckL N T es sc xs
  | .ix a b, sc, .Subscript x y _ => ckE N T a sc x && ckE N T b sc y && !slB y
  | .sl a lo hi, sc, .Subscript x (.Slice l h none _) _ => ckE N T a sc x && ckP N T lo sc l && ckP N T hi sc h
  | .call j es, sc, .Call (.Name x _) xs [] _ => decide ((T.fn[j]?).map (·.1) = some x) && glB sc x && nmB x && ckL N T es sc xs
  | .calO j es, sc, .Call (.Name x _) xs [] _ => !T.hm && decide ((T.ff[j]?).map (·.1) = some x) && glB sc x && nmB x && ckL N T es sc xs
  | .callK1 j es a, sc, .Call (.Name x _) (y :: ys) [⟨some k, v, _⟩] _ => !T.hm && decide ((T.kf[j]?).map (fun z => (z.1, z.2.1)) = some (x, [k])) && glB sc x && nmB x && ckL N T es sc (y :: ys) && ckE N T a sc v
  | .callK2 j es a b, sc, .Call (.Name x _) (y :: ys) [⟨some k, v, _⟩, ⟨some k', v', _⟩] _ => !T.hm && decide ((T.kf[j]?).map (fun z => (z.1, z.2.1)) = some (x, [k, k'])) && glB sc x && nmB x && ckL N T es sc (y :: ys) && ckE N T a sc v && ckE N T b sc v'
  | .rev a, sc, .Subscript x (.Slice none none (some (.UnaryOp .USub (.Constant (.int 1) _ _) _)) _) _ => ckE N T a sc x
  | .bi b es, sc, .Call (.Name x _) (y :: ys) [] _ => !T.hm && decide (x = b.nm) && (match b.kd with | .mod id => decide ((x, id) ∈ T.md) | _ => decide (x ∈ T.bn)) && glB sc x && ckL N T es sc (y :: ys)
  | .isi a t, sc, .Call (.Name f _) [x, .Name c _] [] _ => decide (f = "isinstance") && decide (c = t.nm) && decide (f ∈ T.bn) && decide (c ∈ T.bn) && glB sc f && glB sc c && ckE N T a sc x && !staB x
  | .isx a j, sc, .Call (.Name f _) [x, .Name c _] [] _ => T.hm && decide (f = "isinstance") && decide ((T.xi[j]?).map (·.1) = some c) && decide (f ∈ T.bn) && glB sc f && glB sc c && nmB c && ckE N T a sc x && !staB x
  | .att a f, sc, .Attribute x h _ => decide (f = h) && ckE N T a sc x && !calB x
  | .prop j a, sc, .Attribute x h _ => !T.hm && decide ((T.pr[j]?).map (·.2.1) = some h) && ckE N T a sc x && !calB x
  | .meth j a es, sc, .Call (.Attribute x m pa) xs [] pc => !T.hm && decide ((T.mt[j]?).map (·.2.1) = some m) && (pa.endLine == pc.line) && decide (xs.length < 30) && ckE N T a sc x && !calB x && ckL N T es sc xs
  | .mlen j a, sc, .Call (.Name f _) [x] [] _ => !T.hm && decide (f = "len") && decide (f ∈ T.bn) && glB sc f && decide ((T.ln[j]?).map (·.2.1) = some "__len__") && ckE N T a sc x && !staB x
  | .min_ j ng a b, sc, .Compare x [o] [y] _ => !T.hm && decide (o = if ng then .NotIn else .In) && decide ((T.mt[j]?).map (·.2.1) = some "__contains__") && ckE N T a sc x && ckE N T b sc y && !behindInMarks o y
  | .comp elt tg it cond own, sc, .ListComp x [⟨t, i, ifs, 0⟩] sc' _ => !T.hm && blkC N sc sc' (own.map fun k => (N.getD k "", k)) && ckI N T it sc i && ckTg N sc' tg t && ckC N T cond sc' ifs && ckE N T elt sc' x && tg.slots.all (fun k => decide (k ∈ own)) && tgOkB it t && !setB i
  | .oix i b, sc, .Subscript (.Name x _) y _ => decide (N[i]? = some x) && visB sc x && nmB x && ckE N T b sc y && !slB y
  | .olen i, sc, .Call (.Name f _) [.Name x _] [] _ => decide (f = "len") && decide (f ∈ T.bn) && glB sc f && decide (N[i]? = some x) && visB sc x && nmB x
  | _, _, _ => false
def ckL (N : List Str) (T : Tb) : E → Scope → List Expr → Bool
  | .nil, _, [] => true
  | .cons a es, sc, x :: xs => ckE N T a sc x && !staB x && ckL N T es sc xs
  | _, _, _ => false
def ckP (N : List Str) (T : Tb) : E → Scope → Option Expr → Bool
  | .nil, _, none => true
  | .cons a .nil, sc, some x => ckE N T a sc x
  | _, _, _ => false
def ckC (N : List Str) (T : Tb) : E → Scope → List Expr → Bool
  | .nil, _, [] => true
  | .cons a .nil, sc, [x] => ckE N T a sc x
  | _, _, _ => false
def ckI (N : List Str) (T : Tb) : E → Scope → Expr → Bool
  | .rng1 a, sc, .Call (.Name f _) [x] [] _ => decide (f = "range") && decide (f ∈ T.bn) && glB sc f && ckE N T a sc x && !staB x
  | .rng2 a b, sc, .Call (.Name f _) [x, y] [] _ => decide (f = "range") && decide (f ∈ T.bn) && glB sc f && ckE N T a sc x && !staB x && ckE N T b sc y && !staB y
  | .enum a, sc, .Call (.Name f _) [x] [] _ => decide (f = "enumerate") && decide (f ∈ T.bn) && glB sc f && ckE N T a sc x && !staB x
  | .zip a b, sc, .Call (.Name f _) [x, y] [] _ => decide (f = "zip") && decide (f ∈ T.bn) && glB sc f && ckE N T a sc x && !staB x && ckE N T b sc y && !staB y
  | .cons a .nil, sc, x => ckE N T a sc x
  | .ito _ a, sc, x => !T.hm && ckE N T a sc x
  | _, _, _ => false
end
end Rf
/-! # Rf4: the machine does what the reading of an expression says -/
namespace Rf
open PySem PySem.Spec L2

/-! ### results that are wanted, of any kind -/
def RG {α : Type} (g : G) (W : WE) (σ : St) (P : α → Hp → Hp → Prop) (r : R α) (H Hf : Hp) : Prop := match r with
  | .ok a => P a H Hf
  | .err x => EQ g W σ H Hf x
  | .bad => False
abbrev OP (g : G) (Q : VK) : D → Hp → Hp → Prop := fun d H Hf => OQ g H Hf d Q
abbrev FP (g : G) (Q : VK) : D → Hp → Hp → Prop := fun d H Hf => match d with | .lst ds => FQ g H Hf ds Q | _ => False
abbrev XP (g : G) (Q : VK) : D → Hp → Hp → Prop := fun d H Hf => match d with | .lst ds => FQ g H Hf ds Q | d => OQ g H Hf d Q
abbrev BP (Q : Bool → Hp → Prop) : Bool → Hp → Hp → Prop := fun b H Hf => ∀ H' Hf', Fut H Hf H' Hf' → Q b H'
abbrev AP (g : G) (Q : List V → Hp → Prop) : List D → Hp → Hp → Prop := fun ds H Hf => ∀ vs H' Hf', Fut H Hf H' Hf' → Reps g Hf' vs ds → Q vs H'
abbrev PP (Q : Option Int → Hp → Prop) : Option Int → Hp → Hp → Prop := fun o H Hf => ∀ H' Hf', Fut H Hf H' Hf' → Q o H'
/-- what stays true as the heap grows -/
def Lat {α : Type} (P : α → Hp → Hp → Prop) : Prop := ∀ a H Hf H' Hf', Fut H Hf H' Hf' → P a H Hf → P a H' Hf'
theorem lat_OP {g : G} {Q : VK} : Lat (OP g Q) := fun _ _ _ _ _ f h v H' Hf' f' r => h v H' Hf' (f.trans f') r
theorem lat_FP {g : G} {Q : VK} : Lat (FP g Q) := fun d H Hf H1 Hf1 f h => by
  cases d <;> first | exact h | exact fun p vs H' Hf' f' hn h1 h2 r => h p vs H' Hf' (f.trans f') (f.s.free hn) h1 h2 r
theorem lat_XP {g : G} {Q : VK} : Lat (XP g Q) := fun d H Hf H1 Hf1 f h => by
  cases d with
  | lst ds => exact fun p vs H' Hf' f' hn h1 h2 r => h p vs H' Hf' (f.trans f') (f.s.free hn) h1 h2 r
  | _ => exact fun v H' Hf' f' r => h v H' Hf' (f.trans f') r
theorem lat_BP {Q : Bool → Hp → Prop} : Lat (BP Q) := fun _ _ _ _ _ f h H' Hf' f' => h H' Hf' (f.trans f')
theorem lat_AP {g : G} {Q : List V → Hp → Prop} : Lat (AP g Q) := fun _ _ _ _ _ f h v H' Hf' f' r => h v H' Hf' (f.trans f') r
theorem lat_PP {Q : Option Int → Hp → Prop} : Lat (PP Q) := fun _ _ _ _ _ f h H' Hf' f' => h H' Hf' (f.trans f')
theorem EQ.later {g : G} {W : WE} {σ : St} {H Hf H1 Hf1 : Hp} {x : Exn} (h : EQ g W σ H Hf x) (f : Fut H Hf H1 Hf1) : EQ g W σ H1 Hf1 x := fun c d H' Hf' f' r => h c d H' Hf' (f.trans f') r
theorem RG.later {α : Type} {g : G} {W : WE} {σ : St} {P : α → Hp → Hp → Prop} (L : Lat P) {r : R α} {H Hf H1 Hf1 : Hp} (h : RG g W σ P r H Hf) (f : Fut H Hf H1 Hf1) : RG g W σ P r H1 Hf1 := by
  cases r with
  | ok a => exact L _ _ _ _ _ f h
  | err x => exact EQ.later h f
  | bad => exact h
theorem RG.bind {α β : Type} {g : G} {W : WE} {σ : St} {P : β → Hp → Hp → Prop} {r : R α} {k : α → R β} {H Hf : Hp} (h : RG g W σ P (r.bind k) H Hf) : RG g W σ (fun a H Hf => RG g W σ P (k a) H Hf) r H Hf := by
  cases r <;> exact h
theorem RG.imp {α : Type} {g : G} {W : WE} {σ : St} {P P' : α → Hp → Hp → Prop} {r : R α} {H Hf : Hp} (h : RG g W σ P r H Hf) (k : ∀ a, r = .ok a → P a H Hf → P' a H Hf) : RG g W σ P' r H Hf := by
  cases r with
  | ok a => exact k a rfl h
  | err x => exact h
  | bad => exact h
theorem _root_.L2.PE.imp {X : Cx} {e : Expr} {t t' : TE} (h : PE X e t) (k : ∀ σ H Q, t' σ H Q → t σ H Q) : PE X e t' := ⟨fun pins s σ H Q I q => h.run pins s σ H Q I (k σ H Q q)⟩
theorem _root_.L2.PT.imp {X : Cx} {e : Expr} {t t' : TT} (h : PT X e t) (k : ∀ σ H Q, t' σ H Q → t σ H Q) : PT X e t' := ⟨fun pins s σ H Q I q => h.run pins s σ H Q I (k σ H Q q)⟩
theorem _root_.L2.PA.imp {X : Cx} {e : List Expr} {t t' : TA} (h : PA X e t) (k : ∀ σ H Q, t' σ H Q → t σ H Q) : PA X e t' := ⟨fun pos pins s σ H Q I q => h.run pos pins s σ H Q I (k σ H Q q)⟩
theorem _root_.L2.PO.imp {X : Cx} {e : Option Expr} {t t' : TO} (h : PO X e t) (k : ∀ σ H Q, t' σ H Q → t σ H Q) : PO X e t' := ⟨fun pins s σ H Q I q => h.run pins s σ H Q I (k σ H Q q)⟩
theorem _root_.L2.PI.imp {X : Cx} {tg e : Expr} {t t' : TI} (h : PI X tg e t) (k : ∀ σ H Q, t' σ H Q → t σ H Q) : PI X tg e t' := ⟨fun pins s σ H Q I q => h.run pins s σ H Q I (k σ H Q q)⟩

/-! ### the readings -/
def tD (g : G) (T : Tb) (W : WE) (e : E) : TE := fun σ H Q => ∃ H0 Hf0 Hf env, SR g H0 Hf0 σ H Hf env ∧ RG g W σ (OP g Q) (ev T e env) H Hf
def tDF (g : G) (T : Tb) (W : WE) (e : E) : TE := fun σ H Q => ∃ H0 Hf0 Hf env, SR g H0 Hf0 σ H Hf env ∧ RG g W σ (FP g Q) (ev T e env) H Hf
def tDT (g : G) (T : Tb) (W : WE) (e : E) : TT := fun σ H Q => ∃ H0 Hf0 Hf env, SR g H0 Hf0 σ H Hf env ∧ RG g W σ (BP Q) (evT T e env) H Hf
def tDA (g : G) (T : Tb) (W : WE) (e : E) : TA := fun σ H Q => ∃ H0 Hf0 Hf env, SR g H0 Hf0 σ H Hf env ∧ RG g W σ (AP g Q) (evs T e env) H Hf
def tDP (g : G) (T : Tb) (W : WE) (e : E) : TO := fun σ H Q => ∃ H0 Hf0 Hf env, SR g H0 Hf0 σ H Hf env ∧ RG g W σ (PP Q) (evP T e env) H Hf
def tDC (g : G) (T : Tb) (W : WE) (e : E) : TT := fun σ H Q => ∃ H0 Hf0 Hf env, SR g H0 Hf0 σ H Hf env ∧ RG g W σ (BP Q) (evC T e env) H Hf
/-- an iterator that yields the items -/
structure Yld (g : G) (J : It) (Hf1 : Hp) (ds : List D) : Prop where
  go : ∀ i H Hf, Same Hf1 Hf → Same Hf H → i < ds.length → J.go i H
  stop : ∀ H Hf, Same Hf1 Hf → Same Hf H → J.stop ds.length H
  yld : ∀ i H Hf x H' d, Same Hf1 Hf → Same Hf H → J.yld i H x H' → ds[i]? = some d → ∃ Hf', Fut H Hf H' Hf' ∧ Rep g Hf' x d
theorem Yld.mono {g : G} {J : It} {Hf1 Hf2 : Hp} {ds : List D} (y : Yld g J Hf1 ds) (h : Same Hf1 Hf2) : Yld g J Hf2 ds :=
  ⟨fun i H Hf a b => y.go i H Hf (h.trans a) b, fun H Hf a b => y.stop H Hf (h.trans a) b, fun i H Hf x H' d a b => y.yld i H Hf x H' d (h.trans a) b⟩
abbrev IP (g : G) (Rr : It → Hp → Prop) : List D → Hp → Hp → Prop := fun ds H Hf => ∀ J H' Hf', Fut H Hf H' Hf' → Yld g J Hf' ds → Rr J H'
theorem lat_IP {g : G} {Rr : It → Hp → Prop} : Lat (IP g Rr) := fun _ _ _ _ _ f h J H' Hf' f' y => h J H' Hf' (f.trans f') y
def tDI (g : G) (T : Tb) (W : WE) (e : E) : TI := fun σ H Rr => ∃ H0 Hf0 Hf env, SR g H0 Hf0 σ H Hf env ∧ RG g W σ (IP g Rr) (evI T e env) H Hf

section
variable {g : G} {T : Tb} {W : WE} {H0 Hf0 H Hf : Hp} {env : Env} {σ : St} {α : Type}
/-- a part is reckoned first -/
theorem tD_step {P : α → Hp → Hp → Prop} (L : Lat P) {a : E} {k : D → R α} {Q' : VK} (sr : SR g H0 Hf0 σ H Hf env) (h : RG g W σ P ((ev T a env).bind k) H Hf)
    (nx : ∀ d v H1 Hf1, ev T a env = .ok d → Fut H Hf H1 Hf1 → Rep g Hf1 v d → SR g H0 Hf0 σ H1 Hf1 env → RG g W σ P (k d) H1 Hf1 → Q' v H1) : tD g T W a σ H Q' :=
  ⟨H0, Hf0, Hf, env, sr, h.bind.imp fun d e q v H1 Hf1 f r => nx d v H1 Hf1 e f r (sr.mono f) (RG.later L q f)⟩
theorem tDT_step {P : α → Hp → Hp → Prop} (L : Lat P) {a : E} {k : Bool → R α} {Q' : Bool → Hp → Prop} (sr : SR g H0 Hf0 σ H Hf env) (h : RG g W σ P ((evT T a env).bind k) H Hf)
    (nx : ∀ b H1 Hf1, Fut H Hf H1 Hf1 → SR g H0 Hf0 σ H1 Hf1 env → RG g W σ P (k b) H1 Hf1 → Q' b H1) : tDT g T W a σ H Q' :=
  ⟨H0, Hf0, Hf, env, sr, h.bind.imp fun b e q H1 Hf1 f => nx b H1 Hf1 f (sr.mono f) (RG.later L q f)⟩
theorem tDA_step {P : α → Hp → Hp → Prop} (L : Lat P) {a : E} {k : List D → R α} {Q' : List V → Hp → Prop} (sr : SR g H0 Hf0 σ H Hf env) (h : RG g W σ P ((evs T a env).bind k) H Hf)
    (nx : ∀ d v H1 Hf1, Fut H Hf H1 Hf1 → Reps g Hf1 v d → SR g H0 Hf0 σ H1 Hf1 env → RG g W σ P (k d) H1 Hf1 → Q' v H1) : tDA g T W a σ H Q' :=
  ⟨H0, Hf0, Hf, env, sr, h.bind.imp fun d e q v H1 Hf1 f r => nx d v H1 Hf1 f r (sr.mono f) (RG.later L q f)⟩
theorem tDP_step {P : α → Hp → Hp → Prop} (L : Lat P) {a : E} {k : Option Int → R α} {Q' : Option Int → Hp → Prop} (sr : SR g H0 Hf0 σ H Hf env) (h : RG g W σ P ((evP T a env).bind k) H Hf)
    (nx : ∀ b H1 Hf1, Fut H Hf H1 Hf1 → SR g H0 Hf0 σ H1 Hf1 env → RG g W σ P (k b) H1 Hf1 → Q' b H1) : tDP g T W a σ H Q' :=
  ⟨H0, Hf0, Hf, env, sr, h.bind.imp fun b e q H1 Hf1 f => nx b H1 Hf1 f (sr.mono f) (RG.later L q f)⟩
theorem asB_ok {r : R D} {P : α → Hp → Hp → Prop} {k : Bool → R α} (h : RG g W σ P ((asB r).bind k) H Hf) : RG g W σ (fun d H Hf => ∃ b, d = .bl b ∧ RG g W σ P (k b) H Hf) r H Hf := by
  cases r with
  | ok d => cases d <;> first | exact ⟨_, rfl, h⟩ | exact h.elim
  | err x => exact h
  | bad => exact h
/-- a part that must be a bool -/
theorem tD_stepB {P : α → Hp → Hp → Prop} (L : Lat P) {a : E} {k : Bool → R α} {Q' : VK} (sr : SR g H0 Hf0 σ H Hf env) (h : RG g W σ P ((asB (ev T a env)).bind k) H Hf)
    (nx : ∀ b H1 Hf1, Fut H Hf H1 Hf1 → SR g H0 Hf0 σ H1 Hf1 env → RG g W σ P (k b) H1 Hf1 → Q' (.bl b) H1) : tD g T W a σ H Q' :=
  ⟨H0, Hf0, Hf, env, sr, (asB_ok h).imp fun d e ⟨b, eb, q⟩ v H1 Hf1 f r => by subst eb; cases r; exact nx b H1 Hf1 f (sr.mono f) (RG.later L q f)⟩
end

/-! ### what is known of the names -/
/-- a promise of a def (or a class that is called) -/
def spD (g : G) (F : Fn) : Sp := fun vs H Q Ex => ∃ Hf ds, Same Hf H ∧ TbOk g H Hf ∧ Reps g Hf vs ds ∧ RG g (fun cls d _ H' => Ex cls d H') [] (OP g Q) (F ds) H Hf
structure Prm (g : G) (n : Nat) (x : Str) (F : Fn) : Prop where
  ex : ∃ f, g.mg x = some (.ref f) ∧ PySem.W.keepIn g.K (.ref f) = true ∧ ∀ (X : Cx), gOf X = g → Room n X.A → ∀ (W : WE), Takes X W → ∀ (pins : List (Addr × Obj)) (s : Shared) (σ : St) (H Hf : Hp) (Q : VK) (us : List Value) (vs : List V) (ds : List D),
    Inv X pins σ H s → Vals vs us → Same Hf H → TbOk g H Hf → Reps g Hf vs ds → RG g W σ (OP g Q) (F ds) H Hf → wpAny (model X.prog X.w) X.A (call (.ref f) us) (EP X pins σ Q) X.xe s
/-- a def that gives a list of its own -/
structure PrmF (g : G) (n : Nat) (x : Str) (F : Fn) : Prop where
  ex : ∃ f, g.mg x = some (.ref f) ∧ PySem.W.keepIn g.K (.ref f) = true ∧ ∀ (X : Cx), gOf X = g → Room n X.A → ∀ (W : WE), Takes X W → ∀ (pins : List (Addr × Obj)) (s : Shared) (σ : St) (H Hf : Hp) (Q : VK) (us : List Value) (vs : List V) (ds : List D),
    Inv X pins σ H s → Vals vs us → Same Hf H → TbOk g H Hf → Reps g Hf vs ds → RG g W σ (FP g Q) (F ds) H Hf → wpAny (model X.prog X.w) X.A (call (.ref f) us) (EP X pins σ Q) X.xe s
/-- a def or class called with keywords ks -/
structure PrmK (g : G) (n : Nat) (x : Str) (ks : List Str) (F : Fn) : Prop where
  ex : ∃ f, g.mg x = some (.ref f) ∧ PySem.W.keepIn g.K (.ref f) = true ∧ ∀ (X : Cx), gOf X = g → Room n X.A → ∀ (W : WE), Takes X W → ∀ (pins : List (Addr × Obj)) (s : Shared) (σ : St) (H Hf : Hp) (Q : VK) (us ws : List Value) (vs zs : List V) (ds es : List D),
    Inv X pins σ H s → Vals vs us → Vals zs ws → ws.length = ks.length → Same Hf H → TbOk g H Hf → Reps g Hf vs ds → Reps g Hf zs es → RG g W σ (OP g Q) (F (ds ++ es)) H Hf → wpAny (model X.prog X.w) X.A (call (.ref f) us (ks.zip ws)) (EP X pins σ Q) X.xe s
def Gcon (g : G) (x : Str) (d : D) : Prop := ∃ v u, g.mg x = some u ∧ RelV v u ∧ ∀ H, Rep g H v d
/-- the def at f does F wherever the caller's frames stand -/
def RunsAt (g : G) (n : Nat) (f : Addr) (F : Fn) : Prop := ∀ (X : Cx), gOf X = g → ∀ A1 : Around, A1.frames = X.A.frames → Room n A1 → ∀ (W : WE), Takes X W → ∀ (pins : List (Addr × Obj)) (s : Shared) (σ : St) (H Hf : Hp) (Q : VK) (us : List Value) (vs : List V) (ds : List D),
    Inv X pins σ H s → Vals vs us → Same Hf H → TbOk g H Hf → Reps g Hf vs ds → RG g W σ (OP g Q) (F ds) H Hf →
      codeAny (model X.prog X.w) A1 (.call (.ref f) ⟨us, []⟩) (fun r s' => match r with | .ok (.ret v) => EP X pins σ Q v s' | .ok _ => False | .error e => X.xe e s') s
theorem RunsAt.wp {g : G} {n : Nat} {f : Addr} {F : Fn} (h : RunsAt g n f F) : ∀ (X : Cx), gOf X = g → ∀ A1 : Around, A1.frames = X.A.frames → Room n A1 → ∀ (W : WE), Takes X W → ∀ (pins : List (Addr × Obj)) (s : Shared) (σ : St) (H Hf : Hp) (Q : VK) (us : List Value) (vs : List V) (ds : List D),
    Inv X pins σ H s → Vals vs us → Same Hf H → TbOk g H Hf → Reps g Hf vs ds → RG g W σ (OP g Q) (F ds) H Hf → wpAny (model X.prog X.w) A1 (call (.ref f) us) (EP X pins σ Q) X.xe s :=
  fun X hX A1 hA room W tk pins s σ H Hf Q us vs ds I rv sub tb rr q => wpAny_call (h X hX A1 hA room W tk pins s σ H Hf Q us vs ds I rv sub tb rr q)
/-- a method of an own class -/
structure PrmM (g : G) (n : Nat) (c m : Str) (F : Fn) : Prop where
  ex : ∃ C f, g.mg c = some (.ref C) ∧ Cls g.K C ∧ Meth g.K C m f ∧ RunsAt g n f F
/-- a property of an own class -/
structure PrmP (g : G) (n : Nat) (c m : Str) (F : Fn) : Prop where
  ex : ∃ C p f k, k + 1 ≤ n ∧ g.mg c = some (.ref C) ∧ Cls g.K C ∧ PropOf g.K C m p f ∧ RunsAt g k f F
/-- a special method that a built-in calls -/
structure PrmL (g : G) (n : Nat) (c m : Str) (F : Fn) : Prop where
  ex : ∃ C f k, k + 1 ≤ n ∧ g.mg c = some (.ref C) ∧ Cls g.K C ∧ Meth g.K C m f ∧ RunsAt g k f F
/-- what __iter__ of a class does: iter(self.f), self.f a tuple -/
def ItT (t it : Addr) : HO := .ext fun h => h.IsTupleIter it t 0
def spIt (g : G) (c f : Str) (s : Shared) : Sp := fun vs H Q _ => ∃ a C dx fs t xs, g.mg c = some (.ref C) ∧ vs = [.ref a] ∧ H a = some (.ins C dx fs) ∧ fs.lookup f = some (.ref t) ∧ SqT g.K H t xs ∧ ∀ it, H it = none → s.heap.objs.size ≤ it → Q (.ref it) (upd H it (ItT t it))
/-- a def that looks at the state of its call -/
structure FnS (P : Program) (w : World) (K : PySem.W.Frag) (mg : Str → Option Value) (base : Heap) (k : Nat) (f : Addr) (fd : FuncData) (ps : List Str) (sp : Shared → Sp) : Prop where
  go : ∀ (A : Around) (outer : List PySem.Env) (s : Shared) (H : Hp) (args : Args) (us : List Value) (vs : List V) (Q : VK) (E : XK), Room k A → Env0 P w K mg base A outer s H → BindsTo s fd args (ps.zip us) → Vals vs us → sp s vs H Q E → codeAny (model P w) A (.call (.ref f) args) (CR (L2.CX P w) outer P w H s Q E) s
theorem fnS_of {P : Program} {w : World} {K : PySem.W.Frag} {mg : Str → Option Value} {base : Heap} {k : Nat} {f : Addr} {name qual : Str} {params : Arguments} {body : List Stmt} {scope : Scope} {dV kV doc pm cdv ct oc : Value} {an od : Option Addr} {osl : Array (Option Value)} {N ps : List Str} {sp : Shared → Sp}
    (lk : K.lookup f = some ⟨oc, od, .func (PySem.W.fnOf name qual params body scope dV kV doc pm an cdv ct), osl⟩) (hcd : PySem.W.codeIn K cdv qual = true) (S : FnScope N ps scope) (len : ∀ s vs H Q E, sp s vs H Q E → vs.length = ps.length)
    (hbody : ∀ (A : Around) (outer : List PySem.Env) (s : Shared) (H : Hp) (vs : List V) (Q : VK) (E : XK), Room k (A.deeper (PyProof.Rows.envOfC qual scope s.heap.objs.size f cdv)) → sp s vs H Q E →
      ∃ t, PSs (cxOf (L2.CX P w) P w K mg base N qual scope f cdv A outer s H E) body t ∧ t { nx := fun _ H' => Q .non H', rt := Q } (L2.start N vs) H) :
    FnS P w K mg base (k + 1) f (PySem.W.fnOf name qual params body scope dV kV doc pm an cdv ct) ps sp := by
  refine ⟨fun A outer s H args us vs Q E room e0 binds r hsp => ?_⟩
  have fit := len _ _ _ _ _ hsp; have KX : K.In s.heap := e0.mod.kin.keeps fun b o e => (e0.bs b o e).1; have lim : s.heap.NoLimit := e0.mod.nolimit.keeps fun b o e => (e0.bs b o e).1
  have kinds : ∀ y ∈ ps.zip us, scope.names.lookup y.1 = some .local ∨ (scope.names.lookup y.1 = some .cell ∧ ((cellsFrom (s.heap.objs.size + 1) scope.names []).lookup y.1).isSome = true) := fun ⟨m, v⟩ hy => by
    rcases S.par m (List.of_mem_zip hy).1 with q | q <;> first | exact .inl q | exact .inr ⟨q, PySem.W.cellsFrom_some _ _ _ (.inl q)⟩
  refine codeAny_call_function room.depth (KX _ _ lk) rfl S.co S.gen rfl (PySem.W.codeRec_of KX hcd) (binds _ _ _ _ (wpAny_newFunctionEnv_cells S.kind kinds fun env he s1 x => ?_))
  subst he; refine ⟨lim.keeps x.toInCall.keep, codeAny_func ?_⟩
  obtain ⟨t, ht, hq⟩ := hbody A outer s H vs Q E (room.deeper _) hsp
  have I := inv_start (CX := L2.CX P w) (E := E) (f := f) (cd := cdv) (qual := qual) S room.hd e0 fit r x
  refine wpAny_mono (ht.run [] s1 (L2.start N vs) H _ I hq) (fun fl s' hs => ?_) fun e s' hs => hs
  cases fl with
  | ret u => obtain ⟨v, σ', H', J, rv, q⟩ := hs; exact ⟨v, H', J.os, J.bare, J.base, J.hok, rv, q⟩
  | next => obtain ⟨σ', H', J, q⟩ := hs; exact ⟨.non, H', J.os, J.bare, J.base, J.hok, rfl, q⟩
  | brk => obtain ⟨_, _, _, q⟩ := hs; exact q.elim
  | cont => obtain ⟨_, _, _, q⟩ := hs; exact q.elim
structure ItOk (g : G) (n : Nat) (c f : Str) : Prop where
  ex : ∃ C fi fd, g.mg c = some (.ref C) ∧ Cls g.K C ∧ PySem.W.findIn g.K (.ref C) "__iter__" = some (some (.ref fi)) ∧ PySem.W.isFn g.K (.ref fi) = true ∧ FnS g.P g.w g.K g.mg g.base n fi fd ["self"] (spIt g c f) ∧ Binds g.K fd ["self"] []
/-- what stands around a suite -/
structure HotX (n : Nat) (X : Cx) : Prop where
  cold : X.calm = false
  pin : ∃ p r, X.pn = p :: r ∧ ∃ vs, p.2.data = .fields vs
  room : L2H.RoomH n X.A
/-- a promise of a def that is called within a suite -/
structure PrmC (g : G) (n : Nat) (x : Str) (F : Fn) : Prop where
  ex : ∃ f, g.mg x = some (.ref f) ∧ PySem.W.keepIn g.K (.ref f) = true ∧ ∀ (X : Cx), gOf X = g → HotX n X → ∀ (W : WE), Takes X W → ∀ (pins : List (Addr × Obj)) (s : Shared) (σ : St) (H Hf : Hp) (Q : VK) (us : List Value) (vs : List V) (ds : List D),
    Inv X pins σ H s → Vals vs us → Same Hf H → TbOk g H Hf → Reps g Hf vs ds → RG g W σ (OP g Q) (F ds) H Hf → wpAny (model X.prog X.w) X.A (call (.ref f) us) (EP X pins σ Q) X.xe s
/-- a class asked by isinstance of an error -/
structure XiOk (g : G) (x : Str) (tb : List (Str × Bool)) : Prop where
  ex : ∃ (cv : Value) (v : V), RelV v cv ∧ (∀ u, RelV v u → u = cv) ∧ (g.mg x = some cv ∨ (g.mg x = none ∧ ∃ t, cv = .type t ∧ v = .ty t ∧ bootBuiltins x = some (.type t))) ∧
    ∀ p ∈ tb, ∃ D, g.mg p.1 = some (.ref D) ∧ L2.ExcC g.K D ∧ PySem.W.kitOne g.K (.ref D) cv = some p.2
/-- a class that an except clause names -/
structure XhOk (g : G) (x : Str) (tb : List (Str × Bool)) : Prop where
  ex : ∃ cv : Value, (g.mg x = some cv ∨ (g.mg x = none ∧ bootBuiltins x = some cv ∧ x ≠ "__name__")) ∧ ∀ p ∈ tb, ∃ D, g.mg p.1 = some (.ref D) ∧ PySem.W.exmOne g.K (.ref D) cv = some p.2
abbrev bmVE : List Value := [.type "ValueError", .type "Exception", .type "BaseException", .type "object"]
/-- a class of errors that is raised with a text -/
structure XcOk (g : G) (x : Str) : Prop where
  ex : ∃ C, g.mg x = some (.ref C) ∧ PySem.W.excIn g.K C bmVE "ValueError.__new__" = true ∧ PySem.W.keepIn g.K (.ref C) = true ∧ PySem.W.subIn g.K (.ref C) (.type "BaseException") = some true ∧ PySem.W.typeIn g.K (.ref C) = some (.type "type")
structure Know (g : G) (n : Nat) (T : Tb) : Prop where
  fn : T.hm = false → ∀ p ∈ T.fn, Prm g n p.1 p.2
  fh : T.hm = true → ∀ p ∈ T.fn, PrmC g n p.1 p.2
  ff : ∀ p ∈ T.ff, PrmF g n p.1 p.2
  kf : ∀ p ∈ T.kf, PrmK g n p.1 p.2.1 p.2.2
  gl : ∀ p ∈ T.gl, Gcon g p.1 p.2
  mt : ∀ p ∈ T.mt, PrmM g n p.1 p.2.1 p.2.2
  ln : ∀ p ∈ T.ln, PrmL g n p.1 p.2.1 p.2.2
  pr : ∀ p ∈ T.pr, PrmP g n p.1 p.2.1 p.2.2
  itc : ∀ p ∈ T.itc, ItOk g n p.1 p.2
  bn : ∀ x ∈ T.bn, g.mg x = none
  md : ∀ p ∈ T.md, g.mg p.1 = some (.builtin p.2)
  at_ : ∀ p ∈ T.at_, ∃ C, g.mg p.1 = some (.ref C) ∧ Cls g.K C ∧ NoAttr g.K C p.2
  xc : ∀ x ∈ T.xc, XcOk g x
  xh : ∀ p ∈ T.xh, XhOk g p.1 p.2
  xi : ∀ p ∈ T.xi, XiOk g p.1 p.2
  su : T.hm = false → ∀ p : Addr × Obj, (∃ vs, p.2.data = .fields vs) → ∀ q ∈ T.hfn, PrmC { g with hx := some p } n q.1 q.2
structure GoodB (N : List Str) (sc : Scope) (X : Cx) : Prop where
  eN : X.N = N
  vis : ∀ x, visB sc x = true → Vis X.env.scope x
  gl : ∀ x, glB sc x = true → X.env.scope.names.lookup x = some .globalImplicit
  loc : ∀ x, locB sc x = true → L2.Loc X.env.scope x ∧ (X.fn x = true ∨ X.env.scope.names.lookup x = some .local)
  cf : ∀ x, sc.names.lookup x = some .cell ∨ sc.names.lookup x = some .free → X.env.scope.names.lookup x = some .cell ∨ X.env.scope.names.lookup x = some .free
  nd : N.Nodup
  un : X.A.units + 200 < cLine
structure Good (N : List Str) (sc : Scope) (n : Nat) (X : Cx) : Prop extends GoodB N sc X where
  calm : X.calm = true
  room : Room n X.A
/-- either way -/
structure GoodM (N : List Str) (sc : Scope) (n : Nat) (hm : Bool) (X : Cx) : Prop extends GoodB N sc X where
  calmR : hm = false → X.calm = true ∧ Room n X.A
  hot : hm = true → HotX n X
theorem GoodM.good {N : List Str} {sc : Scope} {n : Nat} {hm : Bool} {X : Cx} (G : GoodM N sc n hm X) (h : hm = false) : Good N sc n X := ⟨G.toGoodB, (G.calmR h).1, (G.calmR h).2⟩
theorem Good.toM {N : List Str} {sc : Scope} {n : Nat} {X : Cx} (G : Good N sc n X) : GoodM N sc n false X := ⟨G.toGoodB, fun _ => ⟨G.calm, G.room⟩, fun z => nomatch z⟩
instance {N : List Str} {sc : Scope} {n : Nat} {hm : Bool} {X : Cx} : CoeOut (GoodM N sc n hm X) (GoodB N sc X) := ⟨GoodM.toGoodB⟩
instance {N : List Str} {sc : Scope} {n : Nat} {X : Cx} : CoeOut (Good N sc n X) (GoodB N sc X) := ⟨Good.toGoodB⟩
section
variable {N : List Str} {sc : Scope} {n : Nat} {X : Cx}
theorem vis_of {x : Str} (h : visB sc x = true) : Vis sc x := by
  unfold visB at h
  split at h
  · exact .inl (by assumption)
  · exact .inr (.inl (by assumption))
  · exact .inr (.inr (by assumption))
  · cases h
theorem loc_of {x : Str} (h : locB sc x = true) : L2.Loc sc x := by
  unfold locB at h
  split at h
  · exact .inl (by assumption)
  · exact .inr (by assumption)
  · cases h
theorem gl_of (G : GoodB N sc X) {x : Str} (h : glB sc x = true) : Gl X x := by
  exact G.gl x h
theorem nm_of {x : Str} (h : nmB x = true) : (x == ("__debug__" : Str)) = false ∧ (x == ("__classdict__" : Str)) = false ∧ x ≠ "__name__" := by
  unfold nmB at h
  simp only [Bool.and_eq_true, Bool.not_eq_true', beq_eq_false_iff_ne, ne_eq] at h
  exact ⟨by simpa using h.1.1, by simpa using h.1.2, h.2⟩
theorem units_of (G : GoodB N sc X) : X.A.units + 128 < cLine := by
  have := G.un; omega
theorem star_of {x : Expr} {xs : List Expr} {e : PySem.Env} (h : staB x = false) : starEach (x :: xs) e = (false, eval x e) :: starEach xs e := by
  cases x <;> first | rfl | cases h
theorem plain_of {x : Expr} (h : slB x = false) : PlainIx x := by
  cases x <;> first | exact fun _ _ => rfl | cases h
end
end Rf
/-! # Rf18: data within a suite -/
namespace Rf
open PySem PySem.Spec L2
mutual
/-- no exception inside -/
def noX : D → Bool
  | .tup xs => noXs xs
  | .lst xs => noXs xs
  | .obj _ fs => noXf fs
  | .exc _ _ => false
  | _ => true
def noXs : List D → Bool
  | [] => true
  | d :: ds => noX d && noXs ds
def noXf : List (Str × D) → Bool
  | [] => true
  | (_, d) :: ds => noX d && noXf ds
end
abbrev G.hot (g : G) (p : Addr × Obj) : G := { g with hx := some p }
mutual
theorem Rep.up {g : G} {H : Hp} {p : Addr × Obj} (hn : g.hx = none) : ∀ {v : V} {d : D}, Rep g H v d → Rep (g.hot p) H v d
  | _, _, .non => .non
  | _, _, .bl b => .bl b
  | _, _, .int b => .int b
  | _, _, .str b => .str b
  | _, _, .tup h r => .tup h (Reps.up hn r)
  | _, _, .lst h r => .lst h (Reps.up hn r)
  | _, _, .obj m h r => .obj m h (RepF.up hn r)
  | _, _, .exc0 h _ _ => by rw [hn] at h; cases h
  | _, _, .excD h _ _ _ _ => by rw [hn] at h; cases h
theorem Reps.up {g : G} {H : Hp} {p : Addr × Obj} (hn : g.hx = none) : ∀ {v : List V} {d : List D}, Reps g H v d → Reps (g.hot p) H v d
  | _, _, .nil => .nil
  | _, _, .cons h r => .cons (Rep.up hn h) (Reps.up hn r)
theorem RepF.up {g : G} {H : Hp} {p : Addr × Obj} (hn : g.hx = none) : ∀ {v : List (Str × V)} {d : List (Str × D)}, RepF g H v d → RepF (g.hot p) H v d
  | _, _, .nil => .nil
  | _, _, .cons h r => .cons (Rep.up hn h) (RepF.up hn r)
end
mutual
theorem Rep.down {g : G} {H : Hp} {p : Addr × Obj} : ∀ {v : V} {d : D}, Rep (g.hot p) H v d → noX d = true → Rep g H v d
  | _, _, .non, _ => .non
  | _, _, .bl b, _ => .bl b
  | _, _, .int b, _ => .int b
  | _, _, .str b, _ => .str b
  | _, _, .tup h r, x => .tup h (Reps.down r (by simpa [noX] using x))
  | _, _, .lst h r, x => .lst h (Reps.down r (by simpa [noX] using x))
  | _, _, .obj m h r, x => .obj m h (RepF.down r (by simpa [noX] using x))
  | _, _, .exc0 _ _ _, x => by simp [noX] at x
  | _, _, .excD _ _ _ _ _, x => by simp [noX] at x
theorem Reps.down {g : G} {H : Hp} {p : Addr × Obj} : ∀ {v : List V} {d : List D}, Reps (g.hot p) H v d → noXs d = true → Reps g H v d
  | _, _, .nil, _ => .nil
  | _, _, .cons h r, x => by
    simp only [noXs, Bool.and_eq_true] at x
    exact .cons (Rep.down h x.1) (Reps.down r x.2)
theorem RepF.down {g : G} {H : Hp} {p : Addr × Obj} : ∀ {v : List (Str × V)} {d : List (Str × D)}, RepF (g.hot p) H v d → noXf d = true → RepF g H v d
  | _, _, .nil, _ => .nil
  | _, _, .cons h r, x => by
    simp only [noXf, Bool.and_eq_true] at x
    exact .cons (Rep.down h x.1) (RepF.down r x.2)
end
theorem SlRep.up {g : G} {H0 H Hf : Hp} {p : Addr × Obj} (hn : g.hx = none) {v : V} {s : Sl} (r : SlRep g H0 H Hf v s) : SlRep (g.hot p) H0 H Hf v s := by
  cases r with
  | v h => exact .v (h.up hn)
  | o a b c d => exact .o a b c (d.up hn)
  | n a b c d e => exact .n a b c d (e.up hn)
theorem SR.up {g : G} {H0 Hf0 H Hf : Hp} {σ : St} {env : Env} {p : Addr × Obj} (hn : g.hx = none) (r : SR g H0 Hf0 σ H Hf env) : SR (g.hot p) H0 Hf0 σ H Hf env :=
  ⟨r.fut, r.len, fun i s h => let ⟨v, e, q⟩ := r.slot i s h; ⟨v, e, q.up hn⟩, r.dis, r.tb⟩
end Rf
/-! # Rf19: isinstance of an exception, with fields or without -/
namespace Rf
open PySem PySem.Spec PySem.W L2
section
variable {prog : Program} {w : World} {A : Around} {E : Value → Shared → Prop} {s : Shared} {K : Frag} {x D : Addr} {ox : Obj} {od : Option Obj}
/-- what an exception class D says of __class__ -/
abbrev XcC := L2.ExcC
theorem findObj_dataA {C : Addr} {nm : Str} {a g : Value} (hc : (clsIn K C).isSome = true) (ha : findIn K (.ref C) nm = some (some a)) (hg : specialIn K a "__get__" = some (some g)) (ht : takesIn K a = some true) : findObj K C od nm = some (.bind g a) := by
  obtain ⟨cd, e⟩ := Option.isSome_iff_exists.mp hc; unfold findObj; rw [e, Option.bind_some, ha, Option.bind_some]; simp [hg, ht]
theorem cls_of_exc {Q : Option Value → Shared → Prop} (c : L2.ExcC K D) (X : K.In s.heap) (I : InstAt s.heap x ox D od) (q : Q (some (.ref D)) { s with toks := s.toks + 1 }) : wpAny (model prog w) A (getAttr? (.ref x) "__class__") Q E s := by
  have found : findObj K D od "__class__" = some (.bind (.builtin "getset_descriptor.__get__") (.builtin "object.__class__")) := findObj_dataA (by obtain ⟨cd, hc, _⟩ := any_some c.hd; rw [hc]; rfl) c.ha c.hn c.ht
  obtain ⟨hp, g, d, t, os⟩ := s
  have l0 := I.type (M := model prog w); have l1 := looks_findIn (M := model prog w) X c.hg; have l2 := looks_findIn (M := model prog w) X c.hk; have l3 := looks_find (M := model prog w) X I found
  have isB : Looks (model prog w) hp (isInstance (.ref x) (.type "BaseException")) true := l0.andThen (looks_subIn X c.hs)
  have n0 : (false && onTheHeap (Value.builtin "BaseException.__getattribute__")) = false := rfl
  have n2 : (Value.builtin "BaseException.__getattribute__" == Value.builtin "object.__getattribute__") = false := by decide +kernel
  have n1 : (onTheHeap (Value.ref D) && Value.builtin "BaseException.__getattribute__" == Value.builtin "object.__getattribute__") = false := by rw [n2]; rfl
  unfold getAttr? getAttrBy? getAttrBy; refine wpAny_bind (wpAny_mkText (wpAny_bind (wpAny_attempt (wpAny_holding (wpAny_bind (l0.at (wpAny_bind (l1.at ?_))))))))
  show wpAny _ _ (if (onTheHeap (Value.ref D) && Value.builtin "BaseException.__getattribute__" == Value.builtin "object.__getattribute__") = true then _ else _) _ _ _; rw [n1, if_neg Bool.false_ne_true]
  unfold getAttrByItsOwn hookBefore; refine wpAny_bind ?_; rw [if_pos (show onTheHeap (Value.ref D) = true from rfl)]; refine l2.at ?_
  refine wpAny_bind (wpAny_attempt (wpAny_holding ?_)); unfold callGetattribute; rw [n0, if_neg Bool.false_ne_true]
  unfold boundAndCalled; rw [PySem.F.excAttr_ValueError.ga.bind (.ref x)]; refine wpAny_bind (wpAny_pure ?_)
  show wpAny _ _ (call (.builtin "BaseException.__getattribute__") [.ref x, .str "__class__" t]) _ _ _; refine wpAny_call (codeAny_call_builtin PySem.F.excAttr_ValueError.ga.plain PySem.F.entry_bexc_ga ?_)
  refine @check_slot (model prog w) _ _ ⟨hp, g, d, t + 1, os⟩ "BaseException.__getattribute__" "BaseException" "__getattribute__" (.ref x) [.str "__class__" t] [] _ (by decide +kernel) (by decide +kernel) isB (PySem.F.args_bexc_ga (.ref x) (.str "__class__" t)) ?_
  unfold Builtin.«object.__getattribute__»; refine wpAny_bind (wpAny_of_eq (a := ((Value.ref x : Value), [Value.str "__class__" t])) (by first | rfl | (simp only [slotArgs]; rfl)) ?_)
  refine wpAny_bind (wpAny_pure (wpAny_bind (l0.at (wpAny_bind (l3.at ?_))))); show wpAny _ _ (holding [Value.builtin "object.__class__"] (call (.builtin "getset_descriptor.__get__") [.builtin "object.__class__", .ref x, .ref D]) >>= ret) _ _ _
  refine wpAny_bind (wpAny_holding (wpAny_call (class_get (s := ⟨hp, g, d, t + 1, os⟩) (ox := ox) (od := od) X I c.hm ?_))); refine wpAny_pure ?_
  show wpAny _ _ (handedOut (.ref D)) _ _ _; rw [handedOut_of (v := .ref D) rfl]
  first | exact wpAny_pure (wpAny_pure q) | exact wpAny_pure q | exact wpAny_pure (wpAny_bind (wpAny_pure (wpAny_pure q)))
theorem kitx_any (c : L2.ExcC K D) : KitX K (.ref x) (.ref D) (fun h => InstAt h x ox D od) where
  ty := fun _ _ _ I => I.type
  it := fun _ _ X _ => by
    obtain ⟨cdD, hcD, _⟩ := any_some c.hd; unfold clsIn at hcD; split at hcD
    · rename_i ho; intro A' Q' E' s' k q; unfold isType loadHead; exact wpAny_bind (wpAny_loadPart (k _ _ (X _ _ ho)) (wpAny_pure q))
    · cases hcD
  ne := fun h tp dd its n sl X htp => by
    obtain ⟨cdD, hcD, _⟩ := any_some c.hd; refine Bool.eq_false_iff.mpr fun q => ?_
    have e : D = tp := Value.ref.inj (beq_iff_eq.mp q)
    subst e; unfold clsIn at hcD; split at hcD
    · rename_i ho; have z := (X _ _ ho).symm.trans htp; cases z
    · cases hcD
  ca := fun X I k => cls_of_exc c X I k
end
section
variable {X : Cx} {a D : Addr} {oe : Obj}
/-- isinstance(e, c), e the exception at a that the context has pinned -/
def rIsX (K : PySem.W.Frag) (D a : Addr) (oe : Obj) : List V → Hp → VK → Prop := fun xs H Q => ∃ (c : V) (cv : Value) (b : Bool), xs = [.ref a, c] ∧ (∀ u, RelV c u → u = cv) ∧ PySem.W.kitOne K (.ref D) cv = some b ∧ (∀ dd, oe.dict = some dd → ∃ o, H dd = some o) ∧ Q (.bl b) H
theorem call_isX (hp : (a, oe) ∈ X.pn) (c : L2.ExcC X.K D) (hcls : oe.cls = .ref D) (hf : ∃ vs, oe.data = .fields vs) : CallR X (.builtin "isinstance") (rIsX X.K D a oe) := by
  intro pins s σ H xs us Q I r h
  obtain ⟨c0, cv, b, rfl, hcv, e, hd, q⟩ := h
  cases r with
  | cons rx rr =>
    cases rr with
    | cons rt rr =>
      cases rr; cases rx
      have ec := hcv _ rt
      subst ec
      have hget := (I.pin (a, oe) (List.mem_append.mpr (.inl hp))).1
      obtain ⟨vs, hv⟩ := hf
      have J : ∃ od, PySem.W.InstAt s.heap a oe D od := by
        obtain ⟨oc, odd, oda, osl⟩ := oe
        dsimp only at hcls hv hd hget
        subst hcls; subst hv
        cases odd with
        | none => exact ⟨none, hget, rfl, rfl, trivial⟩
        | some dd =>
          obtain ⟨o, ho⟩ := hd dd rfl
          obtain ⟨u, hu⟩ := objOk_get (I.hok dd o ho)
          exact ⟨some u, hget, rfl, rfl, hu⟩
      obtain ⟨od, J⟩ := J
      exact PySem.W.kia_one (kitx_any c) I.kIn J e (fun z => nomatch z) fun tk => ⟨.bl b, H, I.kept (t' := tk) fun _ _ z => z, rfl, q⟩
end
end Rf
/-! # Rf21: sorted(xs, key=lambda p: p[0] * (c // p[1])) -/
namespace Rf
open PySem PySem.Spec L2
open PyProof.Rows (IsTup)
section
variable {prog : Program} {w : World} {A : Around} {E : Value → Shared → Prop} {env : PySem.Env} {m : Str → Option Value} {t cc : Addr} {n d cm : Int} {t1 t2 tc : Tok} {p c : Str} {s : Shared}
theorem sub_at {j : Nat} {k1 : Nat} {p1 p2 p3 : Pos} {x : Value} {its : Array Value} {Q : Value → Shared → Prop} (hk : env.scope.kind = .function) (hp : env.kindOf p = some .local) (hd : (p == ("__debug__" : Str)) = false) (hn : s.heap.Ns env.locals m) (hm : m p = some (.ref t))
    (ht : IsTup s.heap t its) (hj : seqIndex? (j : Int) its.size = some j) (hx : its[j]? = some x) (hz : j < 1000) (h : Q x { s with toks := s.toks + 1 }) :
    wpAny (model prog w) A (eval (.Subscript (.Name p p1) (.Constant (.int (j : Int)) k1 p2) p3) env) Q E s := by
  refine PyProof.Rows.Subscript_ (wpAny_Name (wpAny_loadName_local hk hp hn hm ?_) hd)
  refine wpAny_Constant_int ?_
  exact PyProof.Rows.subscriptTail_builtinR (x := x) ht.typeIs PyProof.Rows.slot_tuple_getitem.lookup
    (PyProof.Rows.getItem_tuple (s := { s with toks := s.toks + 1 }) (Q := fun r s' => r = x ∧ Q r s') ht (by omega) (by omega) hj hx ⟨rfl, h⟩) (by with_unfolding_all rfl)
theorem body_key {k1 k2 : Nat} {p1 p2 p3 p4 p5 p6 p7 p8 p9 : Pos} (hk : env.scope.kind = .function) (hp : env.kindOf p = some .local) (hd : (p == ("__debug__" : Str)) = false) (hn : s.heap.Ns env.locals m) (hm : m p = some (.ref t))
    (hc : env.kindOf c = some .free) (hdc : (c == ("__debug__" : Str)) = false) (hcd : (c == ("__classdict__" : Str)) = false) (hcc : env.cells.lookup c = some cc) (hcell : s.heap.IsCell cc (some (.int cm tc)))
    (ht : IsTup s.heap t #[.int n t1, .int d t2]) (h1 : okDiv d = true) (h2 : okMul n (cm.fdiv d) = true) {Q : Value → Shared → Prop} (q : ∀ t tk, Q (.int (n * cm.fdiv d) t) { s with toks := tk }) :
    wpAny (model prog w) A (eval (.BinOp (.Subscript (.Name p p1) (.Constant (.int 0) k1 p2) p3) .Mult (.BinOp (.Name c p4) .FloorDiv (.Subscript (.Name p p5) (.Constant (.int 1) k2 p6) p7) p8) p9) env) Q E s := by
  refine wpAny_BinOp (sub_at (j := 0) hk hp hd hn hm ht rfl rfl (by decide) ?_)
  refine wpAny_BinOp (wpAny_Name (wpAny_loadName_free hk hc hcc hcell ?_ hcd) hdc)
  refine sub_at (s := { s with toks := s.toks + 1 }) (j := 1) hk hp hd hn hm ht rfl rfl (by decide) ?_
  unfold okDiv at h1
  rw [Bool.and_eq_true] at h1
  refine PyProof.Rows.floordiv_int (of_decide_eq_true h1.1) ?_ (.inl (PyProof.noPylong_of_log2 (of_decide_eq_true h1.2)))
  exact PyProof.Rows.mul_int (q _ _) (okMul_ok h2)
end
/-- the lambda's one parameter -/
def parB1 : Arguments → Bool
  | ⟨[], [⟨q, none, _⟩], none, [], [], none, []⟩ => decide (q = "number")
  | _ => false
theorem bind1 {ps : Arguments} (h : parB1 ps = true) {name qual : Str} {body : Expr} {scope : Scope} {cl : List (Str × Addr)} {pm cdv ct : Value} (v : Value) : bindArgs (PySem.W.kla_fn name qual ps body scope cl pm cdv ct) ⟨[v], []⟩ = pure [(("number" : Str), v)] := by
  unfold parB1 at h
  split at h
  · obtain rfl := of_decide_eq_true h
    rfl
  · cases h
theorem dfl1 {ps : Arguments} (h : parB1 ps = true) (env : PySem.Env) : defaultsOf ps env = ([], []) := by
  unfold parB1 at h
  split at h
  · rfl
  · cases h
/-- number[0] * (common // number[1]) -/
abbrev keyE (k1 k2 : Nat) (p1 p2 p3 p4 p5 p6 p7 p8 p9 : Pos) : Expr := .BinOp (.Subscript (.Name "number" p1) (.Constant (.int 0) k1 p2) p3) .Mult (.BinOp (.Name "common" p4) .FloorDiv (.Subscript (.Name "number" p5) (.Constant (.int 1) k2 p6) p7) p8) p9
section
variable {prog : Program} {w : World} {A : Around} {t cc f c' : Addr} {n d cm : Int} {t1 t2 tc : Tok} {qual : Str} {s : Shared} {scope : Scope} {clos : List (Str × Addr)} {pm ctv : Value} {params : Arguments}
theorem lam_turn {k1 k2 : Nat} {p1 p2 p3 p4 p5 p6 p7 p8 p9 : Pos} (hf : s.heap.get? f = some (PySem.W.kla_obj "<lambda>" qual params (keyE k1 k2 p1 p2 p3 p4 p5 p6 p7 p8 p9) scope clos pm c' ctv))
    (hrec : s.heap.CodeRec (.ref c') qual) (hr : A.depth < recursionLimit) (hl : s.heap.NoLimit) (hpar : parB1 params = true)
    (hk : scope.kind = .function) (hco : scope.isCoroutine = false) (hge : scope.isGenerator = false) (hcell : ∀ x ∈ scope.names, x.2 ≠ .cell) (hp : scope.names.lookup ("number" : Str) = some .local) (hc : scope.names.lookup ("common" : Str) = some .free)
    (hcc : clos.lookup ("common" : Str) = some cc) (hcv : s.heap.IsCell cc (some (.int cm tc)))
    (ht : IsTup s.heap t #[.int n t1, .int d t2]) (h1 : okDiv d = true) (h2 : okMul n (cm.fdiv d) = true) :
    wpAny (model prog w) A (call (.ref f) [.ref t]) (PySem.W.KeyPure (.int (n * cm.fdiv d)) s) (fun _ _ => False) s := by
  refine wpAny_call (PySem.W.kla_callFunE hr hf rfl hco hge rfl hrec ?_)
  rw [bind1 hpar]
  refine wpAny_pure (wpAny_newFunctionEnv hcell (fun y hy => by rw [List.mem_singleton.mp hy]; exact hp) (fun h₁ hns hsb => ⟨hl.fresh _ hsb, ?_⟩) hk)
  have kp : ∀ b o, s.heap.get? b = some o → h₁.get? b = some o := fun b o e => hsb.extBut b o (Nat.ne_of_lt (Heap.lt_size e)) (Heap.get?_push_of_some _ e)
  refine PySem.W.kla_codeExpr ?_
  refine body_key (env := newEnv scope s.heap.objs.size mainGlobals clos (qual ++ ".<locals>.") (some f) (.ref c') none builtinsNs) (m := fun x => List.lookup x (List.reverse [(("number" : Str), Value.ref t)])) (cc := cc) (cm := cm) (tc := tc) (n := n) (d := d) (t := t) (t1 := t1) (t2 := t2) hk hp (by decide) hns (by simp [List.lookup]) hc (by decide) (by decide) hcc ?_ (ht.keeps kp) h1 h2 fun t' tk => ?_
  · obtain ⟨o, ho, hdd⟩ := hcv
    exact ⟨o, kp _ _ ho, hdd⟩
  · exact ⟨h₁, tk, rfl, kp, .int _ _⟩
end
section
variable {X : Cx} {pins : List (Addr × Obj)} {σ : L2.St} {H : Hp} {s : Shared}
/-- making the lambda: the code object is found in the table or put into it -/
theorem lam_new {c P : Addr} {ps : Arguments} {e : Expr} {sc : Scope} {pos : Pos} {E Q : Value → Shared → Prop} (J : Inv X pins σ H s) (B : LamX.TabB X.base X.mg c P) (code : X.env.code = .ref c) (name : X.env.qual ++ "<lambda>" = lamName) (tab : LamX.TabS H P lamName)
    (nodef : defaultsOf ps X.env = ([], [])) (cap : ∀ y ∈ sc.names, y.2 = .free → ∃ a, X.env.cells.lookup y.1 = some a)
    (go : ∀ (f d : Addr) (pm ct : Value) (H' : Hp) (s' : Shared), Inv X pins σ H' s' → Ext H H' → (∀ b u, b ≠ P → H b = some u → H' b = some u) → s'.heap.get? f = some (PySem.W.kla_obj "<lambda>" lamName ps e sc (cloFrom X.env.cells sc.names []) pm d ct) →
      s'.heap.CodeRec (.ref d) lamName → Q (.ref f) s') :
    wpAny (model X.prog X.w) X.A (eval (.Lambda ps e sc pos) X.env) Q E s := by
  obtain ⟨tb, atP, tri, named⟩ := tab
  have bins : s.heap.BuiltinsAt X.mg P := B.bm.keeps J.bk
  have objP : s.heap.get? P = some { cls := .none, data := .fields tb } := J.hok P _ atP
  have clos := closure_ok (env := X.env) cap
  have globs := J.mod.glob.keeps J.bk
  have head := B.code.keeps J.bk
  refine PySem.W.kla_eval nodef ?_
  rw [name]
  by_cases known : (codeAmong pos tb.toList).isSome = true
  · obtain ⟨cv, hcv⟩ := Option.isSome_iff_exists.mp known
    obtain ⟨d, rfl, isCode⟩ := named pos cv hcv
    refine PySem.W.kla_makeFunctionHit clos J.ok.glob globs code head objP tri hcv bins fun ct h2 tk2 keeps size => ?_
    have J2 : Inv X pins σ H { s with heap := h2.push (PySem.W.kla_obj "<lambda>" lamName ps e sc (cloFrom X.env.cells sc.names []) ((X.mg "__name__").getD .none) d ct), toks := tk2 } := J.kept fun b u z => Heap.get?_push_of_some _ (keeps b u z)
    refine go h2.objs.size d ((X.mg "__name__").getD .none) ct H _ J2 (.refl H) (fun b u _ z => z) (Heap.get?_push_size _ rfl) ?_
    obtain ⟨⟨oc, fv, tt, z1, z2, z3⟩, _⟩ := J2.hok d _ isCode
    exact ⟨d, oc, fv, tt, rfl, z1, z2, z3⟩
  · have unknown : codeAmong pos tb.toList = none := by simpa using known
    refine PySem.W.kla_makeFunction clos J.ok.glob globs code head objP tri unknown B.gP bins fun d ct h2 tk2 ext low lt rec_ grown => ?_
    obtain ⟨d2, oc, fv, tt, ed, z1, z2, z3⟩ := rec_
    cases ed
    have sizes : s.heap.objs.size ≤ h2.objs.size := Nat.le_trans low (Nat.le_of_lt lt)
    have free : H d = none := J.hok.fresh low
    have J2 := LamX.inv_table (t' := tk2) (q := lamName) (more := #[rawInt pos.line, rawInt pos.col, .ref d]) (h' := h2.push (PySem.W.kla_obj "<lambda>" lamName ps e sc (cloFrom X.env.cells sc.names []) ((X.mg "__name__").getD .none) d ct)) J atP
      (fun b u ne z => Heap.get?_push_of_some _ (ext b u ne z)) (Heap.get?_push_of_some _ grown) low ⟨oc, fv, tt, Heap.get?_push_of_some _ z1, z2, z3⟩
    have keep : ∀ b u, b ≠ P → H b = some u → (upd (upd H P (.tbl (tb ++ #[rawInt pos.line, rawInt pos.col, .ref d]))) d (LamX.CodeO d lamName)) b = some u := fun b u ne z => by
      rw [upd_ne (ne_of_none z free), upd_ne ne]; exact z
    have nP : P ≠ d := ne_of_none atP free
    refine go h2.objs.size d ((X.mg "__name__").getD .none) ct _ _ J2 ⟨fun b u z nt => ?_, fun b qs z => ?_, fun b z => ?_⟩ keep (Heap.get?_push_size _ rfl) ⟨d, oc, fv, tt, rfl, Heap.get?_push_of_some _ z1, z2, z3⟩
    · refine keep b u (fun y => ?_) z
      rw [y, atP] at z
      exact nt _ (Option.some.inj z).symm
    · by_cases y : b = P
      · subst y; exact ⟨_, by rw [upd_ne nP, upd_same]⟩
      · exact ⟨qs, keep b _ y z⟩
    · obtain ⟨qs, y1, y2, y3⟩ := z
      by_cases y : b = P
      · subst y
        rw [atP] at y1
        cases y1
        have el : (tb ++ #[rawInt pos.line, rawInt pos.col, Value.ref d]).toList = tb.toList ++ [rawInt pos.line, rawInt pos.col, .ref d] := by simp
        refine ⟨_, by rw [upd_ne nP, upd_same], by rw [el]; exact PySem.TriplesOk_snoc _ _ _ _ tri, fun p' cv hcv => ?_⟩
        rw [el] at hcv
        rcases LamX.among_app _ tri hcv with old | new
        · obtain ⟨d3, e1, e2⟩ := named p' cv old
          refine ⟨d3, e1, keep d3 _ (fun y => ?_) e2⟩
          rw [y, atP] at e2; cases e2
        · exact ⟨d, new, upd_same⟩
      · refine ⟨qs, keep b _ y y1, y2, fun p' cv hcv => ?_⟩
        obtain ⟨d3, e1, e2⟩ := y3 p' cv hcv
        refine ⟨d3, e1, keep d3 _ (fun y => ?_) e2⟩
        rw [y, atP] at e2; cases e2
end
end Rf
/-! # Rf5: expressions, one rule a construct -/
namespace Rf
open PySem PySem.Spec L2
def tDX (g : G) (T : Tb) (W : WE) (e : E) : TE := fun σ H Q => ∃ H0 Hf0 Hf env, SR g H0 Hf0 σ H Hf env ∧ RG g W σ (XP g Q) (ev T e env) H Hf
theorem xp_of_op {g : G} {Q : VK} {d : D} {H Hf : Hp} (h : OP g Q d H Hf) : XP g Q d H Hf := by
  cases d with
  | lst ds => exact FQ.of h
  | _ => exact h
theorem tDX_E {X : Cx} {T : Tb} {W : WE} {e : E} {x : Expr} (h : PE X x (tDX (gOf X) T W e)) : PE X x (tD (gOf X) T W e) :=
  h.imp fun σ H Q ⟨H0, Hf0, Hf, env, sr, r⟩ => ⟨H0, Hf0, Hf, env, sr, r.imp fun _ _ q => xp_of_op q⟩
theorem tDX_F {X : Cx} {T : Tb} {W : WE} {e : E} {x : Expr} (h : PE X x (tDX (gOf X) T W e)) : PE X x (tDF (gOf X) T W e) :=
  h.imp fun σ H Q ⟨H0, Hf0, Hf, env, sr, r⟩ => ⟨H0, Hf0, Hf, env, sr, r.imp fun d _ q => by cases d <;> first | exact q | exact q.elim⟩
/-- a rule's end: an operation on data -/
theorem rD_of {g : G} {W : WE} {σ : St} {Q : VK} {F : D → D → R D} {x y : V} {d e : D} {H Hf : Hp} (sub : Same Hf H) (rx : Rep g Hf x d) (ry : Rep g Hf y e) (hne : ∀ z, F d e ≠ .err z) (h : RG g W σ (OP g Q) (F d e) H Hf) : rD g F x y H Q := by
  refine ⟨Hf, d, e, sub, rx, ry, ?_⟩
  cases hf : F d e with
  | ok r => rw [hf] at h; exact ⟨r, rfl, h⟩
  | err z => exact absurd hf (hne z)
  | bad => rw [hf] at h; exact h.elim
theorem rDF_of {g : G} {W : WE} {σ : St} {Q : VK} {F : D → D → R D} {x y : V} {d e : D} {H Hf : Hp} (sub : Same Hf H) (rx : Rep g Hf x d) (ry : Rep g Hf y e) (hne : ∀ z, F d e ≠ .err z) (h : RG g W σ (XP g Q) (F d e) H Hf) : rDF g F x y H Q := by
  refine ⟨Hf, d, e, sub, rx, ry, ?_⟩
  cases hf : F d e with
  | ok r => rw [hf] at h; exact ⟨r, rfl, h⟩
  | err z => exact absurd hf (hne z)
  | bad => rw [hf] at h; exact h.elim
theorem bop_ne (op : BOp) (d e : D) (z : Exn) : bop op d e ≠ .err z := by
  unfold bop
  split <;> (try split) <;> (intro h; cases h)
theorem eqD_ne (d e : D) (z : Exn) : eqD d e ≠ .err z := by
  unfold eqD
  split
  · unfold eqP; split <;> (intro h; cases h)
  · intro h; cases h
theorem memD_ne (x : D) (z : Exn) : ∀ ds, memD x ds ≠ .err z
  | [] => by simp [memD]
  | d :: ds => by
    simp only [memD]
    cases h1 : eqD d x with
    | ok b =>
      cases h2 : memD x ds with
      | ok c => simp
      | err w => exact absurd h2 (memD_ne x w ds)
      | bad => simp
    | err w => exact absurd h1 (eqD_ne _ _ _)
    | bad => simp
theorem cop_ne (op : COp) (d e : D) (z : Exn) : cop op d e ≠ .err z := by
  cases op with
  | eq => simp only [cop]; cases h : eqD d e <;> first | exact absurd h (eqD_ne _ _ _) | simp
  | ne => simp only [cop]; cases h : eqD d e <;> first | exact absurd h (eqD_ne _ _ _) | simp
  | isin => simp only [cop]; cases hi : itemsD e with
    | ok xs => simp only [R.bind_ok]; cases h : memD d xs <;> first | exact absurd h (memD_ne _ _ _) | simp
    | err w => unfold itemsD at hi; split at hi <;> cases hi
    | bad => simp
  | notin => simp only [cop]; cases hi : itemsD e with
    | ok xs => simp only [R.bind_ok]; cases h : memD d xs <;> first | exact absurd h (memD_ne _ _ _) | simp
    | err w => unfold itemsD at hi; split at hi <;> cases hi
    | bad => simp
  | _ => cases d <;> cases e <;> simp [cop]
theorem ixD_ne (d e : D) (z : Exn) : ixD d e ≠ .err z := by
  unfold ixD
  split <;> (try unfold ofO) <;> (try split) <;> (intro h; cases h)
theorem slD_ne (d : D) (lo hi : Option Int) (z : Exn) : slD d lo hi ≠ .err z := by
  unfold slD
  split <;> (try split) <;> (intro h; cases h)
theorem ifr {α : Type} {g : G} {W : WE} {σ : St} {P : α → Hp → Hp → Prop} {c : Prop} [Decidable c] {a : R α} {H Hf : Hp} (h : RG g W σ P (if c then a else .bad) H Hf) : c ∧ RG g W σ P a H Hf := by
  by_cases hc : c
  · rw [if_pos hc] at h; exact ⟨hc, h⟩
  · rw [if_neg hc] at h; exact h.elim

section
variable {X : Cx} {N : List Str} {sc : Scope} {n : Nat} {T : Tb} {W : WE} {a b c : E} {x y z : Expr} {p : Pos} {k : Nat}
theorem e_var {i : Nat} {s : Str} (G : GoodB N sc X) (h1 : N[i]? = some s) (h2 : visB sc s = true) (h3 : nmB s = true) : PE X (.Name s p) (tD (gOf X) T W (.var i)) := by
  obtain ⟨d1, d2, _⟩ := nm_of h3
  refine PE.imp (pe_var (i := i) (by rw [G.eN]; exact h1) (G.vis _ h2) d1 d2) fun σ H Q ⟨H0, Hf0, Hf, env, sr, r⟩ => ?_
  simp only [ev, getV] at r
  split at r
  · rename_i d he
    obtain ⟨v, hv, sl⟩ := sr.slot i _ he
    cases sl with
    | v q => exact ⟨v, hv, oq_here sr.sub q r⟩
  · exact r.elim
theorem e_int {i : Int} : PE X (.Constant (.int i) k p) (tD (gOf X) T W (.int i)) := pe_int.imp fun σ H Q ⟨H0, Hf0, Hf, env, sr, r⟩ => oq_here sr.sub (.int i) (by simp only [ev] at r; exact r)
theorem e_bl {i : Bool} : PE X (.Constant (.bool i) k p) (tD (gOf X) T W (.bl i)) := pe_bl.imp fun σ H Q ⟨H0, Hf0, Hf, env, sr, r⟩ => oq_here sr.sub (.bl i) (by simp only [ev] at r; exact r)
theorem e_non : PE X (.Constant .none k p) (tD (gOf X) T W .non) := pe_non.imp fun σ H Q ⟨H0, Hf0, Hf, env, sr, r⟩ => oq_here sr.sub .non (by simp only [ev] at r; exact r)
theorem e_str {i : Str} : PE X (.Constant (.str i) k p) (tD (gOf X) T W (.str i)) := pe_str.imp fun σ H Q ⟨H0, Hf0, Hf, env, sr, r⟩ => oq_here sr.sub (.str i) (by simp only [ev] at r; exact r)
theorem e_glob {j : Nat} {s : Str} (G : GoodB N sc X) (K : Know (gOf X) n T) (h1 : (T.gl[j]?).map (·.1) = some s) (h2 : glB sc s = true) (h3 : nmB s = true) : PE X (.Name s p) (tD (gOf X) T W (.glob j)) := by
  obtain ⟨d1, d2, _⟩ := nm_of h3
  cases hg : T.gl[j]? with
  | none => rw [hg] at h1; cases h1
  | some q =>
    obtain ⟨s', d⟩ := q
    rw [hg] at h1; cases h1
    obtain ⟨v, u, hm, rv, hr⟩ := K.gl _ (List.mem_of_getElem? hg)
    refine PE.imp (pe_glob (gl_of G h2) hm rv d1) fun σ H Q ⟨H0, Hf0, Hf, env, sr, r⟩ => ?_
    simp only [ev, hg] at r
    exact oq_here sr.sub (hr Hf) r
theorem e_bin {op : BOp} (ha : PE X x (tD (gOf X) T W a)) (hb : PE X y (tD (gOf X) T W b)) : PE X (.BinOp x (bopC op) y p) (tDX (gOf X) T W (.bin op a b)) := by
  refine (pe_op (bop_ok (X := X) op (bopC op) (by cases op <;> rfl)) ha hb).imp fun σ H Q ⟨H0, Hf0, Hf, env, sr, r⟩ => ?_
  simp only [ev] at r
  refine tD_step lat_XP sr r fun d v H1 Hf1 _ f1 r1 sr1 q1 => ?_
  refine tD_step lat_XP sr1 q1 fun e w H2 Hf2 _ f2 r2 sr2 q2 => ?_
  exact rDF_of sr2.sub (r1.mono f2.f) r2 (bop_ne _ _ _) q2
theorem e_neg (ha : PE X x (tD (gOf X) T W a)) : PE X (.UnaryOp .USub x p) (tD (gOf X) T W (.neg a)) := by
  refine (pe_un neg_ok ha).imp fun σ H Q ⟨H0, Hf0, Hf, env, sr, r⟩ => ?_
  simp only [ev] at r
  refine tD_step lat_OP sr r fun d v H1 Hf1 _ f1 r1 sr1 q1 => ?_
  cases d <;> first | exact q1.elim | exact ⟨Hf1, _, sr1.sub, r1, _, rfl, q1⟩
theorem e_cmp {op : COp} (G : GoodB N sc X) (ha : PE X x (tD (gOf X) T W a)) (hb : PE X y (tD (gOf X) T W b)) (hm : behindInMarks (copC op) y = false) : PE X (.Compare x [copC op] [y] p) (tD (gOf X) T W (.cmp op a b)) := by
  refine (pe_cmpR (cop_ok op (units_of G)) ha hb hm).imp fun σ H Q ⟨H0, Hf0, Hf, env, sr, r⟩ => ?_
  simp only [ev] at r
  refine tD_step lat_OP sr r fun d v H1 Hf1 _ f1 r1 sr1 q1 => ?_
  refine tD_step lat_OP sr1 q1 fun e w H2 Hf2 _ f2 r2 sr2 q2 => ?_
  exact rD_of sr2.sub (r1.mono f2.f) r2 (cop_ne _ _ _) q2
/-- an operation's bool, as a test -/
theorem rD_ofB {g : G} {W : WE} {σ : St} {Q : Bool → Hp → Prop} {F : D → D → R D} {x y : V} {d e : D} {H Hf : Hp} (sub : Same Hf H) (rx : Rep g Hf x d) (ry : Rep g Hf y e) (hne : ∀ z, F d e ≠ .err z) (h : RG g W σ (BP Q) (asB (F d e)) H Hf) :
    rD g F x y H (fun v H' => ∃ k, v = .bl k ∧ Q k H') := by
  refine ⟨Hf, d, e, sub, rx, ry, ?_⟩
  cases hf : F d e with
  | ok r =>
    rw [hf] at h
    cases r with
    | bl b => exact ⟨_, rfl, fun v H' Hf' f r => by cases r; exact ⟨b, rfl, h H' Hf' f⟩⟩
    | _ => exact h.elim
  | err z => exact absurd hf (hne z)
  | bad => rw [hf] at h; exact h.elim
theorem t_cmp {op : COp} (G : GoodB N sc X) (ha : PE X x (tD (gOf X) T W a)) (hb : PE X y (tD (gOf X) T W b)) (hm : behindInMarks (copC op) y = false) : PT X (.Compare x [copC op] [y] p) (tDT (gOf X) T W (.cmp op a b)) := by
  refine (pt_cmpR (cop_ok op (units_of G)) ha hb hm).imp fun σ H Q ⟨H0, Hf0, Hf, env, sr, r⟩ => ?_
  simp only [evT] at r
  refine tD_step lat_BP sr r fun d v H1 Hf1 _ f1 r1 sr1 q1 => ?_
  refine tD_step lat_BP sr1 q1 fun e w H2 Hf2 _ f2 r2 sr2 q2 => ?_
  exact rD_ofB sr2.sub (r1.mono f2.f) r2 (cop_ne _ _ _) q2
theorem e_isN {ng : Bool} {j : Nat} {p' : Pos} (ha : PE X x (tD (gOf X) T W a)) : PE X (.Compare x [if ng then .IsNot else .Is] [.Constant .none j p'] p) (tD (gOf X) T W (.isN a ng)) := by
  cases ng with
  | false =>
    refine (pe_cmp (pc_isN ha) rfl).imp fun σ H Q ⟨H0, Hf0, Hf, env, sr, r⟩ => ?_
    simp only [ev] at r
    refine tD_step lat_OP sr r fun d v H1 Hf1 _ f1 r1 sr1 q1 => ?_
    rw [isNon_iff r1]
    exact oq_here sr1.sub (.bl _) q1
  | true =>
    refine (pe_cmp (pc_notN ha) rfl).imp fun σ H Q ⟨H0, Hf0, Hf, env, sr, r⟩ => ?_
    simp only [ev] at r
    refine tD_step lat_OP sr r fun d v H1 Hf1 _ f1 r1 sr1 q1 => ?_
    rw [isNon_iff r1]
    exact oq_here sr1.sub (.bl _) q1
theorem t_isN {ng : Bool} {j : Nat} {p' : Pos} (ha : PE X x (tD (gOf X) T W a)) : PT X (.Compare x [if ng then .IsNot else .Is] [.Constant .none j p'] p) (tDT (gOf X) T W (.isN a ng)) := by
  cases ng with
  | false =>
    refine (pt_cmp (pc_isN ha) rfl).imp fun σ H Q ⟨H0, Hf0, Hf, env, sr, r⟩ => ?_
    simp only [evT] at r
    refine tD_step lat_BP sr r fun d v H1 Hf1 _ f1 r1 sr1 q1 => ?_
    rw [isNon_iff r1]
    exact ⟨_, rfl, q1 _ _ (Fut.refl sr1.sub)⟩
  | true =>
    refine (pt_cmp (pc_notN ha) rfl).imp fun σ H Q ⟨H0, Hf0, Hf, env, sr, r⟩ => ?_
    simp only [evT] at r
    refine tD_step lat_BP sr r fun d v H1 Hf1 _ f1 r1 sr1 q1 => ?_
    rw [isNon_iff r1]
    exact ⟨_, rfl, q1 _ _ (Fut.refl sr1.sub)⟩
/-- a comparison whose bool is used at once, with the heap as it is -/
theorem rD_chain {α : Type} {g : G} {W : WE} {σ : St} {P : α → Hp → Hp → Prop} (L : Lat P) {Q : VK} {F : D → D → R D} {k : Bool → R α} {x y : V} {d e : D} {H Hf : Hp} (sub : Same Hf H) (rx : Rep g Hf x d) (ry : Rep g Hf y e) (hne : ∀ z, F d e ≠ .err z) (h : RG g W σ P ((asB (F d e)).bind k) H Hf)
    (nx : ∀ b H1 Hf1, Fut H Hf H1 Hf1 → RG g W σ P (k b) H1 Hf1 → Q (.bl b) H1) : rD g F x y H Q := by
  refine ⟨Hf, d, e, sub, rx, ry, ?_⟩
  cases hf : F d e with
  | ok r =>
    rw [hf] at h
    cases r with
    | bl b => exact ⟨_, rfl, fun v H' Hf' f r => by cases r; exact nx b H' Hf' f (RG.later L h f)⟩
    | _ => exact h.elim
  | err z => exact absurd hf (hne z)
  | bad => rw [hf] at h; exact h.elim
theorem e_chain {op op' : COp} (G : GoodB N sc X) (ha : PE X x (tD (gOf X) T W a)) (hb : PE X y (tD (gOf X) T W b)) (hc : PE X z (tD (gOf X) T W c)) (hm : lastMarks [copC op, copC op'] [y, z] = false) :
    PE X (.Compare x [copC op, copC op'] [y, z] p) (tD (gOf X) T W (.chain op op' a b c)) := by
  refine (pe_chain (cop_ok op (units_of G)) (cop_ok op' (units_of G)) ha hb hc hm).imp fun σ H Q ⟨H0, Hf0, Hf, env, sr, r⟩ => ?_
  simp only [ev] at r
  refine tD_step lat_OP sr r fun d v H1 Hf1 _ f1 r1 sr1 q1 => ?_
  refine tD_step lat_OP sr1 q1 fun e w H2 Hf2 _ f2 r2 sr2 q2 => ?_
  refine rD_chain lat_OP sr2.sub (r1.mono f2.f) r2 (cop_ne _ _ _) q2 fun k H3 Hf3 f3 q3 => ⟨k, rfl, ?_⟩
  cases k with
  | true =>
    rw [if_pos rfl] at q3 ⊢
    refine tD_step lat_OP (sr2.mono f3) q3 fun u w' H4 Hf4 _ f4 r4 sr4 q4 => ?_
    exact rD_of sr4.sub (r2.mono (f3.f.trans f4.f)) r4 (cop_ne _ _ _) q4
  | false =>
    rw [if_neg Bool.false_ne_true] at q3 ⊢
    exact oq_here (sr2.mono f3).sub (.bl _) q3
theorem t_chain {op op' : COp} (G : GoodB N sc X) (ha : PE X x (tD (gOf X) T W a)) (hb : PE X y (tD (gOf X) T W b)) (hc : PE X z (tD (gOf X) T W c)) (hm : lastMarks [copC op, copC op'] [y, z] = false) :
    PT X (.Compare x [copC op, copC op'] [y, z] p) (tDT (gOf X) T W (.chain op op' a b c)) := by
  refine (pt_chain (cop_ok op (units_of G)) (cop_ok op' (units_of G)) ha hb hc hm).imp fun σ H Q ⟨H0, Hf0, Hf, env, sr, r⟩ => ?_
  simp only [evT] at r
  refine tD_step lat_BP sr r fun d v H1 Hf1 _ f1 r1 sr1 q1 => ?_
  refine tD_step lat_BP sr1 q1 fun e w H2 Hf2 _ f2 r2 sr2 q2 => ?_
  refine rD_chain lat_BP sr2.sub (r1.mono f2.f) r2 (cop_ne _ _ _) q2 fun k H3 Hf3 f3 q3 => ⟨k, rfl, ?_⟩
  cases k with
  | true =>
    rw [if_pos rfl] at q3 ⊢
    refine tD_step lat_BP (sr2.mono f3) q3 fun u w' H4 Hf4 _ f4 r4 sr4 q4 => ?_
    exact rD_ofB sr4.sub (r2.mono (f3.f.trans f4.f)) r4 (cop_ne _ _ _) q4
  | false =>
    rw [if_neg Bool.false_ne_true] at q3 ⊢
    exact ⟨false, rfl, q3 _ _ (Fut.refl (sr2.mono f3).sub)⟩
theorem e_and {r : List Expr} (ha : PE X x (tD (gOf X) T W a)) (hb : PE X (.BoolOp .And (y :: r) p) (tD (gOf X) T W b)) : PE X (.BoolOp .And (x :: y :: r) p) (tD (gOf X) T W (.and a b)) := by
  refine (pe_and ha hb).imp fun σ H Q ⟨H0, Hf0, Hf, env, sr, r⟩ => ?_
  simp only [ev] at r
  refine tD_stepB lat_OP sr r fun k H1 Hf1 f1 sr1 q1 => ⟨k, rfl, ?_⟩
  cases k with
  | true => rw [if_pos rfl] at q1 ⊢; exact ⟨H0, Hf0, Hf1, env, sr1, q1⟩
  | false => rw [if_neg Bool.false_ne_true] at q1 ⊢; exact oq_here sr1.sub (.bl _) q1
theorem e_or {r : List Expr} (ha : PE X x (tD (gOf X) T W a)) (hb : PE X (.BoolOp .Or (y :: r) p) (tD (gOf X) T W b)) : PE X (.BoolOp .Or (x :: y :: r) p) (tD (gOf X) T W (.or a b)) := by
  refine (pe_or ha hb).imp fun σ H Q ⟨H0, Hf0, Hf, env, sr, r⟩ => ?_
  simp only [ev] at r
  refine tD_stepB lat_OP sr r fun k H1 Hf1 f1 sr1 q1 => ⟨k, rfl, ?_⟩
  cases k with
  | false => rw [if_neg Bool.false_ne_true] at q1 ⊢; exact ⟨H0, Hf0, Hf1, env, sr1, q1⟩
  | true => rw [if_pos rfl] at q1 ⊢; exact oq_here sr1.sub (.bl _) q1
theorem e_not (ha : PE X x (tD (gOf X) T W a)) : PE X (.UnaryOp .Not x p) (tD (gOf X) T W (.not a)) := by
  refine (pe_not ha).imp fun σ H Q ⟨H0, Hf0, Hf, env, sr, r⟩ => ?_
  simp only [ev] at r
  refine tD_stepB lat_OP sr r fun k H1 Hf1 f1 sr1 q1 => ⟨k, rfl, ?_⟩
  exact oq_here sr1.sub (.bl _) q1
theorem pw_of {op : BoolOp} {xs : List Expr} {t : TT} (h : PT X (.BoolOp op xs p) t) : PW X (.BoolOp op xs p) t := ⟨fun _ pins s σ H Q I q => h.run pins s σ H Q I q⟩
theorem t_and {r : List Expr} (ha : PT X x (tDT (gOf X) T W a)) (hb : PW X (.BoolOp .And (y :: r) p) (tDT (gOf X) T W b)) : PT X (.BoolOp .And (x :: y :: r) p) (tDT (gOf X) T W (.and a b)) := by
  refine (pw_and ha hb).pt.imp fun σ H Q ⟨H0, Hf0, Hf, env, sr, r⟩ => ?_
  simp only [evT] at r
  refine tDT_step lat_BP sr r fun k H1 Hf1 f1 sr1 q1 => ?_
  cases k with
  | true => rw [if_pos rfl] at q1 ⊢; exact ⟨H0, Hf0, Hf1, env, sr1, q1⟩
  | false => rw [if_neg Bool.false_ne_true] at q1 ⊢; exact q1 _ _ (Fut.refl sr1.sub)
theorem t_or {r : List Expr} (ha : PT X x (tDT (gOf X) T W a)) (hb : PW X (.BoolOp .Or (y :: r) p) (tDT (gOf X) T W b)) : PT X (.BoolOp .Or (x :: y :: r) p) (tDT (gOf X) T W (.or a b)) := by
  refine (pw_or ha hb).pt.imp fun σ H Q ⟨H0, Hf0, Hf, env, sr, r⟩ => ?_
  simp only [evT] at r
  refine tDT_step lat_BP sr r fun k H1 Hf1 f1 sr1 q1 => ?_
  cases k with
  | false => rw [if_neg Bool.false_ne_true] at q1 ⊢; exact ⟨H0, Hf0, Hf1, env, sr1, q1⟩
  | true => rw [if_pos rfl] at q1 ⊢; exact q1 _ _ (Fut.refl sr1.sub)
theorem t_not (ha : PT X x (tDT (gOf X) T W a)) : PT X (.UnaryOp .Not x p) (tDT (gOf X) T W (.not a)) := by
  refine (pt_not ha).imp fun σ H Q ⟨H0, Hf0, Hf, env, sr, r⟩ => ?_
  simp only [evT] at r
  refine tDT_step lat_BP sr r fun k H1 Hf1 f1 sr1 q1 => ?_
  exact q1 _ _ (Fut.refl sr1.sub)
theorem e_ife (hc : PT X z (tDT (gOf X) T W c)) (ha : PE X x (tD (gOf X) T W a)) (hb : PE X y (tD (gOf X) T W b)) : PE X (.IfExp z x y p) (tD (gOf X) T W (.ife c a b)) := by
  refine (pe_ifExp hc ha hb).imp fun σ H Q ⟨H0, Hf0, Hf, env, sr, r⟩ => ?_
  simp only [ev] at r
  refine tDT_step lat_OP sr r fun k H1 Hf1 f1 sr1 q1 => ?_
  cases k with
  | true => rw [if_pos rfl] at q1 ⊢; exact ⟨H0, Hf0, Hf1, env, sr1, q1⟩
  | false => rw [if_neg Bool.false_ne_true] at q1 ⊢; exact ⟨H0, Hf0, Hf1, env, sr1, q1⟩
theorem e_tup {xs : List Expr} (ha : PA X xs (tDA (gOf X) T W a)) : PE X (.Tuple xs k p) (tD (gOf X) T W (.tup a)) := by
  refine (pe_tup ha).imp fun σ H Q ⟨H0, Hf0, Hf, env, sr, r⟩ => ?_
  simp only [ev] at r
  refine tDA_step lat_OP sr r fun ds vs H1 Hf1 f1 r1 sr1 q1 => ?_
  obtain ⟨hl, q2⟩ := ifr q1
  exact ⟨by rw [r1.length]; exact okLen_iff hl, oq_tup sr1.sub r1 q2⟩
theorem e_lst {xs : List Expr} (ha : PA X xs (tDA (gOf X) T W a)) : PE X (.List xs p) (tDX (gOf X) T W (.lst a)) := by
  refine (pe_lst ha).imp fun σ H Q ⟨H0, Hf0, Hf, env, sr, r⟩ => ?_
  simp only [ev] at r
  refine tDA_step lat_XP sr r fun ds vs H1 Hf1 f1 r1 sr1 q1 => ?_
  obtain ⟨hl, q2⟩ := ifr q1
  exact ⟨by rw [r1.length]; exact okLen_iff hl, fq_lst sr1.sub r1 q2⟩
theorem a_nil : PA X [] (tDA (gOf X) T W .nil) := pa_nil.imp fun σ H Q ⟨H0, Hf0, Hf, env, sr, r⟩ => by
  simp only [evs] at r
  exact r [] H Hf (Fut.refl sr.sub) .nil
theorem a_cons {xs : List Expr} (ha : PE X x (tD (gOf X) T W a)) (hb : PA X xs (tDA (gOf X) T W b)) (hs : staB x = false) : PA X (x :: xs) (tDA (gOf X) T W (.cons a b)) := by
  refine (pa_cons ha hb (star_of hs)).imp fun σ H Q ⟨H0, Hf0, Hf, env, sr, r⟩ => ?_
  simp only [evs] at r
  refine tD_step lat_AP sr r fun d v H1 Hf1 _ f1 r1 sr1 q1 => ?_
  refine tDA_step lat_AP sr1 q1 fun ds vs H2 Hf2 f2 r2 sr2 q2 => ?_
  exact q2 _ _ _ (Fut.refl sr2.sub) (.cons (r1.mono f2.f) r2)
theorem p_nil : PO X none (tDP (gOf X) T W .nil) := po_none.imp fun σ H Q ⟨H0, Hf0, Hf, env, sr, r⟩ => by
  simp only [evP] at r
  exact r H Hf (Fut.refl sr.sub)
theorem p_some (ha : PE X x (tD (gOf X) T W a)) : PO X (some x) (tDP (gOf X) T W (.cons a .nil)) := by
  refine (po_some ha).imp fun σ H Q ⟨H0, Hf0, Hf, env, sr, r⟩ => ?_
  simp only [evP] at r
  refine tD_step lat_PP sr r fun d v H1 Hf1 _ f1 r1 sr1 q1 => ?_
  cases r1 <;> first | exact q1.elim | exact ⟨_, rfl, q1 _ _ (Fut.refl sr1.sub)⟩
theorem e_ix (ha : PE X x (tD (gOf X) T W a)) (hb : PE X y (tD (gOf X) T W b)) (hs : slB y = false) : PE X (.Subscript x y p) (tD (gOf X) T W (.ix a b)) := by
  refine (pe_ix ix_ok ha hb (plain_of hs)).imp fun σ H Q ⟨H0, Hf0, Hf, env, sr, r⟩ => ?_
  simp only [ev] at r
  refine tD_step lat_OP sr r fun d v H1 Hf1 _ f1 r1 sr1 q1 => ?_
  refine tD_step lat_OP sr1 q1 fun e w H2 Hf2 _ f2 r2 sr2 q2 => ?_
  exact rD_of sr2.sub (r1.mono f2.f) r2 (ixD_ne _ _) q2
theorem e_sl {l h : Option Expr} {p2 : Pos} (ha : PE X x (tD (gOf X) T W a)) (hb : PO X l (tDP (gOf X) T W b)) (hc : PO X h (tDP (gOf X) T W c)) : PE X (.Subscript x (.Slice l h none p2) p) (tDX (gOf X) T W (.sl a b c)) := by
  refine (pe_slice sl_ok ha hb hc).imp fun σ H Q ⟨H0, Hf0, Hf, env, sr, r⟩ => ?_
  simp only [ev] at r
  refine tD_step lat_XP sr r fun d v H1 Hf1 _ f1 r1 sr1 q1 => ?_
  refine tDP_step lat_XP sr1 q1 fun l' H2 Hf2 f2 sr2 q2 => ?_
  refine tDP_step lat_XP sr2 q2 fun h' H3 Hf3 f3 sr3 q3 => ?_
  refine ⟨Hf3, d, sr3.sub, r1.mono (f2.f.trans f3.f), ?_⟩
  cases hs : slD d l' h' with
  | ok r => rw [hs] at q3; exact ⟨r, rfl, q3⟩
  | err w => exact absurd hs (slD_ne _ _ _ _)
  | bad => rw [hs] at q3; exact q3.elim
theorem stars_of {e : PySem.Env} {p : Pos} : ∀ (l : List Expr), (∀ y ∈ l, staB y = false) → (backTo p (starEach l e)).any (·.1) = false
  | [], _ => rfl
  | w :: ws, h => by
    rw [star_of (h w List.mem_cons_self)]
    exact stars_of ws fun y hy => h y (List.mem_cons_of_mem _ hy)
/-- a call of a def or class of the module -/
theorem call_of {z : Str × Fn} (G : GoodM N sc n T.hm X) (K : Know (gOf X) n T) (hz : z ∈ T.fn) : ∃ f, X.mg z.1 = some (.ref f) ∧ PySem.W.keepIn X.K (.ref f) = true ∧ ∀ (W : WE), Takes X W → ∀ (pins : List (Addr × Obj)) (s : Shared) (σ : St) (H Hf : Hp) (Q : VK) (us : List Value) (vs : List V) (ds : List D),
    Inv X pins σ H s → Vals vs us → Same Hf H → TbOk (gOf X) H Hf → Reps (gOf X) Hf vs ds → RG (gOf X) W σ (OP (gOf X) Q) (z.2 ds) H Hf → wpAny (model X.prog X.w) X.A (call (.ref f) us) (EP X pins σ Q) X.xe s := by
  cases hh : T.hm with
  | false =>
    obtain ⟨f, h1, h2, h3⟩ := (K.fn hh z hz).ex
    exact ⟨f, h1, h2, fun W tk => h3 X rfl (G.calmR hh).2 W tk⟩
  | true =>
    obtain ⟨f, h1, h2, h3⟩ := (K.fh hh z hz).ex
    exact ⟨f, h1, h2, fun W tk => h3 X rfl (G.hot hh) W tk⟩
theorem e_call0 {j : Nat} {s : Str} {q : Pos} (G : GoodM N sc n T.hm X) (tk : Takes X W) (K : Know (gOf X) n T) (h1 : (T.fn[j]?).map (·.1) = some s) (h2 : glB sc s = true) (h3 : nmB s = true) :
    PE X (.Call (.Name s q) [] [] p) (tD (gOf X) T W (.call j .nil)) := by
  obtain ⟨d1, d2, _⟩ := nm_of h3
  cases hg : T.fn[j]? with
  | none => rw [hg] at h1; cases h1
  | some z =>
    obtain ⟨s', F⟩ := z
    rw [hg] at h1; cases h1
    obtain ⟨f, hm, hk, run⟩ := call_of G K (List.mem_of_getElem? hg)
    refine ⟨fun pins st σ H Q I ⟨H0, Hf0, Hf, env, sr, r⟩ => ?_⟩
    simp only [ev, hg, evs, R.bind_ok] at r
    refine PySem.wpAny_Call_Name_kw (ld_glob I (gl_of G.toGoodB h2) hm ?_ d1)
    exact PySem.W.callWith_K0 I.kIn hk (run W tk pins st σ H Hf Q [] [] [] I .nil sr.sub sr.tb .nil r)
theorem e_call {j : Nat} {s : Str} {y : Expr} {ys : List Expr} {q : Pos} (G : GoodM N sc n T.hm X) (tk : Takes X W) (K : Know (gOf X) n T) (h1 : (T.fn[j]?).map (·.1) = some s) (h2 : glB sc s = true) (h3 : nmB s = true) (ha : PA X (y :: ys) (tDA (gOf X) T W a)) (hs : ∀ z ∈ y :: ys, staB z = false) :
    PE X (.Call (.Name s q) (y :: ys) [] p) (tD (gOf X) T W (.call j a)) := by
  obtain ⟨d1, d2, _⟩ := nm_of h3
  cases hg : T.fn[j]? with
  | none => rw [hg] at h1; cases h1
  | some z =>
    obtain ⟨s', F⟩ := z
    rw [hg] at h1; cases h1
    obtain ⟨f, hm, hk, run⟩ := call_of G K (List.mem_of_getElem? hg)
    refine ⟨fun pins st σ H Q I ⟨H0, Hf0, Hf, env, sr, r⟩ => ?_⟩
    simp only [ev, hg] at r
    refine PySem.wpAny_Call_Name_kw (ld_glob I (gl_of G.toGoodB h2) hm ?_ d1)
    refine PySem.W.callWith_K (h₀ := X.base) I.ok.mod.kin hk (thn (ha.run p pins st σ H (fun vs H1 => ∃ Hf1 ds, Same Hf1 H1 ∧ TbOk (gOf X) H1 Hf1 ∧ Reps (gOf X) Hf1 vs ds ∧ RG (gOf X) W σ (OP (gOf X) Q) (F ds) H1 Hf1) I
      (tDA_step lat_OP sr r fun ds vs H1 Hf1 f1 r1 sr1 q1 => ⟨Hf1, ds, sr1.sub, sr1.tb, r1, q1⟩)) fun us s1 ⟨vs, H1, I1, rv, Hf1, ds, sub, tb, rr, q⟩ => ⟨I1.kIn, run W tk pins s1 σ H1 Hf1 Q us vs ds I1 rv sub tb rr q⟩) (star_of (hs y List.mem_cons_self)) ?_
    exact stars_of ys fun y hy => hs y (List.mem_cons_of_mem _ hy)
/-- a call with a keyword -/
theorem e_callK1 {j : Nat} {s k : Str} {y v : Expr} {ys : List Expr} {q kp : Pos} (G : Good N sc n X) (tk : Takes X W) (K : Know (gOf X) n T) (h1 : (T.kf[j]?).map (fun z => (z.1, z.2.1)) = some (s, [k])) (h2 : glB sc s = true) (h3 : nmB s = true) (ha : PA X (y :: ys) (tDA (gOf X) T W a)) (hs : ∀ z ∈ y :: ys, staB z = false) (hb : PE X v (tD (gOf X) T W b)) :
    PE X (.Call (.Name s q) (y :: ys) [⟨some k, v, kp⟩] p) (tD (gOf X) T W (.callK1 j a b)) := by
  obtain ⟨d1, d2, _⟩ := nm_of h3
  cases hg : T.kf[j]? with
  | none => rw [hg] at h1; cases h1
  | some z =>
    obtain ⟨s', ks', F⟩ := z
    rw [hg] at h1; cases h1
    obtain ⟨f, hm, hk, run⟩ := (K.kf _ (List.mem_of_getElem? hg)).ex
    refine ⟨fun pins st σ H Q I ⟨H0, Hf0, Hf, env, sr, r⟩ => ?_⟩
    simp only [ev, hg] at r
    refine PySem.wpAny_Call_Name_kw (ld_glob I (gl_of G.toGoodB h2) hm ?_ d1)
    refine PySem.W.callWith_KW (h₀ := X.base) I.ok.mod.kin hk rfl (thn (ha.run p pins st σ H (fun vs H1 => ∃ Hf1 ds, SR (gOf X) H0 Hf0 σ H1 Hf1 env ∧ Reps (gOf X) Hf1 vs ds ∧ RG (gOf X) W σ (OP (gOf X) Q) ((ev T b env).bind fun z => F (ds ++ [z])) H1 Hf1) I
      (tDA_step lat_OP sr r fun ds vs H1 Hf1 f1 r1 sr1 q1 => ⟨Hf1, ds, sr1, r1, q1⟩)) fun us s1 ⟨vs, H1, I1, rv, Hf1, ds, sr1, rr, q⟩ => ?_) ?_ (star_of (hs y List.mem_cons_self))
    · refine thn ((pk_cons hb pk_nil).run p pins s1 σ H1 (fun zs H2 => ∃ Hf2 es, zs.length = 1 ∧ Same Hf2 H2 ∧ TbOk (gOf X) H2 Hf2 ∧ Reps (gOf X) Hf2 vs ds ∧ Reps (gOf X) Hf2 zs es ∧ RG (gOf X) W σ (OP (gOf X) Q) (F (ds ++ es)) H2 Hf2) I1
        (tD_step lat_OP sr1 q fun d v' H2 Hf2 _ f2 r2 sr2 q2 => ⟨Hf2, [d], rfl, sr2.sub, sr2.tb, Reps.mono f2.f rr, .cons r2 .nil, q2⟩)) fun ws s2 ⟨zs, H2, I2, rz, Hf2, es, l2, sub, tb, r1, r2, q2⟩ => ⟨I2.kIn, run X rfl G.room W tk pins s2 σ H2 Hf2 Q us ws vs zs ds es I2 rv rz (rz.length.symm.trans l2) sub tb r1 r2 q2⟩
    · rw [Bool.or_eq_false_iff]
      exact ⟨by rw [star_of (hs y List.mem_cons_self)]; exact stars_of ys fun y hy => hs y (List.mem_cons_of_mem _ hy), rfl⟩
/-- a call with two keywords -/
theorem e_callK2 {j : Nat} {s k k' : Str} {y v v' : Expr} {ys : List Expr} {q kp kp' : Pos} (G : Good N sc n X) (tk : Takes X W) (K : Know (gOf X) n T) (h1 : (T.kf[j]?).map (fun z => (z.1, z.2.1)) = some (s, [k, k'])) (h2 : glB sc s = true) (h3 : nmB s = true) (ha : PA X (y :: ys) (tDA (gOf X) T W a)) (hs : ∀ z ∈ y :: ys, staB z = false) (hb : PE X v (tD (gOf X) T W b)) (hc : PE X v' (tD (gOf X) T W c)) :
    PE X (.Call (.Name s q) (y :: ys) [⟨some k, v, kp⟩, ⟨some k', v', kp'⟩] p) (tD (gOf X) T W (.callK2 j a b c)) := by
  obtain ⟨d1, d2, _⟩ := nm_of h3
  cases hg : T.kf[j]? with
  | none => rw [hg] at h1; cases h1
  | some z =>
    obtain ⟨s', ks', F⟩ := z
    rw [hg] at h1; cases h1
    obtain ⟨f, hm, hk, run⟩ := (K.kf _ (List.mem_of_getElem? hg)).ex
    refine ⟨fun pins st σ H Q I ⟨H0, Hf0, Hf, env, sr, r⟩ => ?_⟩
    simp only [ev, hg] at r
    refine PySem.wpAny_Call_Name_kw (ld_glob I (gl_of G.toGoodB h2) hm ?_ d1)
    refine PySem.W.callWith_KW (h₀ := X.base) I.ok.mod.kin hk rfl (thn (ha.run p pins st σ H (fun vs H1 => ∃ Hf1 ds, SR (gOf X) H0 Hf0 σ H1 Hf1 env ∧ Reps (gOf X) Hf1 vs ds ∧ RG (gOf X) W σ (OP (gOf X) Q) ((ev T b env).bind fun z => (ev T c env).bind fun w => F (ds ++ [z, w])) H1 Hf1) I
      (tDA_step lat_OP sr r fun ds vs H1 Hf1 f1 r1 sr1 q1 => ⟨Hf1, ds, sr1, r1, q1⟩)) fun us s1 ⟨vs, H1, I1, rv, Hf1, ds, sr1, rr, q⟩ => ?_) ?_ (star_of (hs y List.mem_cons_self))
    · refine thn ((pk_cons hb (pk_cons hc pk_nil)).run p pins s1 σ H1 (fun zs H2 => ∃ Hf2 es, zs.length = 2 ∧ Same Hf2 H2 ∧ TbOk (gOf X) H2 Hf2 ∧ Reps (gOf X) Hf2 vs ds ∧ Reps (gOf X) Hf2 zs es ∧ RG (gOf X) W σ (OP (gOf X) Q) (F (ds ++ es)) H2 Hf2) I1
        (tD_step lat_OP sr1 q fun d v' H2 Hf2 _ f2 r2 sr2 q2 => tD_step lat_OP sr2 q2 fun d' v'' H3 Hf3 _ f3 r3 sr3 q3 => ⟨Hf3, [d, d'], rfl, sr3.sub, sr3.tb, Reps.mono (f2.f.trans f3.f) rr, .cons (r2.mono f3.f) (.cons r3 .nil), q3⟩)) fun ws s2 ⟨zs, H2, I2, rz, Hf2, es, l2, sub, tb, r1, r2, q2⟩ => ⟨I2.kIn, run X rfl G.room W tk pins s2 σ H2 Hf2 Q us ws vs zs ds es I2 rv rz (rz.length.symm.trans l2) sub tb r1 r2 q2⟩
    · rw [Bool.or_eq_false_iff]
      exact ⟨by rw [star_of (hs y List.mem_cons_self)]; exact stars_of ys fun y hy => hs y (List.mem_cons_of_mem _ hy), rfl⟩
/-- xs[::-1] -/
theorem e_rev {k1 : Nat} {p1 p2 p3 : Pos} (ha : PE X x (tD (gOf X) T W a)) : PE X (.Subscript x (.Slice none none (some (.UnaryOp .USub (.Constant (.int 1) k1 p1) p2)) p3) p) (tDX (gOf X) T W (.rev a)) := by
  refine (L2.pe_revL ha).imp fun σ H Q ⟨H0, Hf0, Hf, env, sr, r⟩ => ?_
  simp only [ev] at r
  refine tD_step lat_XP sr r fun d v H1 Hf1 _ f1 r1 sr1 q1 => ?_
  cases r1 <;> first | exact q1.elim | skip
  rename_i al vs ds hl hr _
  exact ⟨_, _, rfl, lsq (same_rd sr1.sub hl), fq_lst sr1.sub (reps_rev hr) q1⟩
/-- a def that gives a list of its own -/
theorem e_calO {j : Nat} {s : Str} {xs : List Expr} {q : Pos} (G : Good N sc n X) (tk : Takes X W) (K : Know (gOf X) n T) (h1 : (T.ff[j]?).map (·.1) = some s) (h2 : glB sc s = true) (h3 : nmB s = true) (ha : PA X xs (tDA (gOf X) T W a)) (hs : ∀ z ∈ xs, staB z = false) (hb0 : xs = [] → a = .nil) :
    PE X (.Call (.Name s q) xs [] p) (tDX (gOf X) T W (.calO j a)) := by
  obtain ⟨d1, d2, _⟩ := nm_of h3
  cases hg : T.ff[j]? with
  | none => rw [hg] at h1; cases h1
  | some z =>
    obtain ⟨s', F⟩ := z
    rw [hg] at h1; cases h1
    obtain ⟨f, hm, hk, run⟩ := (K.ff _ (List.mem_of_getElem? hg)).ex
    have low : ∀ {σ : St} {Q : VK} {ds : List D} {H Hf : Hp}, RG (gOf X) W σ (XP (gOf X) Q) (lstR (F ds)) H Hf → RG (gOf X) W σ (FP (gOf X) Q) (F ds) H Hf := fun {σ Q ds H Hf} h => by
      cases hF : F ds with
      | ok d => rw [hF] at h; cases d <;> exact h
      | err z => rw [hF] at h; exact h
      | bad => rw [hF] at h; exact h
    refine ⟨fun pins st σ H Q I ⟨H0, Hf0, Hf, env, sr, r⟩ => ?_⟩
    simp only [ev, hg] at r
    refine PySem.wpAny_Call_Name_kw (ld_glob I (gl_of G.toGoodB h2) hm ?_ d1)
    cases xs with
    | nil =>
      obtain rfl := hb0 rfl
      simp only [evs, R.bind_ok] at r
      exact PySem.W.callWith_K0 I.kIn hk (run X rfl G.room W tk pins st σ H Hf Q [] [] [] I .nil sr.sub sr.tb .nil (low r))
    | cons y ys =>
      refine PySem.W.callWith_K (h₀ := X.base) I.ok.mod.kin hk (thn (ha.run p pins st σ H (fun vs H1 => ∃ Hf1 ds, Same Hf1 H1 ∧ TbOk (gOf X) H1 Hf1 ∧ Reps (gOf X) Hf1 vs ds ∧ RG (gOf X) W σ (XP (gOf X) Q) (lstR (F ds)) H1 Hf1) I
        (tDA_step lat_XP sr r fun ds vs H1 Hf1 f1 r1 sr1 q1 => ⟨Hf1, ds, sr1.sub, sr1.tb, r1, q1⟩)) fun us s1 ⟨vs, H1, I1, rv, Hf1, ds, sub, tb, rr, q⟩ => ⟨I1.kIn, run X rfl G.room W tk pins s1 σ H1 Hf1 Q us vs ds I1 rv sub tb rr (low q)⟩) (star_of (hs y List.mem_cons_self)) ?_
      exact stars_of ys fun y hy => hs y (List.mem_cons_of_mem _ hy)
end
end Rf
/-! # Rf22: sorted(xs) of ints, of rows of ints; max, min, sum -/
namespace Rf
open PySem PySem.Spec L2
open PySem.W (EachIs AllAlike Sortable dataLe dataLt rowLt dataLt_tuple dataLt_ints)
theorem intsOf_map : ∀ (is : List Int), intsOf (is.map .int) = some is
  | [] => rfl
  | i :: is => by simp [intsOf, intsOf_map is]
theorem intsOf_eq : ∀ {ds : List D} {is : List Int}, intsOf ds = some is → ds = is.map .int
  | [], is, h => by simp [intsOf] at h; subst h; rfl
  | d :: ds, is, h => by
    cases d <;> simp [intsOf] at h
    obtain ⟨js, h1, rfl⟩ := h
    rw [intsOf_eq h1]; rfl
theorem rowsOf_eq : ∀ {ds : List D} {rs : List (List Int)}, rowsOf ds = some rs → ds = rs.map rowD ∧ ∀ r ∈ rs, r ≠ []
  | [], rs, h => by simp [rowsOf] at h; subst h; exact ⟨rfl, by simp⟩
  | d :: ds, rs, h => by
    cases d with
    | tup xs =>
      simp only [rowsOf] at h
      split at h
      · rename_i i r rs' h1 h2
        cases h
        obtain ⟨e1, e2⟩ := rowsOf_eq h2
        refine ⟨by rw [e1, intsOf_eq h1]; rfl, fun r' hr => ?_⟩
        rcases List.mem_cons.mp hr with z | z
        · subst z; simp
        · exact e2 r' z
      · cases h
    | _ => simp [rowsOf] at h
theorem rowsOf_map : ∀ {rs : List (List Int)}, (∀ r ∈ rs, r ≠ []) → rowsOf (rs.map rowD) = some rs
  | [], _ => rfl
  | [] :: rs, h => absurd rfl (h [] List.mem_cons_self)
  | (i :: r) :: rs, h => by
    have e := rowsOf_map (rs := rs) fun r hr => h r (List.mem_cons_of_mem _ hr)
    simp only [List.map_cons, rowD, rowsOf, intsOf]
    rw [show rowsOf (List.map rowD rs) = some rs from e, intsOf_map r]
    rfl
theorem reps_of_ints {g : G} {H : Hp} : ∀ {vs : List V} {is : List Int}, Reps g H vs (is.map .int) → vs = is.map .int
  | _, [], .nil => rfl
  | _, i :: is, .cons r t => by cases r; rw [reps_of_ints t]; rfl
theorem leI_sorted (is : List Int) : (is.mergeSort leI).Pairwise (· ≤ ·) := by
  have h := List.pairwise_mergeSort (le := leI) (fun a b c h1 h2 => by simp [leI] at *; omega) (fun a b => by simp [leI]; omega) is
  exact h.imp fun {a b} z => by simpa [leI] using z
theorem leI_uniq {is js : List Int} (p : js.Perm is) (s : js.Pairwise (· ≤ ·)) : js = is.mergeSort leI :=
  List.Perm.eq_of_pairwise (fun a b _ _ h1 h2 => Int.le_antisymm h1 h2) s (leI_sorted is) (p.trans (List.mergeSort_perm is leI).symm)
/-! ### rows -/
def encR (r : List Int) : PyData := .tuple (r.map .int)
theorem leR_eq : dataLe false encR = leR := by
  funext p q
  show (!dataLt (.tuple (q.map .int)) (.tuple (p.map .int))) = _
  rw [dataLt_tuple]
  show (!rowLt (q.map .int) (p.map .int)) = _
  rw [dataLt_ints]
  unfold leR
  by_cases h : q < p
  · have h' : ¬ p ≤ q := fun r => List.not_lt.mpr r h
    simp [h, h']
  · have h' : p ≤ q := List.not_lt.mp h
    simp [h, h']
theorem py_row : ∀ r : List Int, (rowD r).py = some (encR r) := by
  intro r
  have key : ∀ r : List Int, pys (r.map .int) = some (r.map .int) := by
    intro r
    induction r with
    | nil => rfl
    | cons i r ih => simp [pys, D.py, ih]
  show (pys (r.map .int)).map PyData.tuple = _
  rw [key r]
  rfl
section
variable {X : Cx}
def EachR (s : Shared) (H Hf : Hp) (g : G) (v : Value) (r : List Int) : Prop := ∃ t, v = .ref t ∧ Rep g Hf (.ref t) (rowD r) ∧ ∃ as, Reads s.heap v (encR r) as
theorem each_rows {pins : List (Addr × Obj)} {σ : St} {H Hf : Hp} {s : Shared} (I : Inv X pins σ H s) (sub : Same Hf H) : ∀ {vs : List V} {us : List Value} {rs : List (List Int)}, Vals vs us → Reps (gOf X) Hf vs (rs.map rowD) → EachIs (EachR s H Hf (gOf X)) us rs
  | _, _, [], .nil, .nil => .nil
  | _, _, r :: rs, .cons rv tv, .cons rr tr => by
    refine .cons ?_ (each_rows I sub tv tr)
    have rr' := rr
    cases rr' with
    | tup h1 r1 =>
      cases rv
      obtain ⟨as, ha⟩ := Dp.reads I (encR r) _ _ ((rr.mono sub).dp (py_row r)) rfl
      exact ⟨_, rfl, rr, as, ha⟩
theorem out_rows {s : Shared} {H Hf : Hp} {g : G} : ∀ {us : List Value} {rs : List (List Int)}, EachIs (EachR s H Hf g) us rs → ∃ vs, Vals vs us ∧ Reps g Hf vs (rs.map rowD)
  | _, _, .nil => ⟨[], .nil, .nil⟩
  | _, _, .cons h t => by
    obtain ⟨a, rfl, rr, _⟩ := h
    obtain ⟨vs, h1, h2⟩ := out_rows t
    exact ⟨.ref a :: vs, .cons rfl h1, .cons rr h2⟩
theorem cr_sortedR (hu : X.A.units + 128 < cLine) : CallR X (.builtin "sorted") (fun vs H Q => ∃ (Hf : Hp) (a : Addr) (xs : List V) (rs : List (List Int)), Same Hf H ∧ vs = [.ref a] ∧ LsK X.K H a xs ∧ Reps (gOf X) Hf xs (rs.map rowD) ∧ (∀ r ∈ rs, r ≠ []) ∧ FQ (gOf X) H Hf ((rs.mergeSort leR).map rowD) Q) := by
  intro pins s σ H vs us Q I r h
  obtain ⟨Hf, a, xs, rs, sub, rfl, hs, rr, hne, q⟩ := h
  obtain ⟨its, rv, hl, hz⟩ := I.list (lsq hs)
  rw [Vals.ref1 r]
  have hE := each_rows I sub rv rr
  have hlen : rs.length ≤ sizeLine := by
    have := rr.length
    rw [List.length_map] at this
    rw [← this]; exact hz
  refine PySem.W.sorted_data (R := EachR s H Hf (gOf X)) (enc := encR) (bs := rs) hl.isList hE (hE.mono fun _ _ ⟨t, e, r1, as, ha⟩ => ⟨as, ha⟩) ?_ ?_ hlen ?_ fun out h1 h2 => ?_
  · intro d hd d' hd'
    obtain ⟨r1, _, rfl⟩ := List.mem_map.mp hd
    obtain ⟨r2, _, rfl⟩ := List.mem_map.mp hd'
    exact PySem.W.alike_ints r1 r2
  · refine .inl fun d hd => ?_
    obtain ⟨r1, hr, rfl⟩ := List.mem_map.mp hd
    cases r1 with
    | nil => exact absurd rfl (hne _ hr)
    | cons i r1 => exact ⟨_, _, rfl⟩
  · intro b hb
    have : (encR b).depth ≤ 1 := by
      unfold encR
      rw [PyData.depth, PySem.W.depth_ints]
      decide
    omega
  · rw [leR_eq] at h2
    obtain ⟨ws, k1, k2⟩ := out_rows h2
    obtain ⟨ep, he'⟩ := PyProof.Rows.sortedAll_at s.heap its out.toArray
    have hfr : H (s.heap.objs.size + 1) = none := I.hok.fresh (Nat.le_succ _)
    have hwl : ws.length ≤ sizeLine := by rw [k1.length, h1]; exact hlen
    have I2 : Inv X pins σ (upd H (s.heap.objs.size + 1) (.lst ws)) { s with heap := PyProof.Rows.sortedAll s.heap its (List.toArray out) } := I.laid (t' := s.toks) (fun _ _ => PyProof.Rows.sortedAll_old) (Nat.le_succ _) ⟨hwl, out, ep, k1, he'⟩
    exact ⟨.ref _, _, I2, rfl, q _ ws _ Hf (Fut.own sub hfr) hfr upd_same (sub.free hfr) k2⟩
end
end Rf
/-! # Rf6: built-ins, fields, methods, walks, comprehensions -/
namespace Rf
open PySem PySem.Spec L2

def biV : Bi → Value := fun b => match b.kd with | .fn id => .builtin id | .ty n => .type n | .mod id => .builtin id
def rBi (g : G) (b : Bi) : List V → Hp → VK → Prop := fun vs H Q => ∃ Hf ds, Same Hf H ∧ Reps g Hf vs ds ∧ ∃ r, biF b ds = .ok r ∧ XP g Q r H Hf
theorem biF_ne (b : Bi) (ds : List D) (z : Exn) : biF b ds ≠ .err z := by
  unfold biF
  split <;> first | (intro h; cases h; done) | (split <;> (intro h; cases h; done)) | skip
  unfold sortD
  split <;> first | (intro h; cases h; done) | (split <;> (intro h; cases h))
theorem reps1 {g : G} {H : Hp} {vs : List V} {d : D} (r : Reps g H vs [d]) : ∃ v, vs = [v] ∧ Rep g H v d := by
  cases r with
  | cons r t => cases t; exact ⟨_, rfl, r⟩
theorem reps2 {g : G} {H : Hp} {vs : List V} {d e : D} (r : Reps g H vs [d, e]) : ∃ v w, vs = [v, w] ∧ Rep g H v d ∧ Rep g H w e := by
  cases r with
  | cons r t => obtain ⟨w, rfl, q⟩ := reps1 t; exact ⟨_, _, rfl, r, q⟩
theorem rep_int {g : G} {H : Hp} {v : V} {i : Int} (r : Rep g H v (.int i)) : v = .int i := by cases r; rfl
section
variable {X : Cx}
theorem log2_lt {n k : Nat} (h : n < 2 ^ k) (hk : 0 < k) : n.log2 < k := by
  by_cases z : n = 0
  · subst z; simpa using hk
  · exact (Nat.log2_lt z).mpr h
theorem lt_log2 {n k : Nat} (h : n.log2 < k) : n < 2 ^ k := by
  by_cases z : n = 0
  · subst z; exact Nat.pow_pos (by decide)
  · exact (Nat.log2_lt z).mp h
theorem cr_lcm : CallR X (.builtin "math.lcm") (fun vs H Q => ∃ a b : Int, vs = [.int a, .int b] ∧ okLcm a b = true ∧ Q (.int ((Nat.lcm a.natAbs b.natAbs : Nat) : Int)) H) := by
  intro pins s σ H vs us Q I r h
  obtain ⟨a, b, rfl, hz, q⟩ := h
  obtain ⟨t, u, rfl⟩ := Vals.int2 r
  unfold okLcm at hz
  rw [Bool.and_eq_true] at hz
  have h1 := of_decide_eq_true hz.1
  have h2 := of_decide_eq_true hz.2
  have e1 : Nat.lcm 1 a.natAbs = a.natAbs := Nat.lcm_one_left _
  have m1 : (max 1 a.natAbs).log2 < 13000 := by
    rcases Nat.le_total 1 a.natAbs with z | z
    · rw [Nat.max_eq_right z]; exact h1
    · rw [Nat.max_eq_left z]; decide
  have m2 : (max a.natAbs b.natAbs).log2 < 13000 := by
    rcases Nat.le_total a.natAbs b.natAbs with z | z
    · rw [Nat.max_eq_right z]; exact h2
    · rw [Nat.max_eq_left z]; exact h1
  have big : ((((Nat.lcm 1 a.natAbs).lcm b.natAbs : Nat) : Int)).natAbs.log2 < bitsLine := by
    rw [e1, Int.natAbs_natCast, PySem.bitsLine_eq]
    refine Nat.lt_of_lt_of_le (log2_lt (k := 26000) ?_ (by decide)) (by decide)
    have l1 := lt_log2 h1
    have l2 := lt_log2 h2
    have l3 : a.natAbs.lcm b.natAbs ≤ a.natAbs * b.natAbs := Nat.div_le_self _ _
    refine Nat.lt_of_le_of_lt l3 ?_
    have e : (2 : Nat) ^ 26000 = 2 ^ 13000 * 2 ^ 13000 := by rw [← Nat.pow_add]
    rw [e]
    exact Nat.mul_lt_mul'' l1 l2
  refine PySem.call_function_meets PySem.W.MGF.kind_lcm PySem.W.MGF.plain_lcm PySem.W.MGF.entry_lcm (PySem.W.MGF.args_lcm _ _) (PySem.W.mg_run_lcm a t b u (by omega) (by omega) big).meets ?_
  rw [e1]
  exact ⟨.int _, H, I.tok _, ⟨_, rfl⟩, q⟩
theorem foldl_max : ∀ (i : Int) (is : List Int), is.foldl max i ∈ i :: is ∧ ∀ m ∈ i :: is, m ≤ is.foldl max i
  | i, [] => by simp
  | i, j :: is => by
    obtain ⟨h1, h2⟩ := foldl_max (max i j) is
    refine ⟨?_, fun m hm => ?_⟩
    · rcases List.mem_cons.mp h1 with z | z
      · rw [List.foldl_cons, z]
        rcases Int.le_total i j with y | y
        · rw [Int.max_eq_right y]; simp
        · rw [Int.max_eq_left y]; simp
      · exact List.mem_cons_of_mem _ (List.mem_cons_of_mem _ z)
    · have h3 := h2 (max i j) List.mem_cons_self
      rw [List.foldl_cons]
      rcases List.mem_cons.mp hm with z | z
      · subst z; omega
      · rcases List.mem_cons.mp z with z | z
        · subst z; omega
        · exact h2 m (List.mem_cons_of_mem _ z)
theorem foldl_min : ∀ (i : Int) (is : List Int), is.foldl min i ∈ i :: is ∧ ∀ m ∈ i :: is, is.foldl min i ≤ m
  | i, [] => by simp
  | i, j :: is => by
    obtain ⟨h1, h2⟩ := foldl_min (min i j) is
    refine ⟨?_, fun m hm => ?_⟩
    · rcases List.mem_cons.mp h1 with z | z
      · rw [List.foldl_cons, z]
        rcases Int.le_total i j with y | y
        · rw [Int.min_eq_left y]; simp
        · rw [Int.min_eq_right y]; simp
      · exact List.mem_cons_of_mem _ (List.mem_cons_of_mem _ z)
    · have h3 := h2 (min i j) List.mem_cons_self
      rw [List.foldl_cons]
      rcases List.mem_cons.mp hm with z | z
      · subst z; omega
      · rcases List.mem_cons.mp z with z | z
        · subst z; omega
        · exact h2 m (List.mem_cons_of_mem _ z)
theorem bi_ok (hc : X.calm = true) (hu : X.A.units + 128 < cLine) (b : Bi) : CallR X (biV b) (rBi (gOf X) b) := by
  intro pins s σ H vs us Q I rv h
  obtain ⟨Hf, ds, sub, rr, r, er, q⟩ := h
  cases b with
  | abs =>
    unfold biF at er
    split at er <;> first | cases er | skip
    all_goals (rename_i hb; first | cases hb | skip)
    obtain ⟨v, rfl, r1⟩ := reps1 rr
    cases r1
    exact call_abs pins s σ H _ us Q I rv ⟨_, rfl, oq_here sub (.int _) q⟩
  | int =>
    unfold biF at er
    split at er <;> first | cases er | skip
    all_goals (rename_i hb; first | cases hb | skip)
    all_goals (obtain ⟨v, rfl, r1⟩ := reps1 rr; cases r1)
    · exact call_int1 pins s σ H _ us Q I rv (.inl ⟨_, rfl, oq_here sub (.int _) q⟩)
    · exact call_int1 pins s σ H _ us Q I rv (.inr ⟨_, rfl, oq_here sub (.int _) q⟩)
  | len =>
    unfold biF at er
    split at er <;> first | cases er | skip
    all_goals (rename_i hb; first | cases hb | skip)
    all_goals (obtain ⟨v, rfl, r1⟩ := reps1 rr)
    · cases r1 with
      | lst h1 r2 => exact call_len_seq pins s σ H _ us Q I rv ⟨_, _, rfl, .inl ((lsq (same_rd sub h1))), by rw [r2.length]; exact oq_here sub (.int _) q⟩
    · cases r1 with
      | tup h1 r2 => exact call_len_seq pins s σ H _ us Q I rv ⟨_, _, rfl, .inr (same_sqT sub h1), by rw [r2.length]; exact oq_here sub (.int _) q⟩
  | list =>
    unfold biF at er
    split at er <;> first | cases er | skip
    all_goals (rename_i hb; first | cases hb | skip)
    all_goals (obtain ⟨v, rfl, r1⟩ := reps1 rr)
    · cases r1 with
      | lst h1 r2 => exact call_list_of pins s σ H _ us Q I rv ⟨_, _, rfl, .inl ((lsq (same_rd sub h1))), fq_lst sub r2 q⟩
    · cases r1 with
      | tup h1 r2 => exact call_list_of pins s σ H _ us Q I rv ⟨_, _, rfl, .inr (same_sqT sub h1), fq_lst sub r2 q⟩
  | tuple =>
    unfold biF at er
    split at er <;> first | cases er | skip
    all_goals (rename_i hb; first | cases hb | skip)
    all_goals (obtain ⟨v, rfl, r1⟩ := reps1 rr)
    · cases r1 with
      | lst h1 r2 => exact call_tuple_of pins s σ H _ us Q I rv ⟨_, _, rfl, .inl ⟨(lsq (same_rd sub h1)), oq_tup sub r2 q⟩⟩
    · cases r1 with
      | tup h1 r2 => exact call_tuple_of pins s σ H _ us Q I rv ⟨_, _, rfl, .inr ⟨same_sqT sub h1, oq_here sub (.tup h1 r2) q⟩⟩
  | min2 =>
    unfold biF at er
    split at er <;> first | cases er | skip
    all_goals (rename_i hb; first | cases hb | skip)
    obtain ⟨v, w, rfl, r1, r2⟩ := reps2 rr
    cases r1; cases r2
    exact call_min2 hc pins s σ H _ us Q I rv ⟨_, _, rfl, oq_here sub (.int _) q⟩
  | max2 =>
    unfold biF at er
    split at er <;> first | cases er | skip
    all_goals (rename_i hb; first | cases hb | skip)
    obtain ⟨v, w, rfl, r1, r2⟩ := reps2 rr
    cases r1; cases r2
    exact call_max2 hc pins s σ H _ us Q I rv ⟨_, _, rfl, oq_here sub (.int _) q⟩
  | gcd =>
    unfold biF at er
    split at er <;> first | cases er | skip
    all_goals (rename_i hb; first | cases hb | skip)
    obtain ⟨v, w, rfl, r1, r2⟩ := reps2 rr
    cases r1; cases r2
    exact cr_gcd pins s σ H _ us Q I rv ⟨_, _, rfl, oq_here sub (.int _) q⟩
  | lcm =>
    unfold biF at er
    split at er <;> first | cases er | skip
    all_goals (rename_i hb; first | cases hb | skip)
    obtain ⟨v, w, rfl, r1, r2⟩ := reps2 rr
    cases r1; cases r2
    split at er
    · rename_i hz
      cases er
      exact cr_lcm pins s σ H _ us Q I rv ⟨_, _, rfl, hz, oq_here sub (.int _) q⟩
    · cases er
  | max1 =>
    unfold biF at er
    split at er <;> first | cases er | skip
    all_goals (rename_i hb; first | cases hb | skip)
    obtain ⟨v, rfl, r1⟩ := reps1 rr
    split at er
    · rename_i i is hi
      cases er
      obtain rfl := intsOf_eq hi
      cases r1 with
      | lst h1 r2 =>
        obtain rfl := reps_of_ints r2
        refine cr_max hc pins s σ H _ us Q I rv ⟨_, i :: is, rfl, lsq (same_rd sub h1), by simp, fun m h1 h2 => ?_⟩
        have e : is.foldl max i = m := by
          obtain ⟨k1, k2⟩ := foldl_max i is
          exact Int.le_antisymm (h2 _ k1) (k2 m h1)
        rw [e] at q
        exact oq_here sub (.int _) q
    · cases er
  | min1 =>
    unfold biF at er
    split at er <;> first | cases er | skip
    all_goals (rename_i hb; first | cases hb | skip)
    obtain ⟨v, rfl, r1⟩ := reps1 rr
    split at er
    · rename_i i is hi
      cases er
      obtain rfl := intsOf_eq hi
      cases r1 with
      | lst h1 r2 =>
        obtain rfl := reps_of_ints r2
        refine cr_min hc pins s σ H _ us Q I rv ⟨_, i :: is, rfl, lsq (same_rd sub h1), by simp, fun m h1 h2 => ?_⟩
        have e : is.foldl min i = m := by
          obtain ⟨k1, k2⟩ := foldl_min i is
          exact Int.le_antisymm (k2 m h1) (h2 _ k1)
        rw [e] at q
        exact oq_here sub (.int _) q
    · cases er
  | sum1 =>
    unfold biF at er
    split at er <;> first | cases er | skip
    all_goals (rename_i hb; first | cases hb | skip)
    obtain ⟨v, rfl, r1⟩ := reps1 rr
    split at er
    · rename_i is hi
      cases er
      obtain rfl := intsOf_eq hi
      cases r1 with
      | lst h1 r2 =>
        obtain rfl := reps_of_ints r2
        exact cr_sum hc pins s σ H _ us Q I rv ⟨_, is, rfl, lsq (same_rd sub h1), oq_here sub (.int _) q⟩
    · cases er
  | sorted =>
    unfold biF at er
    split at er <;> first | cases er | skip
    all_goals (rename_i hb; first | cases hb | skip)
    obtain ⟨v, rfl, r1⟩ := reps1 rr
    rename_i xs
    have kI : ∀ is : List Int, xs = is.map .int → r = .lst ((is.mergeSort leI).map .int) → wpAny (model X.prog X.w) X.A (call (biV .sorted) us) (EP X pins σ Q) X.xe s := fun is hi e => by
      subst e hi
      cases r1 with
      | lst h1 r2 =>
        obtain rfl := reps_of_ints r2
        refine cr_sortedI pins s σ H _ us Q I rv ⟨_, is, rfl, lsq (same_rd sub h1), fun ns' p hp hs hn => ?_⟩
        obtain rfl := leI_uniq hp hs
        exact fq_lst sub (reps_ints _) q p hn
    unfold sortD at er
    split at er
    · cases er
      exact kI [] rfl (by rw [List.mergeSort_nil]; rfl)
    · rename_i i ds
      split at er
      · rename_i is hi
        cases er
        exact kI (i :: is) (by rw [intsOf_eq hi]; rfl) rfl
      · cases er
    · split at er
      · rename_i rs hr
        cases er
        obtain ⟨e1, e2⟩ := rowsOf_eq hr
        rw [e1] at r1
        cases r1 with
        | lst h1 r2 => exact cr_sortedR hu pins s σ H _ us Q I rv ⟨Hf, _, _, rs, sub, rfl, same_rd sub h1, r2, e2, q⟩
      · cases er
    · cases er
/-- isinstance of data with a built-in class -/
theorem tyX_of {Hf H : Hp} {v : V} {d : D} {t : String} (sub : Same Hf H) (r : Rep (gOf X) Hf v d) (h : tyD d = some t) : TyX X.K H v (.type t) := by
  cases r with
  | non => cases h; exact .base .non
  | bl b => cases h; exact .base (.bl b)
  | int b => cases h; exact .base (.int b)
  | str b => cases h; exact .base (.str b)
  | lst h1 r1 =>
    cases h
    rcases same_rd sub h1 with (z | ⟨o, z⟩) | ⟨its, n, hk, _, _⟩
    · exact .base (.lst z)
    · exact .base (.frz z)
    · exact .kList hk rfl
  | tup h1 r1 =>
    cases h
    rcases same_sqT sub h1 with (z | ⟨o, z⟩) | ⟨o, its, n, hk, hc, _⟩
    · exact .base (.tup z)
    · exact .fTuple z
    · exact .kTuple hk hc
  | obj _ _ _ => cases h
  | exc0 _ _ _ => cases h
  | excD _ _ _ _ _ => cases h
theorem isiB_ne (t : Ty) (d : D) (z : Exn) : isiB t d ≠ .err z := by
  unfold isiB
  split <;> (intro h; cases h)
theorem isiB_ok {t : Ty} {d : D} {b : Bool} (h : isiB t d = .ok b) : ∃ s, tyD d = some s ∧ kitB s t.st = some b := by
  cases t <;> cases d <;> simp only [isiB, R.ok.injEq, reduceCtorEq] at h <;> subst h <;> exact ⟨_, rfl, by decide +kernel⟩
end

section
variable {X : Cx} {N : List Str} {sc : Scope} {n : Nat} {T : Tb} {W : WE} {a b c : E} {x y z : Expr} {p : Pos} {k : Nat}
theorem bi_names (b : Bi) : match b.kd with | .fn id => bootBuiltins b.nm = some (.builtin id) | .ty t => bootBuiltins b.nm = some (.type t) | .mod _ => True := by
  cases b <;> first | exact trivial | (dsimp only [Bi.kd, Bi.nm]; decide +kernel)
theorem bi_nm (b : Bi) : nmB b.nm = true := by cases b <;> decide +kernel
theorem e_bi {b : Bi} {q : Pos} {xs : List Expr} (G : Good N sc n X) (K : Know (gOf X) n T) (h1 : (match b.kd with | .mod id => decide ((b.nm, id) ∈ T.md) | _ => decide (b.nm ∈ T.bn)) = true) (h2 : glB sc b.nm = true) (ha : PA X (x :: xs) (tDA (gOf X) T W a)) (hs : ∀ z ∈ x :: xs, staB z = false) :
    PE X (.Call (.Name b.nm q) (x :: xs) [] p) (tDX (gOf X) T W (.bi b a)) := by
  obtain ⟨d1, d2, d3⟩ := nm_of (bi_nm b)
  have st : starEach (x :: xs) X.env = (false, eval x X.env) :: starEach xs X.env := star_of (hs x List.mem_cons_self)
  have pl : (backTo p (starEach xs X.env)).any (·.1) = false := stars_of xs fun y hy => hs y (List.mem_cons_of_mem _ hy)
  have gl := gl_of G.toGoodB h2
  have rule := bi_ok G.calm (units_of G.toGoodB) b
  have nms := bi_names b
  have key : PE X (.Call (.Name b.nm q) (x :: xs) [] p) (tCB (rBi (gOf X) b) (tDA (gOf X) T W a)) := by
    unfold biV at rule
    cases hk : b.kd with
    | fn id =>
      rw [hk] at rule nms h1
      exact pe_callB rule gl (K.bn _ (of_decide_eq_true h1)) nms ha d3 d1 st pl
    | ty t =>
      rw [hk] at rule nms h1
      exact pe_callTy rule gl (K.bn _ (of_decide_eq_true h1)) nms ha d3 d1 st pl
    | mod id =>
      rw [hk] at rule nms h1
      exact pe_callBfun rule gl (K.md _ (of_decide_eq_true h1)) ha d1 st pl
  refine key.imp fun σ H Q ⟨H0, Hf0, Hf, env, sr, r⟩ => ?_
  simp only [ev] at r
  refine tDA_step lat_XP sr r fun ds vs H1 Hf1 f1 r1 sr1 q1 => ?_
  refine ⟨Hf1, ds, sr1.sub, r1, ?_⟩
  cases hf : biF b ds with
  | ok r => rw [hf] at q1; exact ⟨r, rfl, q1⟩
  | err z => exact absurd hf (biF_ne _ _ _)
  | bad => rw [hf] at q1; exact q1.elim
theorem ty_names (t : Ty) : bootBuiltins t.nm = some (.type t.st) := by cases t <;> decide +kernel
theorem ty_nm (t : Ty) : nmB t.nm = true := by cases t <;> decide +kernel
theorem isi_key {t : Ty} {q q2 : Pos} (G : GoodB N sc X) (K : Know (gOf X) n T) (h1 : ("isinstance" : Str) ∈ T.bn) (h2 : t.nm ∈ T.bn) (h3 : glB sc "isinstance" = true) (h4 : glB sc t.nm = true) (ha : PE X x (tD (gOf X) T W a)) (hs : staB x = false) :
    PE X (.Call (.Name "isinstance" q) [x, .Name t.nm q2] [] p) (tCB (rIsi X.K) (tCons (tD (gOf X) T W a) (tCons (tC (.ty t.st)) tNil))) := by
  obtain ⟨d1, _, d3⟩ := nm_of (ty_nm t)
  exact pe_callB call_isi (gl_of G h3) (K.bn _ h1) (by decide +kernel) (pa_cons ha (pa_cons (pe_bltn (gl_of G h4) (K.bn _ h2) (ty_names t) rfl d3 d1) pa_nil (star_of rfl)) (star_of hs)) (by decide +kernel) (by decide +kernel) (star_of hs)
    (by rw [star_of rfl]; rfl)
theorem e_isi {t : Ty} {q q2 : Pos} (G : GoodB N sc X) (K : Know (gOf X) n T) (h1 : ("isinstance" : Str) ∈ T.bn) (h2 : t.nm ∈ T.bn) (h3 : glB sc "isinstance" = true) (h4 : glB sc t.nm = true) (ha : PE X x (tD (gOf X) T W a)) (hs : staB x = false) :
    PE X (.Call (.Name "isinstance" q) [x, .Name t.nm q2] [] p) (tD (gOf X) T W (.isi a t)) := by
  refine (isi_key G K h1 h2 h3 h4 ha hs).imp fun σ H Q ⟨H0, Hf0, Hf, env, sr, r⟩ => ?_
  simp only [ev] at r
  refine tD_step lat_OP sr r fun d v H1 Hf1 _ f1 r1 sr1 q1 => ?_
  cases hb : isiB t d with
  | ok b =>
    rw [hb] at q1
    obtain ⟨s, h5, h6⟩ := isiB_ok hb
    exact ⟨_, _, _, _, b, rfl, .ty _, tyX_of sr1.sub r1 h5, kit_ty h6, oq_here sr1.sub (.bl b) q1⟩
  | err z => exact absurd hb (isiB_ne _ _ _)
  | bad => rw [hb] at q1; exact q1.elim
theorem hx_mem {p : Addr × Obj} (h : (gOf X).hx = some p) : p ∈ X.pn := by
  have h' : hxB X.calm X.pn = some p := h
  unfold hxB at h'
  split at h'
  · cases h'
  · cases hp : X.pn with
    | nil => rw [hp] at h'; cases h'
    | cons q r => rw [hp] at h'; cases h'; exact List.mem_cons_self
theorem hx_fields (hh : HotX n X) {p : Addr × Obj} (h : (gOf X).hx = some p) : ∃ vs, p.2.data = .fields vs := by
  obtain ⟨q, r, e, hv⟩ := hh.pin
  have h' : hxB X.calm X.pn = some p := h
  rw [hh.cold, e] at h'
  have h2 : some q = some p := h'
  cases h2
  exact hv
/-- isinstance of an error -/
def rXi (K : PySem.W.Frag) (pn : List (Addr × Obj)) : List V → Hp → VK → Prop := fun xs H Q => ∃ (D a : Addr) (oe : Obj), (a, oe) ∈ pn ∧ L2.ExcC K D ∧ oe.cls = .ref D ∧ (∃ vs, oe.data = .fields vs) ∧ rIsX K D a oe xs H Q
theorem call_xi : CallR X (.builtin "isinstance") (rXi X.K X.pn) := fun pins s σ H xs us Q I r ⟨D, a, oe, h1, h2, h3, h4, h5⟩ => call_isX h1 h2 h3 h4 pins s σ H xs us Q I r h5
theorem isxD_ne (xi : List (Str × List (Str × Bool))) (j : Nat) (d : D) (z : Exn) : isxD xi j d ≠ .err z := by
  unfold isxD
  split <;> (try split) <;> (try split) <;> (intro h; cases h)
theorem e_isx {j : Nat} {c : Str} {q q2 : Pos} (hh : HotX n X) (G : GoodB N sc X) (K : Know (gOf X) n T) (h1 : ("isinstance" : Str) ∈ T.bn) (h2 : (T.xi[j]?).map (·.1) = some c) (h3 : glB sc "isinstance" = true) (h4 : glB sc c = true) (h5 : nmB c = true) (ha : PE X x (tD (gOf X) T W a)) (hs : staB x = false) :
    PE X (.Call (.Name "isinstance" q) [x, .Name c q2] [] p) (tD (gOf X) T W (.isx a j)) := by
  obtain ⟨d1, _, d3⟩ := nm_of h5
  cases hz : T.xi[j]? with
  | none => rw [hz] at h2; cases h2
  | some z =>
    obtain ⟨c', tb⟩ := z
    rw [hz] at h2; cases h2
    obtain ⟨cv, v, rv, uv, hn, hall⟩ := (K.xi _ (List.mem_of_getElem? hz)).ex
    have hc : PE X (.Name c' q2) (tC v) := by
      rcases hn with hm | ⟨hm, t, rfl, rfl, hb⟩
      · exact pe_glob (gl_of G h4) hm rv d1
      · exact pe_bltn (gl_of G h4) hm hb rfl d3 d1
    refine (pe_callB call_xi (gl_of G h3) (K.bn _ h1) (by decide +kernel) (pa_cons ha (pa_cons hc pa_nil (star_of rfl)) (star_of hs)) (by decide +kernel) (by decide +kernel) (star_of hs) (by rw [star_of rfl]; rfl)).imp fun σ H Q ⟨H0, Hf0, Hf, env, sr, r⟩ => ?_
    simp only [ev] at r
    refine tD_step lat_OP sr r fun d w H1 Hf1 _ f1 r1 sr1 q1 => ?_
    cases hb : isxD T.xi j d with
    | err z => exact absurd hb (isxD_ne _ _ _ _)
    | bad => rw [hb] at q1; exact q1.elim
    | ok e =>
      rw [hb] at q1
      unfold isxD at hb
      split at hb
      · rename_i ce fse _hev
        rw [hz] at hb
        simp only at hb
        cases hl : tb.lookup ce with
        | none => rw [hl] at hb; cases hb
        | some b =>
          rw [hl] at hb
          cases hb
          obtain ⟨D, hD1, hD2, hD3⟩ := hall (ce, b) (PySem.mem_of_lookup hl)
          cases r1 with
          | exc0 e1 e2 e3 =>
            rw [hD1] at e2
            exact (show rXi X.K X.pn [.ref _, v] H1 Q from ⟨D, _, _, hx_mem e1, hD2, (Option.some.inj e2).symm, hx_fields hh e1, v, cv, b, rfl, uv, hD3, (fun dd z => by rw [e3] at z; cases z), oq_here sr1.sub (.bl b) q1⟩)
          | excD e1 e2 e3 e4 e5 =>
            rw [hD1] at e2
            exact (show rXi X.K X.pn [.ref _, v] H1 Q from ⟨D, _, _, hx_mem e1, hD2, (Option.some.inj e2).symm, hx_fields hh e1, v, cv, b, rfl, uv, hD3, (fun dd z => by rw [e3] at z; cases z; exact ⟨_, sr1.sub _ _ e4⟩), oq_here sr1.sub (.bl b) q1⟩)
      · cases hb
/-- by its value: what is no not, and, or, comparison -/
def plainT : Expr → Bool
  | .UnaryOp .Not _ _ => false | .BoolOp _ _ _ => false | .IfExp _ _ _ _ => false | .Compare _ _ _ _ => false | _ => true
theorem t_plain {e : E} (h : plainT x = true) (he : ∀ env, evT T e env = (ev T e env).bind truD) (ha : PE X x (tD (gOf X) T W e)) : PT X x (tDT (gOf X) T W e) := by
  refine (pt_truth ha ?_).imp fun σ H Q ⟨H0, Hf0, Hf, env, sr, r⟩ => ?_
  · intro w
    cases x with
    | UnaryOp op e p => cases op <;> first | rfl | cases h
    | BoolOp _ _ _ => cases h
    | IfExp _ _ _ _ => cases h
    | Compare _ _ _ _ => cases h
    | _ => rfl
  · rw [he] at r
    refine tD_step lat_BP sr r fun d v H1 Hf1 _ f1 r1 sr1 q1 => ?_
    cases hb : truD d with
    | ok b => rw [hb] at q1; exact ⟨b, tru_rep sr1.sub r1 hb, q1 _ _ (Fut.refl sr1.sub)⟩
    | err z => unfold truD at hb; split at hb <;> cases hb
    | bad => rw [hb] at q1; exact q1.elim
theorem e_att {f : Str} (K : Know (gOf X) n T) (ha : PE X x (tD (gOf X) T W a)) (hs : calB x = false) : PE X (.Attribute x f p) (tD (gOf X) T W (.att a f)) := by
  refine (pe_fld ha ?_).imp fun σ H Q ⟨H0, Hf0, Hf, env, sr, r⟩ => ?_
  · cases x <;> first | rfl | cases hs
  · simp only [ev] at r
    refine tD_step lat_OP sr r fun d v H1 Hf1 _ f1 r1 sr1 q1 => ?_
    cases r1 with
    | @obj aa C dx cc fs gs hm ha hf =>
      simp only [fldD] at q1
      obtain ⟨hin, q2⟩ := ifr q1
      obtain ⟨C', hm', cl, na⟩ := K.at_ _ hin
      have : C' = C := by
        have e : some (Value.ref C') = some (Value.ref C) := hm'.symm.trans hm
        cases e; rfl
      subst this
      cases hl : gs.lookup f with
      | none => rw [hl] at q2; exact q2.elim
      | some d' =>
        rw [hl] at q2
        obtain ⟨u, hu, ru⟩ := hf.lookup hl
        exact ⟨_, _, _, _, u, rfl, sr1.sub _ _ ha, cl, na, hu, oq_here sr1.sub ru q2⟩
    | _ => exact q1.elim
theorem lst_at {g : G} {H0 Hf0 H Hf : Hp} {σ : St} {env : Env} {i : Nat} {ds : List D} (sr : SR g H0 Hf0 σ H Hf env) (h : getL env i = .ok ds) : ∃ p vs, σ[i]? = some (some (.ref p)) ∧ LsK g.K H p vs ∧ Reps g Hf vs ds := by
  unfold getL at h
  split at h
  · rename_i xs he
    cases h
    obtain ⟨v, hσ, z⟩ := sr.slot i _ he
    cases z with
    | o hp hf h0 q => exact ⟨_, _, hσ, .of hp, q⟩
  · rename_i xs he
    cases h
    obtain ⟨v, hσ, z⟩ := sr.slot i _ he
    cases z with
    | v q => cases q with
      | lst h1 r1 => exact ⟨_, _, hσ, same_rd sr.sub h1, r1⟩
  · cases h
/-- a list of one's own, read at a place -/
theorem e_oix {i : Nat} {s : Str} {q : Pos} (G : GoodB N sc X) (h1 : N[i]? = some s) (h2 : visB sc s = true) (h3 : nmB s = true) (hb : PE X y (tD (gOf X) T W b)) (hs : slB y = false) : PE X (.Subscript (.Name s q) y p) (tD (gOf X) T W (.oix i b)) := by
  obtain ⟨d1, d2, _⟩ := nm_of h3
  refine (pe_ix ix_list (pe_var (i := i) (by rw [G.eN]; exact h1) (G.vis _ h2) d1 d2) hb (plain_of hs)).imp fun σ H Q ⟨H0, Hf0, Hf, env, sr, r⟩ => ?_
  simp only [ev] at r
  cases hg : getL env i with
  | bad => rw [hg] at r; exact r.elim
  | err z => unfold getL at hg; split at hg <;> cases hg
  | ok ds =>
    rw [hg] at r
    simp only [R.bind_ok] at r
    obtain ⟨pp, vs, hv, hp, rr⟩ := lst_at sr hg
    refine ⟨_, hv, ?_⟩
    refine tD_step lat_OP sr (k := fun y => ixD (.lst ds) y) r fun d w H1 Hf1 _ f1 r1 sr1 q1 => ?_
    cases r1 with
    | int j =>
      simp only [ixD] at q1
      have rr1 := rr.mono f1.f
      unfold atI at q1
      cases hj : ixN ds.length j with
      | none => rw [hj] at q1; exact q1.elim
      | some m =>
        rw [hj] at q1
        simp only [Option.bind_some] at q1
        cases hd : ds[m]? with
        | none => rw [hd] at q1; exact q1.elim
        | some d' =>
          rw [hd] at q1
          obtain ⟨u, hu, ru⟩ := rr1.get hd
          refine ⟨_, vs, j, u, rfl, rfl, (lsq (same_rdE f1.s hp)), ?_, oq_here sr1.sub ru q1⟩
          unfold atI
          rw [rr.length, hj]
          exact hu
    | _ => exact q1.elim
theorem e_olen {i : Nat} {s : Str} {q q2 : Pos} (G : GoodB N sc X) (K : Know (gOf X) n T) (hl : ("len" : Str) ∈ T.bn) (hg : glB sc "len" = true) (h1 : N[i]? = some s) (h2 : visB sc s = true) (h3 : nmB s = true) : PE X (.Call (.Name "len" q) [.Name s q2] [] p) (tD (gOf X) T W (.olen i)) := by
  obtain ⟨d1, d2, _⟩ := nm_of h3
  refine (pe_callB call_len_seq (gl_of G hg) (K.bn _ hl) (by decide +kernel) (pa_cons (pe_var (i := i) (by rw [G.eN]; exact h1) (G.vis _ h2) d1 d2) pa_nil (star_of rfl)) (by decide +kernel) (by decide +kernel) (star_of rfl) (by rfl)).imp fun σ H Q ⟨H0, Hf0, Hf, env, sr, r⟩ => ?_
  simp only [ev] at r
  cases hg : getL env i with
  | bad => rw [hg] at r; exact r.elim
  | err z => unfold getL at hg; split at hg <;> cases hg
  | ok ds =>
    rw [hg] at r
    obtain ⟨pp, vs, hv, hp, rr⟩ := lst_at sr hg
    exact ⟨_, hv, _, _, rfl, .inl (lsq hp), by rw [rr.length]; exact oq_here sr.sub (.int _) r⟩
end
end Rf
/-! # Rf23: methods, len, in, properties of own objects -/
namespace Rf
open PySem PySem.Spec L2
section
variable {prog : Program} {w : World} {A : Around} {E : Value → Shared → Prop} {s : Shared} {env : PySem.Env}
/-- o.m(..), whatever o is -/
theorem own_call {o : Expr} {name : Str} {apos pos : Pos} {args : List Expr} {Q : Value → Shared → Prop} (hbase : attributeBase o name env (eval o env) = eval o env)
    (hst : (backTo pos (starEach args env)).all (fun x => !x.1) = true) (hn : args.length < 30) (hline : (apos.endLine == pos.line) = true)
    (h : wpAny (model prog w) A (eval o env) (fun ov s₁ => ∀ pl, wpAny (model prog w) A (getMethod ov name pl) (fun fx s₂ => wpAny (model prog w) A (callWith pos fx.1 fx.2 (backTo pos (starEach args env)) (backToKw pos (keywordEach [] env))) Q E s₂) E s₁) E s) :
    wpAny (model prog w) A (eval (.Call (.Attribute o name apos) args [] pos) env) Q E s := by
  rw [PySem.arm_eval_Call, hbase]
  refine wpAny_bind (wpAny_mono h (fun ov s₁ h₁ => ?_) fun _ _ e => e)
  refine wpAny_bind (wpAny_standAt ?_)
  have hform : methodCallForm (args.length + ([] : List Keyword).length) (backTo pos (starEach args env)) (backToKw pos (keywordEach [] env)) = true := by
    unfold methodCallForm
    rw [hst]
    show (true && true && decide (args.length + 0 + 0 < 30)) = true
    simpa using hn
  have hpos : methodCallPos true o env apos pos = pure pos := by unfold methodCallPos; simp [hline]
  unfold methodCall
  rw [hform]
  refine wpAny_bind (wpAny_holding ?_)
  show wpAny _ _ (getMethod ov name _) _ _ _
  refine wpAny_mono (h₁ _) (fun fx s₂ h₂ => ?_) fun _ _ e => e
  exact wpAny_bind (wpAny_of_eq hpos h₂)
end
theorem plains_of {e : PySem.Env} {p : Pos} : ∀ (l : List Expr), (∀ y ∈ l, staB y = false) → (backTo p (starEach l e)).all (fun x => !x.1) = true
  | [], _ => rfl
  | w :: ws, h => by
    rw [star_of (h w List.mem_cons_self)]
    exact plains_of ws fun y hy => h y (List.mem_cons_of_mem _ hy)
section
variable {X : Cx} {N : List Str} {sc : Scope} {n : Nat} {T : Tb} {W : WE} {a b c : E} {x y z : Expr} {p : Pos} {k : Nat}
theorem base_of {x : Expr} {m : Str} {env : PySem.Env} (h : calB x = false) : attributeBase x m env (eval x env) = eval x env := by
  cases x <;> first | rfl | cases h
/-- a method of an object is called: what the reading says -/
theorem obj_of {g : G} {W : WE} {σ : St} {Q : VK} {H Hf : Hp} {j : Nat} {d : D} {rs : R (List D)} {mt : List (Str × Str × Fn)} {v : V} (r : Rep g Hf v d) (h : RG g W σ (OP g Q) (methD mt j d rs) H Hf) :
    ∃ c m F fs gs aa C dx, mt[j]? = some (c, m, F) ∧ d = .obj c gs ∧ v = .ref aa ∧ g.mg c = some (.ref C) ∧ Hf aa = some (.ins C dx fs) ∧ fs.lookup m = none ∧ RG g W σ (OP g Q) (rs.bind fun ds => F (.obj c gs :: ds)) H Hf := by
  unfold methD at h
  split at h
  · rename_i c m F c' fs e1
    obtain ⟨⟨rfl, hn⟩, h2⟩ := ifr h
    cases r with
    | obj hm ha hf => exact ⟨_, _, _, _, _, _, _, _, e1, rfl, rfl, hm, ha, hf.lookup_none hn, h2⟩
  · exact h.elim
theorem spec_of {g : G} {W : WE} {σ : St} {Q : VK} {H Hf : Hp} {j : Nat} {d : D} {ds : List D} {mt : List (Str × Str × Fn)} {v : V} (r : Rep g Hf v d) (h : RG g W σ (OP g Q) (specD mt j d ds) H Hf) :
    ∃ c m F fs gs aa C dx, mt[j]? = some (c, m, F) ∧ d = .obj c gs ∧ v = .ref aa ∧ g.mg c = some (.ref C) ∧ Hf aa = some (.ins C dx fs) ∧ RG g W σ (OP g Q) (F (.obj c gs :: ds)) H Hf := by
  unfold specD at h
  split at h
  · rename_i c m F c' fs e1
    obtain ⟨rfl, h2⟩ := ifr h
    cases r with
    | obj hm ha hf => exact ⟨_, _, _, _, _, _, _, _, e1, rfl, rfl, hm, ha, h2⟩
  · exact h.elim
theorem ref_inj {mg : Str → Option Value} {c : Str} {C C' : Addr} (h : mg c = some (.ref C)) (h' : mg c = some (.ref C')) : C' = C := by
  have e : some (Value.ref C') = some (Value.ref C) := h'.symm.trans h
  cases e; rfl
theorem e_meth {j : Nat} {xs : List Expr} {m : Str} {pa : Pos} (G : Good N sc n X) (tk : Takes X W) (K : Know (gOf X) n T) (h1 : (T.mt[j]?).map (·.2.1) = some m) (hl : (pa.endLine == p.line) = true) (hn : xs.length < 30) (ha : PE X x (tD (gOf X) T W a)) (hs : calB x = false) (hb : PA X xs (tDA (gOf X) T W b)) (hst : ∀ y ∈ xs, staB y = false) (hb0 : xs = [] → b = .nil) :
    PE X (.Call (.Attribute x m pa) xs [] p) (tD (gOf X) T W (.meth j a b)) := by
  refine ⟨fun pins s σ H Q I ⟨H0, Hf0, Hf, env, sr, r⟩ => ?_⟩
  simp only [ev] at r
  refine own_call (base_of hs) (plains_of xs hst) hn hl (thn (ha.run pins s σ H (fun v H1 => ∃ Hf1 d, Rep (gOf X) Hf1 v d ∧ SR (gOf X) H0 Hf0 σ H1 Hf1 env ∧ RG (gOf X) W σ (OP (gOf X) Q) (methD T.mt j d (evs T b env)) H1 Hf1) I (tD_step lat_OP sr r fun d v H1 Hf1 _ f1 r1 sr1 q1 => ⟨Hf1, d, r1, sr1, q1⟩)) fun u s1 ⟨v, H1, I1, rv, Hf1, d, r1, sr1, q1⟩ => fun pl => ?_)
  obtain ⟨c, m', F, fs, gs, aa, C, dx, e1, rfl, rfl, hm, hi, hlk, q2⟩ := obj_of r1 q1
  rw [e1] at h1; cases h1
  obtain ⟨C', f, hm', cl, me, run⟩ := (K.mt _ (List.mem_of_getElem? e1)).ex
  obtain rfl := ref_inj hm hm'
  cases rv
  refine getmeth_ok I1 (sr1.sub _ _ hi) cl me hlk ?_
  have fin : ∀ us s2 vs H2 Hf2 ds, Inv X pins σ H2 s2 → Vals vs us → Fut H1 Hf1 H2 Hf2 → Reps (gOf X) Hf2 vs ds → SR (gOf X) H0 Hf0 σ H2 Hf2 env → RG (gOf X) W σ (OP (gOf X) Q) (F (.obj c gs :: ds)) H2 Hf2 → wpAny (model X.prog X.w) X.A (call (.ref f) (.ref aa :: us)) (EP X pins σ Q) X.xe s2 := fun us s2 vs H2 Hf2 ds I2 rv f2 rr sr2 q =>
    run.wp X rfl X.A rfl G.room W tk pins s2 σ H2 Hf2 Q (.ref aa :: us) (.ref aa :: vs) (.obj c gs :: ds) I2 (.cons rfl rv) sr2.sub sr2.tb (.cons (r1.mono f2.f) rr) q
  cases xs with
  | nil =>
    refine PySem.W.callWith_K0 (first := [.ref aa]) I1.kIn me.kp ?_
    obtain rfl := hb0 rfl
    simp only [evs, R.bind_ok] at q2
    exact fin [] s1 [] H1 Hf1 [] I1 .nil (Fut.refl sr1.sub) .nil sr1 q2
  | cons y ys =>
    refine PySem.W.callWith_K (first := [.ref aa]) (h₀ := X.base) I1.ok.mod.kin me.kp (thn (hb.run p pins s1 σ H1 (fun vs H2 => ∃ Hf2 ds, Fut H1 Hf1 H2 Hf2 ∧ Reps (gOf X) Hf2 vs ds ∧ SR (gOf X) H0 Hf0 σ H2 Hf2 env ∧ RG (gOf X) W σ (OP (gOf X) Q) (F (.obj c gs :: ds)) H2 Hf2) I1
      (tDA_step lat_OP sr1 q2 fun ds vs H2 Hf2 f2 r2 sr2 q3 => ⟨Hf2, ds, f2, r2, sr2, q3⟩)) fun us s2 ⟨vs, H2, I2, rv, Hf2, ds, f2, rr, sr2, q⟩ => ⟨I2.kIn, fin us s2 vs H2 Hf2 ds I2 rv f2 rr sr2 q⟩) (star_of (hst y List.mem_cons_self)) ?_
    exact stars_of ys fun y hy => hst y (List.mem_cons_of_mem _ hy)
/-- len(o) -/
def rLen (X : Cx) (T : Tb) (W : WE) (j : Nat) : TE → TE := fun ta σ H Q => ta σ H fun v H1 => ∃ Hf1 d, Rep (gOf X) Hf1 v d ∧ Same Hf1 H1 ∧ TbOk (gOf X) H1 Hf1 ∧ RG (gOf X) W σ (OP (gOf X) Q) ((specD T.ln j d []).bind lenD) H1 Hf1
theorem e_mlen {j : Nat} {q : Pos} (G : Good N sc n X) (tk : Takes X W) (K : Know (gOf X) n T) (hl : ("len" : Str) ∈ T.bn) (hg : glB sc "len" = true) (h1 : (T.ln[j]?).map (·.2.1) = some ("__len__" : Str)) (ha : PE X x (tD (gOf X) T W a)) (hs : staB x = false) :
    PE X (.Call (.Name "len" q) [x] [] p) (tD (gOf X) T W (.mlen j a)) := by
  refine ⟨fun pins s σ H Q I ⟨H0, Hf0, Hf, env, sr, r⟩ => ?_⟩
  simp only [ev] at r
  refine PySem.wpAny_Call_Name_kw (ld_blt (u := .builtin "len") I (gl_of G.toGoodB hg) (K.bn _ hl) (by decide +kernel) ?_ (by decide) (by decide))
  refine PyProof.Rows.callWith_builtin1 (thn ((pa_cons ha pa_nil (star_of hs)).run p pins s σ H (fun vs H1 => ∃ v Hf1 d, vs = [v] ∧ Rep (gOf X) Hf1 v d ∧ SR (gOf X) H0 Hf0 σ H1 Hf1 env ∧ RG (gOf X) W σ (OP (gOf X) Q) ((specD T.ln j d []).bind lenD) H1 Hf1) I (tD_step lat_OP sr r fun d v H1 Hf1 _ f1 r1 sr1 q1 => ⟨v, Hf1, d, rfl, r1, sr1, q1⟩)) fun us s1 ⟨vs, H1, I1, rv, v, Hf1, d, ev', r1, sr1, q1⟩ => ?_) (star_of hs) rfl
  subst ev'
  obtain ⟨u, rfl, ru⟩ := vals1 rv
  obtain ⟨c, m', F, fs, gs, aa, C, dx, e1, rfl, rfl, hm, hi, q2⟩ := spec_of (Q := fun v H2 => ∃ Hf2 d, Rep (gOf X) Hf2 v d ∧ Same Hf2 H2 ∧ Fut H1 Hf1 H2 Hf2 ∧ RG (gOf X) W σ (OP (gOf X) Q) (lenD d) H2 Hf2) r1 (q1.bind.imp fun d _ q3 v2 H2 Hf2 f2 r2 => ⟨Hf2, d, r2, f2.i, f2, RG.later lat_OP q3 f2⟩)
  rw [e1] at h1; cases h1
  obtain ⟨C', f, k, hk, hm', cl, me, run⟩ := (K.ln _ (List.mem_of_getElem? e1)).ex
  obtain rfl := ref_inj hm hm'
  cases ru
  obtain ⟨mA, O, _, _, _, _⟩ := ins_get I1.hok (sr1.sub _ _ hi)
  obtain ⟨od, J, _⟩ := O.look
  obtain ⟨mf, hF⟩ := I1.fr
  refine PySem.W.len_K hF I1.ok.mod.kin J me.at_ me.fn ?_
  refine wpAny_mono (run.wp X rfl X.A.in1 rfl (G.room.mono hk).in1 W tk pins s1 σ H1 Hf1 _ [.ref aa] [.ref aa] [.obj c gs] I1 (.cons rfl .nil) sr1.sub sr1.tb (.cons r1 .nil) q2) (fun u2 s2 hz => ?_) fun _ _ z => z
  obtain ⟨v2, H2, I2, rv2, Hf2, d2, r2, sub2, f2, q3⟩ := hz
  unfold lenD at q3
  split at q3
  · rename_i kk
    obtain ⟨⟨k1, k2⟩, q4⟩ := ifr q3
    cases r2
    obtain ⟨t, rfl⟩ := rv2
    refine ⟨⟨k1, by omega⟩, ?_⟩
    exact ⟨.int kk, H2, I2.tok _, ⟨_, rfl⟩, oq_here sub2 (.int kk) q4⟩
  · exact q3.elim
/-- a in o, a not in o -/
theorem in_go {ng : Bool} {j : Nat} (G : Good N sc n X) (tk : Takes X W) (K : Know (gOf X) n T) (h1 : (T.mt[j]?).map (·.2.1) = some ("__contains__" : Str)) {pins : List (Addr × Obj)} {s : Shared} {σ : St} {H Hf : Hp} {x y : V} {v u : Value} {d e : D} {Q : Value → Shared → Prop} {P : Bool → Hp → Hp → Prop}
    (I : Inv X pins σ H s) (rx : RelV x v) (ry : RelV y u) (sub : Same Hf H) (tb : TbOk (gOf X) H Hf) (rd : Rep (gOf X) Hf x d) (re : Rep (gOf X) Hf y e) (h : RG (gOf X) W σ P (asB (specD T.mt j e [d])) H Hf)
    (k : ∀ b s2 H2 Hf2, Inv X pins σ H2 s2 → Fut H Hf H2 Hf2 → P b H Hf → Q (.bool (if ng then !b else b)) s2) : wpAny (model X.prog X.w) X.A (compareOp (if ng then .NotIn else .In) v u) Q X.xe s := by
  obtain ⟨c, m', F, fs, gs, aa, C, dx, e1, rfl, rfl, hm, hi, q2⟩ := spec_of (W := W) (σ := σ) (Q := fun v2 H2 => ∃ b Hf2, v2 = .bl b ∧ Fut H Hf H2 Hf2 ∧ P b H Hf) re (by
    cases hz : specD T.mt j e [d] with
    | ok r =>
      rw [hz] at h
      cases r <;> first | exact h.elim | skip
      rename_i b
      intro v2 H2 Hf2 f2 r2
      cases r2
      exact ⟨b, Hf2, rfl, f2, h⟩
    | err z => rw [hz] at h; exact h
    | bad => rw [hz] at h; exact h)
  rw [e1] at h1; cases h1
  obtain ⟨C', f, hm', cl, me, run⟩ := (K.mt _ (List.mem_of_getElem? e1)).ex
  obtain rfl := ref_inj hm hm'
  cases ry
  obtain ⟨mA, O, _, _, _, _⟩ := ins_get I.hok (sub _ _ hi)
  obtain ⟨od, J, _⟩ := O.look
  obtain ⟨mf, hF⟩ := I.fr
  have call := run.wp X rfl X.A rfl G.room W tk pins s σ H Hf _ [.ref aa, v] [.ref aa, x] [.obj c gs, d] I (.cons rfl (.cons rx .nil)) sub tb (.cons re (.cons rd .nil)) q2
  cases ng with
  | false =>
    refine PySem.W.in_K hF I.ok.mod.kin J me.at_ me.fn (wpAny_mono call (fun u2 s2 hz => ?_) fun _ _ z => z)
    obtain ⟨v2, H2, I2, rv2, b, Hf2, rfl, f2, hp⟩ := hz
    cases rv2
    exact wpAny_truthy_bool (k b s2 H2 Hf2 I2 f2 hp)
  | true =>
    refine PySem.W.notIn_K hF I.ok.mod.kin J me.at_ me.fn (wpAny_mono call (fun u2 s2 hz => ?_) fun _ _ z => z)
    obtain ⟨v2, H2, I2, rv2, b, Hf2, rfl, f2, hp⟩ := hz
    cases rv2
    exact wpAny_truthy_bool (k b s2 H2 Hf2 I2 f2 hp)
theorem e_min {ng : Bool} {j : Nat} (G : Good N sc n X) (tk : Takes X W) (K : Know (gOf X) n T) (h1 : (T.mt[j]?).map (·.2.1) = some ("__contains__" : Str)) (ha : PE X x (tD (gOf X) T W a)) (hb : PE X y (tD (gOf X) T W b)) (hm : behindInMarks (if ng then .NotIn else .In) y = false) :
    PE X (.Compare x [if ng then .NotIn else .In] [y] p) (tD (gOf X) T W (.min_ j ng a b)) := by
  refine ⟨fun pins s σ H Q I ⟨H0, Hf0, Hf, env, sr, r⟩ => ?_⟩
  simp only [ev] at r
  refine wpAny_Compare1 (binT ha hb (R := fun x1 y1 H2 => ∃ Hf2 d e, Rep (gOf X) Hf2 x1 d ∧ Rep (gOf X) Hf2 y1 e ∧ Same Hf2 H2 ∧ TbOk (gOf X) H2 Hf2 ∧ RG (gOf X) W σ (OP (gOf X) Q) ((asB (specD T.mt j e [d])).bind fun k => .ok (.bl (if ng then !k else k))) H2 Hf2) I ?_ fun v u s2 x1 y1 H2 I2 rx ry ⟨Hf2, d, e, rd, re, sub, tb, q⟩ => ?_) hm
  · refine tD_step lat_OP sr r fun d v H1 Hf1 _ f1 r1 sr1 q1 => tD_step lat_OP sr1 q1 fun e v2 H2 Hf2 _ f2 r2 sr2 q2 => ⟨Hf2, d, e, r1.mono f2.f, r2, sr2.sub, sr2.tb, q2⟩
  · exact in_go G tk K h1 I2 rx ry sub tb rd re q.bind fun k s3 H3 Hf3 I3 f3 q3 => ⟨.bl (if ng then !k else k), H3, I3, rfl, q3 (.bl _) H3 Hf3 f3 (.bl _)⟩
theorem t_min {ng : Bool} {j : Nat} (G : Good N sc n X) (tk : Takes X W) (K : Know (gOf X) n T) (h1 : (T.mt[j]?).map (·.2.1) = some ("__contains__" : Str)) (ha : PE X x (tD (gOf X) T W a)) (hb : PE X y (tD (gOf X) T W b)) (hm : behindInMarks (if ng then .NotIn else .In) y = false) :
    PT X (.Compare x [if ng then .NotIn else .In] [y] p) (tDT (gOf X) T W (.min_ j ng a b)) := by
  refine ⟨fun pins s σ H Q I ⟨H0, Hf0, Hf, env, sr, r⟩ => ?_⟩
  simp only [evT] at r
  refine wpAny_isTrue_Compare1 (thn (ha.run pins s σ H (fun x1 H1 => ∃ Hf1 d, Rep (gOf X) Hf1 x1 d ∧ SR (gOf X) H0 Hf0 σ H1 Hf1 env ∧ RG (gOf X) W σ (BP Q) ((ev T b env).bind fun e => (asB (specD T.mt j e [d])).bind fun k => .ok (if ng then !k else k)) H1 Hf1) I (tD_step lat_BP sr r fun d v H1 Hf1 _ f1 r1 sr1 q1 => ⟨Hf1, d, r1, sr1, q1⟩)) fun v s1 ⟨x1, H1, I1, rx, Hf1, d, rd, sr1, q1⟩ =>
    thn (hb.run pins s1 σ H1 (fun y1 H2 => ∃ Hf2 e, Rep (gOf X) Hf2 x1 d ∧ Rep (gOf X) Hf2 y1 e ∧ Same Hf2 H2 ∧ TbOk (gOf X) H2 Hf2 ∧ RG (gOf X) W σ (BP Q) ((asB (specD T.mt j e [d])).bind fun k => .ok (if ng then !k else k)) H2 Hf2) I1 (tD_step lat_BP sr1 q1 fun e v2 H2 Hf2 _ f2 r2 sr2 q2 => ⟨Hf2, e, rd.mono f2.f, r2, sr2.sub, sr2.tb, q2⟩)) fun u s2 ⟨y1, H2, I2, ry, Hf2, e, rd2, re, sub, tb, q⟩ => ?_) hm
  refine in_go G tk K h1 I2 rx ry sub tb rd2 re q.bind fun k s3 H3 Hf3 I3 f3 q3 => ?_
  exact wpAny_truthy_bool ⟨H3, I3, q3 H3 Hf3 f3⟩
/-- a property -/
theorem e_prop {j : Nat} {fx : Str} (G : Good N sc n X) (tk : Takes X W) (K : Know (gOf X) n T) (h1 : (T.pr[j]?).map (·.2.1) = some fx) (ha : PE X x (tD (gOf X) T W a)) (hs : calB x = false) : PE X (.Attribute x fx p) (tD (gOf X) T W (.prop j a)) := by
  refine ⟨fun pins s σ H Q I ⟨H0, Hf0, Hf, env, sr, r⟩ => ?_⟩
  simp only [ev] at r
  refine attr_of (base_of hs) (thn (ha.run pins s σ H (fun v H1 => ∃ Hf1 d, Rep (gOf X) Hf1 v d ∧ SR (gOf X) H0 Hf0 σ H1 Hf1 env ∧ RG (gOf X) W σ (OP (gOf X) Q) (specD T.pr j d []).noErr H1 Hf1) I (tD_step lat_OP sr r fun d v H1 Hf1 _ f1 r1 sr1 q1 => ⟨Hf1, d, r1, sr1, q1⟩)) fun u s1 ⟨v, H1, I1, rv, Hf1, d, r1, sr1, q1⟩ => ?_)
  obtain ⟨c, m', F, fs, gs, aa, C, dx, e1, rfl, rfl, hm, hi, q2⟩ := spec_of (W := (fun _ _ _ _ => False)) (σ := σ) (Q := Q) r1 (by
    cases hz : specD T.pr j d [] with
    | ok r => rw [hz] at q1; exact q1
    | err z => rw [hz] at q1; exact q1.elim
    | bad => rw [hz] at q1; exact q1.elim)
  rw [e1] at h1
  have hfx : m' = fx := by cases h1; rfl
  subst hfx
  obtain ⟨C', pp, g, k, hk, hm', cl, hp, run⟩ := (K.pr _ (List.mem_of_getElem? e1)).ex
  obtain rfl := ref_inj hm hm'
  cases rv
  obtain ⟨mA, O, _, _, _, _⟩ := ins_get I1.hok (sr1.sub _ _ hi)
  obtain ⟨od, J, _⟩ := O.look
  obtain ⟨rest, hrec⟩ := hp.rec_
  have I2 := (I1.tok (s1.toks + 1)).wish (fun _ _ => False)
  have hc : (PySem.W.clsIn X.K C').isSome = true := by
    obtain ⟨cd, hc, _⟩ := PySem.W.any_some cl.hd
    rw [hc]
    rfl
  refine PySem.W.get_bind I1.kIn J (PySem.W.plainGet_of (cl.get m')).1 (PySem.W.findObj_data hc hp.at_ hp.get hp.tak) (PySem.W.plainGet_of (cl.get m')).2 (wpAny_call (PySem.W.prop_get (s := { s1 with toks := s1.toks + 1 }) I1.kIn hrec ?_))
  have call := run X.nox rfl X.A.in1 rfl (G.room.mono hk).in1 (fun _ _ _ _ => False) (fun _ _ ⟨_, _, _, _, _, _, _, _, _, _, _, _, _, _, _, _, w⟩ => w) pins { s1 with toks := s1.toks + 1 } σ H1 Hf1 _ [.ref aa] [.ref aa] [.obj c gs] I2 (.cons rfl .nil) sr1.sub sr1.tb (.cons r1 .nil) q2
  refine codeAny_mono call fun r s' hq => ?_
  cases r with
  | error er => exact False.elim hq
  | ok fl =>
    cases fl with
    | ret u =>
      obtain ⟨v, H', I3, rv, q3⟩ := hq
      show wpAny _ _ (handedOut u) _ _ _
      rw [PySem.W.handedOut_of (handed_of rv)]
      exact wpAny_pure ⟨v, H', I3.wish _, rv, q3⟩
    | next => exact False.elim hq
    | brk => exact False.elim hq
    | cont => exact False.elim hq
end
end Rf
/-! # Rf7: what a for walks, targets, comprehensions -/
namespace Rf
open PySem PySem.Spec L2

theorem pi_seq {X : Cx} {tg l : Expr} {tl : TE} (hl : PE X l tl) : PI X tg l (fun σ H Rr => tl σ H fun x H1 => ∃ a, x = .ref a ∧ (((∃ xs, SqL X.K H1 a xs) ∧ Rr (Itl X.K a) H1) ∨ ((∃ xs, SqT X.K H1 a xs) ∧ Rr (Itt X.K a) H1))) := by
  refine ⟨fun pins s σ H Rr I h => ?_⟩
  refine thn (hl.run pins s σ H _ I h) fun v s1 ⟨x, H1, I1, r1, q1⟩ => ?_
  obtain ⟨a, e, q⟩ := q1
  subst e
  cases r1
  rcases q with ⟨⟨xs, hq⟩, q⟩ | ⟨⟨xs, hq⟩, q⟩
  · obtain ⟨its, rv, p, hz⟩ := I1.list hq
    refine wpAny_pyIter_list p.isList ?_
    refine ⟨s1.heap.objs.size, [s1.heap.objs.size], _, _, H1, rfl, I1.kept (t' := s1.toks) fun b o e => Heap.get?_push_of_some _ e, turn_list a _, ⟨_, Heap.get?_push_size _ rfl, rfl, rfl⟩, fun b hb => ?_, q⟩
    have e : b = s1.heap.objs.size := by simpa using hb
    subst e
    exact I1.fpOk (Nat.le_refl _) (I1.hok.fresh (Nat.le_refl _))
  · obtain ⟨its, rv, p, hz⟩ := I1.tuple hq
    refine wpAny_pyIter_tuple (show s1.heap.IsTuple a its.toArray from p) ?_
    refine ⟨s1.heap.objs.size, [s1.heap.objs.size], _, _, H1, rfl, I1.kept (t' := s1.toks) fun b o e => Heap.get?_push_of_some _ e, turn_tuple a _, ⟨_, Heap.get?_push_size _ rfl, rfl, rfl⟩, fun b hb => ?_, q⟩
    have e : b = s1.heap.objs.size := by simpa using hb
    subst e
    exact I1.fpOk (Nat.le_refl _) (I1.hok.fresh (Nat.le_refl _))

section
variable {g : G} {Hf : Hp} {a b : Addr} {vs ws : List V} {ds es : List D}
theorem get_lt {xs : List α} {i : Nat} (h : i < xs.length) : ∃ x, xs[i]? = some x := ⟨_, List.getElem?_eq_getElem h⟩
theorem yld_list (h : LsK g.K Hf a vs) (r : Reps g Hf vs ds) : Yld g (Itl g.K a) Hf ds where
  go := fun i H Hf' s1 s2 hi => by
    obtain ⟨x, hx⟩ := get_lt (xs := vs) (i := i) (by rw [r.length]; exact hi)
    exact ⟨vs, x, (lsq (same_rd (s1.trans s2) h)), hx⟩
  stop := fun H Hf' s1 s2 => ⟨vs, (lsq (same_rd (s1.trans s2) h)), by rw [r.length]; exact Nat.le_refl _⟩
  yld := fun i H Hf' x H' d s1 s2 ⟨e, hx⟩ hd => by
    subst e
    obtain ⟨v, hv, rv⟩ := r.get hd
    have := hx vs ((lsq (same_rd (s1.trans s2) h)))
    rw [hv] at this; cases this
    exact ⟨Hf', Fut.refl s2, rv.mono s1⟩
theorem yld_tup (h : SqT g.K Hf a vs) (r : Reps g Hf vs ds) : Yld g (Itt g.K a) Hf ds where
  go := fun i H Hf' s1 s2 hi => by
    obtain ⟨x, hx⟩ := get_lt (xs := vs) (i := i) (by rw [r.length]; exact hi)
    exact ⟨vs, x, same_sqT (s1.trans s2) h, hx⟩
  stop := fun H Hf' s1 s2 => ⟨vs, same_sqT (s1.trans s2) h, by rw [r.length]; exact Nat.le_refl _⟩
  yld := fun i H Hf' x H' d s1 s2 ⟨e, hx⟩ hd => by
    subst e
    obtain ⟨v, hv, rv⟩ := r.get hd
    have := hx vs (same_sqT (s1.trans s2) h)
    rw [hv] at this; cases this
    exact ⟨Hf', Fut.refl s2, rv.mono s1⟩
theorem yld_rng (lo hi : Int) : Yld g (Itr lo (hi - lo).toNat) Hf (rngD lo hi) where
  go := fun i H Hf' s1 s2 h => by
    have e : (rngD lo hi).length = (hi - lo).toNat := by simp [rngD]
    rw [e] at h
    exact h
  stop := fun H Hf' s1 s2 => by show (hi - lo).toNat ≤ (rngD lo hi).length; simp [rngD]
  yld := fun i H Hf' x H' d s1 s2 ⟨e, hx⟩ hd => by
    subst e hx
    have hd' : d = .int (lo + (i : Int)) := by
      unfold rngD at hd
      rw [List.getElem?_map] at hd
      cases hr : (List.range (hi - lo).toNat)[i]? with
      | none => rw [hr] at hd; cases hd
      | some m =>
        rw [hr] at hd
        obtain ⟨h1, h2⟩ := List.getElem?_eq_some_iff.mp hr
        rw [List.getElem_range] at h2
        subst h2
        cases hd; rfl
    subst hd'
    exact ⟨Hf', Fut.refl s2, .int _⟩
theorem yld_enum (h : LsK g.K Hf a vs) (r : Reps g Hf vs ds) : Yld g (Ite g.K a) Hf (enumD ds) where
  go := fun i H Hf' s1 s2 hi => by
    have hi' : i < vs.length := by rw [r.length]; simpa [enumD] using hi
    obtain ⟨x, hx⟩ := get_lt hi'
    exact ⟨vs, x, (lsq (same_rd (s1.trans s2) h)), hx⟩
  stop := fun H Hf' s1 s2 => ⟨vs, (lsq (same_rd (s1.trans s2) h)), by rw [r.length]; simp [enumD]⟩
  yld := fun i H Hf' x H' d s1 s2 ⟨Tt, w, e1, hn, e2, hx⟩ hd => by
    subst e1 e2
    unfold enumD at hd
    rw [List.getElem?_map, List.getElem?_zipIdx] at hd
    cases hr : ds[i]? with
    | none => rw [hr] at hd; cases hd
    | some d0 =>
      rw [hr] at hd
      simp at hd
      subst hd
      obtain ⟨v, hv, rv⟩ := r.get hr
      have := hx vs ((lsq (same_rd (s1.trans s2) h)))
      rw [hv] at this; cases this
      exact ⟨_, Fut.new s2 hn, .tup (SqT.of upd_same) (.cons (.int _) (.cons ((rv.mono s1).mono (same_upd (s2.free hn))) .nil))⟩
theorem yld_zip (h : LsK g.K Hf a vs) (r : Reps g Hf vs ds) (h' : LsK g.K Hf b ws) (r' : Reps g Hf ws es) : Yld g (Itz g.K a b) Hf (zipD ds es) where
  go := fun i H Hf' s1 s2 hi => by
    have hi' : i < vs.length ∧ i < ws.length := by rw [r.length, r'.length]; simpa [zipD, Nat.lt_min] using hi
    obtain ⟨x, hx⟩ := get_lt hi'.1
    obtain ⟨y, hy⟩ := get_lt hi'.2
    exact ⟨vs, ws, x, y, (lsq (same_rd (s1.trans s2) h)), (lsq (same_rd (s1.trans s2) h')), hx, hy⟩
  stop := fun H Hf' s1 s2 => ⟨vs, ws, (lsq (same_rd (s1.trans s2) h)), (lsq (same_rd (s1.trans s2) h')), by
    rw [r.length, r'.length]; simp only [zipD, List.length_map, List.length_zip]; omega⟩
  yld := fun i H Hf' x H' d s1 s2 ⟨Tt, w, u, e1, hn, e2, hx, hy⟩ hd => by
    subst e1 e2
    unfold zipD at hd
    rw [List.getElem?_map] at hd
    cases hr : (ds.zip es)[i]? with
    | none => rw [hr] at hd; cases hd
    | some q =>
      rw [hr] at hd
      simp only [Option.map_some, Option.some.injEq] at hd
      subst hd
      rw [List.getElem?_zip_eq_some] at hr
      obtain ⟨v, hv, rv⟩ := r.get hr.1
      obtain ⟨v', hv', rv'⟩ := r'.get hr.2
      have z1 := hx vs ((lsq (same_rd (s1.trans s2) h)))
      have z2 := hy ws ((lsq (same_rd (s1.trans s2) h')))
      rw [hv] at z1; cases z1
      rw [hv'] at z2; cases z2
      exact ⟨_, Fut.new s2 hn, .tup (SqT.of upd_same) (.cons ((rv.mono s1).mono (same_upd (s2.free hn))) (.cons ((rv'.mono s1).mono (same_upd (s2.free hn))) .nil))⟩
end

section
variable {X : Cx} {N : List Str} {sc : Scope} {n : Nat} {T : Tb} {W : WE} {a b c : E} {x y z tg : Expr} {p q : Pos} {k : Nat}
theorem okRng_iff {i : Int} (h : okRng i = true) : -(2 ^ 62) ≤ i ∧ i < 2 ^ 62 := by
  unfold okRng at h
  rw [Bool.and_eq_true] at h
  exact ⟨of_decide_eq_true h.1, of_decide_eq_true h.2⟩
theorem i_rng1 (G : GoodB N sc X) (K : Know (gOf X) n T) (h1 : ("range" : Str) ∈ T.bn) (h2 : glB sc "range" = true) (ha : PE X x (tD (gOf X) T W a)) (hs : staB x = false) : PI X tg (.Call (.Name "range" q) [x] [] p) (tDI (gOf X) T W (.rng1 a)) := by
  refine (pi_range1 (gl_of G h2) (K.bn _ h1) (pa_cons ha pa_nil (star_of hs)) (by rw [star_of hs]; rfl)).imp fun σ H Rr ⟨H0, Hf0, Hf, env, sr, r⟩ => ?_
  simp only [evI] at r
  refine tD_step lat_IP sr r fun d v H1 Hf1 _ f1 r1 sr1 q1 => ?_
  cases r1 with
  | int j =>
    obtain ⟨hr, q2⟩ := ifr q1
    obtain ⟨l1, l2⟩ := okRng_iff hr
    have y := yld_rng (g := gOf X) (Hf := Hf1) 0 j
    rw [Int.sub_zero] at y
    exact ⟨j, rfl, l1, l2, q2 _ _ _ (Fut.refl sr1.sub) y⟩
  | _ => exact q1.elim
theorem i_rng2 (G : GoodB N sc X) (K : Know (gOf X) n T) (h1 : ("range" : Str) ∈ T.bn) (h2 : glB sc "range" = true) (ha : PE X x (tD (gOf X) T W a)) (hs : staB x = false) (hb : PE X y (tD (gOf X) T W b)) (hs' : staB y = false) : PI X tg (.Call (.Name "range" q) [x, y] [] p) (tDI (gOf X) T W (.rng2 a b)) := by
  refine (pi_range2 (gl_of G h2) (K.bn _ h1) (pa_cons ha (pa_cons hb pa_nil (star_of hs')) (star_of hs)) (by rw [star_of hs, star_of hs']; rfl) (by rw [star_of hs']; rfl)).imp fun σ H Rr ⟨H0, Hf0, Hf, env, sr, r⟩ => ?_
  simp only [evI] at r
  refine tD_step lat_IP sr r fun d v H1 Hf1 _ f1 r1 sr1 q1 => ?_
  refine tD_step lat_IP sr1 q1 fun e w H2 Hf2 _ f2 r2 sr2 q2 => ?_
  cases r1 with
  | int i =>
    cases r2 with
    | int j =>
      obtain ⟨hr, q3⟩ := ifr q2
      rw [Bool.and_eq_true] at hr
      obtain ⟨l1, l2⟩ := okRng_iff hr.1
      obtain ⟨l3, l4⟩ := okRng_iff hr.2
      exact ⟨i, j, rfl, ⟨l1, l2, l3, l4⟩, q3 _ _ _ (Fut.refl sr2.sub) (yld_rng i j)⟩
    | _ => exact q2.elim
  | _ => exact q2.elim
theorem i_enum {elts : List Expr} {kk : Nat} {pt : Pos} (G : GoodB N sc X) (K : Know (gOf X) n T) (h1 : ("enumerate" : Str) ∈ T.bn) (h2 : glB sc "enumerate" = true) (ha : PE X x (tD (gOf X) T W a)) (hs : staB x = false) : PI X (.Tuple elts kk pt) (.Call (.Name "enumerate" q) [x] [] p) (tDI (gOf X) T W (.enum a)) := by
  refine (pi_enum (gl_of G h2) (K.bn _ h1) (pa_cons ha pa_nil (star_of hs)) (by rw [star_of hs]; rfl)).imp fun σ H Rr ⟨H0, Hf0, Hf, env, sr, r⟩ => ?_
  simp only [evI] at r
  refine tD_step lat_IP sr r fun d v H1 Hf1 _ f1 r1 sr1 q1 => ?_
  cases r1 with
  | lst h1 r1 => exact ⟨_, _, rfl, (lsq (same_rd sr1.sub h1)), q1 _ _ _ (Fut.refl sr1.sub) (yld_enum h1 r1)⟩
  | _ => exact q1.elim
theorem i_zip {elts : List Expr} {kk : Nat} {pt : Pos} (G : GoodB N sc X) (K : Know (gOf X) n T) (h1 : ("zip" : Str) ∈ T.bn) (h2 : glB sc "zip" = true) (ha : PE X x (tD (gOf X) T W a)) (hs : staB x = false) (hb : PE X y (tD (gOf X) T W b)) (hs' : staB y = false) :
    PI X (.Tuple elts kk pt) (.Call (.Name "zip" q) [x, y] [] p) (tDI (gOf X) T W (.zip a b)) := by
  refine (pi_zip (gl_of G h2) (K.bn _ h1) (pa_cons ha (pa_cons hb pa_nil (star_of hs')) (star_of hs)) (star_of hs) (by rw [star_of hs']; rfl)).imp fun σ H Rr ⟨H0, Hf0, Hf, env, sr, r⟩ => ?_
  simp only [evI] at r
  refine tD_step lat_IP sr r fun d v H1 Hf1 _ f1 r1 sr1 q1 => ?_
  refine tD_step lat_IP sr1 q1 fun e w H2 Hf2 _ f2 r2 sr2 q2 => ?_
  cases r1 with
  | lst h1 r1 =>
    cases r2 with
    | lst h2 r2 => exact ⟨_, _, _, _, rfl, (lsq (same_rd (f2.f.trans sr2.sub) h1)), (lsq (same_rd sr2.sub h2)), q2 _ _ _ (Fut.refl sr2.sub) (yld_zip (same_rd f2.f h1) (r1.mono f2.f) h2 r2)⟩
    | _ => exact q2.elim
  | _ => exact q2.elim
theorem i_seq (ha : PE X x (tD (gOf X) T W a)) : PI X tg x (tDI (gOf X) T W (.cons a .nil)) := by
  refine (pi_seq ha).imp fun σ H Rr ⟨H0, Hf0, Hf, env, sr, r⟩ => ?_
  simp only [evI] at r
  refine tD_step lat_IP sr r fun d v H1 Hf1 _ f1 r1 sr1 q1 => ?_
  cases r1 with
  | lst h1 r1 => exact ⟨_, rfl, .inl ⟨⟨_, (lsq (same_rd sr1.sub h1))⟩, q1 _ _ _ (Fut.refl sr1.sub) (yld_list h1 r1)⟩⟩
  | tup h1 r1 => exact ⟨_, rfl, .inr ⟨⟨_, same_sqT sr1.sub h1⟩, q1 _ _ _ (Fut.refl sr1.sub) (yld_tup h1 r1)⟩⟩
  | _ => exact q1.elim

/-! ### targets -/
/-- data stored by a target; what else stands, stands -/
def tG (g : G) (t : Tg) : TG := fun v σ H Q => ∃ H0 Hf0 Hf env d, SR g H0 Hf0 σ H Hf env ∧ Rep g Hf v d ∧ ∃ env', setT t d env = some env' ∧ ∀ σ', SR g H0 Hf0 σ' H Hf env' → σ'.length = σ.length → (∀ i, i ∉ t.slots → σ'[i]? = σ[i]?) → Q σ' H
def tGs (g : G) (t : Tg) : TGs := fun vs σ H Q => ∃ H0 Hf0 Hf env ds, SR g H0 Hf0 σ H Hf env ∧ Reps g Hf vs ds ∧ ∃ env', setT t (.tup ds) env = some env' ∧ ∀ σ', SR g H0 Hf0 σ' H Hf env' → σ'.length = σ.length → (∀ i, i ∉ t.slots → σ'[i]? = σ[i]?) → Q σ' H
theorem _root_.L2.PG.imp {X : Cx} {e : Expr} {t t' : TG} (h : PG X e t) (k : ∀ v σ H Q, t' v σ H Q → t v σ H Q) : PG X e t' := ⟨fun pins s σ H v u Q I r q => h.run pins s σ H v u Q I r (k v σ H Q q)⟩
theorem _root_.L2.PGs.imp {X : Cx} {e : List Expr} {t t' : TGs} (h : PGs X e t) (k : ∀ v σ H Q, t' v σ H Q → t v σ H Q) : PGs X e t' := ⟨fun pins s σ H v u Q I r q => h.run pins s σ H v u Q I r (k v σ H Q q)⟩
theorem g_name {i : Nat} {s : Str} (G : GoodB N sc X) (h1 : N[i]? = some s) (h2 : locB sc s = true) : PG X (.Name s p) (tG (gOf X) (.name i)) := by
  obtain ⟨hl, hf⟩ := G.loc s h2
  refine (pg_name (i := i) (by rw [G.eN]; exact G.nd) (by rw [G.eN]; exact h1) hl hf).imp fun v σ H Q ⟨H0, Hf0, Hf, env, d, sr, r, env', e, k⟩ => ?_
  simp only [setT, Option.some.injEq] at e
  subst e
  refine k _ (sr.setv r) (by simp) fun j hj => ?_
  rw [List.getElem?_set_ne (by simpa [Tg.slots, eq_comm] using hj)]
theorem gs_nil : PGs X [] (tGs (gOf X) .nil) := pgs_nil.imp fun v σ H Q ⟨H0, Hf0, Hf, env, ds, sr, r, env', e, k⟩ => by
  cases r with
  | nil => simp only [setT, Option.some.injEq] at e; subst e; exact ⟨rfl, k σ sr rfl fun _ _ => rfl⟩
  | cons r1 r2 => simp [setT] at e
theorem each_of {x : Expr} {xs : List Expr} {e : PySem.Env} (h : staB x = false) : (assignEach (x :: xs) e).map (·.2) = assign x e :: (assignEach xs e).map (·.2) := by
  cases x <;> first | rfl | cases h
theorem gs_cons {t u : Tg} {xs : List Expr} (h1 : PG X x (tG (gOf X) t)) (h2 : PGs X xs (tGs (gOf X) u)) (hs : staB x = false) : PGs X (x :: xs) (tGs (gOf X) (.cons t u)) := by
  refine (pgs_cons h1 h2 (each_of hs)).imp fun v σ H Q ⟨H0, Hf0, Hf, env, ds, sr, r, env', e, k⟩ => ?_
  cases r with
  | nil => simp [setT] at e
  | @cons v1 d1 vs1 ds1 r1 r2 =>
    simp only [setT, Option.bind_eq_some_iff] at e
    obtain ⟨env1, e1, e2⟩ := e
    refine ⟨v1, vs1, rfl, H0, Hf0, Hf, env, d1, sr, r1, env1, e1, fun σ1 sr1 hl1 hk1 => ?_⟩
    refine ⟨H0, Hf0, Hf, env1, ds1, sr1, r2, env', e2, fun σ2 sr2 hl2 hk2 => ?_⟩
    refine k σ2 sr2 (hl2.trans hl1) fun i hi => ?_
    simp only [Tg.slots, List.mem_append, not_or] at hi
    rw [hk2 i hi.2, hk1 i hi.1]
theorem g_tup {t : Tg} {xs : List Expr} (hc : X.calm = true) (h : PGs X xs (tGs (gOf X) t)) (hst : (assignEach xs X.env).findIdx? (·.1) = none) (hlen : ∀ ds env env', setT t (.tup ds) env = some env' → ds.length = xs.length) (hl2 : (assignEach xs X.env).length = xs.length) :
    PG X (.Tuple xs k p) (tG (gOf X) (.tup t)) := by
  refine (pg_tup hc h hl2 hst).imp fun v σ H Q ⟨H0, Hf0, Hf, env, d, sr, r, env', e, kk⟩ => ?_
  cases r with
  | @tup _ _ ds h1 r1 =>
    have e' : setT t (.tup ds) env = some env' := by simpa only [setT] using e
    exact ⟨_, _, rfl, same_sqT sr.sub h1, by rw [r1.length, hlen _ _ _ e'], H0, Hf0, Hf, env, _, sr, r1, env', e', kk⟩
  | _ => simp [setT] at e
end
end Rf
/-! # Rf8: comprehensions; every expression that passes the look -/
namespace Rf
open PySem PySem.Spec L2
section
variable {g : G} {H0 Hf0 H Hf : Hp} {env : Env} {σ : St}
theorem hide_get {env : Env} {i : Nat} {s : Sl} (h : (hideO env)[i]? = some (some s)) : ∃ d, s = .v d ∧ env[i]? = some (some (.v d)) := by
  unfold hideO at h
  rw [List.getElem?_map] at h
  cases e : env[i]? with
  | none => rw [e] at h; cases h
  | some o =>
    rw [e] at h
    cases o with
    | none => cases h
    | some t => cases t with
      | v d => simp at h; exact ⟨d, h.symm, rfl⟩
      | o xs => cases h
      | n p c fs => cases h
theorem SR.hide (r : SR g H0 Hf0 σ H Hf env) : SR g H0 Hf0 σ H Hf (hideO env) :=
  ⟨r.fut, by simp [hideO, r.len], fun i s h => by obtain ⟨d, rfl, e⟩ := hide_get h; exact r.slot i _ e, fun i j xs ys _ h1 _ o1 _ => (by obtain ⟨d, rfl, _⟩ := hide_get h1; cases o1), r.tb⟩
theorem SR.wipe (r : SR g H0 Hf0 σ H Hf env) : ∀ vs : List Nat, SR g H0 Hf0 (L2.wipe σ vs) H Hf (wipeE env vs)
  | [] => r
  | v :: vs => (SR.wipe r vs).setn none
def noO (env : Env) : Prop := ∀ (i : Nat) (x : Sl), x.own = true → env[i]? ≠ some (some x)
theorem noO_hide (env : Env) : noO (hideO env) := fun i x o h => by obtain ⟨d, rfl, _⟩ := hide_get h; cases o
theorem noO_set {env : Env} (h : noO env) (i : Nat) : noO (env.set i none) := fun j xs o e => by
  by_cases hj : j = i
  · subst hj
    by_cases hl : j < env.length
    · rw [List.getElem?_set_self hl] at e; cases e
    · rw [List.getElem?_eq_none (by simpa using hl)] at e; cases e
  · rw [List.getElem?_set_ne (Ne.symm hj)] at e; exact h j xs o e
theorem noO_wipe {env : Env} (h : noO env) : ∀ vs, noO (wipeE env vs)
  | [] => h
  | v :: vs => noO_set (noO_wipe h vs) v
theorem Fut.updD {H1 Hf1 H4 Hf4 : Hp} {p : Addr} {o : HO} {vs : List V} (f : Fut H1 Hf1 H4 Hf4) (h1 : H1 p = none) (h4 : Hf4 p = none) (hp : H4 p = some (.lst vs)) : Fut H1 Hf1 (upd H4 p o) Hf4 :=
  ⟨f.s.upd h1 hp, f.f, fun b u e => by rw [upd_ne (ne_of_none e h4)]; exact f.i _ _ e, f.n⟩
theorem SR.updD {p : Addr} {o : HO} {vs : List V} (r : SR g H0 Hf0 σ H Hf env) (no : noO env) (h0 : H0 p = none) (hf : Hf p = none) (hp : H p = some (.lst vs)) : SR g H0 Hf0 σ (upd H p o) Hf env :=
  ⟨r.fut.updD h0 hf hp, r.len, fun i s h => by
    obtain ⟨v, e, q⟩ := r.slot i s h
    refine ⟨v, e, ?_⟩
    cases q with
    | v q => exact .v q
    | o _ _ _ _ => exact absurd h (no i _ rfl)
    | n _ _ _ _ _ => exact absurd h (no i _ rfl), r.dis, fun P h => ⟨tabS_lst hp (r.tb P h).1, (r.tb P h).2⟩⟩
theorem wipe_len (σ : St) (vs : List Nat) : (L2.wipe σ vs).length = σ.length := wipe_length σ vs
theorem wipe_congr : ∀ (vs : List Nat) {a b : St}, a.length = b.length → (∀ i, i ∉ vs → a[i]? = b[i]?) → L2.wipe a vs = L2.wipe b vs := by
  intro vs a b hl h
  have key : ∀ (vs : List Nat) (c : St) (i : Nat), (L2.wipe c vs)[i]? = if i ∈ vs then (if i < c.length then some none else none) else c[i]? := by
    intro vs
    induction vs with
    | nil => intro c i; simp [L2.wipe]
    | cons v vs ih =>
      intro c i
      show ((L2.wipe c vs).set v none)[i]? = _
      by_cases hi : i = v
      · subst hi
        simp only [List.mem_cons, true_or, if_true]
        by_cases hl : i < c.length
        · rw [List.getElem?_set_self (by rw [wipe_len]; exact hl), if_pos hl]
        · rw [if_neg hl, List.getElem?_eq_none (by simp [wipe_len]; omega)]
      · rw [List.getElem?_set_ne (Ne.symm hi), ih]
        simp [hi]
  refine List.ext_getElem? fun i => ?_
  rw [key, key, hl]
  split
  · rfl
  · rename_i hn; exact h i hn
theorem wipe_idem (σ : St) (vs : List Nat) : L2.wipe (L2.wipe σ vs) vs = L2.wipe σ vs := by
  refine wipe_congr vs (wipe_len _ _) fun i hi => ?_
  have : ∀ (us : List Nat), i ∉ us → (L2.wipe σ us)[i]? = σ[i]? := by
    intro us
    induction us with
    | nil => intro _; rfl
    | cons u us ih =>
      intro h
      simp only [List.mem_cons, not_or] at h
      show ((L2.wipe σ us).set u none)[i]? = _
      rw [List.getElem?_set_ne (Ne.symm h.1), ih h.2]
  exact this vs hi
end
theorem compL_ne {f : Env → R (Option D)} {tg : Tg} {env : Env} (z : Exn) : ∀ ds, compL f tg env ds ≠ .err z
  | [] => by simp [compL]
  | d :: ds => by
    unfold compL
    cases h1 : setT tg d env with
    | none => simp
    | some env' =>
      cases h2 : f env' with
      | ok o =>
        cases h3 : compL f tg env ds with
        | ok rs => simp [h2]
        | err w => exact absurd h3 (compL_ne w ds)
        | bad => simp [h2]
      | err w => simp [h2]
      | bad => simp [h2]
theorem fold_of {x : Expr} {e : PySem.Env} (h : setB x = false) : ∀ y, foldedSetIterable x e y = pure y := by
  intro y
  cases x <;> first | rfl | cases h
abbrev noW : WE := fun _ _ _ _ => False

section
variable {X : Cx} {N : List Str} {sc sc' : Scope} {n : Nat} {T : Tb} {W : WE} {elt it cond : E} {x i t : Expr} {ifs : List Expr} {tg : Tg} {own : List Nat} {p : Pos}
theorem own_snd (N : List Str) (own : List Nat) : (own.map fun k => (N.getD k "", k)).map (·.2) = own := by
  rw [List.map_map]; exact List.map_id _
/-- the comprehension's own reading -/
theorem tLc_of {σ : St} {H : Hp} {Q : VK} (hsl : ∀ k ∈ tg.slots, k ∈ own) (h : tDX (gOf X) T W (.comp elt tg it cond own) σ H Q) :
    tLc (tDI (gOf X) T W it) (tG (gOf X) tg) (tDC (gOf X) T noW cond) (tD (gOf X) T noW elt) ((own.map fun k => (N.getD k "", k)).map (·.2)) σ H Q := by
  obtain ⟨H0, Hf0, Hf, env, sr, r⟩ := h
  rw [own_snd]
  simp only [ev] at r
  refine ⟨H0, Hf0, Hf, env, sr, r.bind.imp fun ds _ q J H1 Hf1 f1 y => ?_⟩
  replace q := RG.later lat_XP q f1
  generalize hf : (fun env' => (evC T cond env').bind fun k => if k = true then (ev T elt env').bind fun d => R.ok (some d) else R.ok none) = f at q
  cases hc : compL f tg (wipeE (hideO env) own) ds with
  | err z => exact absurd hc (compL_ne z ds)
  | bad => rw [hc] at q; exact q.elim
  | ok rs =>
    rw [hc] at q
    obtain ⟨hl, q⟩ := ifr q
    have hlen : rs.length ≤ sizeLine := okLen_iff hl
    intro D hD
    have f0 : H0 D = none := (sr.fut.s.trans f1.s).free hD
    have srw : SR (gOf X) H0 Hf0 (L2.wipe σ own) H1 Hf1 (wipeE (hideO env) own) := (sr.mono f1).hide.wipe own
    have no := noO_wipe (noO_hide env) own
    refine ⟨fun i m Hc => m = ds.length - i ∧ i ≤ ds.length ∧ ∃ Hfc accV accD rest, Fut H1 Hf1 Hc Hfc ∧ SR (gOf X) H0 Hf0 (L2.wipe σ own) Hc Hfc (wipeE (hideO env) own) ∧ Hc D = some (.lst accV) ∧ Hfc D = none ∧ Reps (gOf X) Hfc accV accD ∧
      compL f tg (wipeE (hideO env) own) (ds.drop i) = .ok rest ∧ accD ++ rest = rs, ⟨ds.length, by simp, Nat.zero_le _, Hf1, [], [], rs, Fut.own f1.i hD, srw.mono (Fut.own f1.i hD), upd_same, f1.i.free hD, .nil, by simpa using hc, by simp⟩, ?_⟩
    rintro i m Hc ⟨hm, hi, Hfc, accV, accD, rest, fc, src, hp, hfp, racc, hrest, happ⟩
    rcases Nat.lt_or_ge i ds.length with hlt | hge
    · refine .inr ⟨y.go i Hc Hfc fc.f fc.i hlt, _, fun H' h' => ⟨ds.length - (i + 1), by omega, h'⟩, fun v H' hy => ?_⟩
      have hd : ds[i]? = some ds[i] := List.getElem?_eq_getElem hlt
      obtain ⟨Hf', f2, rv⟩ := y.yld i Hc Hfc v H' ds[i] fc.f fc.i hy hd
      rw [List.drop_eq_getElem_cons hlt] at hrest
      unfold compL at hrest
      cases h1 : setT tg ds[i] (wipeE (hideO env) own) with
      | none => rw [h1] at hrest; cases hrest
      | some env1 =>
        rw [h1] at hrest
        simp only at hrest
        cases h2 : f env1 with
        | err w => rw [h2] at hrest; cases hrest
        | bad => rw [h2] at hrest; cases hrest
        | ok o =>
          rw [h2] at hrest
          simp only at hrest
          cases h3 : compL f tg (wipeE (hideO env) own) (ds.drop (i + 1)) with
          | err w => rw [h3] at hrest; cases hrest
          | bad => rw [h3] at hrest; cases hrest
          | ok rs' =>
            rw [h3] at hrest
            simp only [R.bind_ok, R.ok.injEq] at hrest
            have src' := src.mono f2
            refine ⟨H0, Hf0, Hf', _, ds[i], src', rv, env1, h1, fun σ2 sr2 hl2 hk2 => ⟨?_, ?_⟩⟩
            · rw [← wipe_idem σ own]
              exact wipe_congr own hl2 fun j hj => hk2 j fun z => hj (hsl j z)
            · rw [← hf] at h2
              simp only at h2
              cases h4 : evC T cond env1 with
              | err w => rw [h4] at h2; cases h2
              | bad => rw [h4] at h2; cases h2
              | ok b =>
                rw [h4] at h2
                simp only [R.bind_ok] at h2
                refine ⟨H0, Hf0, Hf', env1, sr2, ?_⟩
                rw [h4]
                intro H3 Hf3 f3
                cases b with
                | false =>
                  rw [if_neg Bool.false_ne_true] at h2 ⊢
                  cases h2
                  have fb := f2.trans f3
                  exact ⟨rfl, by omega, Hf3, accV, accD, rs', fc.trans fb, src.mono fb, fb.s.lst hp, fb.n _ (by rw [hp]; exact fun z => nomatch z) hfp, racc.mono fb.f, h3, by rw [← happ, ← hrest]⟩
                | true =>
                  rw [if_pos rfl] at h2 ⊢
                  cases h5 : ev T elt env1 with
                  | err w => rw [h5] at h2; cases h2
                  | bad => rw [h5] at h2; cases h2
                  | ok d' =>
                    rw [h5] at h2
                    simp only [R.bind_ok, R.ok.injEq] at h2
                    subst h2
                    refine ⟨H0, Hf0, Hf3, env1, sr2.mono f3, ?_⟩
                    rw [h5]
                    intro w H4 Hf4 f4 r4
                    have fb := (f2.trans f3).trans f4
                    have hf4 : Hf4 D = none := fb.n _ (by rw [hp]; exact fun z => nomatch z) hfp
                    refine ⟨accV, fb.s.lst hp, ?_, rfl, by omega, Hf4, accV ++ [w], accD ++ [d'], rs', (fc.trans fb).updD hD hf4 (fb.s.lst hp), (src.mono fb).updD no f0 hf4 (fb.s.lst hp), upd_same, hf4, (racc.mono fb.f).append (.cons r4 .nil), h3, by rw [← happ, ← hrest]; simp⟩
                    rw [racc.length]
                    have : rs.length = accD.length + (rs'.length + 1) := by rw [← happ, ← hrest]; simp
                    omega
    · have : i = ds.length := by omega
      subst this
      rw [List.drop_length] at hrest
      simp only [compL, R.ok.injEq] at hrest
      subst hrest
      rw [List.append_nil] at happ
      subst happ
      exact .inl ⟨y.stop Hc Hfc fc.f fc.i, q D accV Hc Hfc fc hD hp hfp racc⟩
theorem e_comp (G : Good N sc n X) (hok : blkC N sc sc' (own.map fun k => (N.getD k "", k)) = true) (hsl : ∀ k ∈ tg.slots, k ∈ own) (hset : setB i = false)
    (hi : PI X t i (tDI (gOf X) T W it))
    (hg : ∀ (s : Shared) (H : Hp) (C : Addr) (cl : List (Str × Addr)) (fp : List Addr), PG (X.blk s H sc' (compEnvC sc' cl C X.env) fp) t (tG (gOf X) tg))
    (ht : ∀ (s : Shared) (H : Hp) (C : Addr) (cl : List (Str × Addr)) (fp : List Addr), PTs (X.blk s H sc' (compEnvC sc' cl C X.env) fp) ifs (tDC (gOf X) T noW cond))
    (he : ∀ (s : Shared) (H : Hp) (C : Addr) (cl : List (Str × Addr)) (fp : List Addr), PE (X.blk s H sc' (compEnvC sc' cl C X.env) fp) x (tD (gOf X) T noW elt)) :
    PE X (.ListComp x [⟨t, i, ifs, 0⟩] sc' p) (tDX (gOf X) T W (.comp elt tg it cond own)) :=
  (pe_lc (own := own.map fun k => (N.getD k "", k)) G.calm (by rw [G.eN]; exact G.nd) hi (by rw [G.eN]; exact (let B := blkOk_by hok; ⟨B.kind, B.uniq, B.ix, fun y hy e => G.cf _ (B.free y hy e), B.own⟩)) hg ht he (fold_of hset)).imp fun σ H Q h => tLc_of hsl h
theorem c_nil : PTs X [] (tDC (gOf X) T W .nil) := ⟨fun pins s σ H Q I ⟨H0, Hf0, Hf, env, sr, r⟩ => pts_nil.run pins s σ H Q I (by simp only [evC] at r; exact r H Hf (Fut.refl sr.sub))⟩
theorem c_one {a : E} (h : PT X x (tDT (gOf X) T W a)) : PTs X [x] (tDC (gOf X) T W (.cons a .nil)) := ⟨fun pins s σ H Q I ⟨H0, Hf0, Hf, env, sr, r⟩ => (pts_one h).run pins s σ H Q I ⟨H0, Hf0, Hf, env, sr, by simp only [evC] at r; exact r⟩⟩

theorem gs_of (G : Good N sc n X) : ∀ (t : Tg) (xs : List Expr), ckTg.ckTgs N sc t xs = true → PGs X xs (tGs (gOf X) t) ∧ (assignEach xs X.env).findIdx? (·.1) = none ∧ (assignEach xs X.env).length = xs.length ∧ ∀ ds env env', setT t (.tup ds) env = some env' → ds.length = xs.length
  | .nil, [], _ => ⟨gs_nil, rfl, rfl, fun ds env env' h => by cases ds with
    | nil => rfl
    | cons d ds => simp [setT] at h⟩
  | .nil, _ :: _, h => by simp [ckTg.ckTgs] at h
  | .name _, _, h => by simp [ckTg.ckTgs] at h
  | .tup _, _, h => by simp [ckTg.ckTgs] at h
  | .cons _ _, [], h => by simp [ckTg.ckTgs] at h
  | .cons (.name i) r, e :: es, h => by
    cases e with
    | Name s p =>
      simp only [ckTg.ckTgs, Bool.and_eq_true, decide_eq_true_eq] at h
      obtain ⟨h1, h2, h3, h4⟩ := gs_of G r es h.2
      refine ⟨gs_cons (g_name G h.1.1 h.1.2) h1 rfl, ?_, by show _ + 1 = _ + 1; rw [h3], fun ds env env' e => ?_⟩
      · show List.findIdx? _ ((false, _) :: assignEach es X.env) = none
        rw [List.findIdx?_cons, h2]; rfl
      · cases ds with
        | nil => simp [setT] at e
        | cons d ds =>
          simp only [setT, Option.bind_eq_some_iff] at e
          obtain ⟨e1, _, e2⟩ := e
          rw [List.length_cons, List.length_cons, h4 _ _ _ e2]
    | _ => simp [ckTg.ckTgs] at h
  | .cons (.tup r') r, e :: es, h => by
    cases e with
    | Tuple es' k p =>
      simp only [ckTg.ckTgs, Bool.and_eq_true] at h
      obtain ⟨h1, h2, h3, h4⟩ := gs_of G r es h.2
      obtain ⟨k1, k2, k3, k4⟩ := gs_of G r' es' h.1
      refine ⟨gs_cons (g_tup G.calm k1 k2 k4 k3) h1 rfl, ?_, by show _ + 1 = _ + 1; rw [h3], fun ds env env' e => ?_⟩
      · show List.findIdx? _ ((false, _) :: assignEach es X.env) = none
        rw [List.findIdx?_cons, h2]; rfl
      · cases ds with
        | nil => simp [setT] at e
        | cons d ds =>
          simp only [setT, Option.bind_eq_some_iff] at e
          obtain ⟨e1, _, e2⟩ := e
          rw [List.length_cons, List.length_cons, h4 _ _ _ e2]
    | _ => simp [ckTg.ckTgs] at h
  | .cons .nil r, e :: es, h => by simp [ckTg.ckTgs] at h
  | .cons (.cons _ _) r, e :: es, h => by simp [ckTg.ckTgs] at h
theorem g_of (G : Good N sc n X) {t : Tg} {x : Expr} (h : ckTg N sc t x = true) : PG X x (tG (gOf X) t) := by
  cases t with
  | name i => cases x with
    | Name s p =>
      simp only [ckTg, Bool.and_eq_true, decide_eq_true_eq] at h
      exact g_name G h.1 h.2
    | _ => simp [ckTg] at h
  | tup r => cases x with
    | Tuple es k p =>
      simp only [ckTg] at h
      obtain ⟨k1, k2, k3, k4⟩ := gs_of G r es h
      exact g_tup G.calm k1 k2 k4 k3
    | _ => simp [ckTg] at h
  | nil => simp [ckTg] at h
  | cons _ _ => simp [ckTg] at h

/-! ### all expressions -/
def freshB : E → Bool
  | .bin _ _ _ => true | .lst _ => true | .sl _ _ _ => true | .bi _ _ => true | .calO _ _ => true | .rev _ => true | .comp _ _ _ _ _ => true | _ => false
structure Snd (N : List Str) (n : Nat) (T : Tb) (e : E) : Prop where
  E : ∀ (X : Cx) (sc : Scope) (x : Expr) (W : WE), GoodM N sc n T.hm X → Takes X W → Know (gOf X) n T → ckE N T e sc x = true → PE X x (tD (gOf X) T W e)
  F : ∀ (X : Cx) (sc : Scope) (x : Expr) (W : WE), GoodM N sc n T.hm X → Takes X W → Know (gOf X) n T → ckE N T e sc x = true → freshB e = true → PE X x (tDF (gOf X) T W e)
  Tt : ∀ (X : Cx) (sc : Scope) (x : Expr) (W : WE), GoodM N sc n T.hm X → Takes X W → Know (gOf X) n T → ckE N T e sc x = true → PT X x (tDT (gOf X) T W e)
  A : ∀ (X : Cx) (sc : Scope) (x : List Expr) (W : WE), GoodM N sc n T.hm X → Takes X W → Know (gOf X) n T → ckL N T e sc x = true → PA X x (tDA (gOf X) T W e) ∧ ∀ y ∈ x, staB y = false
  P : ∀ (X : Cx) (sc : Scope) (x : Option Expr) (W : WE), GoodM N sc n T.hm X → Takes X W → Know (gOf X) n T → ckP N T e sc x = true → PO X x (tDP (gOf X) T W e)
  C : ∀ (X : Cx) (sc : Scope) (x : List Expr) (W : WE), GoodM N sc n T.hm X → Takes X W → Know (gOf X) n T → ckC N T e sc x = true → PTs X x (tDC (gOf X) T W e)
  I : ∀ (X : Cx) (sc : Scope) (x tg : Expr) (W : WE), GoodM N sc n T.hm X → Takes X W → Know (gOf X) n T → ckI N T e sc x = true → tgOkB e tg = true → PI X tg x (tDI (gOf X) T W e)
theorem pt_bad {X : Cx} {x : Expr} {T : Tb} {W : WE} {e : Rf.E} (h : ∀ env, evT T e env = .bad) : PT X x (tDT (gOf X) T W e) := ⟨fun pins s σ H Q I ⟨H0, Hf0, Hf, env, sr, r⟩ => by rw [h] at r; exact r.elim⟩
theorem lookup_relabel {env : PySem.Env} (x : Str) : ∀ names : List (Str × NameKind),
    (names.map fun (n, k) => if (k == NameKind.free && env.scope.kind == .function && env.kindOf n == some .cell) then (n, NameKind.cell) else (n, k)).lookup x =
      (names.lookup x).map fun k => if (k == NameKind.free && env.scope.kind == .function && env.kindOf x == some .cell) then NameKind.cell else k
  | [] => rfl
  | (n, k) :: r => by
    rw [List.map_cons]
    by_cases h : x = n
    · subst h
      show List.lookup x ((if _ then (x, NameKind.cell) else (x, k)) :: _) = _
      split <;> rename_i hc <;> simp only [List.lookup, beq_self_eq_true, Option.map_some]
      · rw [if_pos hc]
      · rw [if_neg hc]
    · have hb : (x == n) = false := by simpa using h
      show List.lookup x ((if _ then (n, NameKind.cell) else (n, k)) :: _) = _
      split <;> simp only [List.lookup, hb] <;> exact lookup_relabel x r
theorem blk_look {X : Cx} {s : Shared} {H : Hp} {sc' : Scope} {C : Addr} {cl : List (Str × Addr)} {fp : List Addr} (x : Str) : (X.blk s H sc' (compEnvC sc' cl C X.env) fp).env.scope.names.lookup x =
      (sc'.names.lookup x).map fun k => if (k == NameKind.free && X.env.scope.kind == .function && X.env.kindOf x == some .cell) then NameKind.cell else k := lookup_relabel x sc'.names
theorem gOf_blk {X : Cx} (h : X.calm = true) {s : Shared} {H : Hp} {sc' : Scope} {e : PySem.Env} {fp : List Addr} : gOf (X.blk s H sc' e fp) = gOf X := by
  show G.mk _ _ _ _ _ (hxB X.calm []) = G.mk _ _ _ _ _ (hxB X.calm X.pn)
  rw [h]
  rfl
theorem good_blk {X : Cx} {N : List Str} {sc sc' : Scope} {n : Nat} (G : Good N sc n X) (s : Shared) (H : Hp) (C : Addr) (cl : List (Str × Addr)) (fp : List Addr) : Good N sc' n (X.blk s H sc' (compEnvC sc' cl C X.env) fp) := by
  refine ⟨⟨G.eN, fun x hx => ?_, fun x hx => ?_, fun x hx => ?_, fun x hx => ?_, G.nd, G.un⟩, G.calm, G.room⟩
  · unfold Vis
    rw [blk_look]
    rcases vis_of hx with h | h | h
    · exact .inl (by rw [h]; rfl)
    · exact .inr (.inl (by rw [h]; rfl))
    · rw [h]
      simp only [Option.map_some]
      split
      · exact .inr (.inl rfl)
      · exact .inr (.inr rfl)
  · rw [blk_look]
    unfold glB at hx
    split at hx
    · rename_i h; rw [h]; rfl
    · cases hx
  · unfold L2.Loc
    rw [blk_look]
    rcases loc_of hx with h | h
    · exact ⟨.inl (by rw [h]; rfl), .inr (by rw [h]; rfl)⟩
    · exact ⟨.inr (by rw [h]; rfl), .inl (by show (sc'.names.lookup x == some .cell) = true; rw [h]; rfl)⟩
  · rw [blk_look]
    rcases hx with h | h
    · exact .inl (by rw [h]; rfl)
    · rw [h]
      simp only [Option.map_some]
      split
      · exact .inl rfl
      · exact .inr rfl
theorem takes_blk {X : Cx} (s : Shared) (H : Hp) (sc' : Scope) (e : PySem.Env) (fp : List Addr) : Takes (X.blk s H sc' e fp) noW := fun _ _ ⟨_, _, _, _, _, _, _, _, _, _, _, _, _, _, _, _, w⟩ => w
end

section
variable {N : List Str} {n : Nat} {T : Tb}
theorem and4 {a b c d : Bool} (h : (a && b && c && d) = true) : a = true ∧ b = true ∧ c = true ∧ d = true := by
  simp only [Bool.and_eq_true] at h; exact ⟨h.1.1.1, h.1.1.2, h.1.2, h.2⟩
/-- an expression all of whose other readings are empty -/
theorem snd_of {e : Rf.E} (hE : ∀ (X : Cx) (sc : Scope) (x : Expr) (W : WE), GoodM N sc n T.hm X → Takes X W → Know (gOf X) n T → ckE N T e sc x = true → PE X x (tD (gOf X) T W e))
    (hF : ∀ (X : Cx) (sc : Scope) (x : Expr) (W : WE), GoodM N sc n T.hm X → Takes X W → Know (gOf X) n T → ckE N T e sc x = true → freshB e = true → PE X x (tDF (gOf X) T W e))
    (hT : ∀ (X : Cx) (sc : Scope) (x : Expr) (W : WE), GoodM N sc n T.hm X → Takes X W → Know (gOf X) n T → ckE N T e sc x = true → PT X x (tDT (gOf X) T W e))
    (h1 : ∀ sc xs, ckL N T e sc xs = false) (h2 : ∀ sc o, ckP N T e sc o = false) (h3 : ∀ sc xs, ckC N T e sc xs = false) (h4 : ∀ sc x, ckI N T e sc x = false) : Snd N n T e :=
  ⟨hE, hF, hT, fun _ sc x _ _ _ _ h => (by rw [h1] at h; cases h), fun _ sc x _ _ _ _ h => (by rw [h2] at h; cases h), fun _ sc x _ _ _ _ h => (by rw [h3] at h; cases h), fun _ sc x _ _ _ _ _ h => (by rw [h4] at h; cases h)⟩
/-- .. with a fresh list as its value, walked by its value as a test -/
theorem snd_X {e : Rf.E} (hX : ∀ (X : Cx) (sc : Scope) (x : Expr) (W : WE), GoodM N sc n T.hm X → Takes X W → Know (gOf X) n T → ckE N T e sc x = true → PE X x (tDX (gOf X) T W e) ∧ (plainT x = true ∨ ∀ env, evT T e env = .bad))
    (ht : (∀ env, evT T e env = (ev T e env).bind truD) ∨ ∀ env, evT T e env = .bad)
    (h1 : ∀ sc xs, ckL N T e sc xs = false) (h2 : ∀ sc o, ckP N T e sc o = false) (h3 : ∀ sc xs, ckC N T e sc xs = false) (h4 : ∀ sc x, ckI N T e sc x = false) : Snd N n T e :=
  snd_of (fun X sc x W G tk K h => tDX_E (hX X sc x W G tk K h).1) (fun X sc x W G tk K h _ => tDX_F (hX X sc x W G tk K h).1)
    (fun X sc x W G tk K h => by
      rcases ht with ht | ht
      · rcases (hX X sc x W G tk K h).2 with hp | hb
        · exact t_plain hp ht (tDX_E (hX X sc x W G tk K h).1)
        · exact pt_bad hb
      · exact pt_bad ht) h1 h2 h3 h4
/-- .. with plain data as its value -/
theorem snd_E {e : Rf.E} (hE : ∀ (X : Cx) (sc : Scope) (x : Expr) (W : WE), GoodM N sc n T.hm X → Takes X W → Know (gOf X) n T → ckE N T e sc x = true → PE X x (tD (gOf X) T W e) ∧ (plainT x = true ∨ ∀ env, evT T e env = .bad)) (hf : freshB e = false)
    (ht : (∀ env, evT T e env = (ev T e env).bind truD) ∨ ∀ env, evT T e env = .bad)
    (h1 : ∀ sc xs, ckL N T e sc xs = false) (h2 : ∀ sc o, ckP N T e sc o = false) (h3 : ∀ sc xs, ckC N T e sc xs = false) (h4 : ∀ sc x, ckI N T e sc x = false) : Snd N n T e :=
  snd_of (fun X sc x W G tk K h => (hE X sc x W G tk K h).1) (fun X sc x W G tk K h z => by rw [hf] at z; cases z)
    (fun X sc x W G tk K h => by
      rcases ht with ht | ht
      · rcases (hE X sc x W G tk K h).2 with hp | hb
        · exact t_plain hp ht (hE X sc x W G tk K h).1
        · exact pt_bad hb
      · exact pt_bad ht) h1 h2 h3 h4
/-- .. with readings of both kinds -/
theorem snd_ET {e : Rf.E} (hE : ∀ (X : Cx) (sc : Scope) (x : Expr) (W : WE), GoodM N sc n T.hm X → Takes X W → Know (gOf X) n T → ckE N T e sc x = true → PE X x (tD (gOf X) T W e) ∧ PT X x (tDT (gOf X) T W e)) (hf : freshB e = false)
    (h1 : ∀ sc xs, ckL N T e sc xs = false) (h2 : ∀ sc o, ckP N T e sc o = false) (h3 : ∀ sc xs, ckC N T e sc xs = false) (h4 : ∀ sc x, ckI N T e sc x = false) : Snd N n T e :=
  snd_of (fun X sc x W G tk K h => (hE X sc x W G tk K h).1) (fun X sc x W G tk K h z => by rw [hf] at z; cases z) (fun X sc x W G tk K h => (hE X sc x W G tk K h).2) h1 h2 h3 h4
/-- what stands only in a list, or is only walked -/
theorem snd_no {e : Rf.E} (h0 : ∀ sc x, ckE N T e sc x = false) (hA : ∀ (X : Cx) (sc : Scope) (x : List Expr) (W : WE), GoodM N sc n T.hm X → Takes X W → Know (gOf X) n T → ckL N T e sc x = true → PA X x (tDA (gOf X) T W e) ∧ ∀ y ∈ x, staB y = false)
    (hP : ∀ (X : Cx) (sc : Scope) (x : Option Expr) (W : WE), GoodM N sc n T.hm X → Takes X W → Know (gOf X) n T → ckP N T e sc x = true → PO X x (tDP (gOf X) T W e))
    (hC : ∀ (X : Cx) (sc : Scope) (x : List Expr) (W : WE), GoodM N sc n T.hm X → Takes X W → Know (gOf X) n T → ckC N T e sc x = true → PTs X x (tDC (gOf X) T W e))
    (hI : ∀ (X : Cx) (sc : Scope) (x tg : Expr) (W : WE), GoodM N sc n T.hm X → Takes X W → Know (gOf X) n T → ckI N T e sc x = true → tgOkB e tg = true → PI X tg x (tDI (gOf X) T W e)) : Snd N n T e :=
  ⟨fun _ sc x _ _ _ _ h => (by rw [h0] at h; cases h), fun _ sc x _ _ _ _ h => (by rw [h0] at h; cases h), fun _ sc x _ _ _ _ h => (by rw [h0] at h; cases h), hA, hP, hC, hI⟩
end
end Rf
/-! # Rf9: every expression that passes the look is read rightly -/
namespace Rf
open PySem PySem.Spec L2
section
variable {N : List Str} {n : Nat} {T : Tb}
theorem f4 {e : Rf.E} {P : Prop} (h : (∀ sc xs, ckL N T e sc xs = false) → (∀ sc o, ckP N T e sc o = false) → (∀ sc xs, ckC N T e sc xs = false) → (∀ sc x, ckI N T e sc x = false) → P)
    (h1 : ∀ sc xs, ckL N T e sc xs = false := by intros; rfl) (h2 : ∀ sc o, ckP N T e sc o = false := by intros; rfl) (h3 : ∀ sc xs, ckC N T e sc xs = false := by intros; rfl) (h4 : ∀ sc x, ckI N T e sc x = false := by intros; rfl) : P := h h1 h2 h3 h4
theorem sn_var (i : Nat) : Snd N n T (.var i) := f4 (snd_E (fun X sc x W G tk K h => by
  cases x with
  | Name s p =>
    simp only [ckE, Bool.and_eq_true, decide_eq_true_eq] at h
    exact ⟨e_var G h.1.1 h.1.2 h.2, .inl rfl⟩
  | _ => simp [ckE] at h) rfl (.inl fun env => by simp only [ev, evT]))
theorem sn_int (i : Int) : Snd N n T (.int i) := f4 (snd_E (fun X sc x W G tk K h => by
  cases x with
  | Constant c k p => cases c with
    | int j => simp only [ckE, decide_eq_true_eq] at h; subst h; exact ⟨e_int, .inl rfl⟩
    | _ => simp [ckE] at h
  | _ => simp [ckE] at h) rfl (.inl fun env => by simp only [ev, evT, R.bind_ok, truD]))
theorem sn_bl (i : Bool) : Snd N n T (.bl i) := f4 (snd_E (fun X sc x W G tk K h => by
  cases x with
  | Constant c k p => cases c with
    | bool j => simp only [ckE, beq_iff_eq] at h; subst h; exact ⟨e_bl, .inl rfl⟩
    | _ => simp [ckE] at h
  | _ => simp [ckE] at h) rfl (.inl fun env => by simp only [ev, evT, R.bind_ok, truD]))
theorem sn_non : Snd N n T .non := f4 (snd_E (fun X sc x W G tk K h => by
  cases x with
  | Constant c k p => cases c with
    | none => exact ⟨e_non, .inl rfl⟩
    | _ => simp [ckE] at h
  | _ => simp [ckE] at h) rfl (.inr fun env => rfl))
theorem sn_str (s : Str) : Snd N n T (.str s) := f4 (snd_E (fun X sc x W G tk K h => by
  cases x with
  | Constant c k p => cases c with
    | str j => simp only [ckE, decide_eq_true_eq] at h; subst h; exact ⟨e_str, .inl rfl⟩
    | _ => simp [ckE] at h
  | _ => simp [ckE] at h) rfl (.inr fun env => rfl))
theorem sn_glob (j : Nat) : Snd N n T (.glob j) := f4 (snd_E (fun X sc x W G tk K h => by
  cases x with
  | Name s p =>
    simp only [ckE, Bool.and_eq_true, decide_eq_true_eq] at h
    exact ⟨e_glob G.toGoodB K h.1.1 h.1.2 h.2, .inl rfl⟩
  | _ => simp [ckE] at h) rfl (.inr fun env => rfl))
theorem sn_bin (op : BOp) {a b : Rf.E} (ha : Snd N n T a) (hb : Snd N n T b) : Snd N n T (.bin op a b) := f4 (snd_X (fun X sc x W G tk K h => by
  cases x with
  | BinOp x o y p =>
    simp only [ckE, Bool.and_eq_true, decide_eq_true_eq] at h
    obtain ⟨⟨rfl, h1⟩, h2⟩ := h
    exact ⟨e_bin (ha.E X sc x W G tk K h1) (hb.E X sc y W G tk K h2), .inl rfl⟩
  | _ => simp [ckE] at h) (.inr fun env => rfl))
theorem sn_neg {a : Rf.E} (ha : Snd N n T a) : Snd N n T (.neg a) := f4 (snd_E (fun X sc x W G tk K h => by
  cases x with
  | UnaryOp o x p => cases o with
    | USub => simp only [ckE] at h; exact ⟨e_neg (ha.E X sc x W G tk K h), .inl rfl⟩
    | _ => simp [ckE] at h
  | _ => simp [ckE] at h) rfl (.inr fun env => rfl))
theorem sn_cmp (op : COp) {a b : Rf.E} (ha : Snd N n T a) (hb : Snd N n T b) : Snd N n T (.cmp op a b) := f4 (snd_ET (fun X sc x W G tk K h => by
  cases x with
  | Compare x os cs p =>
    rcases os with _ | ⟨o, _ | ⟨o2, r⟩⟩ <;> rcases cs with _ | ⟨y, _ | ⟨y2, r2⟩⟩ <;> first | (simp [ckE] at h; done) | skip
    simp only [ckE, Bool.and_eq_true, decide_eq_true_eq, Bool.not_eq_true'] at h
    obtain ⟨⟨⟨rfl, h1⟩, h2⟩, h3⟩ := h
    exact ⟨e_cmp G.toGoodB (ha.E X sc x W G tk K h1) (hb.E X sc y W G tk K h2) h3, t_cmp G.toGoodB (ha.E X sc x W G tk K h1) (hb.E X sc y W G tk K h2) h3⟩
  | _ => simp [ckE] at h) rfl)
theorem sn_isN (ng : Bool) {a : Rf.E} (ha : Snd N n T a) : Snd N n T (.isN a ng) := f4 (snd_ET (fun X sc x W G tk K h => by
  cases x with
  | Compare x os cs p =>
    rcases os with _ | ⟨o, _ | ⟨o2, r⟩⟩ <;> rcases cs with _ | ⟨y, _ | ⟨y2, r2⟩⟩ <;> first | (simp [ckE] at h; done) | skip
    cases y with
    | Constant c k p' => cases c with
      | none =>
        simp only [ckE, Bool.and_eq_true, decide_eq_true_eq] at h
        obtain ⟨rfl, h1⟩ := h
        exact ⟨e_isN (ha.E X sc x W G tk K h1), t_isN (ha.E X sc x W G tk K h1)⟩
      | _ => simp [ckE] at h
    | _ => simp [ckE] at h
  | _ => simp [ckE] at h) rfl)
theorem sn_chain (op op' : COp) {a b c : Rf.E} (ha : Snd N n T a) (hb : Snd N n T b) (hc : Snd N n T c) : Snd N n T (.chain op op' a b c) := f4 (snd_ET (fun X sc x W G tk K h => by
  cases x with
  | Compare x os cs p =>
    rcases os with _ | ⟨o, _ | ⟨o2, _ | ⟨o3, r⟩⟩⟩ <;> rcases cs with _ | ⟨y, _ | ⟨y2, _ | ⟨y3, r2⟩⟩⟩ <;> first | (simp [ckE] at h; done) | skip
    simp only [ckE, Bool.and_eq_true, decide_eq_true_eq, Bool.not_eq_true'] at h
    obtain ⟨⟨⟨⟨⟨rfl, rfl⟩, h1⟩, h2⟩, h3⟩, h4⟩ := h
    exact ⟨e_chain G.toGoodB (ha.E X sc x W G tk K h1) (hb.E X sc y W G tk K h2) (hc.E X sc y2 W G tk K h3) h4, t_chain G.toGoodB (ha.E X sc x W G tk K h1) (hb.E X sc y W G tk K h2) (hc.E X sc y2 W G tk K h3) h4⟩
  | _ => simp [ckE] at h) rfl)
theorem sn_and {a b : Rf.E} (ha : Snd N n T a) (hb : Snd N n T b) : Snd N n T (.and a b) := f4 (snd_ET (fun X sc x W G tk K h => by
  cases x with
  | BoolOp o xs p =>
    cases o with
    | Or => simp [ckE] at h
    | And =>
      rcases xs with _ | ⟨x, _ | ⟨y, _ | ⟨z, r⟩⟩⟩ <;> first | (simp [ckE] at h; done) | skip
      · simp only [ckE, Bool.and_eq_true] at h
        exact ⟨e_and (ha.E X sc x W G tk K h.1) (pe_one (hb.E X sc y W G tk K h.2)), t_and (ha.Tt X sc x W G tk K h.1) (pw_and1 (hb.Tt X sc y W G tk K h.2))⟩
      · simp only [ckE, Bool.and_eq_true] at h
        exact ⟨e_and (ha.E X sc x W G tk K h.1) (hb.E X sc _ W G tk K h.2), t_and (ha.Tt X sc x W G tk K h.1) (pw_of (hb.Tt X sc _ W G tk K h.2))⟩
  | _ => simp [ckE] at h) rfl)
theorem sn_or {a b : Rf.E} (ha : Snd N n T a) (hb : Snd N n T b) : Snd N n T (.or a b) := f4 (snd_ET (fun X sc x W G tk K h => by
  cases x with
  | BoolOp o xs p =>
    cases o with
    | And => simp [ckE] at h
    | Or =>
      rcases xs with _ | ⟨x, _ | ⟨y, _ | ⟨z, r⟩⟩⟩ <;> first | (simp [ckE] at h; done) | skip
      · simp only [ckE, Bool.and_eq_true] at h
        exact ⟨e_or (ha.E X sc x W G tk K h.1) (pe_one (hb.E X sc y W G tk K h.2)), t_or (ha.Tt X sc x W G tk K h.1) (pw_or1 (hb.Tt X sc y W G tk K h.2))⟩
      · simp only [ckE, Bool.and_eq_true] at h
        exact ⟨e_or (ha.E X sc x W G tk K h.1) (hb.E X sc _ W G tk K h.2), t_or (ha.Tt X sc x W G tk K h.1) (pw_of (hb.Tt X sc _ W G tk K h.2))⟩
  | _ => simp [ckE] at h) rfl)
theorem sn_not {a : Rf.E} (ha : Snd N n T a) : Snd N n T (.not a) := f4 (snd_ET (fun X sc x W G tk K h => by
  cases x with
  | UnaryOp o x p => cases o with
    | Not => simp only [ckE] at h; exact ⟨e_not (ha.E X sc x W G tk K h), t_not (ha.Tt X sc x W G tk K h)⟩
    | _ => simp [ckE] at h
  | _ => simp [ckE] at h) rfl)
theorem sn_ife {a b c : Rf.E} (hc : Snd N n T c) (ha : Snd N n T a) (hb : Snd N n T b) : Snd N n T (.ife c a b) := f4 (snd_E (fun X sc x W G tk K h => by
  cases x with
  | IfExp z x y p =>
    simp only [ckE, Bool.and_eq_true] at h
    exact ⟨e_ife (hc.Tt X sc z W G tk K h.1.1) (ha.E X sc x W G tk K h.1.2) (hb.E X sc y W G tk K h.2), .inr fun env => rfl⟩
  | _ => simp [ckE] at h) rfl (.inr fun env => rfl))
theorem sn_tup {a : Rf.E} (ha : Snd N n T a) : Snd N n T (.tup a) := f4 (snd_E (fun X sc x W G tk K h => by
  cases x with
  | Tuple xs k p => simp only [ckE] at h; exact ⟨e_tup (ha.A X sc xs W G tk K h).1, .inl rfl⟩
  | _ => simp [ckE] at h) rfl (.inr fun env => rfl))
theorem sn_lst {a : Rf.E} (ha : Snd N n T a) : Snd N n T (.lst a) := f4 (snd_X (fun X sc x W G tk K h => by
  cases x with
  | List xs p => simp only [ckE] at h; exact ⟨e_lst (ha.A X sc xs W G tk K h).1, .inl rfl⟩
  | _ => simp [ckE] at h) (.inr fun env => rfl))
theorem sn_nil : Snd N n T .nil := snd_no (by intros; rfl)
  (fun X sc x W G tk K h => by cases x with
    | nil => exact ⟨a_nil, by simp⟩
    | cons _ _ => simp [ckL] at h)
  (fun X sc x W G tk K h => by cases x with
    | none => exact p_nil
    | some _ => simp [ckP] at h)
  (fun X sc x W G tk K h => by cases x with
    | nil => exact c_nil
    | cons _ _ => simp [ckC] at h)
  (fun X sc x tg W G tk K h _ => by simp [ckI] at h)
theorem sn_cons {a b : Rf.E} (ha : Snd N n T a) (hb : Snd N n T b) : Snd N n T (.cons a b) := snd_no (by intros; rfl)
  (fun X sc x W G tk K h => by cases x with
    | nil => simp [ckL] at h
    | cons x xs =>
      simp only [ckL, Bool.and_eq_true, Bool.not_eq_true'] at h
      obtain ⟨⟨h1, h2⟩, h3⟩ := h
      obtain ⟨k1, k2⟩ := hb.A X sc xs W G tk K h3
      refine ⟨a_cons (ha.E X sc x W G tk K h1) k1 h2, fun y hy => ?_⟩
      rcases List.mem_cons.mp hy with rfl | hy
      · exact h2
      · exact k2 y hy)
  (fun X sc x W G tk K h => by
    cases b with
    | nil => cases x with
      | none => simp [ckP] at h
      | some x => simp only [ckP] at h; exact p_some (ha.E X sc x W G tk K h)
    | _ => simp [ckP] at h)
  (fun X sc x W G tk K h => by
    cases b with
    | nil =>
      rcases x with _ | ⟨x, _ | ⟨y, r⟩⟩ <;> first | (simp [ckC] at h; done) | skip
      simp only [ckC] at h
      exact c_one (ha.Tt X sc x W G tk K h)
    | _ => simp [ckC] at h)
  (fun X sc x tg W G tk K h _ => by
    cases b with
    | nil => simp only [ckI] at h; exact i_seq (ha.E X sc x W G tk K h)
    | _ => simp [ckI] at h)
theorem sn_ix {a b : Rf.E} (ha : Snd N n T a) (hb : Snd N n T b) : Snd N n T (.ix a b) := f4 (snd_E (fun X sc x W G tk K h => by
  cases x with
  | Subscript x y p =>
    simp only [ckE, Bool.and_eq_true, Bool.not_eq_true'] at h
    exact ⟨e_ix (ha.E X sc x W G tk K h.1.1) (hb.E X sc y W G tk K h.1.2) h.2, .inl rfl⟩
  | _ => simp [ckE] at h) rfl (.inl fun env => by simp only [ev, evT]))
theorem sn_sl {a b c : Rf.E} (ha : Snd N n T a) (hb : Snd N n T b) (hc : Snd N n T c) : Snd N n T (.sl a b c) := f4 (snd_X (fun X sc x W G tk K h => by
  cases x with
  | Subscript x y p => cases y with
    | Slice l u st p2 => cases st with
      | none =>
        simp only [ckE, Bool.and_eq_true] at h
        exact ⟨e_sl (ha.E X sc x W G tk K h.1.1) (hb.P X sc l W G tk K h.1.2) (hc.P X sc u W G tk K h.2), .inl rfl⟩
      | some _ => simp [ckE] at h
    | _ => simp [ckE] at h
  | _ => simp [ckE] at h) (.inr fun env => rfl))
theorem sn_call (j : Nat) {a : Rf.E} (ha : Snd N n T a) : Snd N n T (.call j a) := f4 (snd_E (fun X sc x W G tk K h => by
  cases x with
  | Call f xs ks p => cases f with
    | Name s q => cases ks with
      | nil =>
        simp only [ckE, Bool.and_eq_true, decide_eq_true_eq] at h
        obtain ⟨⟨⟨h1, h2⟩, h3⟩, h4⟩ := h
        refine ⟨?_, .inl rfl⟩
        cases xs with
        | cons y ys => exact e_call G tk K h1 h2 h3 (ha.A X sc _ W G tk K h4).1 (ha.A X sc _ W G tk K h4).2
        | nil =>
          cases a with
          | nil => exact e_call0 G tk K h1 h2 h3
          | _ => simp [ckL] at h4
      | cons _ _ => simp [ckE] at h
    | _ => simp [ckE] at h
  | _ => simp [ckE] at h) rfl (.inl fun env => by simp only [ev, evT]))
theorem sn_callK1 (j : Nat) {a b : Rf.E} (ha : Snd N n T a) (hb : Snd N n T b) : Snd N n T (.callK1 j a b) := f4 (snd_E (fun X sc x W G tk K h => by
  cases x with
  | Call f xs ks p => cases f with
    | Name s q =>
      rcases xs with _ | ⟨y, ys⟩
      · simp [ckE] at h
      · rcases ks with _ | ⟨⟨kn, v, kp⟩, _ | ⟨k2, kr⟩⟩
        · simp [ckE] at h
        · cases kn with
          | none => simp [ckE] at h
          | some k =>
            simp only [ckE, Bool.and_eq_true, decide_eq_true_eq, Bool.not_eq_true'] at h
            obtain ⟨⟨⟨⟨⟨h0, h1⟩, h2⟩, h3⟩, h4⟩, h5⟩ := h
            exact ⟨e_callK1 (G.good h0) tk K h1 h2 h3 (ha.A X sc _ W G tk K h4).1 (ha.A X sc _ W G tk K h4).2 (hb.E X sc v W G tk K h5), .inl rfl⟩
        · exact absurd h (by simp [ckE])
    | _ => simp [ckE] at h
  | _ => simp [ckE] at h) rfl (.inl fun env => by simp only [ev, evT]))
theorem sn_callK2 (j : Nat) {a b c : Rf.E} (ha : Snd N n T a) (hb : Snd N n T b) (hc : Snd N n T c) : Snd N n T (.callK2 j a b c) := f4 (snd_E (fun X sc x W G tk K h => by
  cases x with
  | Call f xs ks p => cases f with
    | Name s q =>
      rcases xs with _ | ⟨y, ys⟩
      · simp [ckE] at h
      · rcases ks with _ | ⟨⟨kn, v, kp⟩, _ | ⟨⟨kn2, v2, kp2⟩, _ | ⟨k3, kr⟩⟩⟩
        · simp [ckE] at h
        · exact absurd h (by simp [ckE])
        · cases kn with
          | none => exact absurd h (by simp [ckE])
          | some k =>
            cases kn2 with
            | none => exact absurd h (by simp [ckE])
            | some k2 =>
              simp only [ckE, Bool.and_eq_true, decide_eq_true_eq, Bool.not_eq_true'] at h
              obtain ⟨⟨⟨⟨⟨⟨h0, h1⟩, h2⟩, h3⟩, h4⟩, h5⟩, h6⟩ := h
              exact ⟨e_callK2 (G.good h0) tk K h1 h2 h3 (ha.A X sc _ W G tk K h4).1 (ha.A X sc _ W G tk K h4).2 (hb.E X sc v W G tk K h5) (hc.E X sc v2 W G tk K h6), .inl rfl⟩
        · exact absurd h (by simp [ckE])
    | _ => simp [ckE] at h
  | _ => simp [ckE] at h) rfl (.inl fun env => by simp only [ev, evT]))
theorem sn_rev {a : Rf.E} (ha : Snd N n T a) : Snd N n T (.rev a) := f4 (snd_X (fun X sc x W G tk K h => by
  cases x with
  | Subscript x y p => cases y with
    | Slice l u st p2 =>
      cases l with
      | some _ => exact absurd h (by simp [ckE])
      | none => cases u with
        | some _ => exact absurd h (by simp [ckE])
        | none => cases st with
          | none => exact absurd h (by simp [ckE])
          | some st => cases st with
            | UnaryOp o z q =>
              cases o with
              | USub => cases z with
                | Constant c k pc => cases c with
                  | int i =>
                    by_cases hi : i = 1
                    · subst hi
                      simp only [ckE] at h
                      exact ⟨e_rev (ha.E X sc x W G tk K h), .inl rfl⟩
                    · exact absurd h (by simp [ckE, hi])
                  | _ => exact absurd h (by simp [ckE])
                | _ => exact absurd h (by simp [ckE])
              | _ => exact absurd h (by simp [ckE])
            | _ => exact absurd h (by simp [ckE])
    | _ => exact absurd h (by simp [ckE])
  | _ => simp [ckE] at h) (.inr fun env => rfl))
theorem sn_bi (b : Bi) {a : Rf.E} (ha : Snd N n T a) : Snd N n T (.bi b a) := f4 (snd_X (fun X sc x W G tk K h => by
  cases x with
  | Call f xs ks p => cases f with
    | Name s q => cases ks with
      | nil =>
        cases xs with
        | nil => simp [ckE] at h
        | cons y ys =>
          simp only [ckE, Bool.and_eq_true, decide_eq_true_eq, Bool.not_eq_true'] at h
          obtain ⟨⟨⟨⟨hq, rfl⟩, h2⟩, h3⟩, h4⟩ := h
          exact ⟨e_bi (G.good hq) K h2 h3 (ha.A X sc _ W G tk K h4).1 (ha.A X sc _ W G tk K h4).2, .inl rfl⟩
      | cons _ _ => simp [ckE] at h
    | _ => simp [ckE] at h
  | _ => simp [ckE] at h) (.inl fun env => by simp only [ev, evT]))
theorem sn_isi (t : Ty) {a : Rf.E} (ha : Snd N n T a) : Snd N n T (.isi a t) := f4 (snd_of (fun X sc x W G tk K h => by
  cases x with
  | Call f xs ks p => cases f with
    | Name s q => cases ks with
      | nil =>
        rcases xs with _ | ⟨x, _ | ⟨y, _ | ⟨z, r⟩⟩⟩ <;> first | (simp [ckE] at h; done) | skip
        cases y with
        | Name c q2 =>
          simp only [ckE, Bool.and_eq_true, decide_eq_true_eq, Bool.not_eq_true'] at h
          obtain ⟨⟨⟨⟨⟨⟨⟨rfl, rfl⟩, h1⟩, h2⟩, h3⟩, h4⟩, h5⟩, h6⟩ := h
          exact e_isi G.toGoodB K h1 h2 h3 h4 (ha.E X sc x W G tk K h5) h6
        | _ => simp [ckE] at h
      | cons _ _ => simp [ckE] at h
    | _ => simp [ckE] at h
  | _ => simp [ckE] at h) (fun X sc x W G tk K h z => by cases z) (fun X sc x W G tk K h => by
  cases x with
  | Call f xs ks p => cases f with
    | Name s q => cases ks with
      | nil =>
        rcases xs with _ | ⟨x, _ | ⟨y, _ | ⟨z, r⟩⟩⟩ <;> first | (simp [ckE] at h; done) | skip
        cases y with
        | Name c q2 =>
          simp only [ckE, Bool.and_eq_true, decide_eq_true_eq, Bool.not_eq_true'] at h
          obtain ⟨⟨⟨⟨⟨⟨⟨rfl, rfl⟩, h1⟩, h2⟩, h3⟩, h4⟩, h5⟩, h6⟩ := h
          refine t_plain rfl (fun env => ?_) (e_isi G.toGoodB K h1 h2 h3 h4 (ha.E X sc x W G tk K h5) h6)
          simp only [ev, evT]
          cases ev T a env with
          | ok d => simp only [R.bind_ok]; cases isiB t d <;> rfl
          | err z => rfl
          | bad => rfl
        | _ => simp [ckE] at h
      | cons _ _ => simp [ckE] at h
    | _ => simp [ckE] at h
  | _ => simp [ckE] at h))
theorem sn_isx (j : Nat) {a : Rf.E} (ha : Snd N n T a) : Snd N n T (.isx a j) := f4 (snd_E (fun X sc x W G tk K h => by
  cases x with
  | Call f xs ks p => cases f with
    | Name s q => cases ks with
      | nil =>
        rcases xs with _ | ⟨x, _ | ⟨y, _ | ⟨z, r⟩⟩⟩ <;> first | (simp [ckE] at h; done) | skip
        cases y with
        | Name c q2 =>
          simp only [ckE, Bool.and_eq_true, decide_eq_true_eq, Bool.not_eq_true'] at h
          obtain ⟨⟨⟨⟨⟨⟨⟨⟨h0, rfl⟩, h1⟩, h2⟩, h3⟩, h4⟩, h5⟩, h6⟩, h7⟩ := h
          exact ⟨e_isx (G.hot h0) G.toGoodB K h2 h1 h3 h4 h5 (ha.E X sc x W G tk K h6) h7, .inl rfl⟩
        | _ => simp [ckE] at h
      | cons _ _ => simp [ckE] at h
    | _ => simp [ckE] at h
  | _ => simp [ckE] at h) rfl (.inl fun env => by simp only [ev, evT]))
theorem sn_att (f : Str) {a : Rf.E} (ha : Snd N n T a) : Snd N n T (.att a f) := f4 (snd_E (fun X sc x W G tk K h => by
  cases x with
  | Attribute x s p =>
    simp only [ckE, Bool.and_eq_true, decide_eq_true_eq, Bool.not_eq_true'] at h
    obtain ⟨⟨rfl, h1⟩, h2⟩ := h
    exact ⟨e_att K (ha.E X sc x W G tk K h1) h2, .inl rfl⟩
  | _ => simp [ckE] at h) rfl (.inl fun env => by simp only [ev, evT]))
theorem sn_oix (i : Nat) {b : Rf.E} (hb : Snd N n T b) : Snd N n T (.oix i b) := f4 (snd_E (fun X sc x W G tk K h => by
  cases x with
  | Subscript x y p => cases x with
    | Name s q =>
      simp only [ckE, Bool.and_eq_true, decide_eq_true_eq, Bool.not_eq_true'] at h
      obtain ⟨⟨⟨⟨h1, h2⟩, h3⟩, h4⟩, h5⟩ := h
      exact ⟨e_oix G h1 h2 h3 (hb.E X sc y W G tk K h4) h5, .inl rfl⟩
    | _ => simp [ckE] at h
  | _ => simp [ckE] at h) rfl (.inr fun env => rfl))
theorem sn_olen (i : Nat) : Snd N n T (.olen i) := f4 (snd_E (fun X sc x W G tk K h => by
  cases x with
  | Call f xs ks p => cases f with
    | Name s q => cases ks with
      | nil =>
        rcases xs with _ | ⟨y, _ | ⟨z, r⟩⟩ <;> first | (simp [ckE] at h; done) | skip
        cases y with
        | Name c q2 =>
          simp only [ckE, Bool.and_eq_true, decide_eq_true_eq] at h
          obtain ⟨⟨⟨⟨⟨rfl, h1⟩, h2⟩, h3⟩, h4⟩, h5⟩ := h
          exact ⟨e_olen G K h1 h2 h3 h4 h5, .inl rfl⟩
        | _ => simp [ckE] at h
      | cons _ _ => simp [ckE] at h
    | _ => simp [ckE] at h
  | _ => simp [ckE] at h) rfl (.inr fun env => rfl))
theorem sn_comp (tg : Tg) (own : List Nat) {a b c : Rf.E} (ha : Snd N n T a) (hb : Snd N n T b) (hc : Snd N n T c) : Snd N n T (.comp a tg b c own) := f4 (snd_X (fun X sc x W G tk K h => by
  cases x with
  | ListComp x gs sc' p =>
    rcases gs with _ | ⟨⟨t, i, ifs, asy⟩, _ | ⟨y, r⟩⟩
    · simp [ckE] at h
    · by_cases h0 : asy = 0
      · subst h0
        simp only [ckE, Bool.and_eq_true, Bool.not_eq_true', List.all_eq_true, decide_eq_true_eq] at h
        obtain ⟨⟨⟨⟨⟨⟨⟨⟨hq, h1⟩, h2⟩, h3⟩, h4⟩, h5⟩, h6⟩, h7⟩, h8⟩ := h
        have G1 := G.good hq
        have gm : ∀ {sc2 : Scope} {X2 : Cx}, Good N sc2 n X2 → GoodM N sc2 n T.hm X2 := fun g => by rw [hq]; exact g.toM
        exact ⟨e_comp G1 h1 h6 h8 (hb.I X sc i t W G tk K h2 h7) (fun s H C cl fp => by have z := g_of (good_blk G1 s H C cl fp) h3; rw [gOf_blk G1.calm] at z; exact z) (fun s H C cl fp => by have z := hc.C _ sc' ifs noW (gm (good_blk G1 s H C cl fp)) (takes_blk _ _ _ _ _) (by rw [gOf_blk G1.calm]; exact K) h4; rw [gOf_blk G1.calm] at z; exact z)
          (fun s H C cl fp => by have z := ha.E _ sc' x noW (gm (good_blk G1 s H C cl fp)) (takes_blk _ _ _ _ _) (by rw [gOf_blk G1.calm]; exact K) h5; rw [gOf_blk G1.calm] at z; exact z), .inl rfl⟩
      · unfold ckE at h
        split at h <;> first | cases h | skip
        all_goals (rename_i hx; first | (cases hx; exact absurd rfl h0) | (cases hx) | skip)
    · simp [ckE] at h
  | _ => simp [ckE] at h) (.inr fun env => rfl))
end
end Rf
/-! # Rf24: own objects among the expressions; walking an own object -/
namespace Rf
open PySem PySem.Spec L2
theorem slot_tupit_next : Slot "tuple_iterator" "__next__" "tuple_iterator.__next__" :=
  .of (owner := "tuple_iterator") (n := "__next__") (by rw [typeLookup_type, builtinLookup_eq_fast]; kernel_rfl) (by decide +kernel) (by decide +kernel) (by decide +kernel)
    (by first | exact .inl (by decide +kernel) | exact .inr (by decide +kernel)) (by rw [isSubtype_type]; kernel_rfl)
section
variable {X : Cx} {N : List Str} {sc : Scope} {n : Nat} {T : Tb} {W : WE} {a b c : E} {x y z : Expr} {p : Pos} {k : Nat}
theorem itT_get {pins : List (Addr × Obj)} {σ : St} {H : Hp} {s : Shared} {t it : Addr} (I : Inv X pins σ H s) (e : H it = some (ItT t it)) : s.heap.IsTupleIter it t 0 := (I.hok it _ e).1
theorem i_ito {tg : Expr} {j : Nat} (G : Good N sc n X) (K : Know (gOf X) n T) (ha : PE X x (tD (gOf X) T W a)) : PI X tg x (tDI (gOf X) T W (.ito j a)) := by
  refine ⟨fun pins s σ H Rr I ⟨H0, Hf0, Hf, env, sr, r⟩ => ?_⟩
  simp only [evI] at r
  refine thn (ha.run pins s σ H (fun v H1 => ∃ Hf1 d, Rep (gOf X) Hf1 v d ∧ SR (gOf X) H0 Hf0 σ H1 Hf1 env ∧ RG (gOf X) W σ (IP (gOf X) Rr) (itoD T.itc j d) H1 Hf1) I (tD_step lat_IP sr r fun d v H1 Hf1 _ f1 r1 sr1 q1 => ⟨Hf1, d, r1, sr1, q1⟩)) fun u s1 ⟨v, H1, I1, rv, Hf1, d, r1, sr1, q1⟩ => ?_
  unfold itoD at q1
  split at q1
  · rename_i c gs
    split at q1
    · rename_i c' f e1
      obtain ⟨rfl, q2⟩ := ifr q1
      split at q2
      · rename_i xs hl
        cases r1 with
        | @obj aa C dx cc fs gs hm hh hf =>
          obtain ⟨tv, ht, rt⟩ := hf.lookup hl
          cases rt with
          | @tup t vs ds hsq rr =>
            obtain ⟨C', fi, fd, hm', cl, hfi, hisf, FN, hbn⟩ := (K.itc _ (List.mem_of_getElem? e1)).ex
            obtain rfl := ref_inj hm hm'
            cases rv
            obtain ⟨mA, O, _, _, _, _⟩ := ins_get I1.hok (sr1.sub _ _ hh)
            obtain ⟨od, J, _⟩ := O.look
            obtain ⟨mf, hF⟩ := I1.fr
            refine PySem.W.owit_iter hF I1.ok.mod.kin J hfi hisf ?_
            have hsp : spIt (gOf X) c' f s1 [.ref aa] H1 (fun v H2 => ∃ it, v = .ref it ∧ H1 it = none ∧ s1.heap.objs.size ≤ it ∧ H2 = upd H1 it (ItT t it)) (fun _ _ _ => False) :=
              ⟨aa, C', dx, fs, t, vs, hm, rfl, sr1.sub _ _ hh, ht, same_sqT sr1.sub hsq, fun it hit young => ⟨it, rfl, hit, young, rfl⟩⟩
            have hb := hbn s1 [.ref aa] I1.kIn rfl
            refine wpAny_call (codeAny_mono (FN.go X.A X.stack s1 H1 ⟨[.ref aa], []⟩ [.ref aa] [.ref aa] _ (fun _ _ _ => False) G.room I1.env0 hb (.cons rfl .nil) hsp) fun r s2 hq => ?_)
            cases r with
            | error e => obtain ⟨_, _, _, _, _, _, _, _, _, _, _, _, z⟩ := hq; exact z.elim
            | ok fl =>
              cases fl with
              | next => exact False.elim hq
              | brk => exact False.elim hq
              | cont => exact False.elim hq
              | ret u =>
                obtain ⟨v2, H2, I2, rv2, it, rfl, hit, young, rfl⟩ := I1.after hq
                cases rv2
                have hi2 : (upd H1 it (ItT t it)) it = some (ItT t it) := upd_same
                have st := itT_get I2 hi2
                have hT : s2.TypeIs (.ref it) "tuple_iterator" := by
                  obtain ⟨o, e, c, d⟩ := st
                  exact ⟨o, e, c⟩
                refine wpAny_specialOf (name := "__next__") hT slot_tupit_next.lookup ?_
                have I3 := ItX.inv_drop I2 hi2
                have eH : ItX.dropH (upd H1 it (ItT t it)) it = H1 := ItX.dropH_upd hit
                rw [eH] at I3
                refine ⟨it, [it], _, _, H1, rfl, I3, turn_tuple t it, st, fun b hb => ?_, q2 _ H1 Hf1 (Fut.refl sr1.sub) (yld_tup hsq rr)⟩
                have e : b = it := by simpa using hb
                subst e
                have fp := ItX.inv_fp I2 hi2 (Nat.le_trans I1.sz young)
                rw [eH] at fp
                exact fp
      · exact q2.elim
    · exact q1.elim
  · exact q1.elim
end
section
variable {N : List Str} {n : Nat} {T : Tb}
theorem sn_ito (j : Nat) {a : Rf.E} (ha : Snd N n T a) : Snd N n T (.ito j a) := snd_no (by intros; rfl) (fun _ sc x _ _ _ _ h => (by cases (show false = true from h))) (fun _ sc x _ _ _ _ h => (by cases (show false = true from h))) (fun _ sc x _ _ _ _ h => (by cases (show false = true from h))) (fun X sc x tg W G tk K h _ => by
  simp only [ckI, Bool.and_eq_true, Bool.not_eq_true'] at h
  exact i_ito (G.good h.1) K (ha.E X sc x W G tk K h.2))
theorem sn_meth (j : Nat) {a b : Rf.E} (ha : Snd N n T a) (hb : Snd N n T b) : Snd N n T (.meth j a b) := f4 (snd_E (fun X sc x W G tk K h => by
  cases x with
  | Call f xs ks p =>
    cases f with
    | Attribute o m pa =>
      cases ks with
      | nil =>
        simp only [ckE, Bool.and_eq_true, decide_eq_true_eq, Bool.not_eq_true'] at h
        obtain ⟨⟨⟨⟨⟨⟨h0, h1⟩, h2⟩, h3⟩, h4⟩, h5⟩, h6⟩ := h
        obtain ⟨k1, k2⟩ := hb.A X sc xs W G tk K h6
        refine ⟨e_meth (G.good h0) tk K h1 h2 h3 (ha.E X sc o W G tk K h4) h5 k1 k2 fun e => ?_, .inl rfl⟩
        subst e
        cases b <;> first | rfl | cases (show false = true from h6)
      | cons _ _ => simp [ckE] at h
    | _ => cases ks <;> simp [ckE] at h
  | _ => simp [ckE] at h) rfl (.inl fun env => by simp only [ev, evT]))
theorem sn_calO (j : Nat) {a : Rf.E} (ha : Snd N n T a) : Snd N n T (.calO j a) := f4 (snd_X (fun X sc x W G tk K h => by
  cases x with
  | Call f xs ks p =>
    cases f with
    | Name s q =>
      cases ks with
      | nil =>
        simp only [ckE, Bool.and_eq_true, decide_eq_true_eq, Bool.not_eq_true'] at h
        obtain ⟨⟨⟨⟨h0, h1⟩, h2⟩, h3⟩, h4⟩ := h
        obtain ⟨k1, k2⟩ := ha.A X sc xs W G tk K h4
        refine ⟨e_calO (G.good h0) tk K h1 h2 h3 k1 k2 fun e => ?_, .inl rfl⟩
        subst e
        cases a <;> first | rfl | cases (show false = true from h4)
      | cons _ _ => simp [ckE] at h
    | _ => cases ks <;> simp [ckE] at h
  | _ => simp [ckE] at h) (.inr fun env => rfl))
theorem sn_mlen (j : Nat) {a : Rf.E} (ha : Snd N n T a) : Snd N n T (.mlen j a) := f4 (snd_E (fun X sc x W G tk K h => by
  cases x with
  | Call f xs ks p =>
    cases f with
    | Name s q =>
      rcases ks with _ | ⟨k1, k2⟩ <;> rcases xs with _ | ⟨y, _ | ⟨z, r⟩⟩ <;> first | (cases (show false = true from h); done) | skip
      simp only [ckE, Bool.and_eq_true, decide_eq_true_eq, Bool.not_eq_true'] at h
      obtain ⟨⟨⟨⟨⟨⟨h0, rfl⟩, h1⟩, h2⟩, h3⟩, h4⟩, h5⟩ := h
      exact ⟨e_mlen (G.good h0) tk K h1 h2 h3 (ha.E X sc y W G tk K h4) h5, .inl rfl⟩
    | _ => cases ks <;> simp [ckE] at h
  | _ => simp [ckE] at h) rfl (.inr fun env => rfl))
theorem sn_prop (j : Nat) {a : Rf.E} (ha : Snd N n T a) : Snd N n T (.prop j a) := f4 (snd_E (fun X sc x W G tk K h => by
  cases x with
  | Attribute x s p =>
    simp only [ckE, Bool.and_eq_true, decide_eq_true_eq, Bool.not_eq_true'] at h
    obtain ⟨⟨⟨h0, h1⟩, h2⟩, h3⟩ := h
    exact ⟨e_prop (G.good h0) tk K h1 (ha.E X sc x W G tk K h2) h3, .inl rfl⟩
  | _ => simp [ckE] at h) rfl (.inr fun env => rfl))
theorem sn_min (j : Nat) (ng : Bool) {a b : Rf.E} (ha : Snd N n T a) (hb : Snd N n T b) : Snd N n T (.min_ j ng a b) := f4 (snd_ET (fun X sc x W G tk K h => by
  cases x with
  | Compare x os ys p =>
    rcases os with _ | ⟨o, _ | ⟨o2, os⟩⟩ <;> rcases ys with _ | ⟨y, _ | ⟨y2, ys⟩⟩ <;> first | (cases (show false = true from h); done) | skip
    simp only [ckE, Bool.and_eq_true, decide_eq_true_eq, Bool.not_eq_true'] at h
    obtain ⟨⟨⟨⟨⟨h0, rfl⟩, h1⟩, h2⟩, h3⟩, h4⟩ := h
    exact ⟨e_min (G.good h0) tk K h1 (ha.E X sc x W G tk K h2) (hb.E X sc y W G tk K h3) h4, t_min (G.good h0) tk K h1 (ha.E X sc x W G tk K h2) (hb.E X sc y W G tk K h3) h4⟩
  | _ => simp [ckE] at h) rfl)
end
end Rf
/-! # Rf10: walks; all expressions -/
namespace Rf
open PySem PySem.Spec L2
section
variable {N : List Str} {n : Nat} {T : Tb}
theorem walk_no {e : Rf.E} (h0 : ∀ sc x, ckE N T e sc x = false) (h1 : ∀ sc x, ckL N T e sc x = false) (h2 : ∀ sc x, ckP N T e sc x = false) (h3 : ∀ sc x, ckC N T e sc x = false)
    (hI : ∀ (X : Cx) (sc : Scope) (x tg : Expr) (W : WE), GoodM N sc n T.hm X → Takes X W → Know (gOf X) n T → ckI N T e sc x = true → tgOkB e tg = true → PI X tg x (tDI (gOf X) T W e)) : Snd N n T e :=
  snd_no h0 (fun _ sc x _ _ _ _ h => (by rw [h1] at h; cases h)) (fun _ sc x _ _ _ _ h => (by rw [h2] at h; cases h)) (fun _ sc x _ _ _ _ h => (by rw [h3] at h; cases h)) hI
theorem sn_rng1 {a : Rf.E} (ha : Snd N n T a) : Snd N n T (.rng1 a) := walk_no (by intros; rfl) (by intros; rfl) (by intros; rfl) (by intros; rfl) (fun X sc x tg W G tk K h _ => by
  cases x with
  | Call f xs ks p => cases f with
    | Name s q =>
        rcases ks with _ | ⟨k1, k2⟩ <;> rcases xs with _ | ⟨y, _ | ⟨z, r⟩⟩ <;> first | (cases (show false = true from h); done) | skip
        simp only [ckI, Bool.and_eq_true, decide_eq_true_eq, Bool.not_eq_true'] at h
        obtain ⟨⟨⟨⟨rfl, h1⟩, h2⟩, h3⟩, h4⟩ := h
        exact i_rng1 G.toGoodB K h1 h2 (ha.E X sc y W G tk K h3) h4
    | _ => exact absurd h (by simp [ckI])
  | _ => exact absurd h (by simp [ckI]))
theorem sn_rng2 {a b : Rf.E} (ha : Snd N n T a) (hb : Snd N n T b) : Snd N n T (.rng2 a b) := walk_no (by intros; rfl) (by intros; rfl) (by intros; rfl) (by intros; rfl) (fun X sc x tg W G tk K h _ => by
  cases x with
  | Call f xs ks p => cases f with
    | Name s q =>
        rcases ks with _ | ⟨k1, k2⟩ <;> rcases xs with _ | ⟨y, _ | ⟨z, _ | ⟨w, r⟩⟩⟩ <;> first | (cases (show false = true from h); done) | skip
        simp only [ckI, Bool.and_eq_true, decide_eq_true_eq, Bool.not_eq_true'] at h
        obtain ⟨⟨⟨⟨⟨⟨rfl, h1⟩, h2⟩, h3⟩, h4⟩, h5⟩, h6⟩ := h
        exact i_rng2 G.toGoodB K h1 h2 (ha.E X sc y W G tk K h3) h4 (hb.E X sc z W G tk K h5) h6
    | _ => exact absurd h (by simp [ckI])
  | _ => exact absurd h (by simp [ckI]))
theorem sn_enum {a : Rf.E} (ha : Snd N n T a) : Snd N n T (.enum a) := walk_no (by intros; rfl) (by intros; rfl) (by intros; rfl) (by intros; rfl) (fun X sc x tg W G tk K h ht => by
  cases tg with
  | Tuple es kk pt =>
    cases x with
    | Call f xs ks p => cases f with
      | Name s q =>
          rcases ks with _ | ⟨k1, k2⟩ <;> rcases xs with _ | ⟨y, _ | ⟨z, r⟩⟩ <;> first | (cases (show false = true from h); done) | skip
          simp only [ckI, Bool.and_eq_true, decide_eq_true_eq, Bool.not_eq_true'] at h
          obtain ⟨⟨⟨⟨rfl, h1⟩, h2⟩, h3⟩, h4⟩ := h
          exact i_enum G.toGoodB K h1 h2 (ha.E X sc y W G tk K h3) h4
        | _ => exact absurd h (by simp [ckI])
    | _ => exact absurd h (by simp [ckI])
  | _ => cases ht)
theorem sn_zip {a b : Rf.E} (ha : Snd N n T a) (hb : Snd N n T b) : Snd N n T (.zip a b) := walk_no (by intros; rfl) (by intros; rfl) (by intros; rfl) (by intros; rfl) (fun X sc x tg W G tk K h ht => by
  cases tg with
  | Tuple es kk pt =>
    cases x with
    | Call f xs ks p => cases f with
      | Name s q =>
          rcases ks with _ | ⟨k1, k2⟩ <;> rcases xs with _ | ⟨y, _ | ⟨z, _ | ⟨w, r⟩⟩⟩ <;> first | (cases (show false = true from h); done) | skip
          simp only [ckI, Bool.and_eq_true, decide_eq_true_eq, Bool.not_eq_true'] at h
          obtain ⟨⟨⟨⟨⟨⟨rfl, h1⟩, h2⟩, h3⟩, h4⟩, h5⟩, h6⟩ := h
          exact i_zip G.toGoodB K h1 h2 (ha.E X sc y W G tk K h3) h4 (hb.E X sc z W G tk K h5) h6
        | _ => exact absurd h (by simp [ckI])
    | _ => exact absurd h (by simp [ckI])
  | _ => cases ht)
theorem snd : ∀ e : Rf.E, Snd N n T e
  | .var i => sn_var i
  | .int i => sn_int i
  | .bl b => sn_bl b
  | .non => sn_non
  | .str s => sn_str s
  | .glob j => sn_glob j
  | .bin op a b => sn_bin op (snd a) (snd b)
  | .neg a => sn_neg (snd a)
  | .cmp op a b => sn_cmp op (snd a) (snd b)
  | .isN a ng => sn_isN ng (snd a)
  | .chain op op' a b c => sn_chain op op' (snd a) (snd b) (snd c)
  | .and a b => sn_and (snd a) (snd b)
  | .or a b => sn_or (snd a) (snd b)
  | .not a => sn_not (snd a)
  | .ife c a b => sn_ife (snd c) (snd a) (snd b)
  | .tup es => sn_tup (snd es)
  | .lst es => sn_lst (snd es)
  | .nil => sn_nil
  | .cons a es => sn_cons (snd a) (snd es)
  | .ix a b => sn_ix (snd a) (snd b)
  | .sl a lo hi => sn_sl (snd a) (snd lo) (snd hi)
  | .call j es => sn_call j (snd es)
  | .callK1 j es a => sn_callK1 j (snd es) (snd a)
  | .callK2 j es a b => sn_callK2 j (snd es) (snd a) (snd b)
  | .rev a => sn_rev (snd a)
  | .bi b es => sn_bi b (snd es)
  | .isi a t => sn_isi t (snd a)
  | .isx a j => sn_isx j (snd a)
  | .att a f => sn_att f (snd a)
  | .meth j a es => sn_meth j (snd a) (snd es)
  | .mlen j a => sn_mlen j (snd a)
  | .calO j a => sn_calO j (snd a)
  | .min_ j ng a b => sn_min j ng (snd a) (snd b)
  | .prop j a => sn_prop j (snd a)
  | .ito j a => sn_ito j (snd a)
  | .comp elt tg it cond own => sn_comp tg own (snd elt) (snd it) (snd cond)
  | .oix i b => sn_oix i (snd b)
  | .olen i => sn_olen i
  | .rng1 a => sn_rng1 (snd a)
  | .rng2 a b => sn_rng2 (snd a) (snd b)
  | .enum a => sn_enum (snd a)
  | .zip a b => sn_zip (snd a) (snd b)
end
end Rf
/-! # Rf11: statements: the small syntax, its reading -/
namespace Rf
open PySem PySem.Spec L2

inductive S where
  | nil | cons (s r : S)
  | pass | brk | ct | retN
  | ret (e : E)
  | asg (t : Tg) (e : E)
  | asgO (i : Nat) (e : E)
  | par2 (i j : Nat) (a b : E)
  | asgIx (i : Nat) (a e : E)
  | app (i : Nat) (e : E)
  | pop (i : Nat)
  | expr (e : E)
  | ife (c : E) (a b : S)
  | for_ (t : Tg) (it : E) (body : S)
  | while_ (c : E) (body : S)
  | frz (is : List Nat) (s : S)
  /-- anything: nothing is said of it -/
  | bad
  /-- raise C("..") -/
  | raise_ (j : Nat)
  /-- try: body, except C as slot i: suite; the same without a name -/
  | tryAs (i j : Nat) (body suite : S)
  | tryOnly (j : Nat) (body suite : S)
  /-- return sorted(slot i, key=lambda number: number[0] * (slot j // number[1])) -/
  | retA (i j : Nat)
  /-- return slot i, a list of its own -/
  | retO (i : Nat)
  /-- slot i.f = e, slot i an object that is being made -/
  | setA (i : Nat) (f : Str) (e : E)
inductive Out where
  | nx (env : Env) | rt (d : D) | bk (env : Env) | ct (env : Env) | err (x : Exn) (env : Env) | bad
def Out.of {α : Type} (env : Env) (k : α → Out) : R α → Out
  | .ok a => k a
  | .err x => .err x env
  | .bad => .bad
@[simp] theorem Out.of_ok {α : Type} (env : Env) (k : α → Out) (a : α) : Out.of env k (.ok a) = k a := id rfl
@[simp] theorem Out.of_err {α : Type} (env : Env) (k : α → Out) (x : Exn) : Out.of env k (.err x) = .err x env := id rfl
@[simp] theorem Out.of_bad {α : Type} (env : Env) (k : α → Out) : Out.of env k .bad = .bad := id rfl
def Out.andThen (o : Out) (k : Env → Out) : Out := match o with
  | .nx env => k env
  | o => o
def forL (f : D → Env → Out) : List D → Env → Out
  | [], env => .nx env
  | d :: ds, env => match f d env with
    | .nx e => forL f ds e
    | .ct e => forL f ds e
    | .bk e => .nx e
    | o => o
def whN (c : Env → R Bool) (b : Env → Out) : Nat → Env → Option Out
  | 0, _ => none
  | n + 1, env => match c env with
    | .ok false => some (.nx env)
    | .ok true => match b env with
      | .nx e => whN c b n e
      | .ct e => whN c b n e
      | .bk e => some (.nx e)
      | o => some o
    | .err x => some (.err x env)
    | .bad => some .bad
open Classical in
noncomputable def whileS (c : Env → R Bool) (b : Env → Out) (env : Env) : Out := if h : ∃ o n, whN c b n env = some o then h.choose else .bad
def setD (xs : List D) (d e : D) : R (List D) := match d with
  | .int k => match ixN xs.length k with
    | some j => .ok (xs.set j e)
    | none => .bad
  | _ => .bad
def frzE (env : Env) : List Nat → Env
  | [] => env
  | i :: is => match env[i]? with
    | some (some (.o xs)) => frzE (env.set i (some (.v (.lst xs)))) is
    | _ => frzE env is
def lstO {α : Type} (k : List D → R α) : D → R α
  | .lst xs => k xs
  | _ => .bad
def okKeyA (c : Int) : D → Bool
  | .tup [.int n, .int d] => okDiv d && okMul n (c.fdiv d)
  | _ => false
def keyA (c : Int) : D → Int
  | .tup [.int n, .int d] => n * c.fdiv d
  | _ => 0
def leA (c : Int) (a b : D) : Bool := decide (keyA c a ≤ keyA c b)
def sortA : D → D → R D
  | .lst xs, .int c => if xs.all (okKeyA c) = true then .ok (.lst (xs.mergeSort (leA c))) else .bad
  | _, _ => .bad
/-- the slots hold no error -/
def noXE : Env → Bool
  | [] => true
  | some (.v d) :: r => noX d && noXE r
  | some (.o ds) :: r => noXs ds && noXE r
  | some (.n _ _ fs) :: r => noXf fs && noXE r
  | none :: r => noXE r
/-- is the error caught -/
def capt (xh : List (Str × List (Str × Bool))) (j : Nat) (c : Str) : Option Bool := (xh[j]?).bind fun p => p.2.lookup c
/-- behind a suite -/
def afterS (f : Env → Env) : Out → Out
  | .nx env => if noXE (f env) = true then .nx (f env) else .bad
  | .rt d => if noX d = true then .rt d else .bad
  | _ => .bad
def putD (f : Str) (d : D) : List (Str × D) → List (Str × D)
  | [] => [(f, d)]
  | (g, x) :: r => if g = f then (g, d) :: r else (g, x) :: putD f d r
def setN (at_ : List (Str × Str)) (i : Nat) (f : Str) (d : D) (env : Env) : Out := match env[i]? with
  | some (some (.n p c fs)) => if (c, f) ∈ at_ ∧ fs.length < 900 then .nx (env.set i (some (.n p c (putD f d fs)))) else .bad
  | _ => .bad
noncomputable def ex : Tb → S → Env → Out
  | _, .nil, env => .nx env
  | T, .cons s r, env => (ex T s env).andThen (ex T r)
  | _, .pass, env => .nx env
  | _, .brk, env => .bk env
  | _, .ct, env => .ct env
  | _, .retN, _ => .rt .non
  | T, .ret e, env => Out.of env .rt (ev T e env)
  | T, .asg t e, env => Out.of env (fun d => match setT t d env with | some env' => .nx env' | none => .bad) (ev T e env)
  | T, .asgO i e, env => Out.of env (fun d => match d with | .lst xs => .nx (env.set i (some (.o xs))) | _ => .bad) (ev T e env)
  | T, .par2 i j a b, env => Out.of env (fun x => Out.of env (fun y => .nx ((env.set i (some (.v x))).set j (some (.v y)))) (ev T b env)) (ev T a env)
  | T, .asgIx i a e, env => Out.of env (fun x => Out.of env (fun xs => Out.of env (fun k => Out.of env (fun ys => .nx (env.set i (some (.o ys)))) (setD xs k x)) (ev T a env)) (getO env i)) (ev T e env)
  | T, .app i e, env => Out.of env (fun xs => Out.of env (fun x => if xs.length < 16777216 then .nx (env.set i (some (.o (xs ++ [x])))) else .bad) (ev T e env)) (getO env i)
  | _, .pop i, env => Out.of env (fun xs => if xs ≠ [] then .nx (env.set i (some (.o xs.dropLast))) else .bad) (getO env i)
  | T, .expr e, env => Out.of env (fun _ => .nx env) (ev T e env)
  | T, .ife c a b, env => Out.of env (fun k => if k = true then ex T a env else ex T b env) (evT T c env)
  | T, .for_ t it body, env => Out.of env (fun ds => forL (fun d e => match setT t d e with | some e' => ex T body e' | none => .bad) ds env) (evI T it env)
  | T, .while_ c body, env => whileS (evT T c) (ex T body) env
  | T, .frz is s, env => ex T s (frzE env is)
  | _, .bad, _ => .bad
  | T, .raise_ j, env => match T.xc[j]? with
    | some c => .err ⟨c, []⟩ env
    | none => .bad
  | _, .retA i j, env => Out.of env .rt ((getV env i).bind fun x => (getV env j).bind fun c => sortA x c)
  | _, .retO i, env => Out.of env (fun xs => .rt (.lst xs)) (getO env i)
  | T, .setA i f e, env => Out.of env (fun d => setN T.at_ i f d env) (ev T e env)
  | T, .tryAs i j body suite, env => match ex T body env with
    | .err x env' => match capt T.xh j x.cls with
      | some true => afterS (fun e => e.set i none) (ex T.hot suite (env'.set i (some (.v (.exc x.cls x.fs)))))
      | some false => .err x env'
      | none => .bad
    | o => o
  | T, .tryOnly j body suite, env => match ex T body env with
    | .err x env' => match capt T.xh j x.cls with
      | some true => afterS (fun e => e) (ex T.hot suite env')
      | some false => .err x env'
      | none => .bad
    | o => o

theorem whN_mono {c : Env → R Bool} {b : Env → Out} : ∀ {n m : Nat} {env : Env} {o : Out}, whN c b n env = some o → n ≤ m → whN c b m env = some o
  | 0, _, _, _, h, _ => by cases h
  | n + 1, 0, _, _, _, h => by omega
  | n + 1, m + 1, env, o, h, hl => by
    unfold whN at h ⊢
    split at h
    · exact h
    · split at h
      · exact whN_mono h (by omega)
      · exact whN_mono h (by omega)
      · exact h
      · exact h
    · exact h
    · exact h
theorem whileS_of {c : Env → R Bool} {b : Env → Out} {n : Nat} {env : Env} {o : Out} (h : whN c b n env = some o) : whileS c b env = o := by
  unfold whileS
  have hx : ∃ o n, whN c b n env = some o := ⟨o, n, h⟩
  rw [dif_pos hx]
  obtain ⟨m, hm⟩ := hx.choose_spec
  have h1 := whN_mono h (Nat.le_max_left n m)
  have h2 := whN_mono hm (Nat.le_max_right n m)
  rw [h1] at h2
  exact (Option.some.inj h2).symm
theorem whileS_ex {c : Env → R Bool} {b : Env → Out} {env : Env} (h : whileS c b env ≠ .bad) : ∃ n, whN c b n env = some (whileS c b env) := by
  by_cases hx : ∃ o n, whN c b n env = some o
  · obtain ⟨o, n, e⟩ := hx
    exact ⟨n, by rw [whileS_of e]; exact e⟩
  · unfold whileS at h
    rw [dif_neg hx] at h
    exact absurd rfl h
/-- one turn -/
theorem whileS_eq (c : Env → R Bool) (b : Env → Out) (env : Env) : whileS c b env = match c env with
    | .ok false => .nx env
    | .ok true => match b env with
      | .nx e => whileS c b e
      | .ct e => whileS c b e
      | .bk e => .nx e
      | o => o
    | .err x => .err x env
    | .bad => .bad := by
  cases hc : c env with
  | ok k =>
    cases k with
    | false => exact whileS_of (n := 1) (by simp [whN, hc])
    | true =>
      have go : ∀ e, (b env = .nx e ∨ b env = .ct e) → whileS c b env = whileS c b e := fun e he => by
        by_cases hb : ∃ o n, whN c b n e = some o
        · obtain ⟨o, n, h⟩ := hb
          rw [whileS_of h]
          refine whileS_of (n := n + 1) ?_
          rcases he with he | he <;> simp [whN, hc, he, h]
        · have hn : ¬ ∃ o n, whN c b n env = some o := fun ⟨o, n, h⟩ => by
            cases n with
            | zero => cases h
            | succ n =>
              refine hb ⟨o, n, ?_⟩
              rcases he with he | he <;> simpa [whN, hc, he] using h
          unfold whileS
          rw [dif_neg hb, dif_neg hn]
      cases hb : b env with
      | nx e => exact go e (.inl hb)
      | ct e => exact go e (.inr hb)
      | bk e => exact whileS_of (n := 1) (by simp [whN, hc, hb])
      | rt d => exact whileS_of (n := 1) (by simp [whN, hc, hb])
      | err x e => exact whileS_of (n := 1) (by simp [whN, hc, hb])
      | bad => exact whileS_of (n := 1) (by simp [whN, hc, hb])
  | err x => exact whileS_of (n := 1) (by simp [whN, hc])
  | bad => exact whileS_of (n := 1) (by simp [whN, hc])

/-! ### what is wanted behind a statement -/
/-- a result is handed back: frozen data, or (fr) a list of its own -/
def RtQ (g : G) (fr : Bool) (R : VK) (H0 Hf0 : Hp) (d : D) : Prop := match fr with
  | false => ∀ v H' Hf', Fut H0 Hf0 H' Hf' → Rep g Hf' v d → R v H'
  | true => FP g R d H0 Hf0
def SO {fr : Bool} (g : G) (W : WE) (D : Ends) (H0 Hf0 : Hp) (Hf : Hp) : Out → Prop
  | .nx env => ∀ σ' H' Hf', SR g H0 Hf0 σ' H' Hf' env → Same Hf Hf' → D.nx σ' H'
  | .rt d => RtQ g fr D.rt H0 Hf0 d
  | .bk env => ∀ σ' H' Hf', SR g H0 Hf0 σ' H' Hf' env → Same Hf Hf' → D.bk σ' H'
  | .ct env => ∀ σ' H' Hf', SR g H0 Hf0 σ' H' Hf' env → Same Hf Hf' → D.ct σ' H'
  | .err x env => ∀ σ' H' Hf' cls dx, SR g H0 Hf0 σ' H' Hf' env → Same Hf Hf' → XRep g H' Hf' cls dx x → W cls dx σ' H'
  | .bad => False
theorem SO.later {fr : Bool} {g : G} {W : WE} {D : Ends} {H0 Hf0 Hf Hf1 : Hp} {o : Out} (h : SO (fr := fr) g W D H0 Hf0 Hf o) (s : Same Hf Hf1) : SO (fr := fr) g W D H0 Hf0 Hf1 o := by
  cases o with
  | nx env => exact fun σ' H' Hf' r q => h σ' H' Hf' r (s.trans q)
  | rt d => exact h
  | bk env => exact fun σ' H' Hf' r q => h σ' H' Hf' r (s.trans q)
  | ct env => exact fun σ' H' Hf' r q => h σ' H' Hf' r (s.trans q)
  | err x env => exact fun σ' H' Hf' c d r q => h σ' H' Hf' c d r (s.trans q)
  | bad => exact h
def tDS (g : G) (T : Tb) (W : WE) (s : S) : TS := fun D σ H => ∃ H0 Hf0 Hf env, SR g H0 Hf0 σ H Hf env ∧ SO (fr := T.fr) g W D H0 Hf0 Hf (ex T s env)
structure GoodS (N : List Str) (sc : Scope) (n : Nat) (X : Cx) : Prop extends Good N sc n X where
  eS : X.env.scope = sc
  kind : sc.kind = .function
  po : PassesOwn (model X.prog X.w) X.A X.env X.xe
  stk : X.stack = X.env :: X.outer
  fr : X.env.frame = some X.env.locals
structure GoodSM (N : List Str) (sc : Scope) (n : Nat) (hm : Bool) (X : Cx) : Prop extends GoodM N sc n hm X where
  eS : X.env.scope = sc
  kind : sc.kind = .function
  po : PassesOwn (model X.prog X.w) X.A X.env X.xe
  stk : X.stack = X.env :: X.outer
  fr : X.env.frame = some X.env.locals
theorem GoodSM.goodS {N : List Str} {sc : Scope} {n : Nat} {hm : Bool} {X : Cx} (G : GoodSM N sc n hm X) (h : hm = false) : GoodS N sc n X := ⟨G.toGoodM.good h, G.eS, G.kind, G.po, G.stk, G.fr⟩
theorem gmq {N : List Str} {sc : Scope} {n : Nat} {hm : Bool} {X : Cx} (h : hm = false) (G : Good N sc n X) : GoodM N sc n hm X := by rw [h]; exact G.toM
/-- a value is reckoned first -/
theorem so_of {fr : Bool} {g : G} {W : WE} {D : Ends} {H0 Hf0 H Hf : Hp} {env : Env} {σ : St} {α : Type} {k : α → Out} {r : R α} (sr : SR g H0 Hf0 σ H Hf env) (h : SO (fr := fr) g W D H0 Hf0 Hf (Out.of env k r)) :
    RG g W σ (fun a H1 Hf1 => SO (fr := fr) g W D H0 Hf0 Hf1 (k a) ∧ Fut H Hf H1 Hf1) r H Hf := by
  cases r with
  | ok a => exact ⟨h, Fut.refl sr.sub⟩
  | err x => exact fun cls dx H' Hf' f xr => h σ H' Hf' cls dx (sr.mono f) f.f xr
  | bad => exact h
section
variable {g : G} {T : Tb} {W : WE} {H0 Hf0 H Hf : Hp} {env : Env} {σ : St} {D : Ends}
theorem sD_step {fr : Bool} {a : E} {k : Rf.D → Out} {Q' : VK} (sr : SR g H0 Hf0 σ H Hf env) (h : SO (fr := fr) g W D H0 Hf0 Hf (Out.of env k (ev T a env)))
    (nx : ∀ d v H1 Hf1, ev T a env = .ok d → Fut H Hf H1 Hf1 → Rep g Hf1 v d → SR g H0 Hf0 σ H1 Hf1 env → SO (fr := fr) g W D H0 Hf0 Hf1 (k d) → Q' v H1) : tD g T W a σ H Q' :=
  ⟨H0, Hf0, Hf, env, sr, (so_of sr h).imp fun d e q v H1 Hf1 f r => nx d v H1 Hf1 e f r (sr.mono f) (q.1.later f.f)⟩
theorem sDX_step {fr : Bool} {a : E} {k : Rf.D → Out} {Q' : VK} (sr : SR g H0 Hf0 σ H Hf env) (h : SO (fr := fr) g W D H0 Hf0 Hf (Out.of env (fun d => match d with | .lst xs => k (.lst xs) | _ => .bad) (ev T a env)))
    (nx : ∀ ds p vs H1 Hf1, Fut H Hf H1 Hf1 → H p = none → H1 p = some (.lst vs) → Hf1 p = none → Reps g Hf1 vs ds → SR g H0 Hf0 σ H1 Hf1 env → SO (fr := fr) g W D H0 Hf0 Hf1 (k (.lst ds)) → Q' (.ref p) H1) : tDF g T W a σ H Q' :=
  ⟨H0, Hf0, Hf, env, sr, (so_of sr h).imp fun d e q => by
    cases d with
    | lst ds => exact fun p vs H1 Hf1 f hn h1 h2 r => nx ds p vs H1 Hf1 f hn h1 h2 r (sr.mono f) (q.1.later f.f)
    | _ => exact q.1.elim⟩
theorem sDT_step {fr : Bool} {a : E} {k : Bool → Out} {Q' : Bool → Hp → Prop} (sr : SR g H0 Hf0 σ H Hf env) (h : SO (fr := fr) g W D H0 Hf0 Hf (Out.of env k (evT T a env)))
    (nx : ∀ d H1 Hf1, Fut H Hf H1 Hf1 → SR g H0 Hf0 σ H1 Hf1 env → SO (fr := fr) g W D H0 Hf0 Hf1 (k d) → Q' d H1) : tDT g T W a σ H Q' :=
  ⟨H0, Hf0, Hf, env, sr, (so_of sr h).imp fun d e q H1 Hf1 f => nx d H1 Hf1 f (sr.mono f) (q.1.later f.f)⟩
theorem sDI_step {fr : Bool} {a : E} {k : List Rf.D → Out} {Q' : It → Hp → Prop} (sr : SR g H0 Hf0 σ H Hf env) (h : SO (fr := fr) g W D H0 Hf0 Hf (Out.of env k (evI T a env)))
    (nx : ∀ ds J H1 Hf1, Fut H Hf H1 Hf1 → Yld g J Hf1 ds → SR g H0 Hf0 σ H1 Hf1 env → SO (fr := fr) g W D H0 Hf0 Hf1 (k ds) → Q' J H1) : tDI g T W a σ H Q' :=
  ⟨H0, Hf0, Hf, env, sr, (so_of sr h).imp fun d e q J H1 Hf1 f y => nx d J H1 Hf1 f y (sr.mono f) (q.1.later f.f)⟩
end
end Rf
/-! # Rf12: statements: the look, and that the machine does what the reading says -/
namespace Rf
open PySem PySem.Spec L2
theorem _root_.L2.PS.imp {X : Cx} {e : Stmt} {t t' : TS} (h : PS X e t) (k : ∀ D σ H, t' D σ H → t D σ H) : PS X e t' := ⟨fun pins s σ H D I q => h.run pins s σ H D I (k D σ H q)⟩
theorem _root_.L2.PSs.imp {X : Cx} {e : List Stmt} {t t' : TS} (h : PSs X e t) (k : ∀ D σ H, t' D σ H → t D σ H) : PSs X e t' := ⟨fun pins s σ H D I q => h.run pins s σ H D I (k D σ H q)⟩
def isComp : Expr → Bool
  | .ListComp _ _ _ _ => true | .SetComp _ _ _ _ => true | .DictComp _ _ _ _ _ => true | _ => false
def isTup : Expr → Bool
  | .Tuple _ _ _ => true | _ => false
def lclB (sc : Scope) (x : Str) : Bool := match sc.names.lookup x with
  | some .local => true | _ => false
/-- the comprehension is stored from within its block -/
def swB (sc sc' : Scope) (y : Str) (py p : Pos) : Bool := lclB sc y && (py.line == p.line) && !(sc'.names.any fun (n, k) => n == y && (k == .local || k == .cell))
def allLoc (sc : Scope) : List Expr → Bool
  | [] => true
  | .Name x _ :: r => lclB sc x && allLoc sc r
  | _ :: _ => false
def parB (es vs : List Expr) : Option (Str × Pos × Str × Pos × Expr × Expr) := match es, vs with
  | [.Name x px, .Name y py], [u, v] => some (x, px, y, py, u, v)
  | _, _ => none
theorem parB_of {es vs : List Expr} {x y : Str} {px py : Pos} {u v : Expr} (h : parB es vs = some (x, px, y, py, u, v)) : es = [.Name x px, .Name y py] ∧ vs = [u, v] := by
  unfold parB at h
  split at h
  · cases h; exact ⟨rfl, rfl⟩
  · cases h
/-- name = [..]: stored from within the block, or not at all so -/
def cmpOkB (e : E) (sc : Scope) (y : Str) (py : Pos) : Expr → Bool
  | .ListComp _ _ sc' p => (match e with | .comp _ _ _ _ _ => true | _ => false) && (swB sc sc' y py p || !swB sc sc' y py p)
  | _ => false
def cmpTB (t : Tg) (e : E) (sc : Scope) (y x : Expr) : Bool := match t, y with
  | .name _, .Name w py => cmpOkB e sc w py x
  | _, _ => false
/-- the scope of the lambda of ascending -/
def lamScB (sc sc2 : Scope) : Bool :=
  decide (sc2.kind = .function) && !sc2.isCoroutine && !sc2.isGenerator && decide (sc2.names.lookup ("number" : Str) = some .local) && decide (sc2.names.lookup ("common" : Str) = some .free) &&
    sc2.names.all fun y => !decide (y.2 = .cell) && (!decide (y.2 = .free) || decide (sc.names.lookup y.1 = some .cell) || decide (sc.names.lookup y.1 = some .free))
mutual
def ckS (N : List Str) : Tb → S → Scope → Stmt → Bool
  | T, .pass, _, .Pass _ => true
  | T, .brk, _, .Break _ => true
  | T, .ct, _, .Continue _ => true
  | T, .retN, _, .Return none _ => !T.fr
  | T, .ret e, sc, .Return (some x) _ => ckE N T e sc x && (!T.fr || freshB e)
  | T, .retO i, sc, .Return (some (.Name x _)) _ => T.fr && !T.hm && decide (N[i]? = some x) && visB sc x && nmB x
  | T, .asg t e, sc, .Assign [y] x _ => !T.hm && ckE N T e sc x && ckTg N sc t y && (!isComp x || cmpTB t e sc y x) && !(isTup x && isTup y)
  | T, .asgO i e, sc, .Assign [.Name y py] x _ => !T.hm && decide (N[i]? = some y) && locB sc y && ckE N T e sc x && freshB e && (!isComp x || cmpOkB e sc y py x)
  | T, .par2 i j a b, sc, .Assign [.Tuple es _ _] (.Tuple vs _ _) _ => match parB es vs with
    | some (x, px, y, py, u, v) => !T.hm && decide (N[i]? = some x) && decide (N[j]? = some y) && decide (i ≠ j) && lclB sc x && lclB sc y && ckE N T a sc u && ckE N T b sc v && !staB u && !staB v && decide (px.line = py.line) && !(foldedForSure 8 u && foldedForSure 8 v) && !(constantsAlone 8 u && constantsAlone 8 v)
    | none => false
  | T, .asgIx i a e, sc, .Assign [.Subscript (.Name y _) z _] x _ => !T.hm && decide (N[i]? = some y) && visB sc y && nmB y && ckE N T a sc z && ckE N T e sc x && !isComp x && !slB z
  | T, .app i e, sc, .Expr (.Call (.Attribute (.Name y _) m pa) [x] [] pc) _ => !T.hm && (pa.endLine == pc.line) && decide (m = "append") && decide (N[i]? = some y) && visB sc y && nmB y && ckE N T e sc x && !staB x
  | T, .pop i, sc, .Expr (.Call (.Attribute (.Name y _) m pa) [] [] pc) _ => !T.hm && (pa.endLine == pc.line) && decide (m = "pop") && decide (N[i]? = some y) && visB sc y && nmB y
  | T, .expr e, sc, .Expr x _ => ckE N T e sc x && !isComp x
  | T, .ife c a b, sc, .If z xs ys _ => ckE N T c sc z && ckSs N T a sc xs && ckSs N T b sc ys
  | T, .for_ t it body, sc, .For y x xs [] _ => !T.hm && ckI N T it sc x && ckTg N sc t y && tgOkB it y && !setB x && ckSs N T body sc xs
  | T, .while_ c body, sc, .While z xs [] _ => !T.hm && ckE N T c sc z && ckSs N T body sc xs
  | T, .frz _ s, sc, st => ckS N T s sc st
  | T, .bad, _, _ => true
  | T, .setA i f e, sc, .Assign [.Attribute (.Name y _) h _] x _ => !T.hm && decide (f = h) && decide (N[i]? = some y) && visB sc y && nmB y && ckE N T e sc x && !isComp x
  | T, .raise_ j, sc, .Raise (some (.Call (.Name x _) [.Constant (.str _) _ _] [] _)) none _ => !T.hm && decide (T.xc[j]? = some x) && glB sc x && nmB x
  | T, .retA i j, sc, .Return (some (.Call (.Name f _) [.Name x _] [⟨some k, .Lambda ps (.BinOp (.Subscript (.Name a _) (.Constant (.int u0) _ _) _) o1 (.BinOp (.Name b _) o2 (.Subscript (.Name a2 _) (.Constant (.int u1) _ _) _) _) _) sc2 _, _⟩] _)) _ =>
    decide (u0 = 0) && decide (u1 = 1) && decide (o1 = .Mult) && decide (o2 = .FloorDiv) && !T.hm && !T.fr && T.lam && decide (f = "sorted") && decide (k = "key") && decide (("sorted" : Str) ∈ T.bn) && glB sc f && decide (N[i]? = some x) && visB sc x && nmB x && decide (a = "number") && decide (a2 = "number") && decide (b = "common") && decide (N[j]? = some b) && decide (sc.names.lookup b = some .cell) && lamScB sc sc2 && parB1 ps
  | T, .tryAs i j body suite, sc, .Try xs [.ExceptHandler (some (.Name x _)) (some m) (y :: ys) _] [] [] _ => !T.hm && !T.fr && decide (N[i]? = some m) && lclB sc m && decide ((T.xh[j]?).map (·.1) = some x) && glB sc x && nmB x && ckSs N T body sc xs && ckSs N T.hot suite sc (y :: ys)
  | T, .tryOnly j body suite, sc, .Try xs [.ExceptHandler (some (.Name x _)) none (y :: ys) _] [] [] _ => !T.hm && !T.fr && decide ((T.xh[j]?).map (·.1) = some x) && glB sc x && nmB x && ckSs N T body sc xs && ckSs N T.hot suite sc (y :: ys)
  | T, _, _, _ => false
def ckSs (N : List Str) : Tb → S → Scope → List Stmt → Bool
  | T, .nil, _, [] => true
  | T, .cons s r, sc, x :: xs => ckS N T s sc x && ckSs N T r sc xs
  | T, _, _, _ => false
end
section
variable {X : Cx} {N : List Str} {sc : Scope} {n : Nat} {T : Tb} {W : WE} {a b c e it : E} {x y z : Expr} {p q : Pos} {k : Nat} {s r : S} {st : Stmt} {xs ys : List Stmt}
theorem s_nil : PSs X [] (tDS (gOf X) T W .nil) := pss_nil.imp fun D σ H ⟨H0, Hf0, Hf, env, sr, h⟩ => h σ H Hf sr (.refl _)
theorem s_cons (h1 : PS X st (tDS (gOf X) T W s)) (h2 : PSs X xs (tDS (gOf X) T W r)) : PSs X (st :: xs) (tDS (gOf X) T W (.cons s r)) := (pss_cons h1 h2).imp fun D σ H ⟨H0, Hf0, Hf, env, sr, h⟩ => by
  refine ⟨H0, Hf0, Hf, env, sr, ?_⟩
  simp only [ex] at h
  cases ho : ex T s env with
  | nx env' =>
    rw [ho] at h
    exact fun σ' H' Hf' r' s' => ⟨H0, Hf0, Hf', env', r', SO.later h s'⟩
  | rt d => rw [ho] at h; exact h
  | bk e => rw [ho] at h; exact h
  | ct e => rw [ho] at h; exact h
  | err x e => rw [ho] at h; exact h
  | bad => rw [ho] at h; exact h.elim
theorem s_pass : PS X (.Pass p) (tDS (gOf X) T W .pass) := ps_pass.imp fun D σ H ⟨H0, Hf0, Hf, env, sr, h⟩ => h σ H Hf sr (.refl _)
theorem s_brk : PS X (.Break p) (tDS (gOf X) T W .brk) := ps_break.imp fun D σ H ⟨H0, Hf0, Hf, env, sr, h⟩ => h σ H Hf sr (.refl _)
theorem s_ct : PS X (.Continue p) (tDS (gOf X) T W .ct) := ps_continue.imp fun D σ H ⟨H0, Hf0, Hf, env, sr, h⟩ => h σ H Hf sr (.refl _)
theorem s_retN (hfr : T.fr = false) : PS X (.Return none p) (tDS (gOf X) T W .retN) := ps_retN.imp fun D σ H ⟨H0, Hf0, Hf, env, sr, h⟩ => by
  rw [hfr] at h
  exact h .non H Hf sr.fut .non
theorem s_retF (hfr : T.fr = true) (he : PE X x (tDF (gOf X) T W e)) : PS X (.Return (some x) p) (tDS (gOf X) T W (.ret e)) := (ps_ret he).imp fun D σ H ⟨H0, Hf0, Hf, env, sr, h⟩ => by
  simp only [ex] at h
  rw [hfr] at h
  refine ⟨H0, Hf0, Hf, env, sr, (so_of sr h).imp fun d e q => ?_⟩
  obtain ⟨q, _⟩ := q
  have q : FP (gOf X) D.rt d H0 Hf0 := q
  cases d with
  | lst ds => exact fun pp vs H1 Hf1 f hn h1 h2 r => q pp vs H1 Hf1 (sr.fut.trans f) (sr.fut.s.free hn) h1 h2 r
  | _ => exact q.elim
theorem s_retO {i : Nat} {w : Str} (G : Good N sc n X) (hfr : T.fr = true) (h1 : N[i]? = some w) (h2 : visB sc w = true) (h3 : nmB w = true) : PS X (.Return (some (.Name w q)) p) (tDS (gOf X) T W (.retO i)) := by
  obtain ⟨d1, d2, _⟩ := nm_of h3
  refine (ps_ret (pe_var (i := i) (by rw [G.eN]; exact h1) (G.vis _ h2) d1 d2)).imp fun D σ H ⟨H0, Hf0, Hf, env, sr, h⟩ => ?_
  simp only [ex] at h
  rw [hfr] at h
  unfold getO at h
  split at h
  · rename_i xs he
    obtain ⟨v, hσ, z⟩ := sr.slot i _ he
    cases z with
    | o hp hf h0 r =>
      have q : FQ (gOf X) H0 Hf0 xs D.rt := h
      exact ⟨_, hσ, q _ _ H Hf sr.fut h0 hp hf r⟩
  · exact h.elim
theorem s_ret (hfr : T.fr = false) (he : PE X x (tD (gOf X) T W e)) : PS X (.Return (some x) p) (tDS (gOf X) T W (.ret e)) := (ps_ret he).imp fun D σ H ⟨H0, Hf0, Hf, env, sr, h⟩ => by
  simp only [ex] at h
  rw [hfr] at h
  exact sD_step sr h fun d v H1 Hf1 _ f r sr1 q => q v H1 Hf1 sr1.fut r
theorem sw_no {t : Option Expr} {l : Nat} {en : PySem.Env} (h : isComp x = false) : swapsWith x t l en = pure false := by
  cases x <;> first | rfl | cases h
theorem ss_no {env : PySem.Env} (h : (isTup x && isTup y) = false) (hy : ∀ es p, y ≠ .List es p) : swappedStores [y] x env = pure none := by
  cases x <;> cases y <;> first | rfl | (cases h; done) | exact absurd rfl (hy _ _)
/-- a value stored by a target -/
theorem asg_go {t : Tg} {D : Ends} {σ : St} {H : Hp} (h : tDS (gOf X) T W (.asg t e) D σ H) : tAsg (tD (gOf X) T W e) (tG (gOf X) t) D σ H := by
  obtain ⟨H0, Hf0, Hf, env, sr, h⟩ := h
  simp only [ex] at h
  refine sD_step sr h fun d v H1 Hf1 _ f r sr1 q => ?_
  cases hs : setT t d env with
  | none => rw [hs] at q; exact q.elim
  | some env' =>
    rw [hs] at q
    exact ⟨H0, Hf0, Hf1, env, d, sr1, r, env', hs, fun σ' sr' _ _ => q σ' H1 Hf1 sr' (.refl _)⟩
theorem s_asg {t : Tg} (G : Good N sc n X) (he : PE X x (tD (gOf X) T W e)) (hg : PG X y (tG (gOf X) t)) (h1 : isComp x = false) (h2 : (isTup x && isTup y) = false) (h3 : ckTg N sc t y = true) : PS X (.Assign [y] x p) (tDS (gOf X) T W (.asg t e)) := by
  have hl : ∀ es p, y ≠ .List es p := fun es p z => by subst z; cases t <;> simp [ckTg] at h3
  refine (ps_asg he hg (by show swapsWith _ _ _ _ = _; exact sw_no h1) (ss_no h2 hl) ?_).imp fun D σ H h => asg_go h
  cases y with
  | Starred _ _ => cases t <;> simp [ckTg] at h3
  | _ => rfl
theorem s_asgO {i : Nat} {w : Str} (G : Good N sc n X) (he : PE X x (tDF (gOf X) T W e)) (hi : N[i]? = some w) (hl : locB sc w = true) (h1 : isComp x = false) : PS X (.Assign [.Name w q] x p) (tDS (gOf X) T W (.asgO i e)) := by
  obtain ⟨l1, l2⟩ := G.loc w hl
  refine (ps_set (i := i) (by rw [G.eN]; exact G.nd) (by rw [G.eN]; exact hi) l1 he (sw_no h1) l2).imp fun D σ H ⟨H0, Hf0, Hf, env, sr, h⟩ => ?_
  simp only [ex] at h
  refine sDX_step (k := fun d => match d with | .lst xs => .nx (env.set i (some (.o xs))) | _ => .bad) sr (by
    cases hv : ev T e env with
    | ok d => rw [hv] at h; cases d <;> exact h
    | err z => rw [hv] at h; exact h
    | bad => rw [hv] at h; exact h) fun ds pp vs H1 Hf1 f hn h1' hf r sr1 q => ?_
  have h0 : H0 pp = none := sr.fut.s.free hn
  refine q _ H1 Hf1 (sr1.seto h1' hf h0 r fun j zs hj he' ho hσ => ?_) (.refl _)
  obtain ⟨v, hv, sl⟩ := sr.slot j _ he'
  cases sl with
  | o z1 z2 z3 z4 =>
    rw [hv] at hσ
    cases hσ
    rw [hn] at z1; cases z1
  | n z1 z2 z3 z4 z5 =>
    rw [hv] at hσ
    cases hσ
    rw [hn] at z1; cases z1
  | v _ => cases ho
theorem s_par2 {i j : Nat} {u v : Str} {x y : Expr} {px py pt : Pos} {kt k2 : Nat} {pt2 : Pos} (G : GoodS N sc n X) (hi : N[i]? = some u) (hj : N[j]? = some v) (hij : i ≠ j) (h1 : lclB sc u = true) (h2 : lclB sc v = true) (ha : PE X x (tD (gOf X) T W a)) (hb : PE X y (tD (gOf X) T W b))
    (s1 : staB x = false) (s2 : staB y = false) (hl : px.line = py.line) (h3 : (foldedForSure 8 x && foldedForSure 8 y) = false) (h4 : (constantsAlone 8 x && constantsAlone 8 y) = false) :
    PS X (.Assign [.Tuple [.Name u px, .Name v py] kt pt] (.Tuple [x, y] k2 pt2) p) (tDS (gOf X) T W (.par2 i j a b)) := by
  have lu : X.env.scope.names.lookup u = some .local := by
    rw [G.eS]; unfold lclB at h1; split at h1
    · assumption
    · cases h1
  have lv : X.env.scope.names.lookup v = some .local := by
    rw [G.eS]; unfold lclB at h2; split at h2
    · assumption
    · cases h2
  have huv : u ≠ v := fun z => hij (by
    subst z
    exact nodup_ix G.nd hi hj)
  have hw : swappedStores [.Tuple [.Name u px, .Name v py] kt pt] (.Tuple [x, y] k2 pt2) X.env = pure (some [u, v]) := by
    have ku : X.env.kindOf u = some .local := lu
    have kv : X.env.kindOf v = some .local := lv
    have hb' : X.env.blockKind = .function := by unfold PySem.Env.blockKind; rw [G.eS, G.kind]; rfl
    have any : ([x, y].any fun | .Starred .. => true | _ => false) = false := by
      cases x <;> cases y <;> first | rfl | (cases s1; done) | (cases s2; done)
    have uv : (u == v) = false := by simpa using huv
    have vu : (v == u) = false := by simpa using (Ne.symm huv)
    unfold swappedStores
    have e1 : (List.all [x, y] (foldedForSure 8)) = false := by simpa [List.all] using h3
    have e2 : (List.all [x, y] (constantsAlone 8)) = false := by simpa [List.all] using h4
    simp only [any, e1, e2, List.filterMap, ku, kv, hl, hb', Expr.pos, List.length, List.head?, Option.map, Option.getD, List.eraseDups_cons]
    have ed : [u, v].eraseDups = [u, v] := by simp [List.eraseDups_cons, vu]
    simp [ed]
    intro h
    exfalso
    rcases h with h | h
    · cases x <;> first | (cases h; done) | (cases s1; done)
    · cases y <;> first | (cases h; done) | (cases s2; done)
  refine (ps_par G.calm (by rw [G.eN]; exact G.nd) (by rw [G.eN]; exact hi) (by rw [G.eN]; exact hj) hij lu lv (pa_cons ha (pa_cons hb pa_nil (star_of s2)) (star_of s1)) hw rfl).imp fun D σ H ⟨H0, Hf0, Hf, env, sr, h⟩ => ?_
  simp only [ex] at h
  refine sD_step sr h fun d v H1 Hf1 _ f1 r1 sr1 q1 => ?_
  refine sD_step sr1 q1 fun d2 v2 H2 Hf2 _ f2 r2 sr2 q2 => ?_
  exact ⟨v, v2, rfl, q2 _ H2 Hf2 ((sr2.setv (r1.mono f2.f)).setv r2) (.refl _)⟩
theorem s_expr (he : PE X x (tD (gOf X) T W e)) (h1 : isComp x = false) : PS X (.Expr x p) (tDS (gOf X) T W (.expr e)) := (ps_expr he (sw_no h1)).imp fun D σ H ⟨H0, Hf0, Hf, env, sr, h⟩ => by
  simp only [ex] at h
  exact sD_step sr h fun d v H1 Hf1 _ f r sr1 q => q σ H1 Hf1 sr1 (.refl _)
theorem s_ife (hc : PT X z (tDT (gOf X) T W c)) (ha : PSs X xs (tDS (gOf X) T W s)) (hb : PSs X ys (tDS (gOf X) T W r)) : PS X (.If z xs ys p) (tDS (gOf X) T W (.ife c s r)) := (ps_if hc ha hb).imp fun D σ H ⟨H0, Hf0, Hf, env, sr, h⟩ => by
  simp only [ex] at h
  refine sDT_step sr h fun k H1 Hf1 f sr1 q => ?_
  cases k with
  | true => rw [if_pos rfl] at q ⊢; exact ⟨H0, Hf0, Hf1, env, sr1, q⟩
  | false => rw [if_neg Bool.false_ne_true] at q ⊢; exact ⟨H0, Hf0, Hf1, env, sr1, q⟩
theorem SR.frzs {g : G} {H0 Hf0 H : Hp} {σ : St} : ∀ (is : List Nat) {env : Env} {Hf : Hp}, SR g H0 Hf0 σ H Hf env → ∃ Hf', SR g H0 Hf0 σ H Hf' (frzE env is) ∧ Same Hf Hf'
  | [], env, Hf, sr => ⟨Hf, sr, .refl _⟩
  | i :: is, env, Hf, sr => by
    unfold frzE
    split
    · rename_i xs h
      obtain ⟨Hf1, sr1, s1⟩ := sr.freeze h
      obtain ⟨Hf2, sr2, s2⟩ := SR.frzs is sr1
      exact ⟨Hf2, sr2, s1.trans s2⟩
    · exact SR.frzs is sr
theorem s_frz {is : List Nat} (hs : PS X st (tDS (gOf X) T W s)) : PS X st (tDS (gOf X) T W (.frz is s)) := hs.imp fun D σ H ⟨H0, Hf0, Hf, env, sr, h⟩ => by
  simp only [ex] at h
  obtain ⟨Hf', sr', s'⟩ := SR.frzs (H0 := H0) (Hf0 := Hf0) (H := H) (Hf := Hf) is sr
  exact ⟨H0, Hf0, Hf', _, sr', h.later s'⟩
theorem s_while (G : GoodS N sc n X) (hc : PT X z (tDT (gOf X) T W c)) (hb : PSs X xs (tDS (gOf X) T W s)) : PS X (.While z xs [] p) (tDS (gOf X) T W (.while_ c s)) := (ps_while G.po hc hb).imp fun D σ H ⟨H0, Hf0, Hf, env, sr, h⟩ => by
  simp only [ex] at h
  generalize hfin : whileS (evT T c) (ex T s) env = o at h
  have hne : o ≠ .bad := fun z => by subst z; exact h
  obtain ⟨n0, h0⟩ := whileS_ex (by rw [hfin]; exact hne)
  rw [hfin] at h0
  refine ⟨fun m σ' H' => ∃ Hf' env', SR (gOf X) H0 Hf0 σ' H' Hf' env' ∧ Same Hf Hf' ∧ whN (evT T c) (ex T s) m env' = some o, ⟨n0, Hf, env, sr, .refl _, h0⟩, ?_⟩
  rintro m σ1 H1 ⟨Hf1, env1, sr1, sm, hm⟩
  cases m with
  | zero => cases hm
  | succ m =>
    unfold whN at hm
    refine ⟨H0, Hf0, Hf1, env1, sr1, ?_⟩
    cases hcc : evT T c env1 with
    | err x =>
      rw [hcc] at hm
      cases hm
      exact fun cls dx H' Hf' f xr => h σ1 H' Hf' cls dx (sr1.mono f) (sm.trans f.f) xr
    | bad => rw [hcc] at hm; cases hm; exact (hne rfl).elim
    | ok k =>
      rw [hcc] at hm
      intro H2 Hf2 f2
      have sr2 := sr1.mono f2
      cases k with
      | false =>
        rw [if_neg Bool.false_ne_true]
        cases hm
        exact h σ1 H2 Hf2 sr2 (sm.trans f2.f)
      | true =>
        rw [if_pos rfl]
        refine ⟨_, fun σ' H' w => ⟨m, Nat.lt_succ_self _, w⟩, H0, Hf0, Hf2, env1, sr2, ?_⟩
        cases hbb : ex T s env1 with
        | nx e => rw [hbb] at hm; exact fun σ' H' Hf' r' s' => ⟨Hf', e, r', (sm.trans f2.f).trans s', hm⟩
        | ct e => rw [hbb] at hm; exact fun σ' H' Hf' r' s' => ⟨Hf', e, r', (sm.trans f2.f).trans s', hm⟩
        | bk e => rw [hbb] at hm; cases hm; exact fun σ' H' Hf' r' s' => h σ' H' Hf' r' ((sm.trans f2.f).trans s')
        | rt d => rw [hbb] at hm; cases hm; exact h
        | err x e => rw [hbb] at hm; cases hm; exact fun σ' H' Hf' cls dx r' s' xr => h σ' H' Hf' cls dx r' ((sm.trans f2.f).trans s') xr
        | bad => rw [hbb] at hm; cases hm; exact (hne rfl).elim
theorem s_for {t : Tg} (G : GoodS N sc n X) (hi : PI X y x (tDI (gOf X) T W it)) (hg : PG X y (tG (gOf X) t)) (hb : PSs X xs (tDS (gOf X) T W s)) (hset : setB x = false) : PS X (.For y x xs [] p) (tDS (gOf X) T W (.for_ t it s)) :=
  (ps_for G.po G.calm hi hg hb (fold_of hset)).imp fun D σ H ⟨H0, Hf0, Hf, env, sr, h⟩ => by
  simp only [ex] at h
  generalize hf : (fun d e => match setT t d e with | some e' => ex T s e' | none => .bad) = f at h
  refine sDI_step sr h fun ds J H1 Hf1 f1 yl sr1 q => ?_
  generalize hfin : forL f ds env = o at q
  have hne : o ≠ .bad := fun z => by subst z; exact q
  refine ⟨fun i m σ' H' => m = ds.length - i ∧ i ≤ ds.length ∧ ∃ Hf' env', SR (gOf X) H0 Hf0 σ' H' Hf' env' ∧ Same Hf1 Hf' ∧ forL f (ds.drop i) env' = o, ⟨ds.length, by simp, Nat.zero_le _, Hf1, env, sr1, .refl _, by simpa using hfin⟩, ?_⟩
  rintro i m σ2 H2 ⟨hm, hi, Hf2, env2, sr2, sm, hfor⟩
  rcases Nat.lt_or_ge i ds.length with hlt | hge
  · refine .inr ⟨yl.go i H2 Hf2 sm sr2.sub hlt, _, fun σ' H' w => ⟨ds.length - (i + 1), by omega, w⟩, fun v H3 hy => ?_⟩
    obtain ⟨Hf3, f3, rv⟩ := yl.yld i H2 Hf2 v H3 ds[i] sm sr2.sub hy (List.getElem?_eq_getElem hlt)
    rw [List.drop_eq_getElem_cons hlt] at hfor
    unfold forL at hfor
    have hfi : f ds[i] env2 = match setT t ds[i] env2 with | some e' => ex T s e' | none => .bad := by rw [← hf]
    rw [hfi] at hfor
    cases hs : setT t ds[i] env2 with
    | none => rw [hs] at hfor; exact (hne hfor.symm).elim
    | some e' =>
      rw [hs] at hfor
      refine ⟨H0, Hf0, Hf3, env2, ds[i], sr2.mono f3, rv, e', hs, fun σ4 sr4 _ _ => ⟨H0, Hf0, Hf3, e', sr4, ?_⟩⟩
      simp only at hfor
      cases hbb : ex T s e' with
      | nx e => rw [hbb] at hfor; exact fun σ' H' Hf' r' s' => ⟨rfl, by omega, Hf', e, r', (sm.trans f3.f).trans s', hfor⟩
      | ct e => rw [hbb] at hfor; exact fun σ' H' Hf' r' s' => ⟨rfl, by omega, Hf', e, r', (sm.trans f3.f).trans s', hfor⟩
      | bk e => rw [hbb] at hfor; subst hfor; exact fun σ' H' Hf' r' s' => q σ' H' Hf' r' ((sm.trans f3.f).trans s')
      | rt d => rw [hbb] at hfor; subst hfor; exact q
      | err x e => rw [hbb] at hfor; subst hfor; exact fun σ' H' Hf' cls dx r' s' xr => q σ' H' Hf' cls dx r' ((sm.trans f3.f).trans s') xr
      | bad => rw [hbb] at hfor; exact (hne hfor.symm).elim
  · have : i = ds.length := by omega
    subst this
    rw [List.drop_length] at hfor
    simp only [forL] at hfor
    subst hfor
    exact .inl ⟨yl.stop H2 Hf2 sm sr2.sub, q σ2 H2 Hf2 sr2 sm⟩
/-- a list's place in the frame -/
theorem own_at {g : G} {H0 Hf0 H Hf : Hp} {σ : St} {env : Env} {i : Nat} {ds : List Rf.D} (sr : SR g H0 Hf0 σ H Hf env) (h : getO env i = .ok ds) :
    ∃ p vs, σ[i]? = some (some (.ref p)) ∧ env[i]? = some (some (.o ds)) ∧ H p = some (.lst vs) ∧ Hf p = none ∧ H0 p = none ∧ Reps g Hf vs ds := by
  unfold getO at h
  split at h
  · rename_i xs he
    cases h
    obtain ⟨v, hσ, z⟩ := sr.slot i _ he
    cases z with
    | o hp hf h0 q => exact ⟨_, _, hσ, he, hp, hf, h0, q⟩
  · cases h
theorem getO_ne (env : Env) (i : Nat) (z : Exn) : getO env i ≠ .err z := by
  unfold getO; split <;> (intro h; cases h)
theorem s_app {i : Nat} {w : Str} {pa pc : Pos} (G : Good N sc n X) (hl : (pa.endLine == pc.line) = true) (h1 : N[i]? = some w) (h2 : visB sc w = true) (h3 : nmB w = true) (he : PE X x (tD (gOf X) T W e)) (hs : staB x = false) :
    PS X (.Expr (.Call (.Attribute (.Name w q) "append" pa) [x] [] pc) p) (tDS (gOf X) T W (.app i e)) := by
  obtain ⟨d1, d2, _⟩ := nm_of h3
  refine (ps_expr (pe_bm PySem.F.plainAttrs_list PySem.F.slot_list_append PySem.F.type_list_append mt_append (pe_var (i := i) (by rw [G.eN]; exact h1) (G.vis _ h2) d1 d2) (pa_cons he pa_nil (star_of hs)) rfl (by rw [star_of hs]; rfl) hl (star_of hs) rfl) rfl).imp fun D σ H ⟨H0, Hf0, Hf, env, sr, h⟩ => ?_
  simp only [ex] at h
  cases hv : getO env i with
  | err z => exact absurd hv (getO_ne _ _ _)
  | bad => rw [hv] at h; exact h.elim
  | ok ds =>
    rw [hv] at h
    simp only [Out.of_ok] at h
    obtain ⟨pp, vs, hσ, hE, hp, hf, h0, rr⟩ := own_at sr hv
    refine ⟨.ref pp, hσ, .inl ⟨rfl, vs, .inl (.inl hp)⟩, ?_⟩
    refine sD_step sr h fun d v H1 Hf1 _ f1 r1 sr1 q1 => ?_
    split at q1
    · rename_i hlen
      refine ⟨pp, vs, v, rfl, rfl, f1.s.lst hp, by rw [rr.length, sizeLine_val]; exact hlen, ?_⟩
      exact q1 σ _ Hf1 (sr1.write hE hσ (f1.s.lst hp) (f1.n _ (by rw [hp]; exact fun z => nomatch z) hf) h0 ((rr.mono f1.f).append (.cons r1 .nil))) (.refl _)
    · exact q1.elim
theorem s_pop {i : Nat} {w : Str} {pa pc : Pos} (G : Good N sc n X) (hl : (pa.endLine == pc.line) = true) (h1 : N[i]? = some w) (h2 : visB sc w = true) (h3 : nmB w = true) :
    PS X (.Expr (.Call (.Attribute (.Name w q) "pop" pa) [] [] pc) p) (tDS (gOf X) T W (.pop i)) := by
  obtain ⟨d1, d2, _⟩ := nm_of h3
  refine (ps_expr (pe_bm0 PySem.F.plainAttrs_list PySem.F.slot_list_pop PySem.F.type_list_pop mt_pop (pe_var (i := i) (by rw [G.eN]; exact h1) (G.vis _ h2) d1 d2) rfl hl) rfl).imp fun D σ H ⟨H0, Hf0, Hf, env, sr, h⟩ => ?_
  simp only [ex] at h
  cases hv : getO env i with
  | err z => exact absurd hv (getO_ne _ _ _)
  | bad => rw [hv] at h; exact h.elim
  | ok ds =>
    rw [hv] at h
    simp only [Out.of_ok] at h
    split at h
    · rename_i hne
      obtain ⟨pp, vs, hσ, hE, hp, hf, h0, rr⟩ := own_at sr hv
      have hlen : vs.length - 1 < vs.length := by
        have : ds.length ≠ 0 := fun z => hne (List.length_eq_zero_iff.mp z)
        rw [rr.length]; omega
      refine ⟨.ref pp, hσ, .inl ⟨rfl, vs, .inl (.inl hp)⟩, pp, vs, vs[vs.length - 1], rfl, rfl, hp, List.getElem?_eq_getElem hlen, ?_⟩
      exact h σ _ Hf (sr.write hE hσ hp hf h0 rr.dropLast) (.refl _)
    · exact h.elim
theorem s_asgIx {i : Nat} {w : Str} {ps : Pos} (G : Good N sc n X) (h1 : N[i]? = some w) (h2 : visB sc w = true) (h3 : nmB w = true) (ha : PE X z (tD (gOf X) T W a)) (he : PE X x (tD (gOf X) T W e)) (hc : isComp x = false) (hs : slB z = false) :
    PS X (.Assign [.Subscript (.Name w q) z ps] x p) (tDS (gOf X) T W (.asgIx i a e)) := by
  obtain ⟨d1, d2, _⟩ := nm_of h3
  refine (ps_asg he (pg_sub (pe_var (i := i) (by rw [G.eN]; exact h1) (G.vis _ h2) d1 d2) ha set_list ?_) (by unfold swapsWithSole; exact sw_no hc) (by cases x <;> rfl) rfl).imp fun D σ H ⟨H0, Hf0, Hf, env, sr, h⟩ => ?_
  · intro v
    cases z <;> first | rfl | cases hs
  · simp only [ex] at h
    refine sD_step sr h fun d v H1 Hf1 _ f1 r1 sr1 q1 => ?_
    cases hv : getO env i with
    | err z => exact absurd hv (getO_ne _ _ _)
    | bad => rw [hv] at q1; exact q1.elim
    | ok ds =>
      rw [hv] at q1
      simp only [Out.of_ok] at q1
      obtain ⟨pp, vs, hσ, hE, hp, hf, h0, rr⟩ := own_at sr1 hv
      refine ⟨.ref pp, hσ, ?_⟩
      refine sD_step sr1 q1 fun k u H2 Hf2 _ f2 r2 sr2 q2 => ?_
      cases r2 with
      | int j =>
        simp only [setD] at q2
        cases hj : ixN ds.length j with
        | none => rw [hj] at q2; exact q2.elim
        | some m =>
          rw [hj] at q2
          simp only [Out.of_ok] at q2
          refine ⟨pp, vs, j, m, rfl, rfl, f2.s.lst hp, by rw [rr.length]; exact hj, ?_⟩
          exact q2 σ _ Hf2 (sr2.write hE hσ (f2.s.lst hp) (f2.n _ (by rw [hp]; exact fun z => nomatch z) hf) h0 ((rr.mono f2.f).set (r1.mono f2.f) m)) (.refl _)
      | _ => exact q2.elim
end
end Rf
/-! # Rf12b: raise, try -/
namespace Rf
open PySem PySem.Spec L2
theorem noXE_at {env : Env} (h : noXE env = true) : ∀ (i : Nat) (s : Sl), env[i]? = some (some s) → (match s with | .v d => noX d | .o ds => noXs ds | .n _ _ fs => noXf fs) = true := by
  induction env with
  | nil => intro i s e; simp at e
  | cons o r ih =>
    intro i s e
    cases i with
    | zero =>
      simp at e; subst e
      cases s with
      | v d => simp only [noXE, Bool.and_eq_true] at h; exact h.1
      | o ds => simp only [noXE, Bool.and_eq_true] at h; exact h.1
      | n p c fs => simp only [noXE, Bool.and_eq_true] at h; exact h.1
    | succ i =>
      have hr : noXE r = true := by
        cases o with
        | none => exact h
        | some s' => cases s' <;> (simp only [noXE, Bool.and_eq_true] at h; exact h.2)
      exact ih hr i s (by simpa using e)
theorem SR.down {g : G} {H0 Hf0 H Hf : Hp} {σ : St} {env : Env} {p : Addr × Obj} (r : SR (g.hot p) H0 Hf0 σ H Hf env) (hx : noXE env = true) : SR g H0 Hf0 σ H Hf env :=
  ⟨r.fut, r.len, fun i s h => by
    obtain ⟨v, e, q⟩ := r.slot i s h
    refine ⟨v, e, ?_⟩
    have hn := noXE_at hx i s h
    cases q with
    | v q => exact .v (q.down hn)
    | o a b c d => exact .o a b c (d.down hn)
    | n a b c d e2 => exact .n a b c d (e2.down hn), r.dis, r.tb⟩
theorem know_hot {g : G} {n : Nat} {T : Tb} (K : Know g n T) (hq : T.hm = false) (hn : g.hx = none) {p : Addr × Obj} (hp : ∃ vs, p.2.data = .fields vs) : Know (g.hot p) n T.hot where
  fn := fun z => Bool.noConfusion (show true = false from z)
  fh := fun _ => K.su hq p hp
  gl := fun q hq => by obtain ⟨v, u, h1, h2, h3⟩ := K.gl q hq; exact ⟨v, u, h1, h2, fun H => (h3 H).up hn⟩
  mt := fun q hq => absurd (show q ∈ ([] : List (Str × Str × Fn)) from hq) (by simp)
  ff := fun q hq => absurd (show q ∈ ([] : List (Str × Fn)) from hq) (by simp)
  kf := fun q hq => absurd (show q ∈ ([] : List (Str × List Str × Fn)) from hq) (by simp)
  ln := fun q hq => absurd (show q ∈ ([] : List (Str × Str × Fn)) from hq) (by simp)
  pr := fun q hq => absurd (show q ∈ ([] : List (Str × Str × Fn)) from hq) (by simp)
  itc := fun q hq => absurd (show q ∈ ([] : List (Str × Str)) from hq) (by simp)
  bn := K.bn
  md := K.md
  at_ := K.at_
  xc := fun x hx => ⟨(K.xc x hx).ex⟩
  xh := fun x hx => ⟨(K.xh x hx).ex⟩
  xi := fun x hx => ⟨(K.xi x hx).ex⟩
  su := fun z => Bool.noConfusion (show true = false from z)
theorem gOf_tr {X : Cx} (h : X.calm = true) {pn : List (Addr × Obj)} {xe : Value → Shared → Prop} : gOf (X.tr pn xe) = gOf X := by
  unfold gOf hxB
  rw [h]
theorem gOf_calm {X : Cx} (h : X.calm = true) : (gOf X).hx = none := by
  show hxB X.calm X.pn = none
  unfold hxB
  rw [h]
section
variable {X : Cx} {N : List Str} {sc : Scope} {n : Nat} {T : Tb} {W : WE} {p q np pos' : Pos} {k : Nat} {s r : S} {st : Stmt} {xs ys : List Stmt}
theorem s_bad : PS X st (tDS (gOf X) T W .bad) := ⟨fun pins s σ H D I ⟨H0, Hf0, Hf, env, sr, h⟩ => by simp only [ex] at h; exact h.elim⟩
theorem putF_rep {g : G} {H : Hp} {f : Str} {v : V} {d : D} (r : Rep g H v d) : ∀ {vs : List (Str × V)} {fs : List (Str × D)}, RepF g H vs fs → RepF g H (putF f v vs) (putD f d fs)
  | _, _, .nil => .cons r .nil
  | _, _, .cons (f := k) r1 t => by
    unfold putF putD
    by_cases h : k = f
    · rw [if_pos h, if_pos h]; exact .cons r t
    · rw [if_neg h, if_neg h]; exact .cons r1 (putF_rep r t)
theorem RepF.length {g : G} {H : Hp} : ∀ {vs : List (Str × V)} {fs : List (Str × D)}, RepF g H vs fs → vs.length = fs.length
  | _, _, .nil => rfl
  | _, _, .cons _ t => by rw [List.length_cons, List.length_cons, RepF.length t]
theorem s_setA {i : Nat} {w f : Str} {e : E} {x : Expr} {q2 : Pos} (G : Good N sc n X) (K : Know (gOf X) n T) (h1 : N[i]? = some w) (h2 : visB sc w = true) (h3 : nmB w = true) (he : PE X x (tD (gOf X) T W e)) (hc : isComp x = false) :
    PS X (.Assign [.Attribute (.Name w q) f q2] x p) (tDS (gOf X) T W (.setA i f e)) := by
  obtain ⟨d1, d2, _⟩ := nm_of h3
  refine (ps_fld (pe_var (i := i) (by rw [G.eN]; exact h1) (G.vis _ h2) d1 d2) he (sw_no hc)).imp fun D σ H ⟨H0, Hf0, Hf, env, sr, h⟩ => ?_
  simp only [ex] at h
  refine sD_step sr h fun d v H1 Hf1 _ f1 r1 sr1 q1 => ?_
  unfold setN at q1
  split at q1
  · rename_i pp c fs hE
    split at q1
    · rename_i hz
      obtain ⟨u, hσ, sl⟩ := sr1.slot i _ hE
      cases sl with
      | @n _ C dx _ vs _ z1 z2 z3 z4 z5 =>
        obtain ⟨C', hm', cl, na⟩ := K.at_ _ hz.1
        have e : C' = C := by
          have e : some (Value.ref C') = some (Value.ref C) := hm'.symm.trans z4
          cases e; rfl
        subst e
        refine ⟨.ref pp, hσ, pp, C', dx, vs, rfl, z1, cl, na, by rw [z5.length]; have := hz.2; omega, ?_⟩
        exact q1 σ _ Hf1 (sr1.writeN hE hσ z1 z2 z3 z4 (putF_rep r1 z5)) (.refl _)
    · exact q1.elim
  · exact q1.elim
theorem s_raise {j : Nat} {x m : Str} {p2 p3 : Pos} (G : GoodS N sc n X) (tk : Takes X W) (K : Know (gOf X) n T) (h1 : T.xc[j]? = some x) (h2 : glB sc x = true) (h3 : nmB x = true) :
    PS X (.Raise (some (.Call (.Name x q) [.Constant (.str m) k p2] [] p3)) none p) (tDS (gOf X) T W (.raise_ j)) := by
  obtain ⟨d1, _, _⟩ := nm_of h3
  obtain ⟨C, e1, e2, e3, e4, e5⟩ := (K.xc x (List.mem_of_getElem? h1)).ex
  refine (ps_raise G.calm tk (pmk_own PySem.F.excBase_ValueError e2 e1 e3 (raises_own e4 e5) (gl_of G.toGoodB h2) d1)).imp fun D σ H ⟨H0, Hf0, Hf, env, sr, h⟩ => ?_
  simp only [ex, h1] at h
  exact h σ H Hf (.ref C) none sr (.refl _) ⟨e1, .inl ⟨rfl, rfl⟩⟩
theorem goodSM_tr (G : GoodS N sc n X) {hm : Bool} (hq : hm = false) {pn : List (Addr × Obj)} {xe : Value → Shared → Prop} (po : PassesOwn (model X.prog X.w) X.A X.env xe) : GoodSM N sc n hm (X.tr pn xe) :=
  ⟨gmq hq ⟨⟨G.eN, G.vis, G.gl, G.loc, G.cf, G.nd, G.un⟩, G.calm, G.room⟩, G.eS, G.kind, po, G.stk, G.fr⟩
theorem goodSM_suite (G : GoodS N sc n X) {a : Addr} {oe : Obj} {pn : List (Addr × Obj)} (hf : ∃ vs, oe.data = .fields vs) : GoodSM N sc n true (X.suite a ((a, oe) :: pn)) :=
  ⟨⟨⟨G.eN, G.vis, G.gl, G.loc, G.cf, G.nd, G.un⟩, fun z => Bool.noConfusion z, fun _ => ⟨rfl, ⟨(a, oe), pn, rfl, hf⟩, ⟨G.room.dp, G.room.un⟩⟩⟩, G.eS, G.kind, PassesOwn.never, G.stk, G.fr⟩
theorem takes_suite {a : Addr} {pn : List (Addr × Obj)} : Takes (X.suite a pn) noW := fun _ _ ⟨_, _, _, _, _, _, _, _, _, _, _, _, _, _, _, _, w⟩ => w
theorem capt_of {xh : List (Str × List (Str × Bool))} {j : Nat} {c x : Str} {b : Bool} (hx : (xh[j]?).map (·.1) = some x) (h : capt xh j c = some b) : ∃ tb, (x, tb) ∈ xh ∧ (c, b) ∈ tb := by
  unfold capt at h
  cases hz : xh[j]? with
  | none => rw [hz] at h; cases h
  | some z =>
    obtain ⟨y, tb⟩ := z
    rw [hz] at h hx
    cases hx
    exact ⟨tb, List.mem_of_getElem? hz, PySem.mem_of_lookup h⟩
theorem afterS_of {fr fr' : Bool} (hfr : fr = false) (hfr' : fr' = false) {g : G} {pz : Addr × Obj} {D : Ends} {H0 Hf0 Hf Hf' : Hp} {f : Env → Env} {fσ : St → St} (hfσ : ∀ {σ H Hf e}, SR (g.hot pz) H0 Hf0 σ H Hf e → SR (g.hot pz) H0 Hf0 (fσ σ) H Hf (f e)) {o : Out} {W : WE} (sm : Same Hf Hf')
    (h : SO (fr := fr) g W D H0 Hf0 Hf (afterS f o)) : SO (fr := fr') (g.hot pz) noW { nx := fun σ' H' => D.nx (fσ σ') H', rt := D.rt, bk := fun σ' H' => D.bk (fσ σ') H', ct := fun σ' H' => D.ct (fσ σ') H' } H0 Hf0 Hf' o := by
  subst hfr hfr'
  cases o with
  | nx e =>
    simp only [afterS] at h
    split at h
    · rename_i hx
      exact fun σ2 H2 Hf2 sr2 s2 => h (fσ σ2) H2 Hf2 ((hfσ sr2).down hx) (sm.trans s2)
    · exact h.elim
  | rt d =>
    simp only [afterS] at h
    split at h
    · rename_i hx
      exact fun v H2 Hf2 f2 r2 => h v H2 Hf2 f2 (r2.down hx)
    · exact h.elim
  | bk _ => exact h.elim
  | ct _ => exact h.elim
  | err _ _ => exact h.elim
  | bad => exact h.elim
/-- the error as data of its suite -/
theorem rep_exc {g : G} {H Hf : Hp} {a : Addr} {oe : Obj} {cls : Value} {dx : Option Addr} {x : Exn} (hn : g.hx = none) (xr : XRep g H Hf cls dx x) (hz : Zc cls dx oe) : Rep (g.hot (a, oe)) Hf (.ref a) (.exc x.cls x.fs) := by
  obtain ⟨h1, h2⟩ := hz
  rcases xr.d with ⟨e1, e2⟩ | ⟨dd, vs, e1, e2, e3⟩
  · rw [e1]
    exact .exc0 rfl (by rw [h1]; exact xr.c) (by rw [h2]; exact e2)
  · exact .excD rfl (by rw [h1]; exact xr.c) (by rw [h2]; exact e1) e2 (e3.up hn)
theorem s_tryAs {i j : Nat} {x m : Str} {b₀ : Stmt} {body suite : S} (hfr : T.fr = false) (hq : T.hm = false) (G : GoodS N sc n X) (tk : Takes X W) (K : Know (gOf X) n T) (h1 : N[i]? = some m) (h2 : lclB sc m = true) (h3 : (T.xh[j]?).map (·.1) = some x) (h4 : glB sc x = true) (h5 : nmB x = true)
    (hb : ∀ (pn : List (Addr × Obj)) (xe : Value → Shared → Prop) (W' : WE), GoodSM N sc n T.hm (X.tr pn xe) → Takes (X.tr pn xe) W' → Know (gOf (X.tr pn xe)) n T → PSs (X.tr pn xe) xs (tDS (gOf (X.tr pn xe)) T W' body))
    (hs : ∀ (X' : Cx) (W' : WE), GoodSM N sc n true X' → Takes X' W' → Know (gOf X') n T.hot → PSs X' (b₀ :: ys) (tDS (gOf X') T.hot W' suite)) :
    PS X (.Try xs [.ExceptHandler (some (.Name x np)) (some m) (b₀ :: ys) pos'] [] [] p) (tDS (gOf X) T W (.tryAs i j body suite)) := by
  obtain ⟨d1, _, d3⟩ := nm_of h5
  have hn := gOf_calm G.calm
  obtain ⟨tb0, hm0⟩ : ∃ tb, (x, tb) ∈ T.xh := by
    cases hz : T.xh[j]? with
    | none => rw [hz] at h3; cases h3
    | some z => obtain ⟨y, tb⟩ := z; rw [hz] at h3; cases h3; exact ⟨tb, List.mem_of_getElem? hz⟩
  cases hzz : T.xh[j]? with
  | none => rw [hzz] at h3; cases h3
  | some z =>
    obtain ⟨y, tb⟩ := z
    have h3' := h3
    rw [hzz] at h3'; cases h3'
    obtain ⟨cv, hcv, hall⟩ := (K.xh _ (List.mem_of_getElem? hzz)).ex
    have lm : X.env.scope.names.lookup m = some .local := by
      rw [G.eS]; unfold lclB at h2; split at h2
      · assumption
      · cases h2
    refine (ps_try_as (i := i) (c := cv) (tb := fun W' => tDS (gOf X) T W' body) (ts := fun a cls d D σ H => ∀ oe, Zc cls d oe → (∃ vs, oe.data = .fields vs) → tDS ((gOf X).hot (a, oe)) T.hot noW suite D σ H)
      G.stk G.fr (by rw [G.eN]; exact G.nd) (by rw [G.eN]; exact h1) lm ⟨gl_of G.toGoodB h4, d1, hcv⟩ tk (fun W' pn xe tk' po' => ?_) (fun a oe cls d pn hz hf => ?_)).imp fun D σ H ⟨H0, Hf0, Hf, env, sr, h⟩ => ?_
    · have z := hb pn xe W' (goodSM_tr G hq po') tk' (by rw [gOf_tr G.calm]; exact K)
      rw [gOf_tr G.calm] at z
      exact z
    · exact (hs (X.suite a ((a, oe) :: pn)) noW (goodSM_suite G hf) takes_suite (know_hot K hq hn hf)).imp fun D σ H h => by
        obtain ⟨H0, Hf0, Hf, env, sr, h⟩ := h oe hz hf
        have e : (gOf X).hot (a, oe) = gOf (X.suite a ((a, oe) :: pn)) := rfl
        rw [e] at sr h
        exact ⟨H0, Hf0, Hf, env, sr, h⟩
    · refine ⟨H0, Hf0, Hf, env, sr, ?_⟩
      simp only [ex] at h
      cases ho : ex T body env with
      | nx e => rw [ho] at h; exact h
      | rt d => rw [ho] at h; exact h
      | bk e => rw [ho] at h; exact h
      | ct e => rw [ho] at h; exact h
      | bad => rw [ho] at h; exact h.elim
      | err e env' =>
        rw [ho] at h
        simp only at h
        intro σ' H' Hf' cls dx sr' sm xr
        cases hc : capt T.xh j e.cls with
        | none => rw [hc] at h; exact h.elim
        | some b =>
          rw [hc] at h
          obtain ⟨D1, hD1, hD2⟩ : ∃ D, (gOf X).mg e.cls = some (.ref D) ∧ PySem.W.exmOne (gOf X).K (.ref D) cv = some b := by
            have hl : tb.lookup e.cls = some b := by
              unfold capt at hc; rw [hzz] at hc; exact hc
            exact hall (e.cls, b) (PySem.mem_of_lookup hl)
          have ecl : cls = .ref D1 := by
            have z := xr.c
            rw [hD1] at z
            exact (Option.some.inj z).symm
          cases b with
          | false => exact ⟨false, by rw [ecl]; exact hD2, fun z => Bool.noConfusion z, fun _ => h σ' H' Hf' cls dx sr' sm xr⟩
          | true =>
            refine ⟨true, by rw [ecl]; exact hD2, fun _ a ha oe hz hf => ?_, fun z => Bool.noConfusion z⟩
            refine ⟨H0, Hf0, Hf', _, (sr'.up hn (p := (a, oe))).setv (rep_exc hn xr hz), ?_⟩
            exact afterS_of hfr rfl (fσ := fun σ => σ.set i none) (fun sr2 => sr2.setn none) sm h
theorem s_tryOnly {j : Nat} {x : Str} {b₀ : Stmt} {body suite : S} (hfr : T.fr = false) (hq : T.hm = false) (G : GoodS N sc n X) (tk : Takes X W) (K : Know (gOf X) n T) (h3 : (T.xh[j]?).map (·.1) = some x) (h4 : glB sc x = true) (h5 : nmB x = true)
    (hb : ∀ (pn : List (Addr × Obj)) (xe : Value → Shared → Prop) (W' : WE), GoodSM N sc n T.hm (X.tr pn xe) → Takes (X.tr pn xe) W' → Know (gOf (X.tr pn xe)) n T → PSs (X.tr pn xe) xs (tDS (gOf (X.tr pn xe)) T W' body))
    (hs : ∀ (X' : Cx) (W' : WE), GoodSM N sc n true X' → Takes X' W' → Know (gOf X') n T.hot → PSs X' (b₀ :: ys) (tDS (gOf X') T.hot W' suite)) :
    PS X (.Try xs [.ExceptHandler (some (.Name x np)) none (b₀ :: ys) pos'] [] [] p) (tDS (gOf X) T W (.tryOnly j body suite)) := by
  obtain ⟨d1, _, d3⟩ := nm_of h5
  have hn := gOf_calm G.calm
  cases hzz : T.xh[j]? with
  | none => rw [hzz] at h3; cases h3
  | some z =>
    obtain ⟨y, tb⟩ := z
    have h3' := h3
    rw [hzz] at h3'; cases h3'
    obtain ⟨cv, hcv, hall⟩ := (K.xh _ (List.mem_of_getElem? hzz)).ex
    refine (ps_try_only (c := cv) (tb := fun W' => tDS (gOf X) T W' body) (ts := fun a cls d D σ H => ∀ oe, Zc cls d oe → (∃ vs, oe.data = .fields vs) → tDS ((gOf X).hot (a, oe)) T.hot noW suite D σ H)
      G.stk G.fr ⟨gl_of G.toGoodB h4, d1, hcv⟩ tk (fun W' pn xe tk' po' => ?_) (fun a oe cls d pn hz hf => ?_)).imp fun D σ H ⟨H0, Hf0, Hf, env, sr, h⟩ => ?_
    · have z := hb pn xe W' (goodSM_tr G hq po') tk' (by rw [gOf_tr G.calm]; exact K)
      rw [gOf_tr G.calm] at z
      exact z
    · exact (hs (X.suite a ((a, oe) :: pn)) noW (goodSM_suite G hf) takes_suite (know_hot K hq hn hf)).imp fun D σ H h => by
        obtain ⟨H0, Hf0, Hf, env, sr, h⟩ := h oe hz hf
        have e : (gOf X).hot (a, oe) = gOf (X.suite a ((a, oe) :: pn)) := rfl
        rw [e] at sr h
        exact ⟨H0, Hf0, Hf, env, sr, h⟩
    · refine ⟨H0, Hf0, Hf, env, sr, ?_⟩
      simp only [ex] at h
      cases ho : ex T body env with
      | nx e => rw [ho] at h; exact h
      | rt d => rw [ho] at h; exact h
      | bk e => rw [ho] at h; exact h
      | ct e => rw [ho] at h; exact h
      | bad => rw [ho] at h; exact h.elim
      | err e env' =>
        rw [ho] at h
        simp only at h
        intro σ' H' Hf' cls dx sr' sm xr
        cases hc : capt T.xh j e.cls with
        | none => rw [hc] at h; exact h.elim
        | some b =>
          rw [hc] at h
          obtain ⟨D1, hD1, hD2⟩ : ∃ D, (gOf X).mg e.cls = some (.ref D) ∧ PySem.W.exmOne (gOf X).K (.ref D) cv = some b := by
            have hl : tb.lookup e.cls = some b := by
              unfold capt at hc; rw [hzz] at hc; exact hc
            exact hall (e.cls, b) (PySem.mem_of_lookup hl)
          have ecl : cls = .ref D1 := by
            have z := xr.c
            rw [hD1] at z
            exact (Option.some.inj z).symm
          cases b with
          | false => exact ⟨false, by rw [ecl]; exact hD2, fun z => Bool.noConfusion z, fun _ => h σ' H' Hf' cls dx sr' sm xr⟩
          | true =>
            refine ⟨true, by rw [ecl]; exact hD2, fun _ a ha oe hz hf => ?_, fun z => Bool.noConfusion z⟩
            refine ⟨H0, Hf0, Hf', _, sr'.up hn (p := (a, oe)), ?_⟩
            exact afterS_of hfr rfl (f := fun e => e) (fσ := fun σ => σ) (fun sr2 => sr2) sm h
end
/-! ### return sorted(.., key=lambda ..) -/
/-- this def's code and its table -/
def LamAt (X : Cx) : Prop := ∃ c P, X.env.code = .ref c ∧ X.env.qual ++ "<lambda>" = lamName ∧ (gOf X).tbc c P
/-- an item of the list: a pair of whole numbers with a key -/
structure ItA (g : G) (Hf : Hp) (h : Heap) (cm : Int) (v : Value) (b : D) : Prop where
  ex : ∃ (t : Addr) (n d : Int) (t1 t2 : Tok) (vv : V), v = .ref t ∧ b = .tup [.int n, .int d] ∧ PyProof.Rows.IsTup h t #[.int n t1, .int d t2] ∧ okDiv d = true ∧ okMul n (cm.fdiv d) = true ∧ RelV vv v ∧ Rep g Hf vv b
theorem itA_all {X : Cx} {pins : List (Addr × Obj)} {σ : St} {H Hf : Hp} {s : Shared} {cm : Int} (I : Inv X pins σ H s) (sub : Same Hf H) : ∀ {vs : List V} {us : List Value} {ds : List D}, Vals vs us → Reps (gOf X) Hf vs ds → ds.all (okKeyA cm) = true → PySem.W.EachIs (ItA (gOf X) Hf s.heap cm) us ds
  | _, _, _, .nil, .nil, _ => .nil
  | _, _, _, .cons r1 t1, .cons r2 t2, h => by
    simp only [List.all_cons, Bool.and_eq_true] at h
    refine .cons ?_ (itA_all I sub t1 t2 h.2)
    obtain ⟨h1, _⟩ := h
    unfold okKeyA at h1
    split at h1
    · rename_i n dd
      rw [Bool.and_eq_true] at h1
      have r2' := r2
      cases r2 with
      | @tup a vs' ds' hs rr =>
        cases r1
        obtain ⟨its, ra, pl, _⟩ := I.tuple (same_sqT sub hs)
        cases rr with
        | cons q1 rr =>
          cases rr with
          | cons q2 rr =>
            cases rr
            cases q1; cases q2
            obtain ⟨ta, tb, rfl⟩ := Vals.int2 ra
            exact ⟨a, n, dd, ta, tb, .ref a, rfl, rfl, pl, h1.1, h1.2, rfl, r2'⟩
    · cases h1
theorem each_back {g : G} {Hf : Hp} {h : Heap} {cm : Int} : ∀ {us : List Value} {ds : List D}, PySem.W.EachIs (ItA g Hf h cm) us ds → ∃ vs, Vals vs us ∧ Reps g Hf vs ds
  | _, _, .nil => ⟨[], .nil, .nil⟩
  | _, _, .cons a b => by
    obtain ⟨vs, r1, r2⟩ := each_back b
    obtain ⟨_, _, _, _, _, vv, _, _, _, _, _, rv, rr⟩ := a.ex
    exact ⟨vv :: vs, .cons rv r1, .cons rr r2⟩
theorem dataLe_A (cm : Int) (a b : D) : PySem.W.dataLe false (fun d => PyData.int (keyA cm d)) a b = leA cm a b := by
  unfold PySem.W.dataLe
  simp only [PySem.W.sortLe, cond, PySem.W.keyToks, leA, PyProof.Rows.lexLt, PyProof.Rows.itemLt]
  by_cases h : keyA cm a ≤ keyA cm b
  · have h2 : ¬ keyA cm b < keyA cm a := by omega
    simp [h, h2]
  · have h2 : keyA cm b < keyA cm a := by omega
    simp [h, h2]
section
variable {X : Cx} {N : List Str} {sc : Scope} {n : Nat} {T : Tb} {W : WE}
theorem getV_ok {env : Env} {i : Nat} {d : D} (h : getV env i = .ok d) : env[i]? = some (some (.v d)) := by
  unfold getV at h
  split at h
  · rename_i d' e; cases h; exact e
  · cases h
theorem getV_ne (env : Env) (i : Nat) (z : Exn) : getV env i ≠ .err z := by
  unfold getV; split <;> (intro h; cases h)
theorem lamSc_of {sc sc2 : Scope} (h : lamScB sc sc2 = true) : sc2.kind = .function ∧ sc2.isCoroutine = false ∧ sc2.isGenerator = false ∧ sc2.names.lookup ("number" : Str) = some .local ∧ sc2.names.lookup ("common" : Str) = some .free ∧ (∀ x ∈ sc2.names, x.2 ≠ .cell) ∧
    ∀ y ∈ sc2.names, y.2 = .free → sc.names.lookup y.1 = some .cell ∨ sc.names.lookup y.1 = some .free := by
  unfold lamScB at h
  simp only [Bool.and_eq_true, Bool.or_eq_true, Bool.not_eq_true', decide_eq_true_eq, decide_eq_false_iff_not, List.all_eq_true] at h
  obtain ⟨⟨⟨⟨⟨h1, h2⟩, h3⟩, h4⟩, h5⟩, h6⟩ := h
  refine ⟨h1, h2, h3, h4, h5, fun x hx => (h6 x hx).1, fun y hy e => ?_⟩
  rcases (h6 y hy).2 with (z | z) | z
  · exact absurd e z
  · exact .inl z
  · exact .inr z
theorem clos_at {cells : List (Str × Addr)} {names : List (Str × NameKind)} {c : Str} {cc : Addr} (h : names.lookup c = some .free) (hc : cells.lookup c = some cc) : (cloFrom cells names []).lookup c = some cc := by
  obtain ⟨c2, h2⟩ := mem_lookup (cloFrom_has (cells := cells) (acc := []) (PySem.mem_of_lookup h))
  rcases cloFrom_mem (PySem.mem_of_lookup h2) with z | ⟨_, z⟩
  · cases z
  · rw [h2, z, hc] <;> rfl
theorem s_retA (hfr : T.fr = false) {i j : Nat} {x : Str} {ps : Arguments} {sc2 : Scope} {k1 k2 : Nat} {p1 p2 p3 p4 p5 p6 p7 p8 p9 q q2 lp kp pos p : Pos} (G : GoodS N sc n X) (L : LamAt X) (K : Know (gOf X) n T) (h1 : ("sorted" : Str) ∈ T.bn) (h2 : glB sc "sorted" = true) (h3 : N[i]? = some x) (h4 : visB sc x = true) (h5 : nmB x = true)
    (h6 : N[j]? = some ("common" : Str)) (h7 : sc.names.lookup ("common" : Str) = some .cell) (h8 : lamScB sc sc2 = true) (h9 : parB1 ps = true) :
    PS X (.Return (some (.Call (.Name "sorted" q) [.Name x q2] [⟨some "key", .Lambda ps (keyE k1 k2 p1 p2 p3 p4 p5 p6 p7 p8 p9) sc2 lp, kp⟩] pos)) p) (tDS (gOf X) T W (.retA i j)) := by
  obtain ⟨d1, d2, _⟩ := nm_of h5
  obtain ⟨k1', k2', k3, k4, k5, k6, k7⟩ := lamSc_of h8
  obtain ⟨c, P, hcode, hname, htbc⟩ := L
  obtain ⟨f0, o0, fd0, z1, z2, z3, z4, TB⟩ := id htbc
  have hfree : ∀ y ∈ sc2.names, y.2 = .free → X.env.scope.names.lookup y.1 = some .cell ∨ X.env.scope.names.lookup y.1 = some .free := fun y hy e => G.cf _ (k7 y hy e)
  have key : PE X (.Call (.Name "sorted" q) [.Name x q2] [⟨some "key", .Lambda ps (keyE k1 k2 p1 p2 p3 p4 p5 p6 p7 p8 p9) sc2 lp, kp⟩] pos)
      (fun σ H Q => ∃ H0 Hf0 Hf env, SR (gOf X) H0 Hf0 σ H Hf env ∧ RG (gOf X) W σ (OP (gOf X) Q) ((getV env i).bind fun x => (getV env j).bind fun c => sortA x c) H Hf) := by
    refine ⟨fun pins s σ H Q I ⟨H0, Hf0, Hf, env, sr, r⟩ => ?_⟩
    cases hi : getV env i with
    | err z => exact absurd hi (getV_ne _ _ _)
    | bad => rw [hi] at r; exact r.elim
    | ok dx =>
      cases hj : getV env j with
      | err z => exact absurd hj (getV_ne _ _ _)
      | bad => rw [hi, hj] at r; exact r.elim
      | ok dc =>
        rw [hi, hj] at r
        simp only [R.bind_ok] at r
        obtain ⟨vx, hsx, slx⟩ := sr.slot i _ (getV_ok hi)
        obtain ⟨vc, hsc, slc⟩ := sr.slot j _ (getV_ok hj)
        cases slx with
        | v rx =>
          cases slc with
          | v rc =>
            cases dx with
            | lst ds =>
              cases dc with
              | int cm =>
                simp only [sortA] at r
                by_cases hall : ds.all (okKeyA cm) = true
                · rw [if_pos hall] at r
                  cases rx with
                  | @lst l vs _ hl rr =>
                  cases rc
                  refine wpAny_Call_Name_kw (ld_blt (u := .builtin "sorted") I (gl_of G.toGoodB h2) (K.bn _ h1) (by decide +kernel) ?_)
                  refine PyProof.Rows.callWith_kw (thn ((pa_cons (pe_var (i := i) (by rw [G.eN]; exact h3) (G.vis _ h4) d1 d2) pa_nil).run pos pins s σ H (fun vs H1 => vs = [V.ref l] ∧ H1 = H) I ⟨_, hsx, rfl, rfl⟩) fun us s1 ⟨us', H1, I1, r1, e1, e2⟩ => ?_)
                  subst e1
                  rw [e2] at I1
                  obtain rfl := Vals.ref1 r1
                  refine wpAny_evalAll_cons (wpAny_bind (lam_new I1 TB hcode hname (sr.tb P ⟨c, htbc⟩).1 (dfl1 h9 _) (fun y hy e => I.ok.has _ (hfree y hy e)) fun f d pm ct H2 s2 I2 ext keep hf hrec => wpAny_bind (wpAny_standAt (wpAny_pure (wpAny_evalAll_nil ?_)))))
                  have hPf : Hf P = none := (sr.tb P ⟨c, htbc⟩).2
                  have fut : Fut H Hf H2 Hf := ⟨ext, .refl _, fun b u e => keep b u (fun z => by rw [z, hPf] at e; cases e) (sr.sub b u e), fun _ _ z => z⟩
                  have sr2 := sr.mono fut
                  show wpAny _ _ (call (.builtin "sorted") [.ref l] [(Str.ofString "key", .ref f)]) _ _ _
                  obtain ⟨its, rv, pl, hz⟩ := I2.list (lsq (same_rd sr2.sub hl))
                  have each := itA_all (cm := cm) I2 sr2.sub rv rr hall
                  have lend : ds.length = its.length := by rw [← rr.length, rv.length]
                  obtain ⟨mm, hn, hlk⟩ := I2.loc
                  obtain ⟨uc, ruc, hcell⟩ := hlk j "common" (.int cm) (by rw [G.eN]; exact h6) hsc (.inr (.inl (by rw [G.eS]; exact h7)))
                  obtain ⟨tc, rfl⟩ := ruc
                  obtain ⟨cc, hcc, hcv⟩ : ∃ cc, X.env.cells.lookup ("common" : Str) = some cc ∧ s2.heap.IsCell cc (some (.int cm tc)) := by
                    rcases hcell with ⟨z, _⟩ | ⟨_, cc, z, y⟩
                    · have z' : X.env.scope.names.lookup ("common" : Str) = some .local := z
                      rw [G.eS, h7] at z'; cases z'
                    · exact ⟨cc, z, y⟩
                  refine PySem.W.sorted_key_data (b := false) (vs := its) (bs := ds) (R := ItA (gOf X) Hf s2.heap cm) (f := .ref f) (fun d => PyData.int (keyA cm d)) pl.isList each (PySem.W.AllAlike.of fun _ _ => rfl) (PySem.W.Sortable.others fun _ => ⟨(fun z => nomatch z), fun _ z => nomatch z⟩) ?_ (fun _ _ => ?_) (PyProof.Rows.ksk_s1 _ _) (fun _ => PyProof.Rows.ksk_l1 _ _) (fun a => PyProof.Rows.ksk_t1 f a)
                    (fun v b hR _ h tk kp => ?_) (fun out c0 h' tk kp fresh hnew hlen eR => ?_)
                  · rw [lend, ← rv.length]; exact hz
                  · have := G.un
                    show X.A.units + 2 + _ < _
                    simp only [PyData.depth]
                    omega
                  · obtain ⟨t, nn, dd, t1, t2, vv, rfl, rfl, ht, hd1, hd2, _, _⟩ := hR.ex
                    obtain ⟨d0, oc, fv, tt, ed, y1, y2, y3⟩ := hrec
                    cases ed
                    refine lam_turn (s := { s2 with heap := h, toks := tk }) (tc := tc) (kp _ _ hf) ⟨d, oc, fv, tt, rfl, kp _ _ y1, y2, y3⟩ ?_ (I2.nolimit.keeps kp) h9 k1' k2' k3 k6 k4 k5 (clos_at k5 hcc) ?_ (ht.keeps kp) hd1 hd2
                    · have := G.room.dp
                      show X.A.depth < _
                      omega
                    · obtain ⟨o, ho, hdd⟩ := hcv
                      exact ⟨o, kp _ _ ho, hdd⟩
                  · have e3 : ds.mergeSort (PySem.W.dataLe false fun d => PyData.int (keyA cm d)) = ds.mergeSort (leA cm) := congrArg _ (funext fun a => funext fun b => dataLe_A cm a b)
                    rw [e3] at eR
                    obtain ⟨ws, w1, w2⟩ := each_back eR
                    have np : H2 (s2.heap.objs.size + 1) = none := I2.hok.fresh (Nat.le_succ _)
                    refine ⟨.ref _, upd H2 (s2.heap.objs.size + 1) (.lst ws), I2.laid (t' := tk) kp (Nat.le_succ _) ⟨?_, out, c0, w1, hnew⟩, rfl, ?_⟩
                    · rw [w1.length, hlen, lend, ← rv.length]; exact hz
                    · exact r (.ref _) _ (upd Hf (s2.heap.objs.size + 1) (.lst ws)) (fut.trans (Fut.new sr2.sub np)) (.lst (LsK.of upd_same) (w2.mono (same_upd (sr2.sub.free np))))
                · rw [if_neg hall] at r; exact r.elim
              | _ => exact r.elim
            | _ => exact r.elim
  refine (ps_ret key).imp fun D σ H ⟨H0, Hf0, Hf, env, sr, h⟩ => ?_
  simp only [ex] at h
  rw [hfr] at h
  refine ⟨H0, Hf0, Hf, env, sr, (so_of sr h).imp fun d e qq v H1 Hf1 f r => qq.1 v H1 Hf1 (sr.fut.trans f) r⟩
end
end Rf
/-! # Rf13: every body that passes the look; defs -/
namespace Rf
open PySem PySem.Spec L2
section
variable {N : List Str} {sc : Scope} {n : Nat} {T : Tb}
theorem lcl_of {x : Str} (h : lclB sc x = true) : sc.names.lookup x = some .local := by
  unfold lclB at h; split at h
  · assumption
  · cases h
theorem sw_false {elt : Expr} {gs : List Comprehension} {sc' : Scope} {pos py : Pos} {y : Str} {l : Nat} {env : PySem.Env} (hs : env.scope = sc) (h : swB sc sc' y py pos = false) : swapsWith (.ListComp elt gs sc' pos) (some (.Name y py)) l env = pure false := by
  have e : (env.kindOf y == some .local) = lclB sc y := by
    show (env.scope.names.lookup y == some .local) = _
    rw [hs]
    unfold lclB
    split
    · rename_i h; rw [h]; rfl
    · rename_i h
      cases hq : sc.names.lookup y with
      | none => rfl
      | some k => cases k <;> first | rfl | exact absurd hq h
  have key : (env.blockKind == .function && env.kindOf y == some .local && py.line == (Expr.ListComp elt gs sc' pos).pos.line && !(sc'.names.any fun (n, k) => n == y && (k == .local || k == .cell))) = false := by
    rw [e]
    unfold swB at h
    cases hb : (env.blockKind == ScopeKind.function)
    · rfl
    · simpa [Bool.and_assoc, Expr.pos] using h
  unfold swapsWith
  show (pure (env.blockKind == .function && env.kindOf y == some .local && py.line == (Expr.ListComp elt gs sc' pos).pos.line && !(sc'.names.any fun (n, k) => n == y && (k == .local || k == .cell))) : Sem Bool) = _
  rw [key]
structure SndS (N : List Str) (n : Nat) (T : Tb) (s : S) : Prop where
  S : ∀ (X : Cx) (sc : Scope) (x : Stmt) (W : WE), GoodSM N sc n T.hm X → Takes X W → Know (gOf X) n T → (T.lam = true → LamAt X) → ckS N T s sc x = true → PS X x (tDS (gOf X) T W s)
  B : ∀ (X : Cx) (sc : Scope) (x : List Stmt) (W : WE), GoodSM N sc n T.hm X → Takes X W → Know (gOf X) n T → (T.lam = true → LamAt X) → ckSs N T s sc x = true → PSs X x (tDS (gOf X) T W s)
theorem snS {s : Rf.S} (h : ∀ (X : Cx) (sc : Scope) (x : Stmt) (W : WE), GoodSM N sc n T.hm X → Takes X W → Know (gOf X) n T → (T.lam = true → LamAt X) → ckS N T s sc x = true → PS X x (tDS (gOf X) T W s)) (h2 : ∀ sc xs, ckSs N T s sc xs = false) : SndS N n T s :=
  ⟨h, fun _ sc x _ _ _ _ _ z => by rw [h2] at z; cases z⟩
theorem s_asgOC {X : Cx} {W : WE} {i : Nat} {y : Str} {py p : Pos} {e : E} {x : Expr} (hq : T.hm = false) (G : GoodS N sc n X) (tk : Takes X W) (K : Know (gOf X) n T) (hi : N[i]? = some y) (hl : locB sc y = true) (he : ckE N T e sc x = true) (hf : freshB e = true) (h : (!isComp x || cmpOkB e sc y py x) = true) :
    PS X (.Assign [.Name y py] x p) (tDS (gOf X) T W (.asgO i e)) := by
  have hF := (snd e).F X sc x W (gmq hq G.toGood) tk K he hf
  by_cases hc : isComp x = false
  · exact s_asgO G.toGood hF hi hl hc
  · cases x with
    | ListComp elt gs sc' pc =>
      by_cases hsw : swB sc sc' y py pc = true
      · -- stored from within the block
        have hsw' := hsw
        unfold swB at hsw'
        simp only [Bool.and_eq_true, Bool.not_eq_true'] at hsw'
        obtain ⟨⟨k1, k2⟩, k3⟩ := hsw'
        have hyl : X.env.scope.names.lookup y = some .local := by rw [G.eS]; exact lcl_of k1
        cases e with
        | comp a tg b c own =>
          rcases gs with _ | ⟨⟨t, it, ifs, asy⟩, _ | ⟨g2, gr⟩⟩
          · simp [ckE] at he
          · by_cases h0 : asy = 0
            · subst h0
              simp only [ckE, Bool.and_eq_true, Bool.not_eq_true', List.all_eq_true, decide_eq_true_eq] at he
              obtain ⟨⟨⟨⟨⟨⟨⟨⟨_, h1⟩, h2⟩, h3⟩, h4⟩, h5⟩, h6⟩, h7⟩, h8⟩ := he
              refine (ps_setLc (i := i) (own := own.map fun k => (N.getD k "", k)) (wi := tDI (gOf X) T W b) (g := tG (gOf X) tg) (tt := tDC (gOf X) T noW c) (te := tD (gOf X) T noW a) G.calm (by rw [G.eN]; exact G.nd) (by rw [G.eN]; exact hi) hyl (sw_true (by rw [G.eS]; exact G.kind) hyl k2 k3) ((snd b).I X sc it t W (gmq hq G.toGood) tk K h2 h7)
                (by rw [G.eN]; exact (let B := blkOk_by h1; ⟨B.kind, B.uniq, B.ix, fun y hy e => G.cf _ (B.free y hy e), B.own⟩)) (fun s H C cl fp => by have z := g_of (good_blk G.toGood s H C cl fp) h3; rw [gOf_blk G.calm] at z; exact z) (fun s H C cl fp => by have z := (snd c).C _ sc' ifs noW (gmq hq (good_blk G.toGood s H C cl fp)) (takes_blk _ _ _ _ _) (by rw [gOf_blk G.calm]; exact K) h4; rw [gOf_blk G.calm] at z; exact z)
                (fun s H C cl fp => by have z := (snd a).E _ sc' elt noW (gmq hq (good_blk G.toGood s H C cl fp)) (takes_blk _ _ _ _ _) (by rw [gOf_blk G.calm]; exact K) h5; rw [gOf_blk G.calm] at z; exact z) (fold_of h8)).imp fun D σ H ⟨H0, Hf0, Hf, env, sr, h⟩ => ?_
              refine tLc_of (N := N) h6 ?_
              simp only [ex] at h
              refine ⟨H0, Hf0, Hf, env, sr, (so_of sr h).imp fun d e q => ?_⟩
              cases d with
              | lst ds =>
                intro pp vs H1 Hf1 f hn h1' hf r
                have sr1 := sr.mono f
                have h0 : H0 pp = none := sr.fut.s.free hn
                refine q.1 _ H1 Hf1 (sr1.seto h1' hf h0 r fun j zs hj he' ho hσ => ?_) f.f
                obtain ⟨v, hv, sl⟩ := sr.slot j _ he'
                cases sl with
                | o z1 z2 z3 z4 =>
                  rw [hv] at hσ
                  cases hσ
                  rw [hn] at z1; cases z1
                | n z1 z2 z3 z4 z5 =>
                  rw [hv] at hσ
                  cases hσ
                  rw [hn] at z1; cases z1
                | v _ => cases ho
              | _ => exact q.1.elim
            · unfold ckE at he
              split at he <;> first | cases he | skip
              all_goals (rename_i hx; first | (cases hx; exact absurd rfl h0) | (cases hx) | skip)
          · simp [ckE] at he
        | _ => simp [cmpOkB, isComp] at h
      · have hsw' : swB sc sc' y py pc = false := by simpa using hsw
        obtain ⟨l1, l2⟩ := G.loc y hl
        refine (ps_set (i := i) (by rw [G.eN]; exact G.nd) (by rw [G.eN]; exact hi) l1 hF (sw_false G.eS hsw') l2).imp fun D σ H ⟨H0, Hf0, Hf, env, sr, h⟩ => ?_
        simp only [ex] at h
        refine sDX_step (k := fun d => match d with | .lst xs => .nx (env.set i (some (.o xs))) | _ => .bad) sr (by
          cases hv : ev T e env with
          | ok d => rw [hv] at h; cases d <;> exact h
          | err z => rw [hv] at h; exact h
          | bad => rw [hv] at h; exact h) fun ds pp vs H1 Hf1 f hn h1' hf r sr1 q => ?_
        have h0 : H0 pp = none := sr.fut.s.free hn
        refine q _ H1 Hf1 (sr1.seto h1' hf h0 r fun j zs hj he' ho hσ => ?_) (.refl _)
        obtain ⟨v, hv, sl⟩ := sr.slot j _ he'
        cases sl with
        | o z1 z2 z3 z4 =>
          rw [hv] at hσ
          cases hσ
          rw [hn] at z1; cases z1
        | n z1 z2 z3 z4 z5 =>
          rw [hv] at hσ
          cases hσ
          rw [hn] at z1; cases z1
        | v _ => cases ho
    | _ => first | exact absurd rfl hc | simp [cmpOkB, isComp] at h
theorem s_asgC {X : Cx} {W : WE} {i : Nat} {y : Str} {py p : Pos} {e : E} {x : Expr} (hq : T.hm = false) (G : GoodS N sc n X) (tk : Takes X W) (K : Know (gOf X) n T) (hi : N[i]? = some y) (hl : locB sc y = true) (he : ckE N T e sc x = true) (hc : isComp x = true) (h : cmpOkB e sc y py x = true) :
    PS X (.Assign [.Name y py] x p) (tDS (gOf X) T W (.asg (.name i) e)) := by
  have hF := (snd e).E X sc x W (gmq hq G.toGood) tk K he
  · cases x with
    | ListComp elt gs sc' pc =>
      by_cases hsw : swB sc sc' y py pc = true
      · -- stored from within the block
        have hsw' := hsw
        unfold swB at hsw'
        simp only [Bool.and_eq_true, Bool.not_eq_true'] at hsw'
        obtain ⟨⟨k1, k2⟩, k3⟩ := hsw'
        have hyl : X.env.scope.names.lookup y = some .local := by rw [G.eS]; exact lcl_of k1
        cases e with
        | comp a tg b c own =>
          rcases gs with _ | ⟨⟨t, it, ifs, asy⟩, _ | ⟨g2, gr⟩⟩
          · simp [ckE] at he
          · by_cases h0 : asy = 0
            · subst h0
              simp only [ckE, Bool.and_eq_true, Bool.not_eq_true', List.all_eq_true, decide_eq_true_eq] at he
              obtain ⟨⟨⟨⟨⟨⟨⟨⟨_, h1⟩, h2⟩, h3⟩, h4⟩, h5⟩, h6⟩, h7⟩, h8⟩ := he
              refine (ps_setLc (i := i) (own := own.map fun k => (N.getD k "", k)) (wi := tDI (gOf X) T W b) (g := tG (gOf X) tg) (tt := tDC (gOf X) T noW c) (te := tD (gOf X) T noW a) G.calm (by rw [G.eN]; exact G.nd) (by rw [G.eN]; exact hi) hyl (sw_true (by rw [G.eS]; exact G.kind) hyl k2 k3) ((snd b).I X sc it t W (gmq hq G.toGood) tk K h2 h7)
                (by rw [G.eN]; exact (let B := blkOk_by h1; ⟨B.kind, B.uniq, B.ix, fun y hy e => G.cf _ (B.free y hy e), B.own⟩)) (fun s H C cl fp => by have z := g_of (good_blk G.toGood s H C cl fp) h3; rw [gOf_blk G.calm] at z; exact z) (fun s H C cl fp => by have z := (snd c).C _ sc' ifs noW (gmq hq (good_blk G.toGood s H C cl fp)) (takes_blk _ _ _ _ _) (by rw [gOf_blk G.calm]; exact K) h4; rw [gOf_blk G.calm] at z; exact z)
                (fun s H C cl fp => by have z := (snd a).E _ sc' elt noW (gmq hq (good_blk G.toGood s H C cl fp)) (takes_blk _ _ _ _ _) (by rw [gOf_blk G.calm]; exact K) h5; rw [gOf_blk G.calm] at z; exact z) (fold_of h8)).imp fun D σ H ⟨H0, Hf0, Hf, env, sr, h⟩ => ?_
              refine tLc_of (N := N) h6 ?_
              simp only [ex] at h
              refine ⟨H0, Hf0, Hf, env, sr, (so_of sr h).imp fun d e q => xp_of_op fun v H1 Hf1 f r => ?_⟩
              have q1 := q.1
              simp only [setT] at q1
              exact q1 _ H1 Hf1 ((sr.mono f).setv r) f.f
            · unfold ckE at he
              split at he <;> first | cases he | skip
              all_goals (rename_i hx; first | (cases hx; exact absurd rfl h0) | (cases hx) | skip)
          · simp [ckE] at he
        | _ => simp [cmpOkB, isComp] at h
      · have hsw' : swB sc sc' y py pc = false := by simpa using hsw
        obtain ⟨l1, l2⟩ := G.loc y hl
        refine (ps_set (i := i) (by rw [G.eN]; exact G.nd) (by rw [G.eN]; exact hi) l1 hF (sw_false G.eS hsw') l2).imp fun D σ H ⟨H0, Hf0, Hf, env, sr, h⟩ => ?_
        simp only [ex] at h
        refine sD_step sr h fun d v H1 Hf1 _ f r sr1 q => ?_
        simp only [setT] at q
        exact q _ H1 Hf1 (sr1.setv r) (.refl _)
    | _ => simp [cmpOkB] at h
theorem s_retB {X : Cx} {W : WE} {e : E} {x : Expr} {p : Pos} (h : T.fr = false ∨ freshB e = true) (he : PE X x (tD (gOf X) T W e)) (hF : freshB e = true → PE X x (tDF (gOf X) T W e)) : PS X (.Return (some x) p) (tDS (gOf X) T W (.ret e)) := by
  cases hfr : T.fr with
  | false => exact s_ret hfr he
  | true =>
    rcases h with z | z
    · rw [hfr] at z; cases z
    · exact s_retF hfr (hF z)
theorem sns : ∀ (s : Rf.S) {T : Tb}, SndS N n T s
  | .nil => ⟨fun X sc x W G tk K L h => by simp [ckS] at h, fun X sc x W G tk K L h => by
    cases x with
    | nil => exact s_nil
    | cons _ _ => simp [ckSs] at h⟩
  | .cons s r => ⟨fun X sc x W G tk K L h => by simp [ckS] at h, fun X sc x W G tk K L h => by
    cases x with
    | nil => simp [ckSs] at h
    | cons x xs =>
      simp only [ckSs, Bool.and_eq_true] at h
      exact s_cons ((sns s).S X sc x W G tk K L h.1) ((sns r).B X sc xs W G tk K L h.2)⟩
  | .pass => snS (fun X sc x W G tk K L h => by cases x <;> first | (cases (show false = true from h); done) | exact s_pass) (by intros; rfl)
  | .brk => snS (fun X sc x W G tk K L h => by cases x <;> first | (cases (show false = true from h); done) | exact s_brk) (by intros; rfl)
  | .ct => snS (fun X sc x W G tk K L h => by cases x <;> first | (cases (show false = true from h); done) | exact s_ct) (by intros; rfl)
  | .retN => snS (fun X sc x W G tk K L h => by
    cases x with
    | Return v p => cases v with
      | none => exact s_retN (by simpa [ckS] using h)
      | some _ => simp [ckS] at h
    | _ => simp [ckS] at h) (by intros; rfl)
  | .ret e => snS (fun X sc x W G tk K L h => by
    cases x with
    | Return v p => cases v with
      | none => simp [ckS] at h
      | some x =>
        simp only [ckS, Bool.and_eq_true, Bool.or_eq_true, Bool.not_eq_true'] at h
        exact s_retB h.2 ((snd e).E X sc x W G.toGoodM tk K h.1) (fun hf => (snd e).F X sc x W G.toGoodM tk K h.1 hf)
    | _ => simp [ckS] at h) (by intros; rfl)
  | .asg t e => snS (fun X sc x W G tk K L h => by
    cases x with
    | Assign ts v p =>
      rcases ts with _ | ⟨y, _ | ⟨y2, r⟩⟩ <;> first | (simp [ckS] at h; done) | skip
      simp only [ckS, Bool.and_eq_true, Bool.not_eq_true'] at h
      obtain ⟨⟨⟨⟨hq, h1⟩, h2⟩, h3⟩, h4⟩ := h
      by_cases hc : isComp v = false
      · exact s_asg (G.goodS hq).toGood ((snd e).E X sc v W G.toGoodM tk K h1) (g_of (G.goodS hq).toGood h2) hc h4 h2
      · rw [Bool.not_eq_false] at hc
        rw [hc] at h3
        have h3 : cmpTB t e sc y v = true := by simpa using h3
        cases t with
        | name i => cases y with
          | Name w py =>
            simp only [ckTg, Bool.and_eq_true, decide_eq_true_eq] at h2
            exact s_asgC hq (G.goodS hq) tk K h2.1 h2.2 h1 hc h3
          | _ => simp [cmpTB] at h3
        | _ => simp [cmpTB] at h3
    | _ => simp [ckS] at h) (by intros; rfl)
  | .asgO i e => snS (fun X sc x W G tk K L h => by
    cases x with
    | Assign ts v p =>
      rcases ts with _ | ⟨y, _ | ⟨y2, r⟩⟩ <;> first | (simp [ckS] at h; done) | skip
      cases y with
      | Name y py =>
        simp only [ckS, Bool.and_eq_true, decide_eq_true_eq, Bool.not_eq_true'] at h
        obtain ⟨⟨⟨⟨⟨hq, h1⟩, h2⟩, h3⟩, h4⟩, h5⟩ := h
        exact s_asgOC hq (G.goodS hq) tk K h1 h2 h3 h4 h5
      | _ => simp [ckS] at h
    | _ => simp [ckS] at h) (by intros; rfl)
  | .par2 i j a b => snS (fun X sc x W G tk K L h => by
    cases x with
    | Assign ts v p =>
      rcases ts with _ | ⟨y, _ | ⟨y2, r⟩⟩
      · exact absurd h (by simp [ckS])
      rotate_left
      · exact absurd h (by simp [ckS])
      cases y with
      | Tuple es k1 p1 =>
        cases v with
        | Tuple vs k2 p2 =>
          simp only [ckS] at h
          cases hp : parB es vs with
          | none => rw [hp] at h; cases h
          | some w =>
            obtain ⟨s1, q1, s2, q2, v1, v2⟩ := w
            rw [hp] at h
            obtain ⟨rfl, rfl⟩ := parB_of hp
            simp only [Bool.and_eq_true, decide_eq_true_eq, Bool.not_eq_true'] at h
            obtain ⟨⟨⟨⟨⟨⟨⟨⟨⟨⟨⟨⟨hq, h1⟩, h2⟩, h3⟩, h4⟩, h5⟩, h6⟩, h7⟩, h8⟩, h9⟩, h10⟩, h11⟩, h12⟩ := h
            exact s_par2 (G.goodS hq) h1 h2 h3 h4 h5 ((snd a).E X sc v1 W G.toGoodM tk K h6) ((snd b).E X sc v2 W G.toGoodM tk K h7) h8 h9 h10 h11 h12
        | _ => exact absurd h (by simp [ckS])
      | _ => exact absurd h (by cases v <;> simp [ckS])
    | _ => exact absurd h (by simp [ckS])) (by intros; rfl)
  | .asgIx i a e => snS (fun X sc x W G tk K L h => by
    cases x with
    | Assign ts v p =>
      rcases ts with _ | ⟨y, _ | ⟨y2, r⟩⟩ <;> first | (simp [ckS] at h; done) | skip
      cases y with
      | Subscript y z ps =>
        cases y with
        | Name w q =>
          simp only [ckS, Bool.and_eq_true, decide_eq_true_eq, Bool.not_eq_true'] at h
          obtain ⟨⟨⟨⟨⟨⟨⟨hq, h1⟩, h2⟩, h3⟩, h4⟩, h5⟩, h6⟩, h7⟩ := h
          exact s_asgIx (G.goodS hq).toGood h1 h2 h3 ((snd a).E X sc z W G.toGoodM tk K h4) ((snd e).E X sc v W G.toGoodM tk K h5) h6 h7
        | _ => simp [ckS] at h
      | _ => simp [ckS] at h
    | _ => simp [ckS] at h) (by intros; rfl)
  | .app i e => snS (fun X sc x W G tk K L h => by
    cases x with
    | Expr x p =>
      cases x with
      | Call f xs ks pc =>
        cases f with
        | Attribute o m pa =>
          cases o with
          | Name w q =>
            rcases ks with _ | ⟨k1, k2⟩ <;> rcases xs with _ | ⟨y, _ | ⟨z, r⟩⟩ <;> first | (cases (show false = true from h); done) | skip
            simp only [ckS, Bool.and_eq_true, decide_eq_true_eq, Bool.not_eq_true'] at h
            obtain ⟨⟨⟨⟨⟨⟨⟨hq, h0⟩, rfl⟩, h1⟩, h2⟩, h3⟩, h4⟩, h5⟩ := h
            exact s_app (G.goodS hq).toGood h0 h1 h2 h3 ((snd e).E X sc y W G.toGoodM tk K h4) h5
          | _ => exact absurd h (by simp [ckS])
        | _ => exact absurd h (by simp [ckS])
      | _ => exact absurd h (by simp [ckS])
    | _ => exact absurd h (by simp [ckS])) (by intros; rfl)
  | .pop i => snS (fun X sc x W G tk K L h => by
    cases x with
    | Expr x p =>
      cases x with
      | Call f xs ks pc =>
        cases f with
        | Attribute o m pa =>
          cases o with
          | Name w q =>
            rcases ks with _ | ⟨k1, k2⟩ <;> rcases xs with _ | ⟨y, r⟩ <;> first | (cases (show false = true from h); done) | skip
            simp only [ckS, Bool.and_eq_true, decide_eq_true_eq, Bool.not_eq_true'] at h
            obtain ⟨⟨⟨⟨⟨hq, h0⟩, rfl⟩, h1⟩, h2⟩, h3⟩ := h
            exact s_pop (G.goodS hq).toGood h0 h1 h2 h3
          | _ => exact absurd h (by simp [ckS])
        | _ => exact absurd h (by simp [ckS])
      | _ => exact absurd h (by simp [ckS])
    | _ => exact absurd h (by simp [ckS])) (by intros; rfl)
  | .expr e => snS (fun X sc x W G tk K L h => by
    cases x with
    | Expr x p =>
      simp only [ckS, Bool.and_eq_true, Bool.not_eq_true'] at h
      exact s_expr ((snd e).E X sc x W G.toGoodM tk K h.1) h.2
    | _ => simp [ckS] at h) (by intros; rfl)
  | .ife c a b => snS (fun X sc x W G tk K L h => by
    cases x with
    | If z xs ys p =>
      simp only [ckS, Bool.and_eq_true] at h
      exact s_ife ((snd c).Tt X sc z W G.toGoodM tk K h.1.1) ((sns a).B X sc xs W G tk K L h.1.2) ((sns b).B X sc ys W G tk K L h.2)
    | _ => simp [ckS] at h) (by intros; rfl)
  | .for_ t it body => snS (fun X sc x W G tk K L h => by
    cases x with
    | For y x xs el p =>
      cases el with
      | nil =>
        simp only [ckS, Bool.and_eq_true, Bool.not_eq_true'] at h
        obtain ⟨⟨⟨⟨⟨hq, h1⟩, h2⟩, h3⟩, h4⟩, h5⟩ := h
        exact s_for (G.goodS hq) ((snd it).I X sc x y W G.toGoodM tk K h1 h3) (g_of (G.goodS hq).toGood h2) ((sns body).B X sc xs W G tk K L h5) h4
      | cons _ _ => simp [ckS] at h
    | _ => simp [ckS] at h) (by intros; rfl)
  | .while_ c body => snS (fun X sc x W G tk K L h => by
    cases x with
    | While z xs el p =>
      cases el with
      | nil =>
        simp only [ckS, Bool.and_eq_true, Bool.not_eq_true'] at h
        obtain ⟨⟨hq, h1⟩, h2⟩ := h
        exact s_while (G.goodS hq) ((snd c).Tt X sc z W G.toGoodM tk K h1) ((sns body).B X sc xs W G tk K L h2)
      | cons _ _ => simp [ckS] at h
    | _ => simp [ckS] at h) (by intros; rfl)
  | .frz is s => snS (fun X sc x W G tk K L h => by simp only [ckS] at h; exact s_frz ((sns s).S X sc x W G tk K L h)) (by intros; rfl)
  | .bad => snS (fun X sc x W G tk K L h => s_bad) (by intros; rfl)
  | .retA i j => snS (fun X sc x W G tk K L h => by
    cases x with
    | Return v p =>
      rcases v with _ | v
      · exact absurd h (by simp [ckS])
      cases v with
      | Call f xs ks p3 =>
        cases f with
        | Name f q =>
          rcases xs with _ | ⟨y, _ | ⟨y2, r⟩⟩
          · exact absurd h (by simp [ckS])
          rotate_left
          · exact absurd h (by simp [ckS])
          cases y with
          | Name x q2 =>
            rcases ks with _ | ⟨⟨k0, e1, kp⟩, _ | ⟨y2, r⟩⟩
            · exact absurd h (by simp [ckS])
            rotate_left
            · exact absurd h (by simp [ckS])
            rcases k0 with _ | k0
            · exact absurd h (by simp [ckS])
            cases e1 with
            | Lambda ps b sc2 lp =>
              cases b with
              | BinOp b1 o1 b2 p9 =>
                cases b1 with
                | Subscript b3 b4 p4 =>
                  cases b3 with
                  | Name a p1 =>
                    cases b4 with
                    | Constant v1 k1 p2 =>
                      cases v1 with
                      | int u0 =>
                        cases b2 with
                        | BinOp b5 o2 b6 p8 =>
                          cases b5 with
                          | Name c p5 =>
                            cases b6 with
                            | Subscript b7 b8 p7 =>
                              cases b7 with
                              | Name a2 p6 =>
                                cases b8 with
                                | Constant v2 k2 p10 =>
                                  cases v2 with
                                  | int u1 =>
                                    simp only [ckS, Bool.and_eq_true, decide_eq_true_eq, Bool.not_eq_true'] at h
                                    obtain ⟨⟨⟨⟨⟨⟨⟨⟨⟨⟨⟨⟨⟨⟨⟨⟨⟨⟨⟨⟨rfl, rfl⟩, rfl⟩, rfl⟩, hq⟩, hfr⟩, hl⟩, rfl⟩, rfl⟩, h1⟩, h2⟩, h3⟩, h4⟩, h5⟩, rfl⟩, rfl⟩, rfl⟩, h6⟩, h7⟩, h8⟩, h9⟩ := h
                                    exact s_retA hfr (G.goodS hq) (L hl) K h1 h2 h3 h4 h5 h6 h7 h8 h9
                                  | _ => exact absurd h (by simp [ckS])
                                | _ => exact absurd h (by simp [ckS])
                              | _ => exact absurd h (by simp [ckS])
                            | _ => exact absurd h (by simp [ckS])
                          | _ => exact absurd h (by simp [ckS])
                        | _ => exact absurd h (by simp [ckS])
                      | _ => exact absurd h (by simp [ckS])
                    | _ => exact absurd h (by simp [ckS])
                  | _ => exact absurd h (by simp [ckS])
                | _ => exact absurd h (by simp [ckS])
              | _ => exact absurd h (by simp [ckS])
            | _ => exact absurd h (by simp [ckS])
          | _ => exact absurd h (by simp [ckS])
        | _ => exact absurd h (by simp [ckS])
      | _ => exact absurd h (by simp [ckS])
    | _ => exact absurd h (by simp [ckS])) (by intros; rfl)
  | .raise_ j => snS (fun X sc x W G tk K L h => by
    cases x with
    | Raise e c p =>
      rcases e with _ | e
      · exact absurd h (by simp [ckS])
      cases e with
      | Call f xs ks p3 =>
        cases f with
        | Name x q =>
          rcases xs with _ | ⟨y, _ | ⟨y2, r⟩⟩
          · exact absurd h (by simp [ckS])
          · cases y with
            | Constant v k p2 =>
              cases v with
              | str m =>
                rcases ks with _ | ⟨k1, k2⟩ <;> rcases c with _ | c <;> first | (cases (show false = true from h); done) | skip
                simp only [ckS, Bool.and_eq_true, decide_eq_true_eq, Bool.not_eq_true'] at h
                obtain ⟨⟨⟨hq, h1⟩, h2⟩, h3⟩ := h
                exact s_raise (G.goodS hq) tk K h1 h2 h3
              | _ => exact absurd h (by simp [ckS])
            | _ => exact absurd h (by simp [ckS])
          · exact absurd h (by simp [ckS])
        | _ => exact absurd h (by simp [ckS])
      | _ => exact absurd h (by simp [ckS])
    | _ => exact absurd h (by simp [ckS])) (by intros; rfl)
  | .tryAs i j body suite => snS (fun X sc x W G tk K L h => by
    cases x with
    | Try xs hs el fi p =>
      rcases hs with _ | ⟨⟨t, m, ss, ps⟩, hr⟩
      · exact absurd h (by simp [ckS])
      rcases t with _ | t
      · exact absurd h (by simp [ckS])
      cases t with
      | Name x np =>
        rcases hr with _ | ⟨h2, hr⟩ <;> rcases el with _ | ⟨e1, e2⟩ <;> rcases fi with _ | ⟨f1, f2⟩ <;> rcases m with _ | m <;> rcases ss with _ | ⟨b0, ss⟩ <;> first | (cases (show false = true from h); done) | skip
        simp only [ckS, Bool.and_eq_true, decide_eq_true_eq, Bool.not_eq_true'] at h
        obtain ⟨⟨⟨⟨⟨⟨⟨⟨hq, hfr⟩, h1⟩, h2⟩, h3⟩, h4⟩, h5⟩, h6⟩, h7⟩ := h
        exact s_tryAs hfr hq (G.goodS hq) tk K h1 h2 h3 h4 h5 (fun pn xe W' G' tk' K' => (sns body).B (X.tr pn xe) sc xs W' G' tk' K' (fun z => L z) h6) (fun X' W' G' tk' K' => (sns suite (T := Tb.hot _)).B X' sc _ W' G' tk' K' (fun z => Bool.noConfusion (show false = true from z)) h7)
      | _ => exact absurd h (by simp [ckS])
    | _ => exact absurd h (by simp [ckS])) (by intros; rfl)
  | .retO i => snS (fun X sc x W G tk K L h => by
    cases x with
    | Return v p => cases v with
      | none => cases (show false = true from h)
      | some x => cases x with
        | Name w q =>
          simp only [ckS, Bool.and_eq_true, decide_eq_true_eq] at h
          obtain ⟨⟨⟨⟨hfr, hq⟩, h1⟩, h2⟩, h3⟩ := h
          rw [Bool.not_eq_true'] at hq
          exact s_retO (G.goodS hq).toGood hfr h1 h2 h3
        | _ => cases (show false = true from h)
    | _ => cases (show false = true from h)) (by intros; rfl)
  | .setA i f e => snS (fun X sc x W G tk K L h => by
    cases x with
    | Assign ts v p =>
      rcases ts with _ | ⟨y, _ | ⟨y2, r⟩⟩ <;> first | (simp [ckS] at h; done) | skip
      cases y with
      | Attribute y w ps =>
        cases y with
        | Name y q =>
          simp only [ckS, Bool.and_eq_true, decide_eq_true_eq, Bool.not_eq_true'] at h
          obtain ⟨⟨⟨⟨⟨⟨hq, rfl⟩, h1⟩, h2⟩, h3⟩, h4⟩, h5⟩ := h
          exact s_setA (G.goodS hq).toGood K h1 h2 h3 ((snd e).E X sc v W G.toGoodM tk K h4) h5
        | _ => cases (show false = true from h)
      | _ => cases (show false = true from h)
    | _ => cases (show false = true from h)) (by intros; rfl)
  | .tryOnly j body suite => snS (fun X sc x W G tk K L h => by
    cases x with
    | Try xs hs el fi p =>
      rcases hs with _ | ⟨⟨t, m, ss, ps⟩, hr⟩
      · exact absurd h (by simp [ckS])
      rcases t with _ | t
      · exact absurd h (by simp [ckS])
      cases t with
      | Name x np =>
        rcases hr with _ | ⟨h2, hr⟩ <;> rcases el with _ | ⟨e1, e2⟩ <;> rcases fi with _ | ⟨f1, f2⟩ <;> rcases m with _ | m <;> rcases ss with _ | ⟨b0, ss⟩ <;> first | (cases (show false = true from h); done) | skip
        simp only [ckS, Bool.and_eq_true, decide_eq_true_eq, Bool.not_eq_true'] at h
        obtain ⟨⟨⟨⟨⟨⟨hq, hfr⟩, h3⟩, h4⟩, h5⟩, h6⟩, h7⟩ := h
        exact s_tryOnly hfr hq (G.goodS hq) tk K h3 h4 h5 (fun pn xe W' G' tk' K' => (sns body).B (X.tr pn xe) sc xs W' G' tk' K' (fun z => L z) h6) (fun X' W' G' tk' K' => (sns suite (T := Tb.hot _)).B X' sc _ W' G' tk' K' (fun z => Bool.noConfusion (show false = true from z)) h7)
      | _ => exact absurd h (by simp [ckS])
    | _ => exact absurd h (by simp [ckS])) (by intros; rfl)

/-! ### defs -/
/-- a def by its body: np parameters, nn names -/
noncomputable def runFn (np nn : Nat) (T : Tb) (B : Rf.S) : Fn := fun ds => if ds.length = np then (match ex T B (ds.map (fun d => some (.v d)) ++ List.replicate (nn - np) none) with
    | .nx _ => .ok .non
    | .rt d => .ok d
    | .err x _ => .err x
    | _ => .bad) else .bad
theorem start_sr {g : G} {N : List Str} {H Hf : Hp} {vs : List V} {ds : List D} (sub : Same Hf H) (tb : TbOk g H Hf) (r : Reps g Hf vs ds) : SR g H Hf (L2.start N vs) H Hf (ds.map (fun d => some (Sl.v d)) ++ List.replicate (N.length - ds.length) none) := by
  have hl := r.length
  have get : ∀ (i : Nat) (s : Sl), (ds.map (fun d => some (Sl.v d)) ++ List.replicate (N.length - ds.length) none)[i]? = some (some s) → ∃ d, s = .v d ∧ ds[i]? = some d := fun i s h => by
    by_cases hi : i < ds.length
    · rw [List.getElem?_append_left (by simpa using hi), List.getElem?_map] at h
      rw [List.getElem?_eq_getElem hi] at h ⊢
      cases h
      exact ⟨_, rfl, rfl⟩
    · rw [List.getElem?_append_right (by simp; omega), List.getElem?_replicate] at h
      split at h <;> cases h
  refine ⟨Fut.refl sub, by simp [L2.start, hl], fun i s h => ?_, fun i j xs ys _ h1 _ o1 _ => ?_, tb⟩
  · obtain ⟨d, rfl, hd⟩ := get i s h
    obtain ⟨v, hv, rv⟩ := r.get hd
    refine ⟨v, ?_, .v rv⟩
    unfold L2.start
    have hi : i < vs.length := (List.getElem?_eq_some_iff.mp hv).1
    rw [List.getElem?_append_left (by simpa using hi), List.getElem?_map, hv]; rfl
  · obtain ⟨d, e, _⟩ := get i _ h1
    subst e; cases o1
theorem fn_ok {g : G} {n : Nat} {f : Addr} {name qual : Str} {params : Arguments} {body : List Stmt} {scope : Scope} {dV kV doc pm cdv ct oc : Value} {an od : Option Addr} {osl : Array (Option Value)} {N ps : List Str} {T : Tb} {B : Rf.S}
    (lk : g.K.lookup f = some ⟨oc, od, .func (PySem.W.fnOf name qual params body scope dV kV doc pm an cdv ct), osl⟩) (hcd : PySem.W.codeIn g.K cdv qual = true) (S : FnScope N ps scope)
    (hn : g.hx = none) (hfr : T.fr = false) (hq : T.hm = false) (K : Know g n T) (hck : ckSs N T B scope body = true) (hlam : T.lam = true → ∃ c P, cdv = .ref c ∧ qual ++ ".<locals>." ++ "<lambda>" = lamName ∧ g.tbc c P := by intro z; exact Bool.noConfusion (show false = true from z)) :
    FnOk g.P g.w g.K g.mg g.base (L2.CX g.P g.w) (n + 1) f (PySem.W.fnOf name qual params body scope dV kV doc pm an cdv ct) ps (spD g (runFn ps.length N.length T B)) := by
  obtain ⟨P0, w0, K0, mg0, base0, hx0⟩ := g
  obtain rfl : hx0 = none := hn
  let g : G := ⟨P0, w0, K0, mg0, base0, none⟩
  have hlen : ∀ vs H Q E, spD g (runFn ps.length N.length T B) vs H Q E → vs.length = ps.length := fun vs H Q E ⟨Hf, ds, sub, tb, r, h⟩ => by
    unfold runFn at h
    by_cases hd : ds.length = ps.length
    · rw [r.length, hd]
    · rw [if_neg hd] at h; exact h.elim
  refine fn_of lk hcd S hlen fun A outer s H vs Q E hr h => ?_
  obtain ⟨Hf, ds, sub, tb, r, h⟩ := h
  unfold runFn at h
  by_cases hd : ds.length = ps.length
  · rw [if_pos hd] at h
    let X := cxOf (L2.CX g.P g.w) g.P g.w g.K g.mg g.base N qual scope f cdv A outer s H E
    have hX : gOf X = g := rfl
    have G : GoodS N scope n X := {
      eN := rfl, vis := fun x hx => vis_of hx, gl := fun x hx => by
        unfold glB at hx; split at hx
        · assumption
        · cases hx
      loc := fun x hx => ⟨loc_of hx, .inl rfl⟩, cf := fun x hx => hx, calm := rfl, room := hr, nd := S.nd, un := Nat.lt_of_le_of_lt (Nat.add_le_add_right (Nat.le_add_right _ _) _) hr.un, eS := rfl, kind := S.kind, po := passes_of rfl, stk := rfl, fr := rfl }
    refine ⟨tDS g T (fun cls d _ H' => E cls d H') B, (sns B).B X scope body _ ⟨gmq hq G.toGood, G.eS, G.kind, G.po, G.stk, G.fr⟩ (takes_of rfl rfl rfl rfl) K (fun z => hlam z) hck, ?_⟩
    have sr := start_sr (g := g) (N := N) sub tb r
    rw [hd] at sr
    refine ⟨H, Hf, Hf, _, sr, ?_⟩
    rw [hfr]
    generalize ex T B (ds.map (fun d => some (Sl.v d)) ++ List.replicate (N.length - ps.length) none) = o at h ⊢
    cases o with
    | nx env => exact fun σ' H' Hf' r' _ => h .non H' Hf' r'.fut .non
    | rt d => exact fun v H' Hf' f r' => h v H' Hf' f r'
    | err x env => exact fun σ' H' Hf' cls dx r' _ xr => h cls dx H' Hf' r'.fut xr
    | bk env => exact h.elim
    | ct env => exact h.elim
    | bad => exact h.elim
  · rw [if_neg hd] at h; exact h.elim
/-- a def that gives a list of its own -/
def spF (g : G) (F : Fn) : Sp := fun vs H Q Ex => ∃ Hf ds, Same Hf H ∧ TbOk g H Hf ∧ Reps g Hf vs ds ∧ RG g (fun cls d _ H' => Ex cls d H') [] (FP g Q) (F ds) H Hf
theorem fn_okF {g : G} {n : Nat} {f : Addr} {name qual : Str} {params : Arguments} {body : List Stmt} {scope : Scope} {dV kV doc pm cdv ct oc : Value} {an od : Option Addr} {osl : Array (Option Value)} {N ps : List Str} {T : Tb} {B : Rf.S}
    (lk : g.K.lookup f = some ⟨oc, od, .func (PySem.W.fnOf name qual params body scope dV kV doc pm an cdv ct), osl⟩) (hcd : PySem.W.codeIn g.K cdv qual = true) (S : FnScope N ps scope)
    (hn : g.hx = none) (hfr : T.fr = true) (hq : T.hm = false) (hlam : T.lam = false) (K : Know g n T) (hck : ckSs N T B scope body = true) :
    FnOk g.P g.w g.K g.mg g.base (L2.CX g.P g.w) (n + 1) f (PySem.W.fnOf name qual params body scope dV kV doc pm an cdv ct) ps (spF g (runFn ps.length N.length T B)) := by
  obtain ⟨P0, w0, K0, mg0, base0, hx0⟩ := g
  obtain rfl : hx0 = none := hn
  let g : G := ⟨P0, w0, K0, mg0, base0, none⟩
  have fit : ∀ {vs : List V} {ds : List D} {Hf : Hp}, Reps g Hf vs ds → runFn ps.length N.length T B ds ≠ .bad → ds.length = ps.length := fun {vs ds Hf} r nb => by
    unfold runFn at nb
    by_cases hd : ds.length = ps.length
    · exact hd
    · rw [if_neg hd] at nb; exact absurd rfl nb
  have nbad : ∀ {vs H Q E}, spF g (runFn ps.length N.length T B) vs H Q E → ∃ (Hf : Hp) (ds : List D), Same Hf H ∧ TbOk g H Hf ∧ Reps g Hf vs ds ∧ ds.length = ps.length ∧ RG g (fun cls d _ H' => E cls d H') [] (FP g Q) (runFn ps.length N.length T B ds) H Hf := fun {vs H Q E} h => by
    obtain ⟨Hf, ds, sub, tb, r, h⟩ := h
    exact ⟨Hf, ds, sub, tb, r, fit r fun z => (by rw [z] at h; exact h.elim), h⟩
  refine fn_of lk hcd S (fun vs H Q E h => by obtain ⟨Hf, ds, _, _, r, hd, _⟩ := nbad h; rw [r.length, hd]) fun A outer s H vs Q E hr h => ?_
  obtain ⟨Hf, ds, sub, tb, r, hd, h⟩ := nbad h
  unfold runFn at h
  rw [if_pos hd] at h
  let X := cxOf (L2.CX g.P g.w) g.P g.w g.K g.mg g.base N qual scope f cdv A outer s H E
  have G : GoodS N scope n X := {
    eN := rfl, vis := fun x hx => vis_of hx, gl := fun x hx => by
      unfold glB at hx; split at hx
      · assumption
      · cases hx
    loc := fun x hx => ⟨loc_of hx, .inl rfl⟩, cf := fun x hx => hx, calm := rfl, room := hr, nd := S.nd, un := Nat.lt_of_le_of_lt (Nat.add_le_add_right (Nat.le_add_right _ _) _) hr.un, eS := rfl, kind := S.kind, po := passes_of rfl, stk := rfl, fr := rfl }
  refine ⟨tDS g T (fun cls d _ H' => E cls d H') B, (sns B).B X scope body _ ⟨gmq hq G.toGood, G.eS, G.kind, G.po, G.stk, G.fr⟩ (takes_of rfl rfl rfl rfl) K (fun z => by rw [hlam] at z; cases z) hck, ?_⟩
  have sr := start_sr (g := g) (N := N) sub tb r
  rw [hd] at sr
  refine ⟨H, Hf, Hf, _, sr, ?_⟩
  rw [hfr]
  generalize ex T B (ds.map (fun d => some (Sl.v d)) ++ List.replicate (N.length - ps.length) none) = o at h ⊢
  cases o with
  | rt d => exact h
  | err x env => exact fun σ' H' Hf' cls dx r' _ xr => h cls dx H' Hf' r'.fut xr
  | nx env => exact h.elim
  | bk env => exact h.elim
  | ct env => exact h.elim
  | bad => exact h.elim
theorem prmF_of {g : G} {n : Nat} {x : Str} {f : Addr} {fd : FuncData} {ps : List Str} {F : Fn} (hf : FnOk g.P g.w g.K g.mg g.base (L2.CX g.P g.w) n f fd ps (spF g F)) (hm : g.mg x = some (.ref f)) (hk : PySem.W.keepIn g.K (.ref f) = true) (hb : Binds g.K fd ps []) : PrmF g n x F := by
  refine ⟨f, hm, hk, fun X hX room W tk pins s σ H Hf Q us vs ds I rv sub tb rr h => ?_⟩
  subst hX
  have want : spF (gOf X) F vs H Q (fun cls d H' => W cls d σ H') := ⟨Hf, ds, sub, tb, rr, by
    cases hF : F ds with
    | ok d => rw [hF] at h; exact h
    | err x => rw [hF] at h; exact h
    | bad => rw [hF] at h; exact h⟩
  have fits : (us ++ []).length = ps.length := by rw [List.append_nil, ← rv.length]; exact hf.len _ _ _ _ want
  have bound := hb s us I.kIn fits
  rw [List.append_nil] at bound
  refine wpAny_call (codeAny_mono (hf.run X.A X.stack s H ⟨us, []⟩ us vs Q _ room I.env0 bound rv want) fun r s' back => ?_)
  cases r with
  | error e => exact passAt tk σ pins H s e s' I back
  | ok fl =>
    cases fl with
    | ret u => exact I.after back
    | next => exact False.elim back
    | brk => exact False.elim back
    | cont => exact False.elim back
theorem PrmF.mono {g : G} {n m : Nat} {x : Str} {F : Fn} (h : PrmF g n x F) (hl : n ≤ m) : PrmF g m x F := by
  obtain ⟨f, h1, h2, h3⟩ := h.ex
  exact ⟨f, h1, h2, fun X hX room => h3 X hX (room.mono hl)⟩
/-- a def's promise, called by its name with all arguments but the defaults at the end -/
theorem prm_of {g : G} {n : Nat} {x : Str} {f : Addr} {fd : FuncData} {ps : List Str} {F : Fn} {dvs : List V} {dds : List D} {dus : List Value} (hf : FnOk g.P g.w g.K g.mg g.base (L2.CX g.P g.w) n f fd ps (spD g F)) (hm : g.mg x = some (.ref f)) (hk : PySem.W.keepIn g.K (.ref f) = true) (hb : Binds g.K fd ps dus)
    (hd : Vals dvs dus) (hr : ∀ H, Reps g H dvs dds) : Prm g n x (fun ds => F (ds ++ dds)) := by
  refine ⟨f, hm, hk, fun X hX room W tk pins s σ H Hf Q us vs ds I rv sub tb rr h => ?_⟩
  subst hX
  have h' : spD (gOf X) F (vs ++ dvs) H Q (fun cls d H' => W cls d σ H') := ⟨Hf, ds ++ dds, sub, tb, rr.append (hr Hf), by
    cases hF : F (ds ++ dds) with
    | ok d => rw [hF] at h; exact h
    | err x => rw [hF] at h; exact h
    | bad => rw [hF] at h; exact h⟩
  have r2 : Vals (vs ++ dvs) (us ++ dus) := rv.append hd
  have hl : (us ++ dus).length = ps.length := by rw [← r2.length]; exact hf.len _ _ _ _ h'
  refine wpAny_call (codeAny_mono (hf.run X.A X.stack s H ⟨us, []⟩ (us ++ dus) (vs ++ dvs) Q _ room I.env0 (hb s us I.kIn hl) r2 h') fun r s' hq => ?_)
  cases r with
  | error e => exact passAt tk σ pins H s e s' I hq
  | ok fl =>
    cases fl with
    | ret u => exact I.after hq
    | next => exact False.elim hq
    | brk => exact False.elim hq
    | cont => exact False.elim hq
theorem Prm.mono {g : G} {n m : Nat} {x : Str} {F : Fn} (h : Prm g n x F) (hl : n ≤ m) : Prm g m x F := by
  obtain ⟨f, h1, h2, h3⟩ := h.ex
  exact ⟨f, h1, h2, fun X hX room => h3 X hX (room.mono hl)⟩
end
end Rf
/-! # Rf14: defs of the module, by what the head gives -/
namespace Rf
open PySem PySem.Spec L2
def scB (N P : List Str) (sc : Scope) : Bool :=
  (match sc.kind with | .function => true | _ => false) && !sc.isCoroutine && !sc.isGenerator && decide N.Nodup && decide (N.take P.length = P) && P.all (fun x => locB sc x) && sc.names.all (fun y => match y.2 with | .free => false | _ => true)
theorem fnScope_by' {N P : List Str} {sc : Scope} (h : scB N P sc = true) : FnScope N P sc := by
  unfold scB at h
  simp only [Bool.and_eq_true, Bool.not_eq_true', decide_eq_true_eq, List.all_eq_true] at h
  obtain ⟨⟨⟨⟨⟨⟨h1, h2⟩, h3⟩, h4⟩, h5⟩, h6⟩, h7⟩ := h
  refine ⟨?_, h2, h3, h4, h5, fun x hx => loc_of (h6 x hx), fun y hy e => ?_⟩
  · split at h1
    · assumption
    · cases h1
  · have z := h7 y hy
    rw [e] at z
    cases z
/-- a def of the module stands under its name -/
def DefAt (g : G) (x : Str) (st : Stmt) : Prop := g.hx = none ∧ ∃ (f : Addr) (oc : Value) (od : Option Addr) (kV doc pm : Value) (an : Option Addr) (cdv ct : Value) (osl : Array (Option Value)),
  g.mg x = some (.ref f) ∧ g.K.lookup f = some ⟨oc, od, .func (PySem.W.fnOf x x (defArgs st) (defBody st) (defScope st) .none kV doc pm an cdv ct), osl⟩ ∧ PySem.W.codeIn g.K cdv x = true ∧ PySem.W.keepIn g.K (.ref f) = true
def DefFd (g : G) (x : Str) (st : Stmt) (fd : FuncData) : Prop := ∃ (kV doc pm : Value) (an : Option Addr) (cdv ct : Value), fd = PySem.W.fnOf x x (defArgs st) (defBody st) (defScope st) .none kV doc pm an cdv ct
theorem def_ok {g : G} {n : Nat} {x : Str} {st : Stmt} {N ps : List Str} {T : Tb} {B : Rf.S} (h : DefAt g x st) (S : FnScope N ps (defScope st)) (K : Know g n T) (hck : ckSs N T B (defScope st) (defBody st) = true) (hfr : T.fr = false := by rfl) (hq : T.hm = false := by rfl) (hl : T.lam = false := by rfl) :
    ∃ f fd, FnOk g.P g.w g.K g.mg g.base (L2.CX g.P g.w) (n + 1) f fd ps (spD g (runFn ps.length N.length T B)) ∧ g.mg x = some (.ref f) ∧ PySem.W.keepIn g.K (.ref f) = true ∧ DefFd g x st fd := by
  obtain ⟨hn, f, oc, od, kV, doc, pm, an, cdv, ct, osl, h1, h2, h3, h4⟩ := h
  exact ⟨f, _, fn_ok h2 h3 S hn hfr hq K hck (fun z => by rw [hl] at z; cases z), h1, h4, _, _, _, _, _, _, rfl⟩
theorem def_okF {g : G} {n : Nat} {x : Str} {st : Stmt} {N ps : List Str} {T : Tb} {B : Rf.S} (h : DefAt g x st) (S : FnScope N ps (defScope st)) (K : Know g n T) (hck : ckSs N T B (defScope st) (defBody st) = true)
    (hb : ∀ (kV doc pm : Value) (an : Option Addr) (cdv ct : Value) (us : List Value), us.length = ps.length → bindArgs (PySem.W.fnOf x x (defArgs st) (defBody st) (defScope st) .none kV doc pm an cdv ct) ⟨us, []⟩ = pure (ps.zip us))
    (hfr : T.fr = true := by rfl) (hq : T.hm = false := by rfl) (hl : T.lam = false := by rfl) : PrmF g (n + 1) x (runFn ps.length N.length T B) := by
  obtain ⟨hn, f, oc, od, kV, doc, pm, an, cdv, ct, osl, h1, h2, h3, h4⟩ := h
  exact prmF_of (fn_okF h2 h3 S hn hfr hq hl K hck) h1 h4 (Binds.all (hb kV doc pm an cdv ct))
/-- ascending's code and its table are known -/
def TabAt (g : G) : Prop := ∃ c P, g.tbc c P
theorem def_okL {g : G} {n : Nat} {st : Stmt} {N ps : List Str} {T : Tb} {B : Rf.S} (h : DefAt g "ascending" st) (tab : TabAt g) (S : FnScope N ps (defScope st)) (K : Know g n T) (hck : ckSs N T B (defScope st) (defBody st) = true) (hfr : T.fr = false := by rfl) (hq : T.hm = false := by rfl) :
    ∃ f fd, FnOk g.P g.w g.K g.mg g.base (L2.CX g.P g.w) (n + 1) f fd ps (spD g (runFn ps.length N.length T B)) ∧ g.mg "ascending" = some (.ref f) ∧ PySem.W.keepIn g.K (.ref f) = true ∧ DefFd g "ascending" st fd := by
  obtain ⟨hn, f, oc, od, kV, doc, pm, an, cdv, ct, osl, h1, h2, h3, h4⟩ := h
  refine ⟨f, _, fn_ok h2 h3 S hn hfr hq K hck (fun _ => ?_), h1, h4, _, _, _, _, _, _, rfl⟩
  obtain ⟨c, P, f', o, fd, e1, e2, e3, e4, e5⟩ := id tab
  rw [h1] at e1; cases e1
  rw [h2] at e2; cases e2
  cases e3
  exact ⟨c, P, e4, by decide, _, _, _, h1, h2, rfl, e4, e5⟩
theorem def_prm {g : G} {n : Nat} {x : Str} {st : Stmt} {ps : List Str} {F : Fn} (h : ∃ f fd, FnOk g.P g.w g.K g.mg g.base (L2.CX g.P g.w) n f fd ps (spD g F) ∧ g.mg x = some (.ref f) ∧ PySem.W.keepIn g.K (.ref f) = true ∧ DefFd g x st fd)
    (hb : ∀ (kV doc pm : Value) (an : Option Addr) (cdv ct : Value) (us : List Value), us.length = ps.length → bindArgs (PySem.W.fnOf x x (defArgs st) (defBody st) (defScope st) .none kV doc pm an cdv ct) ⟨us, []⟩ = pure (ps.zip us)) : Prm g n x F := by
  obtain ⟨f, fd, h1, h2, h3, kV, doc, pm, an, cdv, ct, rfl⟩ := h
  have := prm_of (dvs := []) (dds := []) h1 h2 h3 (Binds.all (hb kV doc pm an cdv ct)) .nil (fun _ => .nil)
  simpa using this
end Rf
namespace Rf
open PySem PySem.Spec L2
/-- a list that is to be read, where the object at its place is known -/
theorem ls_of_sq {K : PySem.W.Frag} {h : Heap} {H : Hp} {a : Addr} {xs : List V} {us : Array Value} (kin : K.In h) (ho : h.get? a = some { cls := .type "list", data := .seq us }) (q : SqL K H a xs) : LsK K H a xs := by
  cases q with
  | inl r => exact Or.inl r
  | inr r =>
    obtain ⟨o, its, n, look, c1, c2, c3, le, vals⟩ := r
    have same : o = { cls := .type "list", data := .seq us } := Option.some.inj ((kin a o look).symm.trans ho)
    rw [same] at look c3
    cases c3
    exact Or.inr ⟨us.toList, _, by simpa using look, by simpa using le, vals⟩
/-- the law's def, whose function gives True of every script -/
structure LawOk (P : Program) (w : World) (K : PySem.W.Frag) (mg : Str → Option Value) (k : Nat) (fa : Addr) (fd : FuncData) (x : Str) (F : Fn) : Prop where
  binds : ∀ (s : Shared) (u : Value), BindsTo s fd ⟨[u], []⟩ [(x, u)]
  fn : ∀ base : Heap, TabAt ⟨P, w, K, mg, base, none⟩ → FnOk P w K mg base (L2.CX P w) k fa fd [x] (spD ⟨P, w, K, mg, base, none⟩ F)
theorem tb_one {g : G} {h : Heap} {c P : Addr} (kb : g.K.In g.base) (kh : g.K.In h) (ns : h.Ns mainGlobals g.mg) (ht : PySem.W.tabIn g.K "ascending" = some (c, P)) {P' : Addr} (t : g.tb P') : P' = P := by
  obtain ⟨c', f, o, fd, hm, hl, hd, hc, TB⟩ := t
  unfold PySem.W.tabIn at ht
  split at ht
  · rename_i f2 hf
    have e1 := PySem.W.mg_of kh ns hf
    rw [e1] at hm; cases hm
    rw [hl] at ht
    split at ht
    · rename_i hfo
      cases hfo
      cases hd
      split at ht
      · rename_i c2 hc2
        rw [hc] at hc2; cases hc2
        split at ht
        · rename_i hco
          have e3 := kb _ _ hco
          obtain ⟨o2, vs2, file, tf, flags, tg, inF, text, tt, g1, g2, g3, g4, _⟩ := TB.code
          rw [e3] at g1; cases g1
          cases g3
          split at ht
          · rename_i P2 hv
            rw [g4] at hv; cases hv
            cases ht
            rfl
          · cases ht
        · cases ht
      · cases ht
    · cases ht
  · cases ht
theorem tbc_of {P : Program} {w : World} {K : PySem.W.Frag} {mg : Str → Option Value} {base h : Heap} {c Pt : Addr} (kh : K.In h) (ns : h.Ns mainGlobals mg) (ht : PySem.W.tabIn K "ascending" = some (c, Pt)) (TB : LamX.TabB base mg c Pt) : (⟨P, w, K, mg, base, none⟩ : G).tbc c Pt := by
  unfold PySem.W.tabIn at ht
  split at ht
  · rename_i f2 hf
    have e1 := PySem.W.mg_of kh ns hf
    split at ht
    · rename_i hfo
      split at ht
      · rename_i c2 hc2
        split at ht
        · split at ht
          · cases ht
            exact ⟨f2, _, _, e1, hfo, rfl, hc2, TB⟩
          · cases ht
        · cases ht
      · cases ht
    · cases ht
  · cases ht
/-- the heap without its tables -/
def noTbl (H : Hp) : Hp := fun b => match H b with
  | some (.tbl _) => none
  | o => o
theorem noTbl_same (H : Hp) : Same (noTbl H) H := fun b u e => by
  unfold noTbl at e
  split at e
  · cases e
  · exact e
theorem noTbl_lst {K : PySem.W.Frag} {H : Hp} {a : Addr} {xs : List V} (h : LsK K H a xs) : LsK K (noTbl H) a xs := by
  rcases h with (h | ⟨u, h⟩) | h
  · exact .inl (.inl (by unfold noTbl; rw [h]))
  · exact .inl (.inr ⟨u, by unfold noTbl; rw [h]⟩)
  · exact .inr h
theorem law_walk {l : PySem.W.OpenLaw} {q : Program} {loose : List Str} {XP : (Str → Option Value) → Heap → Prop} {YP : World → Heap → Prop} {d : DefRec} {Kp : Params → PySem.W.Frag} {x : Str} {k : Nat} {F : Fn}
    (most : l.most = some 63) (nodf : d.params.defaults = []) (room : Room k callerA) (kin : ∀ (w : World) (h : Heap), YP w h → (Kp w.params).In h)
    (rec_ : ((PyProof.Rows.recsOf q).find? fun e => e.name == ("ascending" : Str)).isSome = true)
    (tab : ∀ (w : World), ∃ c P, PySem.W.tabIn (Kp w.params) "ascending" = some (c, P) ∧ (Kp w.params).lookup P = none)
    (ok : ∀ (w : World) (mg : Str → Option Value) (fa : Addr) (h : Heap), (Kp w.params).In h → h.Ns mainGlobals mg → mg d.name = some (.ref fa) → ∃ fd, LawOk l.prog w (Kp w.params) mg k fa fd x F)
    (holds : ∀ ns : List Int, ns.length ≤ 63 → F [.lst (ns.map D.int)] = .ok (.bl true)) : PySem.W.WalkO q loose XP YP l.row.toRowW d [] (fun f vs => PySem.call f vs) := by
  apply Att.attach_callB most nodf
  intro w s₀ s₁ mg mb fa o pm cd doc a vs ns ground yp _ _ _ atLaw atScript hInts le63 _ nogen
  have kheap := kin w s₁.heap yp
  obtain ⟨fd, law⟩ := ok w mg fa s₁.heap kheap ground.T.g atLaw
  obtain ⟨c, P, ht, hnP⟩ := tab w
  obtain ⟨dA, hdA⟩ := Option.isSome_iff_exists.mp rec_
  obtain ⟨hC, hP⟩ := PySem.W.tab_of ground.T kheap hdA ht
  let want : Sp := fun us H Q _ => us = [V.ref a] ∧ LsK (Kp w.params) H a (ns.map V.int) ∧ H P = some (.tbl #[]) ∧ ∀ H', Q (.bl true) H'
  have promise : ∀ base : Heap, (Kp w.params).In base → base.Ns mainGlobals mg → (∀ p ∈ [(c, P)], LamX.TabB base mg p.1 p.2) → FnOk l.prog w (Kp w.params) mg base (L2.CX l.prog w) k fa fd [x] want := fun base kb nb tbs => (law.fn base ⟨c, P, tbc_of kheap ground.T.g ht (tbs (c, P) (List.mem_singleton.mpr rfl))⟩).imp fun us H Q _ hw => by
    obtain ⟨e, ls, tb, fin⟩ := hw
    subst e
    refine ⟨noTbl H, [.lst (ns.map D.int)], noTbl_same H, fun P' t => ?_, .cons (.lst (noTbl_lst ls) (reps_ints ns)) .nil, ?_⟩
    · obtain rfl := tb_one (g := ⟨l.prog, w, Kp w.params, mg, base, none⟩) kb kheap ground.T.g ht t
      exact ⟨.nil tb, by unfold noTbl; rw [tb]⟩
    · rw [holds ns le63]
      intro v H' Hf' _ r
      cases r
      exact fin H'
  exact LamX.law_callTs (cs := [(c, P)]) (sp := want) kheap ground.T.g ground.T.b ground.T.builtins ground.T.nolimit nogen (fun p hp => by rw [List.mem_singleton.mp hp]; exact hP) (fun p hp => by rw [List.mem_singleton.mp hp]; exact hnP) (fun p hp => by rw [List.mem_singleton.mp hp]; exact hC) ground.T.bmain
    atScript hInts (by rw [sizeLine_val]; omega) room promise law.binds
    (fun H hH sq => ⟨rfl, ls_of_sq kheap atScript sq, hH (c, P) (List.mem_singleton.mpr rfl), fun _ => rfl⟩) (fun H e s' c => by obtain ⟨_, _, _, _, _, _, _, _, _, _, _, _, z⟩ := c; exact z)
/-- from the table of a def to the law -/
theorem law_of {P : Program} {w : World} {K : PySem.W.Frag} {mg : Str → Option Value} {x y : Str} {st : Stmt} {N : List Str} {T : Tb} {B : Rf.S} {n : Nat} {fa : Addr} (hfa : mg y = some (.ref fa)) (h : ∀ base, DefAt ⟨P, w, K, mg, base, none⟩ y st) (S : FnScope N [x] (defScope st)) (Kn : ∀ base, TabAt ⟨P, w, K, mg, base, none⟩ → Know ⟨P, w, K, mg, base, none⟩ n T) (hck : ckSs N T B (defScope st) (defBody st) = true) (hfr : T.fr = false := by rfl) (hq : T.hm = false := by rfl) (hl : T.lam = false := by rfl)
    (hb : ∀ (kV doc pm : Value) (an : Option Addr) (cdv ct : Value) (us : List Value), us.length = 1 → bindArgs (PySem.W.fnOf y y (defArgs st) (defBody st) (defScope st) .none kV doc pm an cdv ct) ⟨us, []⟩ = pure ([x].zip us)) : ∃ fd, LawOk P w K mg (n + 1) fa fd x (runFn 1 N.length T B) := by
  obtain ⟨_, f, oc, od, kV, doc, pm, an, cdv, ct, osl, h1, h2, h3, h4⟩ := h default
  have e : f = fa := by
    have z : some (Value.ref f) = some (Value.ref fa) := h1.symm.trans hfa
    cases z; rfl
  subst e
  exact ⟨_, ⟨fun s u => .of_eq (hb kV doc pm an cdv ct [u] rfl), fun base tab => fn_ok (g := ⟨P, w, K, mg, base, none⟩) (ps := [x]) h2 h3 S rfl hfr hq (Kn base tab) hck (fun z => by rw [hl] at z; cases z)⟩⟩
end Rf
namespace Rf
open PySem PySem.Spec L2
/-- what the head's word finds of a def -/
theorem defAt {P : Program} {w : World} {K : PySem.W.Frag} {h : Heap} {mg : Str → Option Value} {x : Str} {st : Stmt} {f : Addr} {oc kV doc pm cdv ct : Value} {od an : Option Addr} {osl : Array (Option Value)} (X : K.In h) (G : h.Ns mainGlobals mg)
    (a : PySem.W.nsIn K mainGlobals x = some (some (.ref f))) (l : K.lookup f = some ⟨oc, od, .func (PySem.W.fnOf x x (defArgs st) (defBody st) (defScope st) .none kV doc pm an cdv ct), osl⟩) (c : PySem.W.codeIn K cdv x = true) (k : PySem.W.keepIn K (.ref f) = true) :
    ∀ base, DefAt ⟨P, w, K, mg, base, none⟩ x st := fun base => ⟨rfl, f, oc, od, kV, doc, pm, an, cdv, ct, osl, PySem.W.mg_of X G a, l, c, k⟩
/-- a module's constant: a tuple, a list of written things -/
def flatOf : Value → Option D
  | .none => some .non
  | .bool b => some (.bl b)
  | .int i _ => some (.int i)
  | .str s _ => some (.str s)
  | _ => none
theorem rep_flat {g : G} {H : Hp} {u : Value} {d : D} (h : flatOf u = some d) : ∃ v, RelV v u ∧ Rep g H v d := by
  cases u with
  | none => cases h; exact ⟨.non, rfl, .non⟩
  | bool b => cases h; exact ⟨.bl b, rfl, .bl b⟩
  | int i t => cases h; exact ⟨.int i, ⟨t, rfl⟩, .int i⟩
  | str s t => cases h; exact ⟨.str s, ⟨t, rfl⟩, .str s⟩
  | _ => cases h
def flatAll : List Value → Option (List D)
  | [] => some []
  | u :: us => match flatOf u, flatAll us with
    | some d, some ds => some (d :: ds)
    | _, _ => none
theorem reps_flat {g : G} : ∀ {us : List Value} {ds : List D}, flatAll us = some ds → ∃ vs, Vals vs us ∧ ∀ H, Reps g H vs ds
  | [], ds, h => by cases h; exact ⟨[], .nil, fun _ => .nil⟩
  | u :: us, ds, h => by
    unfold flatAll at h
    split at h
    · rename_i d ds' h1 h2
      cases h
      obtain ⟨vs, r, q⟩ := reps_flat (g := g) h2
      have : ∃ v, RelV v u ∧ ∀ H, Rep g H v d := by
        cases u with
        | none => cases h1; exact ⟨.non, rfl, fun _ => .non⟩
        | bool b => cases h1; exact ⟨.bl b, rfl, fun _ => .bl b⟩
        | int i t => cases h1; exact ⟨.int i, ⟨t, rfl⟩, fun _ => .int i⟩
        | str s t => cases h1; exact ⟨.str s, ⟨t, rfl⟩, fun _ => .str s⟩
        | _ => cases h1
      obtain ⟨v, rv, hv⟩ := this
      exact ⟨v :: vs, .cons rv r, fun H => .cons (hv H) (q H)⟩
    · cases h
theorem gconTup {P : Program} {w : World} {K : PySem.W.Frag} {h : Heap} {mg : Str → Option Value} {x : Str} {a : Addr} {dd : Option Addr} {its : Array Value} {n : Nat} {sl : Array (Option Value)} {ds : List D} (X : K.In h) (G : h.Ns mainGlobals mg)
    (e : PySem.W.nsIn K mainGlobals x = some (some (.ref a))) (l : K.lookup a = some ⟨.type "tuple", dd, .seq its n, sl⟩) (hd : flatAll its.toList = some ds) (hs : its.size ≤ 16777216) : ∀ base, Gcon ⟨P, w, K, mg, base, none⟩ x (.tup ds) := fun base => by
  obtain ⟨vs, r, q⟩ := reps_flat (g := ⟨P, w, K, mg, base, none⟩) hd
  exact ⟨.ref a, _, PySem.W.mg_of X G e, rfl, fun H => .tup (.inr ⟨_, its, n, l, rfl, rfl, by rw [sizeLine_val]; exact hs, r⟩) (q H)⟩
end Rf
/-! # Rf15: the readings by simp -/
namespace Rf
open PySem
@[simp] theorem ev_var (T : Tb) (i : Nat) (env : Env) : ev T (.var i) env = (getV env i) := by first | exact id rfl | simp only [ev]
@[simp] theorem ev_int (T : Tb) (i : Int) (env : Env) : ev T (.int i) env = (.ok (.int i)) := by first | exact id rfl | simp only [ev]
@[simp] theorem ev_bl (T : Tb) (b : Bool) (env : Env) : ev T (.bl b) env = (.ok (.bl b)) := by first | exact id rfl | simp only [ev]
@[simp] theorem ev_non (T : Tb)  (env : Env) : ev T .non env = (.ok .non) := by first | exact id rfl | simp only [ev]
@[simp] theorem ev_str (T : Tb) (s : Str) (env : Env) : ev T (.str s) env = (.ok (.str s)) := by first | exact id rfl | simp only [ev]
@[simp] theorem ev_glob (T : Tb) (j : Nat) (env : Env) : ev T (.glob j) env = (match T.gl[j]? with
    | some (_, d) => .ok d
    | none => .bad) := by first | exact id rfl | simp only [ev]
@[simp] theorem ev_bin (T : Tb) (op : BOp) (a b : E) (env : Env) : ev T (.bin op a b) env = ((ev T a env).bind fun x => (ev T b env).bind fun y => bop op x y) := by first | exact id rfl | simp only [ev]
@[simp] theorem ev_neg (T : Tb) (a : E) (env : Env) : ev T (.neg a) env = ((ev T a env).bind fun x => match x with
    | .int i => .ok (.int (-i))
    | _ => .bad) := by first | exact id rfl | simp only [ev]
@[simp] theorem ev_cmp (T : Tb) (op : COp) (a b : E) (env : Env) : ev T (.cmp op a b) env = ((ev T a env).bind fun x => (ev T b env).bind fun y => cop op x y) := by first | exact id rfl | simp only [ev]
@[simp] theorem ev_isN (T : Tb) (a : E) (ng : Bool) (env : Env) : ev T (.isN a ng) env = ((ev T a env).bind fun x => .ok (.bl (if ng then !isNon x else isNon x))) := by first | exact id rfl | simp only [ev]
@[simp] theorem ev_chain (T : Tb) (op op' : COp) (a b c : E) (env : Env) : ev T (.chain op op' a b c) env = ((ev T a env).bind fun x => (ev T b env).bind fun y => (asB (cop op x y)).bind fun k =>
      if k = true then (ev T c env).bind fun z => cop op' y z else .ok (.bl false)) := by first | exact id rfl | simp only [ev]
@[simp] theorem ev_and (T : Tb) (a b : E) (env : Env) : ev T (.and a b) env = ((asB (ev T a env)).bind fun k => if k = true then ev T b env else .ok (.bl false)) := by first | exact id rfl | simp only [ev]
@[simp] theorem ev_or (T : Tb) (a b : E) (env : Env) : ev T (.or a b) env = ((asB (ev T a env)).bind fun k => if k = true then .ok (.bl true) else ev T b env) := by first | exact id rfl | simp only [ev]
@[simp] theorem ev_not (T : Tb) (a : E) (env : Env) : ev T (.not a) env = ((asB (ev T a env)).bind fun k => .ok (.bl (!k))) := by first | exact id rfl | simp only [ev]
@[simp] theorem ev_ife (T : Tb) (c a b : E) (env : Env) : ev T (.ife c a b) env = ((evT T c env).bind fun k => if k = true then ev T a env else ev T b env) := by first | exact id rfl | simp only [ev]
@[simp] theorem ev_tup (T : Tb) (es : E) (env : Env) : ev T (.tup es) env = ((evs T es env).bind fun ds => if okLen ds.length = true then .ok (.tup ds) else .bad) := by first | exact id rfl | simp only [ev]
@[simp] theorem ev_lst (T : Tb) (es : E) (env : Env) : ev T (.lst es) env = ((evs T es env).bind fun ds => if okLen ds.length = true then .ok (.lst ds) else .bad) := by first | exact id rfl | simp only [ev]
@[simp] theorem ev_ix (T : Tb) (a b : E) (env : Env) : ev T (.ix a b) env = ((ev T a env).bind fun x => (ev T b env).bind fun y => ixD x y) := by first | exact id rfl | simp only [ev]
@[simp] theorem ev_sl (T : Tb) (a lo hi : E) (env : Env) : ev T (.sl a lo hi) env = ((ev T a env).bind fun x => (evP T lo env).bind fun l => (evP T hi env).bind fun h => slD x l h) := by first | exact id rfl | simp only [ev]
@[simp] theorem ev_call (T : Tb) (j : Nat) (es : E) (env : Env) : ev T (.call j es) env = ((evs T es env).bind fun ds => match T.fn[j]? with
    | some (_, F) => F ds
    | none => .bad) := by first | exact id rfl | simp only [ev]
@[simp] theorem ev_calO (T : Tb) (j : Nat) (es : E) (env : Env) : ev T (.calO j es) env = ((evs T es env).bind fun ds => match T.ff[j]? with
    | some (_, F) => lstR (F ds)
    | none => .bad) := by first | exact id rfl | simp only [ev]
@[simp] theorem ev_callK1 (T : Tb) (j : Nat) (es a : E) (env : Env) : ev T (.callK1 j es a) env = ((evs T es env).bind fun ds => (ev T a env).bind fun z => match T.kf[j]? with
    | some (_, _, F) => F (ds ++ [z])
    | none => .bad) := by first | exact id rfl | simp only [ev]
@[simp] theorem ev_callK2 (T : Tb) (j : Nat) (es a b : E) (env : Env) : ev T (.callK2 j es a b) env = ((evs T es env).bind fun ds => (ev T a env).bind fun z => (ev T b env).bind fun w => match T.kf[j]? with
    | some (_, _, F) => F (ds ++ [z, w])
    | none => .bad) := by first | exact id rfl | simp only [ev]
@[simp] theorem ev_rev (T : Tb) (a : E) (env : Env) : ev T (.rev a) env = ((ev T a env).bind revD) := by first | exact id rfl | simp only [ev]
@[simp] theorem ev_bi (T : Tb) (b : Bi) (es : E) (env : Env) : ev T (.bi b es) env = ((evs T es env).bind fun ds => biF b ds) := by first | exact id rfl | simp only [ev]
@[simp] theorem ev_isi (T : Tb) (a : E) (t : Ty) (env : Env) : ev T (.isi a t) env = ((ev T a env).bind fun x => (isiB t x).bind fun b => .ok (.bl b)) := by first | exact id rfl | simp only [ev]
@[simp] theorem ev_isx (T : Tb) (a : E) (j : Nat) (env : Env) : ev T (.isx a j) env = ((ev T a env).bind fun x => isxD T.xi j x) := by first | exact id rfl | simp only [ev]
@[simp] theorem ev_att (T : Tb) (a : E) (f : Str) (env : Env) : ev T (.att a f) env = ((ev T a env).bind fun x => fldD T.at_ f x) := by first | exact id rfl | simp only [ev]
@[simp] theorem ev_meth (T : Tb) (j : Nat) (a es : E) (env : Env) : ev T (.meth j a es) env = ((ev T a env).bind fun x => methD T.mt j x (evs T es env)) := by first | exact id rfl | simp only [ev]
@[simp] theorem ev_mlen (T : Tb) (j : Nat) (a : E) (env : Env) : ev T (.mlen j a) env = ((ev T a env).bind fun x => (specD T.ln j x []).bind lenD) := by first | exact id rfl | simp only [ev]
@[simp] theorem ev_min_ (T : Tb) (j : Nat) (ng : Bool) (a b : E) (env : Env) : ev T (.min_ j ng a b) env = ((ev T a env).bind fun x => (ev T b env).bind fun y => (asB (specD T.mt j y [x])).bind fun k => .ok (.bl (if ng then !k else k))) := by first | exact id rfl | simp only [ev]
@[simp] theorem ev_prop (T : Tb) (j : Nat) (a : E) (env : Env) : ev T (.prop j a) env = ((ev T a env).bind fun x => (specD T.pr j x []).noErr) := by first | exact id rfl | simp only [ev]
@[simp] theorem ev_comp (T : Tb) (elt : E) (tg : Tg) (it cond : E) (own : List Nat) (env : Env) : ev T (.comp elt tg it cond own) env = ((evI T it env).bind fun ds =>
      (compL (fun env' => (evC T cond env').bind fun k => if k = true then (ev T elt env').bind fun d => .ok (some d) else .ok none) tg (wipeE (hideO env) own) ds).bind fun rs =>
        if okLen rs.length = true then .ok (.lst rs) else .bad) := by first | exact id rfl | simp only [ev]
@[simp] theorem ev_oix (T : Tb) (i : Nat) (b : E) (env : Env) : ev T (.oix i b) env = ((getL env i).bind fun xs => (ev T b env).bind fun y => ixD (.lst xs) y) := by first | exact id rfl | simp only [ev]
@[simp] theorem ev_olen (T : Tb) (i : Nat) (env : Env) : ev T (.olen i) env = ((getL env i).bind fun xs => .ok (.int xs.length)) := by first | exact id rfl | simp only [ev]
@[simp] theorem evT_and (T : Tb) (a b : E) (env : Env) : evT T (.and a b) env = ((evT T a env).bind fun k => if k = true then evT T b env else .ok false) := by first | exact id rfl | simp only [evT]
@[simp] theorem evT_or (T : Tb) (a b : E) (env : Env) : evT T (.or a b) env = ((evT T a env).bind fun k => if k = true then .ok true else evT T b env) := by first | exact id rfl | simp only [evT]
@[simp] theorem evT_not (T : Tb) (a : E) (env : Env) : evT T (.not a) env = ((evT T a env).bind fun k => .ok (!k)) := by first | exact id rfl | simp only [evT]
@[simp] theorem evT_bl (T : Tb) (b : Bool) (env : Env) : evT T (.bl b) env = (.ok b) := by first | exact id rfl | simp only [evT]
@[simp] theorem evT_int (T : Tb) (i : Int) (env : Env) : evT T (.int i) env = (.ok (i != 0)) := by first | exact id rfl | simp only [evT]
@[simp] theorem evT_var (T : Tb) (i : Nat) (env : Env) : evT T (.var i) env = ((getV env i).bind truD) := by first | exact id rfl | simp only [evT]
@[simp] theorem evT_cmp (T : Tb) (op : COp) (a b : E) (env : Env) : evT T (.cmp op a b) env = ((ev T a env).bind fun x => (ev T b env).bind fun y => asB (cop op x y)) := by first | exact id rfl | simp only [evT]
@[simp] theorem evT_isN (T : Tb) (a : E) (ng : Bool) (env : Env) : evT T (.isN a ng) env = ((ev T a env).bind fun x => .ok (if ng then !isNon x else isNon x)) := by first | exact id rfl | simp only [evT]
@[simp] theorem evT_chain (T : Tb) (op op' : COp) (a b c : E) (env : Env) : evT T (.chain op op' a b c) env = ((ev T a env).bind fun x => (ev T b env).bind fun y => (asB (cop op x y)).bind fun k =>
      if k = true then (ev T c env).bind fun z => asB (cop op' y z) else .ok false) := by first | exact id rfl | simp only [evT]
@[simp] theorem evT_ix (T : Tb) (a b : E) (env : Env) : evT T (.ix a b) env = (((ev T a env).bind fun x => (ev T b env).bind fun y => ixD x y).bind truD) := by first | exact id rfl | simp only [evT]
@[simp] theorem evT_call (T : Tb) (j : Nat) (es : E) (env : Env) : evT T (.call j es) env = (((evs T es env).bind fun ds => match T.fn[j]? with
    | some (_, F) => F ds
    | none => .bad).bind truD) := by first | exact id rfl | simp only [evT]
@[simp] theorem evT_callK1 (T : Tb) (j : Nat) (es a : E) (env : Env) : evT T (.callK1 j es a) env = (((evs T es env).bind fun ds => (ev T a env).bind fun z => match T.kf[j]? with
    | some (_, _, F) => F (ds ++ [z])
    | none => .bad).bind truD) := by first | exact id rfl | simp only [evT]
@[simp] theorem evT_callK2 (T : Tb) (j : Nat) (es a b : E) (env : Env) : evT T (.callK2 j es a b) env = (((evs T es env).bind fun ds => (ev T a env).bind fun z => (ev T b env).bind fun w => match T.kf[j]? with
    | some (_, _, F) => F (ds ++ [z, w])
    | none => .bad).bind truD) := by first | exact id rfl | simp only [evT]
@[simp] theorem evT_bi (T : Tb) (b : Bi) (es : E) (env : Env) : evT T (.bi b es) env = (((evs T es env).bind fun ds => biF b ds).bind truD) := by first | exact id rfl | simp only [evT]
@[simp] theorem evT_isi (T : Tb) (a : E) (t : Ty) (env : Env) : evT T (.isi a t) env = ((ev T a env).bind fun x => isiB t x) := by first | exact id rfl | simp only [evT]
@[simp] theorem evT_isx (T : Tb) (a : E) (j : Nat) (env : Env) : evT T (.isx a j) env = (((ev T a env).bind fun x => isxD T.xi j x).bind truD) := by first | exact id rfl | simp only [evT]
@[simp] theorem evT_att (T : Tb) (a : E) (f : Str) (env : Env) : evT T (.att a f) env = (((ev T a env).bind fun x => fldD T.at_ f x).bind truD) := by first | exact id rfl | simp only [evT]
@[simp] theorem evT_meth (T : Tb) (j : Nat) (a es : E) (env : Env) : evT T (.meth j a es) env = (((ev T a env).bind fun x => methD T.mt j x (evs T es env)).bind truD) := by first | exact id rfl | simp only [evT]
@[simp] theorem evT_min_ (T : Tb) (j : Nat) (ng : Bool) (a b : E) (env : Env) : evT T (.min_ j ng a b) env = ((ev T a env).bind fun x => (ev T b env).bind fun y => (asB (specD T.mt j y [x])).bind fun k => .ok (if ng then !k else k)) := by first | exact id rfl | simp only [evT]
@[simp] theorem evs_nil (T : Tb)  (env : Env) : evs T .nil env = (.ok []) := by first | exact id rfl | simp only [evs]
@[simp] theorem evs_cons (T : Tb) (a es : E) (env : Env) : evs T (.cons a es) env = ((ev T a env).bind fun d => (evs T es env).bind fun ds => .ok (d :: ds)) := by first | exact id rfl | simp only [evs]
@[simp] theorem evP_nil (T : Tb)  (env : Env) : evP T .nil env = (.ok none) := by first | exact id rfl | simp only [evP]
@[simp] theorem evP_cons (T : Tb) (a : E) (env : Env) : evP T (.cons a .nil) env = ((ev T a env).bind partD) := by first | exact id rfl | simp only [evP]
@[simp] theorem evC_nil (T : Tb)  (env : Env) : evC T .nil env = (.ok true) := by first | exact id rfl | simp only [evC]
@[simp] theorem evC_cons (T : Tb) (a : E) (env : Env) : evC T (.cons a .nil) env = (evT T a env) := by first | exact id rfl | simp only [evC]
@[simp] theorem evI_rng1 (T : Tb) (a : E) (env : Env) : evI T (.rng1 a) env = ((ev T a env).bind fun x => match x with
    | .int j => if okRng j = true then .ok (rngD 0 j) else .bad
    | _ => .bad) := by first | exact id rfl | simp only [evI]
@[simp] theorem evI_rng2 (T : Tb) (a b : E) (env : Env) : evI T (.rng2 a b) env = ((ev T a env).bind fun x => (ev T b env).bind fun y => match x, y with
    | .int i, .int j => if (okRng i && okRng j) = true then .ok (rngD i j) else .bad
    | _, _ => .bad) := by first | exact id rfl | simp only [evI]
@[simp] theorem evI_enum (T : Tb) (a : E) (env : Env) : evI T (.enum a) env = ((ev T a env).bind fun x => match x with
    | .lst xs => .ok (enumD xs)
    | _ => .bad) := by first | exact id rfl | simp only [evI]
@[simp] theorem evI_zip (T : Tb) (a b : E) (env : Env) : evI T (.zip a b) env = ((ev T a env).bind fun x => (ev T b env).bind fun y => match x, y with
    | .lst xs, .lst ys => .ok (zipD xs ys)
    | _, _ => .bad) := by first | exact id rfl | simp only [evI]
@[simp] theorem evI_cons (T : Tb) (a : E) (env : Env) : evI T (.cons a .nil) env = ((ev T a env).bind itemsD) := by first | exact id rfl | simp only [evI]
@[simp] theorem evI_ito (T : Tb) (j : Nat) (a : E) (env : Env) : evI T (.ito j a) env = ((ev T a env).bind (itoD T.itc j)) := by first | exact id rfl | simp only [evI]
@[simp] theorem ex_nil (T : Tb)  (env : Env) : ex T .nil env = (.nx env) := by first | exact id rfl | simp only [ex]
@[simp] theorem ex_cons (T : Tb) (s r : S) (env : Env) : ex T (.cons s r) env = ((ex T s env).andThen (ex T r)) := by first | exact id rfl | simp only [ex]
@[simp] theorem ex_pass (T : Tb)  (env : Env) : ex T .pass env = (.nx env) := by first | exact id rfl | simp only [ex]
@[simp] theorem ex_brk (T : Tb)  (env : Env) : ex T .brk env = (.bk env) := by first | exact id rfl | simp only [ex]
@[simp] theorem ex_ct (T : Tb)  (env : Env) : ex T .ct env = (.ct env) := by first | exact id rfl | simp only [ex]
@[simp] theorem ex_retN (T : Tb)  (env : Env) : ex T .retN env = (.rt .non) := by first | exact id rfl | simp only [ex]
@[simp] theorem ex_ret (T : Tb) (e : E) (env : Env) : ex T (.ret e) env = (Out.of env .rt (ev T e env)) := by first | exact id rfl | simp only [ex]
@[simp] theorem ex_asg (T : Tb) (t : Tg) (e : E) (env : Env) : ex T (.asg t e) env = (Out.of env (fun d => match setT t d env with | some env' => .nx env' | none => .bad) (ev T e env)) := by first | exact id rfl | simp only [ex]
@[simp] theorem ex_asgO (T : Tb) (i : Nat) (e : E) (env : Env) : ex T (.asgO i e) env = (Out.of env (fun d => match d with | .lst xs => .nx (env.set i (some (.o xs))) | _ => .bad) (ev T e env)) := by first | exact id rfl | simp only [ex]
@[simp] theorem ex_par2 (T : Tb) (i j : Nat) (a b : E) (env : Env) : ex T (.par2 i j a b) env = (Out.of env (fun x => Out.of env (fun y => .nx ((env.set i (some (.v x))).set j (some (.v y)))) (ev T b env)) (ev T a env)) := by first | exact id rfl | simp only [ex]
@[simp] theorem ex_asgIx (T : Tb) (i : Nat) (a e : E) (env : Env) : ex T (.asgIx i a e) env = (Out.of env (fun x => Out.of env (fun xs => Out.of env (fun k => Out.of env (fun ys => .nx (env.set i (some (.o ys)))) (setD xs k x)) (ev T a env)) (getO env i)) (ev T e env)) := by first | exact id rfl | simp only [ex]
@[simp] theorem ex_app (T : Tb) (i : Nat) (e : E) (env : Env) : ex T (.app i e) env = (Out.of env (fun xs => Out.of env (fun x => if xs.length < 16777216 then .nx (env.set i (some (.o (xs ++ [x])))) else .bad) (ev T e env)) (getO env i)) := by first | exact id rfl | simp only [ex]
@[simp] theorem ex_pop (T : Tb) (i : Nat) (env : Env) : ex T (.pop i) env = (Out.of env (fun xs => if xs ≠ [] then .nx (env.set i (some (.o xs.dropLast))) else .bad) (getO env i)) := by first | exact id rfl | simp only [ex]
@[simp] theorem ex_expr (T : Tb) (e : E) (env : Env) : ex T (.expr e) env = (Out.of env (fun _ => .nx env) (ev T e env)) := by first | exact id rfl | simp only [ex]
@[simp] theorem ex_ife (T : Tb) (c : E) (a b : S) (env : Env) : ex T (.ife c a b) env = (Out.of env (fun k => if k = true then ex T a env else ex T b env) (evT T c env)) := by first | exact id rfl | simp only [ex]
@[simp] theorem ex_frz (T : Tb) (is : List Nat) (s : S) (env : Env) : ex T (.frz is s) env = (ex T s (frzE env is)) := by first | exact id rfl | simp only [ex]
@[simp] theorem ex_bad (T : Tb)  (env : Env) : ex T .bad env = (.bad) := by first | exact id rfl | simp only [ex]
@[simp] theorem ex_raise_ (T : Tb) (j : Nat) (env : Env) : ex T (.raise_ j) env = (match T.xc[j]? with
    | some c => .err ⟨c, []⟩ env
    | none => .bad) := by first | exact id rfl | simp only [ex]
@[simp] theorem ex_retA (T : Tb) (i j : Nat) (env : Env) : ex T (.retA i j) env = (Out.of env .rt ((getV env i).bind fun x => (getV env j).bind fun c => sortA x c)) := by first | exact id rfl | simp only [ex]
@[simp] theorem ex_retO (T : Tb) (i : Nat) (env : Env) : ex T (.retO i) env = (Out.of env (fun xs => .rt (.lst xs)) (getO env i)) := by first | exact id rfl | simp only [ex]
@[simp] theorem ex_setA (T : Tb) (i : Nat) (f : Str) (e : E) (env : Env) : ex T (.setA i f e) env = (Out.of env (fun d => setN T.at_ i f d env) (ev T e env)) := by first | exact id rfl | simp only [ex]
@[simp] theorem ex_tryAs (T : Tb) (i j : Nat) (body suite : S) (env : Env) : ex T (.tryAs i j body suite) env = (match ex T body env with
    | .err x env' => match capt T.xh j x.cls with
      | some true => afterS (fun e => e.set i none) (ex T.hot suite (env'.set i (some (.v (.exc x.cls x.fs)))))
      | some false => .err x env'
      | none => .bad
    | o => o) := by first | exact id rfl | simp only [ex]
@[simp] theorem ex_tryOnly (T : Tb) (j : Nat) (body suite : S) (env : Env) : ex T (.tryOnly j body suite) env = (match ex T body env with
    | .err x env' => match capt T.xh j x.cls with
      | some true => afterS (fun e => e) (ex T.hot suite env')
      | some false => .err x env'
      | none => .bad
    | o => o) := by first | exact id rfl | simp only [ex]
theorem ex_for (T : Tb) (t : Tg) (it : E) (body : S) (env : Env) : ex T (.for_ t it body) env = Out.of env (fun ds => forL (fun d e => match setT t d e with | some e' => ex T body e' | none => .bad) ds env) (evI T it env) := by first | rfl | (simp only [ex]; rfl) | (rw [ex]; rfl)
theorem ex_while (T : Tb) (c : E) (body : S) (env : Env) : ex T (.while_ c body) env = whileS (evT T c) (ex T body) env := by simp only [ex]
@[simp] theorem getV_zero (d : D) (env : Env) : getV (some (.v d) :: env) 0 = .ok d := id rfl
@[simp] theorem getV_succ (s : Option Sl) (env : Env) (n : Nat) : getV (s :: env) (n + 1) = getV env n := id rfl
@[simp] theorem getO_zero (d : List D) (env : Env) : getO (some (.o d) :: env) 0 = .ok d := id rfl
@[simp] theorem getO_succ (s : Option Sl) (env : Env) (n : Nat) : getO (s :: env) (n + 1) = getO env n := id rfl
@[simp] theorem getL_zeroO (d : List D) (env : Env) : getL (some (.o d) :: env) 0 = .ok d := id rfl
@[simp] theorem getL_zeroV (d : List D) (env : Env) : getL (some (.v (.lst d)) :: env) 0 = .ok d := id rfl
@[simp] theorem getL_succ (s : Option Sl) (env : Env) (n : Nat) : getL (s :: env) (n + 1) = getL env n := id rfl
@[simp] theorem setT_name (i : Nat) (d : D) (env : Env) : setT (.name i) d env = some (env.set i (some (.v d))) := by simp only [setT]
@[simp] theorem setT_tup (r : Tg) (ds : List D) (env : Env) : setT (.tup r) (.tup ds) env = setT r (.tup ds) env := by simp only [setT]
@[simp] theorem setT_nil (env : Env) : setT .nil (.tup []) env = some env := by simp only [setT]
@[simp] theorem setT_cons (a r : Tg) (d : D) (ds : List D) (env : Env) : setT (.cons a r) (.tup (d :: ds)) env = (setT a d env).bind fun env' => setT r (.tup ds) env' := by simp only [setT]
@[simp] theorem andThen_nx (env : Env) (k : Env → Out) : (Out.nx env).andThen k = k env := id rfl
@[simp] theorem andThen_rt (d : D) (k : Env → Out) : (Out.rt d).andThen k = .rt d := id rfl
@[simp] theorem andThen_bk (env : Env) (k : Env → Out) : (Out.bk env).andThen k = .bk env := id rfl
@[simp] theorem andThen_ct (env : Env) (k : Env → Out) : (Out.ct env).andThen k = .ct env := id rfl
@[simp] theorem andThen_err (x : Exn) (env : Env) (k : Env → Out) : (Out.err x env).andThen k = .err x env := id rfl
@[simp] theorem andThen_bad (k : Env → Out) : Out.bad.andThen k = .bad := id rfl
@[simp] theorem forL_nil (f : D → Env → Out) (env : Env) : forL f [] env = .nx env := id rfl
theorem forL_cons (f : D → Env → Out) (d : D) (ds : List D) (env : Env) : forL f (d :: ds) env = (match f d env with | .nx e => forL f ds e | .ct e => forL f ds e | .bk e => .nx e | o => o) := by first | rfl | (rw [forL]; rfl) | (simp only [forL]; cases f d env <;> rfl)
@[simp] theorem wipeE_nil (env : Env) : wipeE env [] = env := id rfl
@[simp] theorem wipeE_cons (env : Env) (v : Nat) (vs : List Nat) : wipeE env (v :: vs) = (wipeE env vs).set v none := id rfl
@[simp] theorem hide_nil : hideO [] = [] := id rfl
def hide1 : Option Sl → Option Sl
  | some (.v d) => some (.v d)
  | _ => none
@[simp] theorem hide_cons (x : Option Sl) (env : Env) : hideO (x :: env) = hide1 x :: hideO env := by
  show List.map _ _ = _
  rw [List.map_cons]
  congr 1
@[simp] theorem hide_v (d : D) : hide1 (some (.v d)) = some (.v d) := id rfl
@[simp] theorem hide_o (d : List D) : hide1 (some (.o d)) = none := id rfl
@[simp] theorem hide_n : hide1 none = none := id rfl
@[simp] theorem frzE_nil (env : Env) : frzE env [] = env := id rfl
@[simp] theorem asB_bl (b : Bool) : asB (.ok (.bl b)) = .ok b := id rfl
@[simp] theorem asB_err (x : Exn) : asB (.err x) = .err x := id rfl
@[simp] theorem truD_bl (b : Bool) : truD (.bl b) = .ok b := id rfl
@[simp] theorem truD_non : truD .non = .ok false := id rfl
@[simp] theorem truD_int (i : Int) : truD (.int i) = .ok (i != 0) := id rfl
@[simp] theorem truD_lst (xs : List D) : truD (.lst xs) = .ok (!xs.isEmpty) := id rfl
@[simp] theorem truD_tup (xs : List D) : truD (.tup xs) = .ok (!xs.isEmpty) := id rfl
@[simp] theorem bop_add (i j : Int) : bop .add (.int i) (.int j) = .ok (.int (i + j)) := id rfl
@[simp] theorem bop_sub (i j : Int) : bop .sub (.int i) (.int j) = .ok (.int (i - j)) := id rfl
theorem bop_mul {i j : Int} (h : okMul i j = true) : bop .mul (.int i) (.int j) = .ok (.int (i * j)) := by simp [bop, h]
theorem bop_fdiv {i j : Int} (h : okDiv j = true) : bop .fdiv (.int i) (.int j) = .ok (.int (i.fdiv j)) := by simp [bop, h]
theorem bop_mod {i j : Int} (h : j ≠ 0) : bop .mod (.int i) (.int j) = .ok (.int (i.fmod j)) := by simp [bop, h]
theorem bop_pow {i j : Int} (h : okPow i j = true) : bop .pow (.int i) (.int j) = .ok (.int (i ^ j.toNat)) := by simp [bop, h]
theorem bop_cat {xs ys : List D} (h : xs.length + ys.length ≤ 16777216) : bop .add (.lst xs) (.lst ys) = .ok (.lst (xs ++ ys)) := by simp [bop, okLen, h]
@[simp] theorem cop_lt (i j : Int) : cop .lt (.int i) (.int j) = .ok (.bl (decide (i < j))) := id rfl
@[simp] theorem cop_le (i j : Int) : cop .le (.int i) (.int j) = .ok (.bl (decide (i ≤ j))) := id rfl
@[simp] theorem cop_gt (i j : Int) : cop .gt (.int i) (.int j) = .ok (.bl (decide (j < i))) := id rfl
@[simp] theorem cop_ge (i j : Int) : cop .ge (.int i) (.int j) = .ok (.bl (decide (j ≤ i))) := id rfl
theorem cop_eq {d e : D} {b : Bool} (h : eqD d e = .ok b) : cop .eq d e = .ok (.bl b) := by simp [cop, h]
theorem cop_ne' {d e : D} {b : Bool} (h : eqD d e = .ok b) : cop .ne d e = .ok (.bl (!b)) := by simp [cop, h]
@[simp] theorem isNon_non : isNon .non = true := id rfl
@[simp] theorem isNon_bl (b : Bool) : isNon (.bl b) = false := id rfl
@[simp] theorem isNon_int (b : Int) : isNon (.int b) = false := id rfl
@[simp] theorem isNon_str (b : Str) : isNon (.str b) = false := id rfl
@[simp] theorem isNon_tup (b : List D) : isNon (.tup b) = false := id rfl
@[simp] theorem isNon_lst (b : List D) : isNon (.lst b) = false := id rfl
@[simp] theorem isNon_obj (c : Str) (b : List (Str × D)) : isNon (.obj c b) = false := id rfl
@[simp] theorem itemsD_lst (xs : List D) : itemsD (.lst xs) = .ok xs := id rfl
@[simp] theorem itemsD_tup (xs : List D) : itemsD (.tup xs) = .ok xs := id rfl
@[simp] theorem bi_abs (i : Int) : biF .abs [.int i] = .ok (.int (if i < 0 then -i else i)) := id rfl
@[simp] theorem bi_int (i : Int) : biF .int [.int i] = .ok (.int i) := id rfl
@[simp] theorem bi_lenL (xs : List D) : biF .len [.lst xs] = .ok (.int xs.length) := id rfl
@[simp] theorem bi_lenT (xs : List D) : biF .len [.tup xs] = .ok (.int xs.length) := id rfl
@[simp] theorem bi_listL (xs : List D) : biF .list [.lst xs] = .ok (.lst xs) := id rfl
@[simp] theorem bi_listT (xs : List D) : biF .list [.tup xs] = .ok (.lst xs) := id rfl
@[simp] theorem bi_tupL (xs : List D) : biF .tuple [.lst xs] = .ok (.tup xs) := id rfl
@[simp] theorem bi_tupT (xs : List D) : biF .tuple [.tup xs] = .ok (.tup xs) := id rfl
@[simp] theorem bi_min (i j : Int) : biF .min2 [.int i, .int j] = .ok (.int (if j < i then j else i)) := id rfl
@[simp] theorem bi_max (i j : Int) : biF .max2 [.int i, .int j] = .ok (.int (if j > i then j else i)) := id rfl
@[simp] theorem bi_gcd (i j : Int) : biF .gcd [.int i, .int j] = .ok (.int (Nat.gcd i.natAbs j.natAbs : Nat)) := id rfl
@[simp] theorem okLen_small {n : Nat} (h : n ≤ 16777216) : okLen n = true := decide_eq_true h
/-- an item at a place that is not negative -/
theorem ixD_nat {xs : List D} {i : Nat} {d : D} (h : xs[i]? = some d) : ixD (.lst xs) (.int (i : Int)) = .ok d := by
  have hl := (List.getElem?_eq_some_iff.mp h).1
  have e : L2.ixN xs.length (i : Int) = some i := by unfold L2.ixN; rw [if_pos (by omega), if_pos (by omega)]; simp
  simp [ixD, L2.atI, e, h, ofO]
theorem ixD_natT {xs : List D} {i : Nat} {d : D} (h : xs[i]? = some d) : ixD (.tup xs) (.int (i : Int)) = .ok d := by
  have hl := (List.getElem?_eq_some_iff.mp h).1
  have e : L2.ixN xs.length (i : Int) = some i := by unfold L2.ixN; rw [if_pos (by omega), if_pos (by omega)]; simp
  simp [ixD, L2.atI, e, h, ofO]
@[simp] theorem ixT0 (a : D) (xs : List D) : ixD (.tup (a :: xs)) (.int 0) = .ok a := ixD_natT (i := 0) rfl
@[simp] theorem ixT1 (a b : D) (xs : List D) : ixD (.tup (a :: b :: xs)) (.int 1) = .ok b := ixD_natT (i := 1) rfl
@[simp] theorem ixT2 (a b c : D) (xs : List D) : ixD (.tup (a :: b :: c :: xs)) (.int 2) = .ok c := ixD_natT (i := 2) rfl
@[simp] theorem ixT3 (a b c d : D) (xs : List D) : ixD (.tup (a :: b :: c :: d :: xs)) (.int 3) = .ok d := ixD_natT (i := 3) rfl
@[simp] theorem ixT4 (a b c d e : D) (xs : List D) : ixD (.tup (a :: b :: c :: d :: e :: xs)) (.int 4) = .ok e := ixD_natT (i := 4) rfl
@[simp] theorem ixL0 (a : D) (xs : List D) : ixD (.lst (a :: xs)) (.int 0) = .ok a := ixD_nat (i := 0) rfl
@[simp] theorem ixL1 (a b : D) (xs : List D) : ixD (.lst (a :: b :: xs)) (.int 1) = .ok b := ixD_nat (i := 1) rfl
@[simp] theorem ixL2 (a b c : D) (xs : List D) : ixD (.lst (a :: b :: c :: xs)) (.int 2) = .ok c := ixD_nat (i := 2) rfl
@[simp] theorem ixL3 (a b c d : D) (xs : List D) : ixD (.lst (a :: b :: c :: d :: xs)) (.int 3) = .ok d := ixD_nat (i := 3) rfl
/-! ### sizes -/
theorem okMul_of {a b : Int} {m n : Nat} (ha : a.natAbs < 2 ^ m) (hb : b.natAbs < 2 ^ n) (h : m + n ≤ 100000000) (h0 : 0 < m := by decide) (h1 : 0 < n := by decide) : okMul a b = true := by
  have x := PySem.Flt.log2_lt_of h0 ha
  have y := PySem.Flt.log2_lt_of h1 hb
  unfold okMul
  exact decide_eq_true (by omega)
theorem okDiv_of {b : Int} {n : Nat} (hb : b.natAbs < 2 ^ n) (h : b ≠ 0) (hn : n ≤ 9000) (h1 : 0 < n := by decide) : okDiv b = true := by
  have y := PySem.Flt.log2_lt_of h1 hb
  unfold okDiv
  simp only [Bool.and_eq_true, decide_eq_true_eq]
  exact ⟨h, by omega⟩
/-! ### a def called -/
theorem runFn_eq {np nn : Nat} {T : Tb} {B : S} {ds : List D} (h : ds.length = np) : runFn np nn T B ds = (match ex T B (ds.map (fun d => some (.v d)) ++ List.replicate (nn - np) none) with
    | .nx _ => .ok .non
    | .rt d => .ok d
    | .err x _ => .err x
    | _ => .bad) := by
  first
    | (unfold runFn; rw [if_pos h]; done)
    | (unfold runFn; rw [if_pos h]; cases ex T B (ds.map (fun d => some (.v d)) ++ List.replicate (nn - np) none) <;> rfl)
/-- what a body's outcome gives to the caller -/
def outR : Out → R D
  | .nx _ => .ok .non
  | .rt d => .ok d
  | .err x _ => .err x
  | _ => .bad
@[simp] theorem outR_rt (d : D) : outR (.rt d) = .ok d := id rfl
@[simp] theorem outR_nx (env : Env) : outR (.nx env) = .ok .non := id rfl
@[simp] theorem outR_err (x : Exn) (env : Env) : outR (.err x env) = .err x := id rfl
theorem runFn_out {np nn : Nat} {T : Tb} {B : S} {ds : List D} {env : Env} {o : Out} (h : ds.length = np) (he : ds.map (fun d => some (.v d)) ++ List.replicate (nn - np) none = env) (ho : ex T B env = o) : runFn np nn T B ds = outR o := by
  rw [runFn_eq h, he, ho]
  cases o <;> rfl
end Rf
/-! # Rf16: equality of data, loops over data -/
namespace Rf
open PySem

/-- data that == reads, of depth at most n -/
def okN : Nat → D → Bool
  | _, .non => true
  | _, .bl _ => true
  | _, .int _ => true
  | _, .str s => PyData.strOk s
  | n + 1, .tup xs => xs.all (okN n)
  | n + 1, .lst xs => xs.all (okN n)
  | _, _ => false
theorem pys_of {n : Nat} (ih : ∀ d, okN n d = true → ∃ p, d.py = some p ∧ p.canLay0 = true ∧ p.depth ≤ n) : ∀ xs : List D, xs.all (okN n) = true → ∃ ps, pys xs = some ps ∧ PyData.canLayAll0 ps = true ∧ PyData.depthAll ps ≤ n
  | [], _ => ⟨[], by simp [pys], by simp [PyData.canLayAll0], by simp [PyData.depthAll]⟩
  | x :: xs, h => by
    simp only [List.all_cons, Bool.and_eq_true] at h
    obtain ⟨p, h1, h2, h3⟩ := ih x h.1
    obtain ⟨ps, k1, k2, k3⟩ := pys_of ih xs h.2
    exact ⟨p :: ps, by simp [pys, h1, k1], by simp [PyData.canLayAll0, h2, k2], by simp only [PyData.depthAll]; omega⟩
theorem okN_py : ∀ (n : Nat) (d : D), okN n d = true → ∃ p, d.py = some p ∧ p.canLay0 = true ∧ p.depth ≤ n
  | n, .non, _ => ⟨.none, by simp [D.py], by simp [PyData.canLay0], by simp [PyData.depth]⟩
  | n, .bl b, _ => ⟨.bool b, by simp [D.py], by simp [PyData.canLay0], by simp [PyData.depth]⟩
  | n, .int b, _ => ⟨.int b, by simp [D.py], by simp [PyData.canLay0], by simp [PyData.depth]⟩
  | n, .str b, h => ⟨.str b, by simp [D.py], by cases n <;> simpa [PyData.canLay0, okN] using h, by simp [PyData.depth]⟩
  | n + 1, .tup xs, h => by
    obtain ⟨ps, k1, k2, k3⟩ := pys_of (okN_py n) xs (by simpa [okN] using h)
    exact ⟨.tuple ps, by simp [D.py, k1], by simpa [PyData.canLay0] using k2, by simp only [PyData.depth]; omega⟩
  | n + 1, .lst xs, h => by
    obtain ⟨ps, k1, k2, k3⟩ := pys_of (okN_py n) xs (by simpa [okN] using h)
    exact ⟨.list ps, by simp [D.py, k1], by simpa [PyData.canLay0] using k2, by simp only [PyData.depth]; omega⟩
  | 0, .tup _, h => by simp [okN] at h
  | 0, .lst _, h => by simp [okN] at h
  | 0, .obj _ _, h => by simp [okN] at h
  | 0, .exc _ _, h => by simp [okN] at h
  | n + 1, .obj _ _, h => by simp [okN] at h
  | n + 1, .exc _ _, h => by simp [okN] at h
/-- no int against a bool -/
def nice : Nat → D → D → Bool
  | _, .bl _, .int _ => false
  | _, .int _, .bl _ => false
  | 0, .tup _, .tup _ => false
  | 0, .lst _, .lst _ => false
  | n + 1, .tup xs, .tup ys => (xs.zip ys).all fun p => nice n p.1 p.2
  | n + 1, .lst xs, .lst ys => (xs.zip ys).all fun p => nice n p.1 p.2
  | _, _, _ => true
open Classical in
theorem eqvAll_of {n : Nat} (ih : ∀ d e p q, nice n d e = true → d.py = some p → e.py = some q → PyData.eqv p q = decide (d = e)) : ∀ (xs ys : List D) (ps qs : List PyData), ((xs.zip ys).all fun p => nice n p.1 p.2) = true → pys xs = some ps → pys ys = some qs → PyData.eqvAll ps qs = decide (xs = ys)
  | [], [], ps, qs, _, h, k => by simp [pys] at h k; subst h; subst k; simp [PyData.eqvAll]
  | [], y :: ys, ps, qs, _, h, k => by
    simp only [pys] at h k
    split at k
    · injection h with h; injection k with k; subst h; subst k; simp [PyData.eqvAll]
    · cases k
  | x :: xs, [], ps, qs, _, h, k => by
    simp only [pys] at h k
    split at h
    · injection h with h; injection k with k; subst h; subst k; simp [PyData.eqvAll]
    · cases h
  | x :: xs, y :: ys, ps, qs, hn, h, k => by
    simp only [List.zip_cons_cons, List.all_cons, Bool.and_eq_true] at hn
    simp only [pys] at h k
    split at h
    · split at k
      · injection h with h; injection k with k; subst h; subst k
        rename_i h1 h2 _ _ _ _ k1 k2
        simp [PyData.eqvAll, ih x y _ _ hn.1 h1 k1, eqvAll_of ih xs ys _ _ hn.2 h2 k2]
      · cases k
    · cases h
open Classical in
theorem eqv_of : ∀ (n : Nat) (d e : D) (p q : PyData), nice n d e = true → d.py = some p → e.py = some q → PyData.eqv p q = decide (d = e)
  | n, d, e, p, q, hn, hp, hq => by
    cases d <;> cases e <;> simp only [D.py, Option.map_eq_some_iff, Option.some.injEq, reduceCtorEq] at hp hq
    all_goals first
      | (subst hp; subst hq; simp [PyData.eqv]; done)
      | (subst hp; subst hq; cases n <;> simp [nice] at hn; done)
      | (subst hp; obtain ⟨qs, k1, k2⟩ := hq; subst k2; simp [PyData.eqv]; done)
      | (subst hq; obtain ⟨qs, k1, k2⟩ := hp; subst k2; simp [PyData.eqv]; done)
      | (obtain ⟨ps, h1, h2⟩ := hp; obtain ⟨qs, k1, k2⟩ := hq; subst h2; subst k2
         cases n with
         | zero => simp [nice] at hn
         | succ n => simp only [PyData.eqv, D.tup.injEq, D.lst.injEq]; exact eqvAll_of (eqv_of n) _ _ _ _ (by simpa [nice] using hn) h1 k1)
      | (obtain ⟨ps, h1, h2⟩ := hp; obtain ⟨qs, k1, k2⟩ := hq; subst h2; subst k2; simp [PyData.eqv]; done)
      | (rename_i a b; subst hp; subst hq; by_cases h : a = b
         · subst h; simp [PyData.eqv]
         · simp [PyData.eqv, h])
open Classical in
theorem eqD_of {d e : D} {n : Nat} (hd : okN n d = true) (he : okN n e = true) (hn : nice n d e = true) (h : n ≤ 64 := by decide) : eqD d e = .ok (decide (d = e)) := by
  obtain ⟨p, h1, h2, h3⟩ := okN_py n d hd
  obtain ⟨q, k1, k2, k3⟩ := okN_py n e he
  have a : SeqAt.shaped p = true := by simp only [SeqAt.shaped, h2, Bool.true_and, decide_eq_true_eq]; omega
  have b : SeqAt.shaped q = true := by simp only [SeqAt.shaped, k2, Bool.true_and, decide_eq_true_eq]; omega
  simp only [eqD, h1, k1, eqP, a, b, Bool.and_self, if_true, eqv_of n d e p q hn h1 k1]
@[simp] theorem eqD_int (i j : Int) : eqD (.int i) (.int j) = .ok (decide (i = j)) := by
  rw [eqD_of (n := 1) rfl rfl rfl]; simp
@[simp] theorem eqD_bl (i j : Bool) : eqD (.bl i) (.bl j) = .ok (decide (i = j)) := by
  rw [eqD_of (n := 1) rfl rfl rfl]; simp
@[simp] theorem cop_eq_int (i j : Int) : cop .eq (.int i) (.int j) = .ok (.bl (decide (i = j))) := by simp [cop]
@[simp] theorem cop_ne_int (i j : Int) : cop .ne (.int i) (.int j) = .ok (.bl (!decide (i = j))) := by simp [cop]
@[simp] theorem cop_ne_bl (i j : Bool) : cop .ne (.bl i) (.bl j) = .ok (.bl (!decide (i = j))) := by simp [cop]
@[simp] theorem cop_eq_bl (i j : Bool) : cop .eq (.bl i) (.bl j) = .ok (.bl (decide (i = j))) := by simp [cop]
theorem ok_ints (l : List Int) : okN 1 (.lst (l.map D.int)) = true := by simp [okN]
theorem nice_ints (l m : List Int) : nice 1 (.lst (l.map D.int)) (.lst (m.map D.int)) = true := by
  simp only [nice, List.all_eq_true]
  rintro ⟨x, y⟩ h
  obtain ⟨h1, h2⟩ := List.of_mem_zip h
  obtain ⟨a, _, rfl⟩ := List.mem_map.mp h1
  obtain ⟨b, _, rfl⟩ := List.mem_map.mp h2
  rfl
theorem intInj : Function.Injective D.int := fun a b h => by injection h
theorem eqD_ints (l m : List Int) : eqD (.lst (l.map D.int)) (.lst (m.map D.int)) = .ok (decide (l = m)) := by
  rw [eqD_of (ok_ints l) (ok_ints m) (nice_ints l m)]
  congr 1
  exact decide_eq_decide.mpr ⟨fun h => by injection h with h; exact (List.map_inj_right (fun a b h => by injection h)).mp h, fun h => by rw [h]⟩
open Classical in
theorem memD_of {x : D} : ∀ {xs : List D}, (∀ d ∈ xs, eqD d x = .ok (decide (d = x))) → memD x xs = .ok (decide (x ∈ xs))
  | [], _ => by simp [memD]
  | d :: ds, h => by
    simp only [memD, h d (List.mem_cons_self ..), memD_of fun d hd => h d (List.mem_cons_of_mem _ hd), R.bind_ok, R.ok.injEq]
    by_cases e : d = x
    · subst e; simp
    · have : ¬ x = d := fun k => e k.symm
      simp [e, this]
theorem mem_ints (i : Int) (l : List Int) : memD (.int i) (l.map D.int) = .ok (decide (i ∈ l)) := by
  rw [memD_of (by intro d hd; obtain ⟨a, _, rfl⟩ := List.mem_map.mp hd; simp)]
  congr 1
  exact decide_eq_decide.mpr ⟨fun h => by obtain ⟨a, ha, h⟩ := List.mem_map.mp h; injection h with h; exact h ▸ ha, fun h => List.mem_map_of_mem h⟩
/-! ### ranges -/
theorem rngD_zero (n : Nat) : rngD 0 (n : Int) = (List.range n).map fun k : Nat => D.int (k : Int) := by
  unfold rngD
  rw [show ((n : Int) - 0).toNat = n by omega]
  exact List.map_congr_left fun k _ => by rw [Int.zero_add]
theorem rngD_from (m n : Nat) : rngD (m : Int) (n : Int) = (List.range' m (n - m)).map fun k : Nat => D.int (k : Int) := by
  unfold rngD
  rw [show ((n : Int) - m).toNat = n - m by omega, List.range'_eq_map_range, List.map_map]
  exact List.map_congr_left fun k _ => by simp
theorem okRng_nat {n : Nat} (h : n ≤ 1000000000) : okRng (n : Int) = true := by
  unfold okRng
  simp only [Bool.and_eq_true, decide_eq_true_eq]
  omega
theorem evI_rng1_nat {T : Tb} {a : E} {env : Env} {n : Nat} (h : ev T a env = .ok (.int (n : Int))) (hn : n ≤ 1000000000) : evI T (.rng1 a) env = .ok ((List.range n).map fun k : Nat => D.int (k : Int)) := by
  rw [evI_rng1, h, R.bind_ok]
  show (if okRng (n : Int) = true then _ else _) = _
  rw [if_pos (okRng_nat hn), rngD_zero]
theorem evI_rng2_nat {T : Tb} {a b : E} {env : Env} {m n : Nat} (h : ev T a env = .ok (.int (m : Int))) (k : ev T b env = .ok (.int (n : Int))) (hm : m ≤ 1000000000) (hn : n ≤ 1000000000) : evI T (.rng2 a b) env = .ok ((List.range' m (n - m)).map fun k : Nat => D.int (k : Int)) := by
  rw [evI_rng2, h, R.bind_ok, k, R.bind_ok]
  show (if (okRng (m : Int) && okRng (n : Int)) = true then _ else _) = _
  rw [if_pos (by rw [okRng_nat hm, okRng_nat hn]; rfl), rngD_from]
/-! ### loops -/
section
variable {β : Type} (enc : β → D)
theorem compL_map {f : Env → R (Option D)} {tg : Tg} {env : Env} (p : β → Bool) (r : β → D) : ∀ (l : List β), (∀ b ∈ l, ∃ env', setT tg (enc b) env = some env' ∧ f env' = .ok (if p b = true then some (r b) else none)) → compL f tg env (l.map enc) = .ok ((l.filter p).map r)
  | [], _ => by simp [compL]
  | b :: l, h => by
    obtain ⟨env', h1, h2⟩ := h b (List.mem_cons_self ..)
    have ih := compL_map p r l fun b hb => h b (List.mem_cons_of_mem _ hb)
    by_cases hp : p b = true
    · simp [compL, h1, h2, ih, hp]
    · simp [compL, h1, h2, ih, hp]
theorem ev_comp_map {T : Tb} {elt it cond : E} {tg : Tg} {own : List Nat} {env : Env} (l : List β) (p : β → Bool) (r : β → D) (hI : evI T it env = .ok (l.map enc)) (hb : ∀ b ∈ l, ∃ env', setT tg (enc b) (wipeE (hideO env) own) = some env' ∧ evC T cond env' = .ok (p b) ∧ (p b = true → ev T elt env' = .ok (r b))) (hn : l.length ≤ 16777216) : ev T (.comp elt tg it cond own) env = .ok (.lst ((l.filter p).map r)) := by
  rw [ev_comp, hI, R.bind_ok, compL_map enc p r l, R.bind_ok, if_pos]
  · rw [List.length_map]; exact okLen_small (Nat.le_trans (List.length_filter_le _ _) hn)
  · intro b hb'
    obtain ⟨env', h1, h2, h3⟩ := hb b hb'
    refine ⟨env', h1, ?_⟩
    rw [h2, R.bind_ok]
    by_cases hp : p b = true
    · rw [if_pos hp, if_pos hp, h3 hp, R.bind_ok]
    · rw [if_neg hp, if_neg hp]
theorem forL_inv {f : D → Env → Out} (I : List β → Env → Prop) : ∀ (l pre : List β) (env : Env), I pre env → (∀ a b c env, l = a ++ b :: c → I (pre ++ a) env → ∃ env', (f (enc b) env = .nx env' ∨ f (enc b) env = .ct env') ∧ I (pre ++ a ++ [b]) env') → ∃ env', forL f (l.map enc) env = .nx env' ∧ I (pre ++ l) env'
  | [], pre, env, h, _ => ⟨env, rfl, by simpa using h⟩
  | b :: l, pre, env, h, hs => by
    obtain ⟨e1, k1, k2⟩ := hs [] b l env rfl (by simpa using h)
    obtain ⟨e2, k3, k4⟩ := forL_inv I l (pre ++ [b]) e1 (by simpa using k2) fun a b' c env hl hi => by
      obtain ⟨e, x, y⟩ := hs (b :: a) b' c env (by rw [hl]; rfl) (by simpa using hi)
      exact ⟨e, x, by simpa using y⟩
    refine ⟨e2, ?_, by simpa using k4⟩
    rw [List.map_cons, forL_cons]
    rcases k1 with k1 | k1 <;> rw [k1] <;> exact k3
theorem forL_run {f : D → Env → Out} {l : List β} (I : List β → Env → Prop) {env : Env} (h : I [] env) (hs : ∀ a b c env, l = a ++ b :: c → I a env → ∃ env', (f (enc b) env = .nx env' ∨ f (enc b) env = .ct env') ∧ I (a ++ [b]) env') : ∃ env', forL f (l.map enc) env = .nx env' ∧ I l env' :=
  forL_inv enc I l [] env h hs
/-- a loop that looks for an answer -/
theorem forL_find {f : D → Env → Out} (I : Env → Prop) (g : β → Option D) : ∀ (l : List β) (env : Env), I env → (∀ b ∈ l, ∀ env, I env → (∃ d, g b = some d ∧ f (enc b) env = .rt d) ∨ (g b = none ∧ ∃ env', (f (enc b) env = .nx env' ∨ f (enc b) env = .ct env') ∧ I env')) →
    (∃ d, l.findSome? g = some d ∧ forL f (l.map enc) env = .rt d) ∨ (l.findSome? g = none ∧ ∃ env', forL f (l.map enc) env = .nx env' ∧ I env')
  | [], env, h, _ => .inr ⟨rfl, env, rfl, h⟩
  | b :: l, env, h, hs => by
    rcases hs b (List.mem_cons_self ..) env h with ⟨d, h1, h2⟩ | ⟨h1, e1, h2, h3⟩
    · exact .inl ⟨d, by simp [h1], by rw [List.map_cons, forL_cons, h2]⟩
    · have ih := forL_find I g l e1 h3 fun b hb => hs b (List.mem_cons_of_mem _ hb)
      have e : forL f ((b :: l).map enc) env = forL f (l.map enc) e1 := by
        rw [List.map_cons, forL_cons]; rcases h2 with h2 | h2 <;> rw [h2]
      rw [e]
      simpa [h1] using ih
theorem ex_for_run {T : Tb} {t : Tg} {it : E} {body : S} {env : Env} (l : List β) (I : List β → Env → Prop) (hI : evI T it env = .ok (l.map enc)) (h0 : I [] env) (hs : ∀ a b c env, l = a ++ b :: c → I a env → ∃ e1, setT t (enc b) env = some e1 ∧ ∃ env', (ex T body e1 = .nx env' ∨ ex T body e1 = .ct env') ∧ I (a ++ [b]) env') : ∃ env', ex T (.for_ t it body) env = .nx env' ∧ I l env' := by
  obtain ⟨env', h1, h2⟩ := forL_run enc (f := fun d e => match setT t d e with | some e' => ex T body e' | none => .bad) I h0 fun a b c env hl hi => by
    obtain ⟨e1, k1, env', k2, k3⟩ := hs a b c env hl hi
    exact ⟨env', by simp only [k1]; exact k2, k3⟩
  exact ⟨env', by rw [ex_for, hI, Out.of_ok]; exact h1, h2⟩
theorem ex_for_find {T : Tb} {t : Tg} {it : E} {body : S} {env : Env} (l : List β) (I : Env → Prop) (g : β → Option D) (hI : evI T it env = .ok (l.map enc)) (h0 : I env) (hs : ∀ b ∈ l, ∀ env, I env → ∃ e1, setT t (enc b) env = some e1 ∧ ((∃ d, g b = some d ∧ ex T body e1 = .rt d) ∨ (g b = none ∧ ∃ env', (ex T body e1 = .nx env' ∨ ex T body e1 = .ct env') ∧ I env'))) :
    (∃ d, l.findSome? g = some d ∧ ex T (.for_ t it body) env = .rt d) ∨ (l.findSome? g = none ∧ ∃ env', ex T (.for_ t it body) env = .nx env' ∧ I env') := by
  have h := forL_find enc (f := fun d e => match setT t d e with | some e' => ex T body e' | none => .bad) I g l env h0 fun b hb env hi => by
    obtain ⟨e1, k1, k⟩ := hs b hb env hi
    simp only [k1]
    exact k
  rw [ex_for, hI, Out.of_ok]
  exact h
end
end Rf
/-! # Rf17: defs with defaults -/
namespace Rf
open PySem PySem.Spec L2
/-- a def of the module whose defaults are flat data -/
def DefAtD (g : G) (x : Str) (st : Stmt) (dds : List D) : Prop := g.hx = none ∧ ∃ (f : Addr) (oc : Value) (od : Option Addr) (T : Addr) (oT : Obj) (its : Array Value) (m : Nat) (kV doc pm : Value) (an : Option Addr) (cdv ct : Value) (osl : Array (Option Value)),
  g.mg x = some (.ref f) ∧ g.K.lookup f = some ⟨oc, od, .func (PySem.W.fnOf x x (defArgs st) (defBody st) (defScope st) (.ref T) kV doc pm an cdv ct), osl⟩ ∧ PySem.W.codeIn g.K cdv x = true ∧ PySem.W.keepIn g.K (.ref f) = true ∧
    g.K.lookup T = some oT ∧ oT.data = .seq its m ∧ flatAll its.toList = some dds
def DefFdD (g : G) (x : Str) (st : Stmt) (dds : List D) (fd : FuncData) : Prop := ∃ (T : Addr) (oT : Obj) (its : Array Value) (m : Nat) (kV doc pm : Value) (an : Option Addr) (cdv ct : Value),
  fd = PySem.W.fnOf x x (defArgs st) (defBody st) (defScope st) (.ref T) kV doc pm an cdv ct ∧ g.K.lookup T = some oT ∧ oT.data = .seq its m ∧ flatAll its.toList = some dds
theorem def_okD {g : G} {n : Nat} {x : Str} {st : Stmt} {dds : List D} {N ps : List Str} {T : Tb} {B : Rf.S} (h : DefAtD g x st dds) (S : FnScope N ps (defScope st)) (K : Know g n T) (hck : ckSs N T B (defScope st) (defBody st) = true) (hfr : T.fr = false := by rfl) (hq : T.hm = false := by rfl) (hl : T.lam = false := by rfl) :
    ∃ f fd, FnOk g.P g.w g.K g.mg g.base (L2.CX g.P g.w) (n + 1) f fd ps (spD g (runFn ps.length N.length T B)) ∧ g.mg x = some (.ref f) ∧ PySem.W.keepIn g.K (.ref f) = true ∧ DefFdD g x st dds fd := by
  obtain ⟨hn, f, oc, od, Ta, oT, its, m, kV, doc, pm, an, cdv, ct, osl, h1, h2, h3, h4, h5, h6, h7⟩ := h
  exact ⟨f, _, fn_ok h2 h3 S hn hfr hq K hck (fun z => by rw [hl] at z; cases z), h1, h4, Ta, oT, its, m, kV, doc, pm, an, cdv, ct, rfl, h5, h6, h7⟩
theorem flatAll_len : ∀ {us : List Value} {ds : List D}, flatAll us = some ds → us.length = ds.length
  | [], ds, h => by cases h; rfl
  | u :: us, ds, h => by
    unfold flatAll at h
    split at h
    · rename_i d ds' h1 h2
      cases h
      rw [List.length_cons, List.length_cons, flatAll_len h2]
    · cases h
/-- called with m values; the defaults behind the first j fill up -/
theorem def_prmD {g : G} {n : Nat} {x : Str} {st : Stmt} {ps : List Str} {dds : List D} {F : Fn} (j m : Nat) (h : ∃ f fd, FnOk g.P g.w g.K g.mg g.base (L2.CX g.P g.w) n f fd ps (spD g F) ∧ g.mg x = some (.ref f) ∧ PySem.W.keepIn g.K (.ref f) = true ∧ DefFdD g x st dds fd)
    (hn : m + (dds.length - j) = ps.length)
    (hb : ∀ (T : Addr) (kV doc pm : Value) (an : Option Addr) (cdv ct : Value) (us its : List Value), us.length = m → its.length = dds.length →
      ∃ k, bindArgs (PySem.W.fnOf x x (defArgs st) (defBody st) (defScope st) (.ref T) kV doc pm an cdv ct) ⟨us, []⟩ = seqItems? (.ref T) >>= k ∧ k (some its.toArray) = pure (ps.zip (us ++ its.drop j))) :
    Prm g n x (fun ds => F (ds ++ dds.drop j)) := by
  obtain ⟨f, fd, h1, h2, h3, T, oT, its, mm, kV, doc, pm, an, cdv, ct, rfl, lT, oTd, hfl⟩ := h
  have hl := flatAll_len hfl
  obtain ⟨vs, rv, rr⟩ := reps_flat (g := g) hfl
  refine prm_of (dvs := vs.drop j) (dds := dds.drop j) (dus := its.toList.drop j) h1 h2 h3 ?_ (rv.drop j) (fun H => (rr H).drop j)
  intro s us X hlen
  have hlen' : us.length = m := by
    rw [List.length_append, List.length_drop, hl] at hlen
    omega
  obtain ⟨k, e1, e2⟩ := hb T kV doc pm an cdv ct us its.toList hlen' hl
  refine BindsTo.of_looks fun M => ?_
  rw [e1]
  exact looks_items X lT oTd (.of_pure e2)
/-- what the head's word finds of a def with defaults -/
theorem defAtD {P : Program} {w : World} {K : PySem.W.Frag} {h : Heap} {mg : Str → Option Value} {x : Str} {st : Stmt} {f T : Addr} {oc kV doc pm cdv ct : Value} {od an dT : Option Addr} {osl sT : Array (Option Value)} {cT : Value} {its : Array Value} {m : Nat} {dds : List D} (X : K.In h) (G : h.Ns mainGlobals mg)
    (a : PySem.W.nsIn K mainGlobals x = some (some (.ref f))) (l : K.lookup f = some ⟨oc, od, .func (PySem.W.fnOf x x (defArgs st) (defBody st) (defScope st) (.ref T) kV doc pm an cdv ct), osl⟩) (c : PySem.W.codeIn K cdv x = true) (k : PySem.W.keepIn K (.ref f) = true)
    (lT : K.lookup T = some ⟨cT, dT, .seq its m, sT⟩) (hd : flatAll its.toList = some dds) :
    ∀ base, DefAtD ⟨P, w, K, mg, base, none⟩ x st dds := fun base => ⟨rfl, f, oc, od, T, _, its, m, kV, doc, pm, an, cdv, ct, osl, PySem.W.mg_of X G a, l, c, k, lT, rfl, hd⟩
end Rf
/-! # Rf25: own classes: __init__, methods, properties, walks -/
namespace Rf
open PySem PySem.Spec L2
open Classical
/-- __init__ of class c, its object at p: np parameters behind self, nn names -/
noncomputable def initP (np nn : Nat) (T : Tb) (B : Rf.S) (c : Str) (p : Addr) (ds : List D) : R D := if ds.length = np then (match ex T B (some (.n p c []) :: (ds.map (fun d => some (.v d)) ++ List.replicate (nn - (np + 1)) none)) with
    | .nx env => (match env[0]? with
      | some (some (Sl.n q c' fs)) => if q = p then .ok (.obj c' fs) else .bad
      | _ => .bad)
    | .err x _ => .err x
    | _ => .bad) else .bad
/-- the same wherever the object stands -/
noncomputable def runInit (np nn : Nat) (T : Tb) (B : Rf.S) (c : Str) : Fn := fun ds => if h : ∃ r, ∀ p, initP np nn T B c p ds = r then h.choose else .bad
theorem runInit_of {np nn : Nat} {T : Tb} {B : Rf.S} {c : Str} {ds : List D} {r : R D} (h : ∀ p, initP np nn T B c p ds = r) : runInit np nn T B c ds = r := by
  have hx : ∃ r, ∀ p, initP np nn T B c p ds = r := ⟨r, h⟩
  unfold runInit
  rw [dif_pos hx]
  exact (hx.choose_spec 0).symm.trans (h 0)
theorem runInit_at {np nn : Nat} {T : Tb} {B : Rf.S} {c : Str} {ds : List D} (h : runInit np nn T B c ds ≠ .bad) (p : Addr) : initP np nn T B c p ds = runInit np nn T B c ds := by
  unfold runInit at h ⊢
  by_cases hx : ∃ r, ∀ p, initP np nn T B c p ds = r
  · rw [dif_pos hx]; exact hx.choose_spec p
  · rw [dif_neg hx] at h; exact absurd rfl h
/-- what __init__ promises: the object stands made -/
def spI (g : G) (C : Addr) (F : Fn) : Sp := fun vs H Q Ex => ∃ (x dx : Addr) (H0 Hf : Hp) (ws : List V) (ds : List D), vs = .ref x :: ws ∧ H = upd (upd H0 dx (.own x)) x (.ins C dx []) ∧ H0 x = none ∧ H0 dx = none ∧ dx ≠ x ∧ Same Hf H0 ∧ TbOk g H0 Hf ∧ Reps g Hf ws ds ∧
  RG g (fun cls d _ H' => Ex cls d H') [] (fun d H1 Hf1 => ∀ H' Hf', Fut H1 Hf1 H' Hf' → Rep g Hf' (.ref x) d → Q .non H') (F ds) H0 Hf
theorem start_n {g : G} {N : List Str} {H0 Hf : Hp} {ws : List V} {ds : List D} {x dx C : Addr} {c : Str} (hm : g.mg c = some (.ref C)) (h1 : H0 x = none) (h2 : H0 dx = none) (h3 : dx ≠ x) (sub : Same Hf H0) (tb : TbOk g H0 Hf) (r : Reps g Hf ws ds) :
    SR g H0 Hf (L2.start N (.ref x :: ws)) (upd (upd H0 dx (.own x)) x (.ins C dx [])) Hf (some (.n x c []) :: (ds.map (fun d => some (Sl.v d)) ++ List.replicate (N.length - (ds.length + 1)) none)) := by
  have e1 : Same H0 (upd H0 dx (.own x)) := same_upd h2
  have n1 : (upd H0 dx (.own x)) x = none := by rw [upd_ne (Ne.symm h3)]; exact h1
  have e2 : Same H0 (upd (upd H0 dx (.own x)) x (.ins C dx [])) := e1.trans (same_upd n1)
  have fut : Fut H0 Hf (upd (upd H0 dx (.own x)) x (.ins C dx [])) Hf := ⟨.of e2, .refl _, sub.trans e2, fun _ _ h => h⟩
  have hl := r.length
  have get : ∀ (i : Nat) (s : Sl), (ds.map (fun d => some (Sl.v d)) ++ List.replicate (N.length - (ds.length + 1)) none)[i]? = some (some s) → ∃ d, s = .v d ∧ ds[i]? = some d := fun i s h => by
    by_cases hi : i < ds.length
    · rw [List.getElem?_append_left (by simpa using hi), List.getElem?_map] at h
      rw [List.getElem?_eq_getElem hi] at h ⊢
      cases h
      exact ⟨_, rfl, rfl⟩
    · rw [List.getElem?_append_right (by simp; omega), List.getElem?_replicate] at h
      split at h <;> cases h
  have own : ∀ (i : Nat) (s : Sl), (some (Sl.n x c []) :: (ds.map (fun d => some (Sl.v d)) ++ List.replicate (N.length - (ds.length + 1)) none))[i]? = some (some s) → s.own = true → i = 0 := fun i s h o => by
    cases i with
    | zero => rfl
    | succ i =>
      obtain ⟨d, rfl, _⟩ := get i s (by simpa using h)
      cases o
  refine ⟨fut, by simp [L2.start, hl], fun i s h => ?_, fun i j s t hne h1 h2 o1 o2 => ?_, tb.mono fut⟩
  · cases i with
    | zero =>
      simp at h
      subst h
      exact ⟨.ref x, by simp [L2.start], .n upd_same (sub.free h1) h1 hm .nil⟩
    | succ i =>
      obtain ⟨d, rfl, hd⟩ := get i s (by simpa using h)
      obtain ⟨v, hv, rv⟩ := r.get hd
      refine ⟨v, ?_, .v rv⟩
      have hi : i < ws.length := (List.getElem?_eq_some_iff.mp hv).1
      unfold L2.start
      rw [List.map_cons, List.cons_append, List.getElem?_cons_succ, List.getElem?_append_left (by simpa using hi), List.getElem?_map, hv]
      rfl
  · exact absurd ((own i s h1 o1).trans (own j t h2 o2).symm) hne
/-- an own class whose __init__ is a def of the text -/
theorem init_ok {g : G} {n : Nat} {f C : Addr} {c : Str} {name qual : Str} {params : Arguments} {body : List Stmt} {scope : Scope} {dV kV doc pm cdv ct oc : Value} {an od : Option Addr} {osl : Array (Option Value)} {N : List Str} {p0 : Str} {ps : List Str} {T : Tb} {B : Rf.S}
    (lk : g.K.lookup f = some ⟨oc, od, .func (PySem.W.fnOf name qual params body scope dV kV doc pm an cdv ct), osl⟩) (hcd : PySem.W.codeIn g.K cdv qual = true) (S : FnScope N (p0 :: ps) scope)
    (hn : g.hx = none) (hm : g.mg c = some (.ref C)) (hfr : T.fr = false) (hq : T.hm = false) (hlam : T.lam = false) (K : Know g n T) (hck : ckSs N T B scope body = true) :
    FnOk g.P g.w g.K g.mg g.base (L2.CX g.P g.w) (n + 1) f (PySem.W.fnOf name qual params body scope dV kV doc pm an cdv ct) (p0 :: ps) (spI g C (runInit ps.length N.length T B c)) := by
  obtain ⟨P0, w0, K0, mg0, base0, hx0⟩ := g
  obtain rfl : hx0 = none := hn
  let g : G := ⟨P0, w0, K0, mg0, base0, none⟩
  have good : ∀ {vs H Q E}, spI g C (runInit ps.length N.length T B c) vs H Q E → vs.length = (p0 :: ps).length := fun {vs H Q E} h => by
    obtain ⟨x, dx, H0, Hf, ws, ds, rfl, _, _, _, _, _, _, r, h⟩ := h
    have nb : runInit ps.length N.length T B c ds ≠ .bad := fun z => by rw [z] at h; exact h
    have e := runInit_at nb 0
    unfold initP at e
    by_cases hd : ds.length = ps.length
    · rw [List.length_cons, List.length_cons, r.length, hd]
    · rw [if_neg hd] at e; exact absurd e.symm nb
  refine fn_of lk hcd S (fun vs H Q E h => good h) fun A outer s H vs Q E hr h => ?_
  have hlen := good h
  obtain ⟨x, dx, H0, Hf, ws, ds, rfl, rfl, h1, h2, h3, sub, tb, r, h⟩ := h
  have nb : runInit ps.length N.length T B c ds ≠ .bad := fun z => by rw [z] at h; exact h
  have e := runInit_at nb x
  rw [← e] at h
  have hd : ds.length = ps.length := by rw [List.length_cons, List.length_cons, r.length] at hlen; omega
  unfold initP at h
  rw [if_pos hd] at h
  let X := cxOf (L2.CX g.P g.w) g.P g.w g.K g.mg g.base N qual scope f cdv A outer s (upd (upd H0 dx (.own x)) x (.ins C dx [])) E
  have G : GoodS N scope n X := {
    eN := rfl, vis := fun x hx => vis_of hx, gl := fun x hx => by
      unfold glB at hx; split at hx
      · assumption
      · cases hx
    loc := fun x hx => ⟨loc_of hx, .inl rfl⟩, cf := fun x hx => hx, calm := rfl, room := hr, nd := S.nd, un := Nat.lt_of_le_of_lt (Nat.add_le_add_right (Nat.le_add_right _ _) _) hr.un, eS := rfl, kind := S.kind, po := passes_of rfl, stk := rfl, fr := rfl }
  refine ⟨tDS g T (fun cls d _ H' => E cls d H') B, (sns B).B X scope body _ ⟨gmq hq G.toGood, G.eS, G.kind, G.po, G.stk, G.fr⟩ (takes_of rfl rfl rfl rfl) K (fun z => by rw [hlam] at z; cases z) hck, ?_⟩
  have sr := start_n (g := g) (N := N) (c := c) hm h1 h2 h3 sub tb r
  rw [hd] at sr
  refine ⟨H0, Hf, Hf, _, sr, ?_⟩
  rw [hfr]
  generalize ex T B (some (.n x c []) :: (ds.map (fun d => some (Sl.v d)) ++ List.replicate (N.length - (ps.length + 1)) none)) = o at h ⊢
  cases o with
  | nx env =>
    simp only at h
    split at h
    · rename_i q c' fs he
      intro σ' H' Hf' r' _
      obtain ⟨v, hσ, sl⟩ := r'.slot 0 _ he
      cases sl with
      | @n _ C' dx' _ vs' _ z1 z2 z3 z4 z5 =>
        split at h
        · rename_i hqx
          subst hqx
          refine h H' (upd Hf' q (.ins C' dx' vs')) (Fut.add r'.sub z1 z3 r'.fut z2) (.obj z4 upd_same (z5.mono (same_upd z2)))
        · exact h.elim
    · exact h.elim
  | rt d => exact h.elim
  | err y env => exact fun σ' H' Hf' cls dx r' _ xr => h cls dx H' Hf' r'.fut xr
  | bk env => exact h.elim
  | ct env => exact h.elim
  | bad => exact h.elim
/-- a class's promise, called by its name -/
theorem cls_prm {g : G} {n : Nat} {x : Str} {f C : Addr} {fd : FuncData} {p0 : Str} {ps : List Str} {F : Fn} (hf : FnOk g.P g.w g.K g.mg g.base (L2.CX g.P g.w) n f fd (p0 :: ps) (spI g C F)) (hm : g.mg x = some (.ref C)) (M : Mk g.K C f)
    (hb : Binds g.K fd (p0 :: ps) []) : Prm g (n + 1) x F := by
  refine ⟨C, hm, M.kp, fun X hX room W tk pins s σ H Hf Q us vs ds I rv sub tb rr h => ?_⟩
  subst hX
  have fresh1 : H (s.heap.objs.size + 1) = none := I.hok.fresh (Nat.le_succ _)
  have fresh2 : H s.heap.objs.size = none := I.hok.fresh (Nat.le_refl _)
  have apart : s.heap.objs.size ≠ s.heap.objs.size + 1 := Nat.ne_of_lt (Nat.lt_succ_self _)
  have want : spI (gOf X) C F (.ref (s.heap.objs.size + 1) :: vs) (upd (upd H s.heap.objs.size (.own (s.heap.objs.size + 1))) (s.heap.objs.size + 1) (.ins C s.heap.objs.size [])) (fun v H2 => v = .non ∧ Q (.ref (s.heap.objs.size + 1)) H2) (fun cls d H' => W cls d σ H') :=
    ⟨_, _, H, Hf, vs, ds, rfl, rfl, fresh1, fresh2, apart, sub, tb, rr, by
      cases hF : F ds with
      | ok d => rw [hF] at h; exact fun H' Hf' f' r => ⟨rfl, h _ H' Hf' f' r⟩
      | err z => rw [hF] at h; exact h
      | bad => rw [hF] at h; exact h⟩
  have I2 := Inv.made (C := C) I
  have r2 : Vals (V.ref (s.heap.objs.size + 1) :: vs) (Value.ref (s.heap.objs.size + 1) :: us) := .cons rfl rv
  have fit : ((Value.ref (s.heap.objs.size + 1) :: us) ++ []).length = (p0 :: ps).length := by
    rw [List.append_nil, ← r2.length]; exact hf.len _ _ _ _ want
  have bound := hb _ (Value.ref (s.heap.objs.size + 1) :: us) I2.kIn fit
  rw [List.append_nil] at bound
  refine wpAny_call (make_map (f := f) I.kIn M.makes M.init (beq_iff_eq.mp M.fn) (codeAny_mono (hf.run _ X.stack _ _ ⟨_, []⟩ _ _ _ _ (room.make C us []) (I2.env0.make C us []) bound r2 want) fun r s' back => ?_))
  cases r with
  | error e => exact passAt tk σ pins _ _ e s' I2 back
  | ok fl =>
    cases fl with
    | ret u =>
      obtain ⟨v, H', I3, ru, ev, q⟩ := I2.after back
      subst ev
      exact ⟨ru, .ref (s.heap.objs.size + 1), H', I3, rfl, q⟩
    | next => exact False.elim back
    | brk => exact False.elim back
    | cont => exact False.elim back
/-- a def runs wherever its caller's frames stand -/
theorem runs_at {g : G} {n : Nat} {f : Addr} {fd : FuncData} {ps : List Str} {F : Fn} (hf : FnOk g.P g.w g.K g.mg g.base (L2.CX g.P g.w) n f fd ps (spD g F)) (hb : Binds g.K fd ps []) : RunsAt g n f F := by
  intro X hX A1 hA room W tk pins s σ H Hf Q us vs ds I rv sub tb rr h
  subst hX
  have want : spD (gOf X) F vs H Q (fun cls d H' => W cls d σ H') := ⟨Hf, ds, sub, tb, rr, by
    cases hF : F ds with
    | ok d => rw [hF] at h; exact h
    | err z => rw [hF] at h; exact h
    | bad => rw [hF] at h; exact h⟩
  have fit : (us ++ []).length = ps.length := by rw [List.append_nil, ← rv.length]; exact hf.len _ _ _ _ want
  have bound := hb s us I.kIn fit
  rw [List.append_nil] at bound
  have e := I.env0
  have e0 : Env0 X.prog X.w X.K X.mg X.base A1 X.stack s H := ⟨by rw [hA]; exact e.frames, e.mod, e.bs, e.bsz, e.funs, e.frf, e.hok, e.bare⟩
  refine codeAny_mono (hf.run A1 X.stack s H ⟨us, []⟩ us vs Q _ room e0 bound rv want) fun r s' back => ?_
  cases r with
  | error e => exact passAt tk σ pins H s e s' I back
  | ok fl =>
    cases fl with
    | ret u => exact I.after back
    | next => exact False.elim back
    | brk => exact False.elim back
    | cont => exact False.elim back
/-! ### what the head gives of a class -/
def clsB (st : Stmt) (j : Nat) : Stmt := match st with
  | .ClassDef _ _ _ b _ _ _ _ _ _ _ => b.getD j (.Pass ⟨0, 0, 0, 0⟩)
  | _ => .Pass ⟨0, 0, 0, 0⟩
/-- the def at f is the text's -/
def FnAt (g : G) (f : Addr) (m qual : Str) (st : Stmt) : Prop := ∃ (oc : Value) (od : Option Addr) (kV doc pm : Value) (an : Option Addr) (cdv ct : Value) (osl : Array (Option Value)),
  g.K.lookup f = some ⟨oc, od, .func (PySem.W.fnOf m qual (defArgs st) (defBody st) (defScope st) .none kV doc pm an cdv ct), osl⟩ ∧ PySem.W.codeIn g.K cdv qual = true
def FnFd (m qual : Str) (st : Stmt) (fd : FuncData) : Prop := ∃ (kV doc pm : Value) (an : Option Addr) (cdv ct : Value), fd = PySem.W.fnOf m qual (defArgs st) (defBody st) (defScope st) .none kV doc pm an cdv ct
structure InitAt (g : G) (c qual : Str) (st : Stmt) : Prop where
  hn : g.hx = none
  ex : ∃ C f, g.mg c = some (.ref C) ∧ Mk g.K C f ∧ FnAt g f "__init__" qual st
structure MethAt (g : G) (c m qual : Str) (st : Stmt) : Prop where
  hn : g.hx = none
  ex : ∃ C f, g.mg c = some (.ref C) ∧ Cls g.K C ∧ Meth g.K C m f ∧ FnAt g f m qual st
structure PropAt (g : G) (c m qual : Str) (st : Stmt) : Prop where
  hn : g.hx = none
  ex : ∃ C p f, g.mg c = some (.ref C) ∧ Cls g.K C ∧ PropOf g.K C m p f ∧ FnAt g f m qual st
structure FldAt (g : G) (c f : Str) : Prop where
  ex : ∃ C, g.mg c = some (.ref C) ∧ Cls g.K C ∧ NoAttr g.K C f
abbrev BindsAll (m qual : Str) (st : Stmt) (ps : List Str) : Prop := ∀ (kV doc pm : Value) (an : Option Addr) (cdv ct : Value) (us : List Value), us.length = ps.length → bindArgs (PySem.W.fnOf m qual (defArgs st) (defBody st) (defScope st) .none kV doc pm an cdv ct) ⟨us, []⟩ = pure (ps.zip us)
theorem cls_ok {g : G} {n : Nat} {c qual : Str} {st : Stmt} {N : List Str} {p0 : Str} {ps : List Str} {T : Tb} {B : Rf.S} (h : InitAt g c qual st) (S : FnScope N (p0 :: ps) (defScope st)) (K : Know g n T) (hck : ckSs N T B (defScope st) (defBody st) = true) (hb : BindsAll "__init__" qual st (p0 :: ps)) (hfr : T.fr = false := by rfl) (hq : T.hm = false := by rfl) (hl : T.lam = false := by rfl) :
    Prm g (n + 2) c (runInit ps.length N.length T B c) := by
  obtain ⟨hn, C, f, h1, M, oc, od, kV, doc, pm, an, cdv, ct, osl, h2, h3⟩ := h
  exact cls_prm (init_ok h2 h3 S hn h1 hfr hq hl K hck) h1 M (Binds.all (hb kV doc pm an cdv ct))
theorem meth_ok {g : G} {n : Nat} {c m qual : Str} {st : Stmt} {N ps : List Str} {T : Tb} {B : Rf.S} (h : MethAt g c m qual st) (S : FnScope N ps (defScope st)) (K : Know g n T) (hck : ckSs N T B (defScope st) (defBody st) = true) (hb : BindsAll m qual st ps) (hfr : T.fr = false := by rfl) (hq : T.hm = false := by rfl) (hl : T.lam = false := by rfl) :
    PrmM g (n + 1) c m (runFn ps.length N.length T B) := by
  obtain ⟨hn, C, f, h1, cl, me, oc, od, kV, doc, pm, an, cdv, ct, osl, h2, h3⟩ := h
  exact ⟨C, f, h1, cl, me, runs_at (fn_ok h2 h3 S hn hfr hq K hck (fun z => by rw [hl] at z; cases z)) (Binds.all (hb kV doc pm an cdv ct))⟩
theorem prop_ok {g : G} {n : Nat} {c m qual : Str} {st : Stmt} {N ps : List Str} {T : Tb} {B : Rf.S} (h : PropAt g c m qual st) (S : FnScope N ps (defScope st)) (K : Know g n T) (hck : ckSs N T B (defScope st) (defBody st) = true) (hb : BindsAll m qual st ps) (hfr : T.fr = false := by rfl) (hq : T.hm = false := by rfl) (hl : T.lam = false := by rfl) :
    PrmP g (n + 2) c m (runFn ps.length N.length T B) := by
  obtain ⟨hn, C, p, f, h1, cl, pr, oc, od, kV, doc, pm, an, cdv, ct, osl, h2, h3⟩ := h
  exact ⟨C, p, f, n + 1, Nat.le_refl _, h1, cl, pr, runs_at (fn_ok h2 h3 S hn hfr hq K hck (fun z => by rw [hl] at z; cases z)) (Binds.all (hb kV doc pm an cdv ct))⟩
theorem RunsAt.mono {g : G} {n k : Nat} {f : Addr} {F : Fn} (h : RunsAt g n f F) (hl : n ≤ k) : RunsAt g k f F := fun X hX A1 hA room => h X hX A1 hA (room.mono hl)
theorem PrmM.mono {g : G} {n k : Nat} {c m : Str} {F : Fn} (h : PrmM g n c m F) (hl : n ≤ k) : PrmM g k c m F := by
  obtain ⟨C, f, h1, h2, h3, h4⟩ := h.ex
  exact ⟨C, f, h1, h2, h3, h4.mono hl⟩
theorem PrmM.len {g : G} {n k : Nat} {c m : Str} {F : Fn} (h : PrmM g n c m F) (hl : n + 1 ≤ k) : PrmL g k c m F := by
  obtain ⟨C, f, h1, h2, h3, h4⟩ := h.ex
  exact ⟨C, f, n, hl, h1, h2, h3, h4⟩
theorem PrmP.mono {g : G} {n k : Nat} {c m : Str} {F : Fn} (h : PrmP g n c m F) (hl : n ≤ k) : PrmP g k c m F := by
  obtain ⟨C, p, f, j, h0, h1, h2, h3, h4⟩ := h.ex
  exact ⟨C, p, f, j, Nat.le_trans h0 hl, h1, h2, h3, h4⟩
end Rf
/-! # Rf26: __iter__ of an own class: iter(self.f) -/
namespace Rf
open PySem PySem.Spec L2
section
variable {prog : Program} {w : World} {A : Around} {E : Value → Shared → Prop} {s : Shared} {t : Addr} {items : Array Value}
theorem iter_tup {Q : Value → Shared → Prop} (ht : s.heap.IsTuple t items) (h : ∀ h', (∀ b u, s.heap.get? b = some u → h'.get? b = some u) → h'.IsTupleIter s.heap.objs.size t 0 → Q (.ref s.heap.objs.size) { s with heap := h' }) : wpAny (model prog w) A (call (.builtin "iter") [.ref t]) Q E s := by
  refine Calls.call_function_entry (by decide +kernel) (by decide +kernel) PySem.W.kdk_entry_iter (PySem.W.kdk_args_iter _) ?_
  unfold Builtin.«iter»
  refine wpAny_bind (m := someArgs "iter" 1 2 _) (wpAny_of_eq (a := [Value.ref t]) (by first | rfl | kernel_rfl!) (wpAny_bind (m := pyIter (.ref t)) (wpAny_pyIter_tuple ht (wpAny_pure ⟨_, rfl, h _ (fun b u e => Heap.get?_push_of_some _ e) ⟨_, Heap.get?_push_size _ rfl, rfl, rfl⟩⟩))))
end
section
variable {X : Cx}
theorem itT_ok {P : Program} {w : World} {H : Hp} {h : Heap} {t it : Addr} (e : h.IsTupleIter it t 0) : ObjOk P w H h it (ItT t it) := by
  obtain ⟨o, e1, e2, e3⟩ := id e
  exact ⟨e, ⟨o, e1⟩, fun h1 h2 q k => q.at fun o e => k _ e⟩
theorem call_iterT : CallR X (.builtin "iter") (fun xs H Q => ∃ (t : Addr) (zs : List V), xs = [.ref t] ∧ SqT X.K H t zs ∧ ∀ it, H it = none → X.s_0.heap.objs.size ≤ it → Q (.ref it) (upd H it (ItT t it))) := by
  intro pins s σ H xs us Q I r h
  obtain ⟨t, zs, rfl, hq, q⟩ := h
  obtain ⟨u, rfl, ru⟩ := vals1 r
  cases ru
  obtain ⟨its, rv, pl, hz⟩ := I.tuple hq
  refine iter_tup (show s.heap.IsTuple t its.toArray from pl) fun h' kp st => ?_
  exact ⟨.ref s.heap.objs.size, _, I.laid (t' := s.toks) kp (Nat.le_refl _) (itT_ok st), rfl, q _ (I.hok.fresh (Nat.le_refl _)) I.sz⟩
end
/-- the body is: return iter(self.f) -/
def itBody (f : Str) : List Stmt → Bool
  | [.Return (some (.Call (.Name a _) [.Attribute (.Name b _) f' _] [] _)) _] => decide (a = "iter") && decide (b = "self") && decide (f' = f)
  | _ => false
structure ItAt (g : G) (c qual f : Str) (st : Stmt) : Prop where
  hn : g.hx = none
  ex : ∃ C fi, g.mg c = some (.ref C) ∧ Cls g.K C ∧ NoAttr g.K C f ∧ PySem.W.findIn g.K (.ref C) "__iter__" = some (some (.ref fi)) ∧ PySem.W.isFn g.K (.ref fi) = true ∧ FnAt g fi "__iter__" qual st
theorem it_ok {g : G} {c qual f : Str} {st : Stmt} (h : ItAt g c qual f st) (hi : g.mg "iter" = none) (S : FnScope ["self"] ["self"] (defScope st)) (hg : glB (defScope st) "iter" = true) (hb : itBody f (defBody st) = true) (bb : BindsAll "__iter__" qual st ["self"]) : ItOk g 1 c f := by
  obtain ⟨hn, C, fi, h1, cl, na, h2, h3, oc, od, kV, doc, pm, an, cdv, ct, osl, h4, h5⟩ := h
  refine ⟨C, fi, _, h1, cl, h2, h3, fnS_of (N := ["self"]) h4 h5 S (fun s vs H Q E ⟨_, _, _, _, _, _, _, e, _⟩ => by rw [e]; rfl) (fun A outer s H vs Q E hr h => ?_), Binds.all (bb kV doc pm an cdv ct)⟩
  obtain ⟨a, C', dx, fs, t, xs, hm, rfl, hh, hl, hq, go⟩ := h
  have e : C' = C := by
    have e : some (Value.ref C') = some (Value.ref C) := hm.symm.trans h1
    cases e; rfl
  subst e
  unfold itBody at hb
  split at hb
  · rename_i a1 q1 b1 q2 f1 q3 q4 q5 hbody
    simp only [Bool.and_eq_true, decide_eq_true_eq] at hb
    obtain ⟨⟨rfl, rfl⟩, rfl⟩ := hb
    rw [hbody]
    have hv : Vis (defScope st) "self" := (S.par "self" (List.Mem.head _)).elim (fun z => .inl z) (fun z => .inr (.inl z))
    have hgl : Gl (cxOf (L2.CX g.P g.w) g.P g.w g.K g.mg g.base ["self"] qual (defScope st) fi cdv A outer s H E) "iter" := by
      unfold glB at hg; split at hg
      · assumption
      · cases hg
    refine ⟨_, pss_one (ps_ret (pe_callB call_iterT hgl hi (by decide +kernel) (pa_cons (pe_fld (pe_var (i := 0) rfl hv) rfl) pa_nil rfl) (by decide) (by decide) rfl rfl)), ?_⟩
    exact ⟨.ref a, rfl, a, C', dx, fs, .ref t, rfl, hh, cl, na, hl, t, xs, rfl, hq, fun it e1 e2 => go it e1 e2⟩
  · cases hb
theorem ItOk.mono {g : G} {n k : Nat} {c f : Str} (h : ItOk g n c f) (hl : n ≤ k) : ItOk g k c f := by
  obtain ⟨C, fi, fd, h1, h2, h3, h4, h5, h6⟩ := h.ex
  exact ⟨C, fi, fd, h1, h2, h3, h4, ⟨fun A outer s H args us vs Q E room => h5.go A outer s H args us vs Q E (room.mono hl)⟩, h6⟩
end Rf
namespace Rf
open PySem PySem.Spec L2
section
variable {P : Program} {w : World} {K : PySem.W.Frag} {h : Heap} {mg : Str → Option Value} {c m qual : Str} {st : Stmt} {C f p : Addr} {oc kV doc pm cdv ct : Value} {od an : Option Addr} {osl : Array (Option Value)}
theorem initAt (X : K.In h) (G : h.Ns mainGlobals mg) (a : PySem.W.nsIn K mainGlobals c = some (some (.ref C))) (i : PySem.W.findIn K (.ref C) "__init__" = some (some (.ref f))) (mk : PySem.W.makesIn K C = true) (fn : PySem.W.isFn K (.ref f) = true) (kp : PySem.W.keepIn K (.ref C) = true)
    (l : K.lookup f = some ⟨oc, od, .func (PySem.W.fnOf "__init__" qual (defArgs st) (defBody st) (defScope st) .none kV doc pm an cdv ct), osl⟩) (d : PySem.W.codeIn K cdv qual = true) : ∀ base, InitAt ⟨P, w, K, mg, base, none⟩ c qual st := fun base =>
  ⟨rfl, C, f, PySem.W.mg_of X G a, ⟨mk, i, fn, kp⟩, oc, od, kV, doc, pm, an, cdv, ct, osl, l, d⟩
def clsOkB (K : PySem.W.Frag) (C : Addr) : Bool := PySem.W.plainGet K C Str.empty && PySem.W.hasDictIn K C && PySem.W.plainOver K C && decide (PySem.W.findIn K (.ref C) "__setattr__" = some (some (.builtin "object.__setattr__")))
theorem clsOk (e : clsOkB K C = true) : Cls K C := by
  unfold clsOkB at e
  simp only [Bool.and_eq_true, decide_eq_true_eq] at e
  exact ⟨e.1.1.1, e.1.1.2, e.1.2, e.2⟩
theorem methAt (X : K.In h) (G : h.Ns mainGlobals mg) (a : PySem.W.nsIn K mainGlobals c = some (some (.ref C))) (i : PySem.W.findIn K (.ref C) m = some (some (.ref f))) (cl : clsOkB K C = true) (fn : PySem.W.isFn K (.ref f) = true) (kp : PySem.W.keepIn K (.ref f) = true)
    (l : K.lookup f = some ⟨oc, od, .func (PySem.W.fnOf m qual (defArgs st) (defBody st) (defScope st) .none kV doc pm an cdv ct), osl⟩) (d : PySem.W.codeIn K cdv qual = true) : ∀ base, MethAt ⟨P, w, K, mg, base, none⟩ c m qual st := fun base =>
  ⟨rfl, C, f, PySem.W.mg_of X G a, clsOk cl, ⟨i, fn, kp⟩, oc, od, kV, doc, pm, an, cdv, ct, osl, l, d⟩
theorem propAt {rest : List Value} (X : K.In h) (G : h.Ns mainGlobals mg) (a : PySem.W.nsIn K mainGlobals c = some (some (.ref C))) (i : PySem.W.findIn K (.ref C) m = some (some (.ref p))) (cl : clsOkB K C = true) (g : PySem.W.specialIn K (.ref p) "__get__" = some (some (.builtin "property.__get__"))) (tk : PySem.W.takesIn K (.ref p) = some true)
    (r : PySem.W.recIn K p "property" = some (.ref f :: rest)) (l : K.lookup f = some ⟨oc, od, .func (PySem.W.fnOf m qual (defArgs st) (defBody st) (defScope st) .none kV doc pm an cdv ct), osl⟩) (d : PySem.W.codeIn K cdv qual = true) : ∀ base, PropAt ⟨P, w, K, mg, base, none⟩ c m qual st := fun base =>
  ⟨rfl, C, p, f, PySem.W.mg_of X G a, clsOk cl, ⟨i, g, tk, rest, r⟩, oc, od, kV, doc, pm, an, cdv, ct, osl, l, d⟩
theorem fldAt (X : K.In h) (G : h.Ns mainGlobals mg) (a : PySem.W.nsIn K mainGlobals c = some (some (.ref C))) (cl : clsOkB K C = true) (n : PySem.W.findIn K (.ref C) m = some none) : ∀ base, FldAt ⟨P, w, K, mg, base, none⟩ c m := fun base =>
  ⟨C, PySem.W.mg_of X G a, clsOk cl, n⟩
theorem itAt {fl : Str} (X : K.In h) (G : h.Ns mainGlobals mg) (a : PySem.W.nsIn K mainGlobals c = some (some (.ref C))) (i : PySem.W.findIn K (.ref C) "__iter__" = some (some (.ref f))) (cl : clsOkB K C = true) (n : PySem.W.findIn K (.ref C) fl = some none) (fn : PySem.W.isFn K (.ref f) = true)
    (l : K.lookup f = some ⟨oc, od, .func (PySem.W.fnOf "__iter__" qual (defArgs st) (defBody st) (defScope st) .none kV doc pm an cdv ct), osl⟩) (d : PySem.W.codeIn K cdv qual = true) : ∀ base, ItAt ⟨P, w, K, mg, base, none⟩ c qual fl st := fun base =>
  ⟨rfl, C, f, PySem.W.mg_of X G a, clsOk cl, n, i, fn, oc, od, kV, doc, pm, an, cdv, ct, osl, l, d⟩
end
end Rf
/-! # Rf27: keyword-only parameters -/
namespace Rf
open PySem PySem.Spec L2
theorem PrmK.mono {g : G} {n m : Nat} {x : Str} {ks : List Str} {F : Fn} (h : PrmK g n x ks F) (hl : n ≤ m) : PrmK g m x ks F := by
  obtain ⟨f, h1, h2, h3⟩ := h.ex
  exact ⟨f, h1, h2, fun X hX room => h3 X hX (room.mono hl)⟩
theorem rg_sp {g : G} {W : WE} {σ : St} {Q : VK} {F : Fn} {ds : List D} {H Hf : Hp} (h : RG g W σ (OP g Q) (F ds) H Hf) : RG g (fun cls d _ H' => W cls d σ H') [] (OP g Q) (F ds) H Hf := by
  cases hF : F ds with
  | ok d => rw [hF] at h; exact h
  | err x => rw [hF] at h; exact h
  | bad => rw [hF] at h; exact h
/-- all keyword-only parameters are written -/
theorem prmK_of {g : G} {n m : Nat} {x : Str} {f : Addr} {fd : FuncData} {ps ks : List Str} {F : Fn} (hf : FnOk g.P g.w g.K g.mg g.base (L2.CX g.P g.w) n f fd ps (spD g F)) (hm : g.mg x = some (.ref f)) (hk : PySem.W.keepIn g.K (.ref f) = true) (hp : ps.length = m + ks.length)
    (hb : ∀ (s : Shared) (us ws : List Value), g.K.In s.heap → us.length = m → ws.length = ks.length → BindsTo s fd ⟨us, ks.zip ws⟩ (ps.zip (us ++ ws))) : PrmK g n x ks F := by
  refine ⟨f, hm, hk, fun X hX room W tk pins s σ H Hf Q us ws vs zs ds es I rv rz lz sub tb rr re h => ?_⟩
  subst hX
  have h' : spD (gOf X) F (vs ++ zs) H Q (fun cls d H' => W cls d σ H') := ⟨Hf, ds ++ es, sub, tb, rr.append re, rg_sp h⟩
  have r2 : Vals (vs ++ zs) (us ++ ws) := rv.append rz
  have hl : (us ++ ws).length = ps.length := by rw [← r2.length]; exact hf.len _ _ _ _ h'
  have hu : us.length = m := by rw [List.length_append] at hl; omega
  refine wpAny_call (codeAny_mono (hf.run X.A X.stack s H ⟨us, ks.zip ws⟩ (us ++ ws) (vs ++ zs) Q _ room I.env0 (hb s us ws I.kIn hu lz) r2 h') fun r s' hq => ?_)
  cases r with
  | error e => exact passAt tk σ pins H s e s' I hq
  | ok fl =>
    cases fl with
    | ret u => exact I.after hq
    | next => exact False.elim hq
    | brk => exact False.elim hq
    | cont => exact False.elim hq
/-- some of the keyword-only parameters lack: go puts their values among the others -/
theorem prmK_of' {g : G} {n m : Nat} {x : Str} {f : Addr} {fd : FuncData} {ps ks : List Str} {F : Fn} {mv : List Value} {mz : List V} {md : List D} (go : {α : Type} → List α → List α → List α → List α) (hf : FnOk g.P g.w g.K g.mg g.base (L2.CX g.P g.w) n f fd ps (spD g F)) (hm : g.mg x = some (.ref f)) (hk : PySem.W.keepIn g.K (.ref f) = true)
    (hgl : ∀ {α : Type} (a b c : List α), (go a b c).length = a.length + b.length + c.length) (hp : ps.length = m + mv.length + ks.length)
    (hgv : ∀ {vs zs : List V} {us ws : List Value}, Vals vs us → Vals zs ws → Vals (go vs mz zs) (go us mv ws)) (hgr : ∀ {H : Hp} {vs zs : List V} {ds es : List D}, Reps g H vs ds → Reps g H zs es → Reps g H (go vs mz zs) (go ds md es))
    (hb : ∀ (s : Shared) (us ws : List Value), g.K.In s.heap → us.length = m → ws.length = ks.length → BindsTo s fd ⟨us, ks.zip ws⟩ (ps.zip (go us mv ws))) : PrmK g n x ks (fun ds => F (go (ds.take m) md (ds.drop m))) := by
  refine ⟨f, hm, hk, fun X hX room W tk pins s σ H Hf Q us ws vs zs ds es I rv rz lz sub tb rr re h => ?_⟩
  subst hX
  have lmv : mz.length = mv.length := by
    have := (hgv (vs := []) (zs := []) (us := []) (ws := []) .nil .nil).length
    rw [hgl, hgl] at this
    simpa using this
  have h0 : ∀ ds', RG (gOf X) W σ (OP (gOf X) Q) (F ds') H Hf → ∀ vs', Reps (gOf X) Hf vs' ds' → vs'.length = ps.length := fun ds' hh vs' rr' => hf.len vs' H Q (fun cls d H' => W cls d σ H') ⟨Hf, ds', sub, tb, rr', rg_sp hh⟩
  have key : ds.length = m := by
    have t : Reps (gOf X) Hf ((vs ++ zs).take m) ((ds ++ es).take m) := (rr.append re).take m
    have u : Reps (gOf X) Hf ((vs ++ zs).drop m) ((ds ++ es).drop m) := (rr.append re).drop m
    have l := h0 _ h _ (hgr t u)
    rw [hgl, lmv, List.length_take, List.length_drop, List.length_append] at l
    have e1 := rr.length
    have e2 := rz.length
    omega
  have e1 : (ds ++ es).take m = ds := by rw [← key]; simp
  have e2 : (ds ++ es).drop m = es := by rw [← key]; simp
  rw [e1, e2] at h
  have h' : spD (gOf X) F (go vs mz zs) H Q (fun cls d H' => W cls d σ H') := ⟨Hf, go ds md es, sub, tb, hgr rr re, rg_sp h⟩
  have hu : us.length = m := by rw [← rv.length, rr.length, key]
  refine wpAny_call (codeAny_mono (hf.run X.A X.stack s H ⟨us, ks.zip ws⟩ (go us mv ws) (go vs mz zs) Q _ room I.env0 (hb s us ws I.kIn hu lz) (hgv rv rz) h') fun r s' hq => ?_)
  cases r with
  | error e => exact passAt tk σ pins H s e s' I hq
  | ok fl =>
    cases fl with
    | ret u => exact I.after hq
    | next => exact False.elim hq
    | brk => exact False.elim hq
    | cont => exact False.elim hq
/-- a class made with keywords -/
theorem cls_prmK {g : G} {n m : Nat} {x : Str} {f C : Addr} {fd : FuncData} {p0 : Str} {ps ks : List Str} {F : Fn} (hf : FnOk g.P g.w g.K g.mg g.base (L2.CX g.P g.w) n f fd (p0 :: ps) (spI g C F)) (hm : g.mg x = some (.ref C)) (M : Mk g.K C f) (hp : ps.length = m + ks.length)
    (hb : ∀ (s : Shared) (us ws : List Value), g.K.In s.heap → us.length = m + 1 → ws.length = ks.length → BindsTo s fd ⟨us, ks.zip ws⟩ ((p0 :: ps).zip (us ++ ws))) : PrmK g (n + 1) x ks F := by
  refine ⟨C, hm, M.kp, fun X hX room W tk pins s σ H Hf Q us ws vs zs ds es I rv rz lz sub tb rr re h => ?_⟩
  subst hX
  have fresh1 : H (s.heap.objs.size + 1) = none := I.hok.fresh (Nat.le_succ _)
  have fresh2 : H s.heap.objs.size = none := I.hok.fresh (Nat.le_refl _)
  have apart : s.heap.objs.size ≠ s.heap.objs.size + 1 := Nat.ne_of_lt (Nat.lt_succ_self _)
  have want : spI (gOf X) C F (.ref (s.heap.objs.size + 1) :: (vs ++ zs)) (upd (upd H s.heap.objs.size (.own (s.heap.objs.size + 1))) (s.heap.objs.size + 1) (.ins C s.heap.objs.size [])) (fun v H2 => v = .non ∧ Q (.ref (s.heap.objs.size + 1)) H2) (fun cls d H' => W cls d σ H') :=
    ⟨_, _, H, Hf, vs ++ zs, ds ++ es, rfl, rfl, fresh1, fresh2, apart, sub, tb, rr.append re, by
      cases hF : F (ds ++ es) with
      | ok d => rw [hF] at h; exact fun H' Hf' f' r => ⟨rfl, h _ H' Hf' f' r⟩
      | err z => rw [hF] at h; exact h
      | bad => rw [hF] at h; exact h⟩
  have I2 := Inv.made (C := C) I
  have r2 : Vals (V.ref (s.heap.objs.size + 1) :: (vs ++ zs)) (Value.ref (s.heap.objs.size + 1) :: (us ++ ws)) := .cons rfl (rv.append rz)
  have fit : (Value.ref (s.heap.objs.size + 1) :: (us ++ ws)).length = (p0 :: ps).length := by
    rw [← r2.length]; exact hf.len _ _ _ _ want
  have hu : (Value.ref (s.heap.objs.size + 1) :: us).length = m + 1 := by
    simp only [List.length_cons, List.length_append] at fit ⊢
    omega
  have bound := hb _ (Value.ref (s.heap.objs.size + 1) :: us) ws I2.kIn hu lz
  refine wpAny_call (make_map (f := f) I.kIn M.makes M.init (beq_iff_eq.mp M.fn) (codeAny_mono (hf.run _ X.stack _ _ ⟨_, ks.zip ws⟩ _ _ _ _ (room.make C us _) (I2.env0.make C us _) bound r2 want) fun r s' back => ?_))
  cases r with
  | error e => exact passAt tk σ pins _ _ e s' I2 back
  | ok fl =>
    cases fl with
    | ret u =>
      obtain ⟨v, H', I3, ru, ev, q⟩ := I2.after back
      subst ev
      exact ⟨ru, .ref (s.heap.objs.size + 1), H', I3, rfl, q⟩
    | next => exact False.elim back
    | brk => exact False.elim back
    | cont => exact False.elim back
/-- a class made without its keywords: dds fills up -/
theorem cls_prm0 {g : G} {n : Nat} {x : Str} {f C : Addr} {fd : FuncData} {p0 : Str} {ps : List Str} {F : Fn} {dvs : List V} {dds : List D} {dus : List Value} (hf : FnOk g.P g.w g.K g.mg g.base (L2.CX g.P g.w) n f fd (p0 :: ps) (spI g C F)) (hm : g.mg x = some (.ref C)) (M : Mk g.K C f)
    (hb : Binds g.K fd (p0 :: ps) dus) (hd : Vals dvs dus) (hr : ∀ H, Reps g H dvs dds) : Prm g (n + 1) x (fun ds => F (ds ++ dds)) := by
  refine ⟨C, hm, M.kp, fun X hX room W tk pins s σ H Hf Q us vs ds I rv sub tb rr h => ?_⟩
  subst hX
  have fresh1 : H (s.heap.objs.size + 1) = none := I.hok.fresh (Nat.le_succ _)
  have fresh2 : H s.heap.objs.size = none := I.hok.fresh (Nat.le_refl _)
  have apart : s.heap.objs.size ≠ s.heap.objs.size + 1 := Nat.ne_of_lt (Nat.lt_succ_self _)
  have want : spI (gOf X) C F (.ref (s.heap.objs.size + 1) :: (vs ++ dvs)) (upd (upd H s.heap.objs.size (.own (s.heap.objs.size + 1))) (s.heap.objs.size + 1) (.ins C s.heap.objs.size [])) (fun v H2 => v = .non ∧ Q (.ref (s.heap.objs.size + 1)) H2) (fun cls d H' => W cls d σ H') :=
    ⟨_, _, H, Hf, vs ++ dvs, ds ++ dds, rfl, rfl, fresh1, fresh2, apart, sub, tb, rr.append (hr Hf), by
      cases hF : F (ds ++ dds) with
      | ok d => rw [hF] at h; exact fun H' Hf' f' r => ⟨rfl, h _ H' Hf' f' r⟩
      | err z => rw [hF] at h; exact h
      | bad => rw [hF] at h; exact h⟩
  have I2 := Inv.made (C := C) I
  have r2 : Vals (V.ref (s.heap.objs.size + 1) :: (vs ++ dvs)) (Value.ref (s.heap.objs.size + 1) :: (us ++ dus)) := .cons rfl (rv.append hd)
  have fit : ((Value.ref (s.heap.objs.size + 1) :: us) ++ dus).length = (p0 :: ps).length := by
    rw [List.cons_append, ← r2.length]; exact hf.len _ _ _ _ want
  have bound := hb _ (Value.ref (s.heap.objs.size + 1) :: us) I2.kIn fit
  refine wpAny_call (make_map (f := f) I.kIn M.makes M.init (beq_iff_eq.mp M.fn) (codeAny_mono (hf.run _ X.stack _ _ ⟨_, []⟩ _ _ _ _ (room.make C us []) (I2.env0.make C us []) bound r2 want) fun r s' back => ?_))
  cases r with
  | error e => exact passAt tk σ pins _ _ e s' I2 back
  | ok fl =>
    cases fl with
    | ret u =>
      obtain ⟨v, H', I3, ru, ev, q⟩ := I2.after back
      subst ev
      exact ⟨ru, .ref (s.heap.objs.size + 1), H', I3, rfl, q⟩
    | next => exact False.elim back
    | brk => exact False.elim back
    | cont => exact False.elim back
/-! ### what the head gives -/
/-- the keyword-only defaults stand in the dict at D -/
def KwAt (g : G) (Dd : Addr) (kws : List (Str × D)) : Prop := ∃ us vs, Vals vs us ∧ (∀ H, Reps g H vs (kws.map (·.2))) ∧ us.length = kws.length ∧ ∀ q ∈ (kws.map (·.1)).zip us, PySem.W.nsIn g.K Dd q.1 = some (some q.2)
/-- a def of the module with keyword-only defaults -/
def DefAtK (g : G) (x : Str) (st : Stmt) (kws : List (Str × D)) : Prop := g.hx = none ∧ ∃ (f : Addr) (oc : Value) (od : Option Addr) (Dd : Addr) (doc pm : Value) (an : Option Addr) (cdv ct : Value) (osl : Array (Option Value)),
  g.mg x = some (.ref f) ∧ g.K.lookup f = some ⟨oc, od, .func (PySem.W.fnOf x x (defArgs st) (defBody st) (defScope st) .none (.ref Dd) doc pm an cdv ct), osl⟩ ∧ PySem.W.codeIn g.K cdv x = true ∧ PySem.W.keepIn g.K (.ref f) = true ∧ KwAt g Dd kws
def DefFdK (g : G) (x : Str) (st : Stmt) (kws : List (Str × D)) (fd : FuncData) : Prop := ∃ (Dd : Addr) (doc pm : Value) (an : Option Addr) (cdv ct : Value), fd = PySem.W.fnOf x x (defArgs st) (defBody st) (defScope st) .none (.ref Dd) doc pm an cdv ct ∧ KwAt g Dd kws
theorem def_okK {g : G} {n : Nat} {x : Str} {st : Stmt} {kws : List (Str × D)} {N ps : List Str} {T : Tb} {B : Rf.S} (h : DefAtK g x st kws) (S : FnScope N ps (defScope st)) (K : Know g n T) (hck : ckSs N T B (defScope st) (defBody st) = true) (hfr : T.fr = false := by rfl) (hq : T.hm = false := by rfl) (hl : T.lam = false := by rfl) :
    ∃ f fd, FnOk g.P g.w g.K g.mg g.base (L2.CX g.P g.w) (n + 1) f fd ps (spD g (runFn ps.length N.length T B)) ∧ g.mg x = some (.ref f) ∧ PySem.W.keepIn g.K (.ref f) = true ∧ DefFdK g x st kws fd := by
  obtain ⟨hn, f, oc, od, Dd, doc, pm, an, cdv, ct, osl, h1, h2, h3, h4, h5⟩ := h
  exact ⟨f, _, fn_ok h2 h3 S hn hfr hq K hck (fun z => by rw [hl] at z; cases z), h1, h4, Dd, _, _, _, _, _, rfl, h5⟩
section
variable {g : G} {n : Nat} {x : Str} {st : Stmt} {kws : List (Str × D)} {ps ks : List Str} {F : Fn}
/-- with all keywords -/
theorem def_prmKA (m : Nat) (h : ∃ f fd, FnOk g.P g.w g.K g.mg g.base (L2.CX g.P g.w) n f fd ps (spD g F) ∧ g.mg x = some (.ref f) ∧ PySem.W.keepIn g.K (.ref f) = true ∧ DefFdK g x st kws fd) (hp : ps.length = m + ks.length)
    (hb : ∀ (Dd : Addr) (doc pm : Value) (an : Option Addr) (cdv ct : Value) (us ws : List Value), us.length = m → ws.length = ks.length → bindArgs (PySem.W.fnOf x x (defArgs st) (defBody st) (defScope st) .none (.ref Dd) doc pm an cdv ct) ⟨us, ks.zip ws⟩ = pure (ps.zip (us ++ ws))) : PrmK g n x ks F := by
  obtain ⟨f, fd, h1, h2, h3, Dd, doc, pm, an, cdv, ct, rfl, h4⟩ := h
  exact prmK_of h1 h2 h3 hp fun s us ws _ l1 l2 => .of_eq (hb Dd doc pm an cdv ct us ws l1 l2)
/-- with none -/
theorem def_prmK0 (m : Nat) (h : ∃ f fd, FnOk g.P g.w g.K g.mg g.base (L2.CX g.P g.w) n f fd ps (spD g F) ∧ g.mg x = some (.ref f) ∧ PySem.W.keepIn g.K (.ref f) = true ∧ DefFdK g x st kws fd) (hp : ps.length = m + kws.length)
    (hb : ∀ (Dd : Addr) (doc pm : Value) (an : Option Addr) (cdv ct : Value) (us ws : List Value), us.length = m → ws.length = kws.length → KwChain Dd ((kws.map (·.1)).zip ws) (bindArgs (PySem.W.fnOf x x (defArgs st) (defBody st) (defScope st) .none (.ref Dd) doc pm an cdv ct) ⟨us, []⟩) (ps.zip (us ++ ws))) : Prm g n x (fun ds => F (ds ++ kws.map (·.2))) := by
  obtain ⟨f, fd, h1, h2, h3, Dd, doc, pm, an, cdv, ct, rfl, us', vs', r1, r2, r3, r4⟩ := h
  refine prm_of h1 h2 h3 (dus := us') ?_ r1 r2
  intro s us X hlen
  have l2 : us.length = m := by
    rw [List.length_append] at hlen
    omega
  exact BindsTo.of_looks fun M => KwChain.looks X r4 (hb Dd doc pm an cdv ct us us' l2 r3)
/-- with some: ks are written, ms lack (go puts them between) -/
theorem def_prmKS (m : Nat) (go : {α : Type} → List α → List α → List α → List α) (ms : List (Str × D)) (h : ∃ f fd, FnOk g.P g.w g.K g.mg g.base (L2.CX g.P g.w) n f fd ps (spD g F) ∧ g.mg x = some (.ref f) ∧ PySem.W.keepIn g.K (.ref f) = true ∧ DefFdK g x st kws fd) (hms : ∀ Dd, KwAt g Dd kws → KwAt g Dd ms) (hp : ps.length = m + ms.length + ks.length)
    (hgl : ∀ {α : Type} (a b c : List α), (go a b c).length = a.length + b.length + c.length)
    (hgv : ∀ {vs zs mz : List V} {us ws mv : List Value}, Vals vs us → Vals mz mv → Vals zs ws → Vals (go vs mz zs) (go us mv ws)) (hgr : ∀ {H : Hp} {vs zs mz : List V} {ds es md : List D}, Reps g H vs ds → Reps g H mz md → Reps g H zs es → Reps g H (go vs mz zs) (go ds md es))
    (hb : ∀ (Dd : Addr) (doc pm : Value) (an : Option Addr) (cdv ct : Value) (us mv ws : List Value), us.length = m → mv.length = ms.length → ws.length = ks.length → KwChain Dd ((ms.map (·.1)).zip mv) (bindArgs (PySem.W.fnOf x x (defArgs st) (defBody st) (defScope st) .none (.ref Dd) doc pm an cdv ct) ⟨us, ks.zip ws⟩) (ps.zip (go us mv ws))) :
    PrmK g n x ks (fun ds => F (go (ds.take m) (ms.map (·.2)) (ds.drop m))) := by
  obtain ⟨f, fd, h1, h2, h3, Dd, doc, pm, an, cdv, ct, rfl, hK⟩ := h
  obtain ⟨us', vs', r1, r2, r3, r4⟩ := hms Dd hK
  exact prmK_of' (m := m) (mv := us') (mz := vs') (md := ms.map (·.2)) go h1 h2 h3 hgl (by rw [r3]; exact hp) (fun a b => hgv a r1 b) (fun a b => hgr a (r2 _) b) fun s us ws X l1 l2 => BindsTo.of_looks fun M => KwChain.looks X r4 (hb Dd doc pm an cdv ct us us' ws l1 r3 l2)
end
/-- the def at f is the text's, with keyword-only defaults -/
def FnAtK (g : G) (f : Addr) (m qual : Str) (st : Stmt) (kws : List (Str × D)) : Prop := ∃ (oc : Value) (od : Option Addr) (Dd : Addr) (doc pm : Value) (an : Option Addr) (cdv ct : Value) (osl : Array (Option Value)),
  g.K.lookup f = some ⟨oc, od, .func (PySem.W.fnOf m qual (defArgs st) (defBody st) (defScope st) .none (.ref Dd) doc pm an cdv ct), osl⟩ ∧ PySem.W.codeIn g.K cdv qual = true ∧ KwAt g Dd kws
structure InitAtK (g : G) (c qual : Str) (st : Stmt) (kws : List (Str × D)) : Prop where
  hn : g.hx = none
  ex : ∃ C f, g.mg c = some (.ref C) ∧ Mk g.K C f ∧ FnAtK g f "__init__" qual st kws
section
variable {g : G} {n : Nat} {c qual : Str} {st : Stmt} {kws : List (Str × D)} {N ks : List Str} {p0 : Str} {ps : List Str} {T : Tb} {B : Rf.S}
theorem cls_okKA (m : Nat) (h : InitAtK g c qual st kws) (S : FnScope N (p0 :: ps) (defScope st)) (K : Know g n T) (hck : ckSs N T B (defScope st) (defBody st) = true) (hp : ps.length = m + ks.length)
    (hb : ∀ (Dd : Addr) (doc pm : Value) (an : Option Addr) (cdv ct : Value) (us ws : List Value), us.length = m + 1 → ws.length = ks.length → bindArgs (PySem.W.fnOf "__init__" qual (defArgs st) (defBody st) (defScope st) .none (.ref Dd) doc pm an cdv ct) ⟨us, ks.zip ws⟩ = pure ((p0 :: ps).zip (us ++ ws))) (hfr : T.fr = false := by rfl) (hq : T.hm = false := by rfl) (hl : T.lam = false := by rfl) :
    PrmK g (n + 2) c ks (runInit ps.length N.length T B c) := by
  obtain ⟨hn, C, f, h1, M, oc, od, Dd, doc, pm, an, cdv, ct, osl, h2, h3, h4⟩ := h
  exact cls_prmK (init_ok h2 h3 S hn h1 hfr hq hl K hck) h1 M hp fun s us ws _ l1 l2 => .of_eq (hb Dd doc pm an cdv ct us ws l1 l2)
theorem cls_okK0 (m : Nat) (h : InitAtK g c qual st kws) (S : FnScope N (p0 :: ps) (defScope st)) (K : Know g n T) (hck : ckSs N T B (defScope st) (defBody st) = true) (hp : ps.length = m + kws.length)
    (hb : ∀ (Dd : Addr) (doc pm : Value) (an : Option Addr) (cdv ct : Value) (us ws : List Value), us.length = m + 1 → ws.length = kws.length → KwChain Dd ((kws.map (·.1)).zip ws) (bindArgs (PySem.W.fnOf "__init__" qual (defArgs st) (defBody st) (defScope st) .none (.ref Dd) doc pm an cdv ct) ⟨us, []⟩) ((p0 :: ps).zip (us ++ ws))) (hfr : T.fr = false := by rfl) (hq : T.hm = false := by rfl) (hl : T.lam = false := by rfl) :
    Prm g (n + 2) c (fun ds => runInit ps.length N.length T B c (ds ++ kws.map (·.2))) := by
  obtain ⟨hn, C, f, h1, M, oc, od, Dd, doc, pm, an, cdv, ct, osl, h2, h3, us', vs', r1, r2, r3, r4⟩ := h
  refine cls_prm0 (init_ok h2 h3 S hn h1 hfr hq hl K hck) h1 M (dus := us') ?_ r1 r2
  intro s us X hlen
  have l2 : us.length = m + 1 := by
    rw [List.length_append, List.length_cons] at hlen
    omega
  exact BindsTo.of_looks fun M => KwChain.looks X r4 (hb Dd doc pm an cdv ct us us' l2 r3)
end
/-! ### the head's words -/
/-- data of K at a value, of depth at most n -/
def dAt (K : PySem.W.Frag) : Nat → Value → Option D
  | _, .none => some .non
  | _, .bool b => some (.bl b)
  | _, .int i _ => some (.int i)
  | _, .str s _ => some (.str s)
  | n + 1, .ref a => match K.lookup a with
    | some ⟨.type "tuple", _, .seq its _, _⟩ => if its.size ≤ 16777216 then (its.toList.mapM (dAt K n)).map .tup else none
    | _ => none
  | _, _ => none
theorem dAt_reps {g : G} {n : Nat} (ih : ∀ {u : Value} {d : D}, dAt g.K n u = some d → ∃ v, RelV v u ∧ ∀ H, Rep g H v d) : ∀ {us : List Value} {ds : List D}, us.mapM (dAt g.K n) = some ds → ∃ vs, Vals vs us ∧ ∀ H, Reps g H vs ds
  | [], ds, h => by
    simp at h
    subst h
    exact ⟨[], .nil, fun _ => .nil⟩
  | u :: us, ds, h => by
    simp only [List.mapM_cons, Option.bind_eq_bind, Option.bind_eq_some_iff, Option.pure_def, Option.some.injEq] at h
    obtain ⟨d, h1, ds', h2, rfl⟩ := h
    obtain ⟨v, r1, q1⟩ := ih h1
    obtain ⟨vs, r2, q2⟩ := dAt_reps ih h2
    exact ⟨v :: vs, .cons r1 r2, fun H => .cons (q1 H) (q2 H)⟩
theorem dAt_rep {g : G} : ∀ {n : Nat} {u : Value} {d : D}, dAt g.K n u = some d → ∃ v, RelV v u ∧ ∀ H, Rep g H v d
  | n, .none, d, h => by cases n <;> (simp [dAt] at h; subst h; exact ⟨.non, rfl, fun _ => .non⟩)
  | n, .bool b, d, h => by cases n <;> (simp [dAt] at h; subst h; exact ⟨.bl b, rfl, fun _ => .bl b⟩)
  | n, .int i t, d, h => by cases n <;> (simp [dAt] at h; subst h; exact ⟨.int i, ⟨t, rfl⟩, fun _ => .int i⟩)
  | n, .str s t, d, h => by cases n <;> (simp [dAt] at h; subst h; exact ⟨.str s, ⟨t, rfl⟩, fun _ => .str s⟩)
  | 0, .ref a, d, h => by simp [dAt] at h
  | n + 1, .ref a, d, h => by
    unfold dAt at h
    split at h
    · rename_i dd its m sl hl
      split at h
      · rename_i hs
        rw [Option.map_eq_some_iff] at h
        obtain ⟨ds, h1, rfl⟩ := h
        obtain ⟨vs, r, q⟩ := dAt_reps (g := g) (n := n) dAt_rep h1
        exact ⟨.ref a, rfl, fun H => .tup (.inr ⟨_, its, m, hl, rfl, rfl, by rw [sizeLine_val]; exact hs, r⟩) (q H)⟩
      · cases h
    · cases h
  | n, .type _, d, h => by cases n <;> simp [dAt] at h
  | n, .builtin _, d, h => by cases n <;> simp [dAt] at h
  | n, .float _ _, d, h => by cases n <;> simp [dAt] at h
  | n, .notImplemented, d, h => by cases n <;> simp [dAt] at h
  | n, .ellipsis, d, h => by cases n <;> simp [dAt] at h
  | n, .bytes _ _, d, h => by cases n <;> simp [dAt] at h
theorem kwAt_of {g : G} {Dd : Addr} : ∀ {kws : List (Str × D)}, (∀ q ∈ kws, ∃ u, PySem.W.nsIn g.K Dd q.1 = some (some u) ∧ dAt g.K 4 u = some q.2) → KwAt g Dd kws
  | [], _ => ⟨[], [], .nil, fun _ => .nil, rfl, fun q hq => by cases hq⟩
  | q :: kws, h => by
    obtain ⟨u, h1, h2⟩ := h q (List.mem_cons_self ..)
    obtain ⟨us, vs, r1, r2, r3, r4⟩ := kwAt_of (kws := kws) fun p hp => h p (List.mem_cons_of_mem _ hp)
    obtain ⟨v, rv, hv⟩ := dAt_rep h2
    refine ⟨u :: us, v :: vs, .cons rv r1, fun H => .cons (hv H) (r2 H), congrArg Nat.succ r3, fun p hp => ?_⟩
    rcases List.mem_cons.mp (show p ∈ (q.1, u) :: (kws.map (·.1)).zip us from hp) with e | hp
    · rw [e]; exact h1
    · exact r4 p hp
/-- of fewer names -/
theorem KwAt.tail {g : G} {Dd : Addr} {q : Str × D} {kws : List (Str × D)} (h : KwAt g Dd (q :: kws)) : KwAt g Dd kws := by
  obtain ⟨us, vs, r1, r2, r3, r4⟩ := h
  cases us with
  | nil => cases r3
  | cons u us => cases vs with
    | nil => cases r1
    | cons v vs =>
      cases r1 with
      | cons a b => exact ⟨us, vs, b, fun H => by cases r2 H with | cons _ t => exact t, Nat.succ.inj r3, fun p hp => r4 p (List.mem_cons_of_mem _ hp)⟩
theorem KwAt.head {g : G} {Dd : Addr} {q : Str × D} {kws : List (Str × D)} (h : KwAt g Dd (q :: kws)) : KwAt g Dd [q] := by
  obtain ⟨us, vs, r1, r2, r3, r4⟩ := h
  cases us with
  | nil => cases r3
  | cons u us => cases vs with
    | nil => cases r1
    | cons v vs =>
      cases r1 with
      | cons a b => exact ⟨[u], [v], .cons a .nil, fun H => by cases r2 H with | cons t _ => exact .cons t .nil, rfl, fun p hp => r4 p (by
          rcases List.mem_cons.mp hp with e | e
          · rw [e]; exact List.mem_cons_self ..
          · cases e)⟩
section
variable {P : Program} {w : World} {K : PySem.W.Frag} {h : Heap} {mg : Str → Option Value} {x c qual y1 y2 : Str} {st : Stmt} {f C Dd : Addr} {oc doc pm cdv ct u1 u2 : Value} {od an : Option Addr} {osl : Array (Option Value)} {d1 d2 : D}
theorem kw_one {base : Heap} (w1 : PySem.W.nsIn K Dd y1 = some (some u1)) (e1 : dAt K 4 u1 = some d1) : KwAt ⟨P, w, K, mg, base, none⟩ Dd [(y1, d1)] :=
  kwAt_of fun q hq => by rw [List.mem_singleton.mp hq]; exact ⟨u1, w1, e1⟩
theorem kw_two {base : Heap} (w1 : PySem.W.nsIn K Dd y1 = some (some u1)) (e1 : dAt K 4 u1 = some d1) (w2 : PySem.W.nsIn K Dd y2 = some (some u2)) (e2 : dAt K 4 u2 = some d2) : KwAt ⟨P, w, K, mg, base, none⟩ Dd [(y1, d1), (y2, d2)] :=
  kwAt_of fun q hq => by
    rcases List.mem_cons.mp hq with e | hq
    · rw [e]; exact ⟨u1, w1, e1⟩
    · rw [List.mem_singleton.mp hq]; exact ⟨u2, w2, e2⟩
theorem defAtK1 (X : K.In h) (G : h.Ns mainGlobals mg)
    (a : PySem.W.nsIn K mainGlobals x = some (some (.ref f))) (l : K.lookup f = some ⟨oc, od, .func (PySem.W.fnOf x x (defArgs st) (defBody st) (defScope st) .none (.ref Dd) doc pm an cdv ct), osl⟩) (c : PySem.W.codeIn K cdv x = true) (k : PySem.W.keepIn K (.ref f) = true)
    (w1 : PySem.W.nsIn K Dd y1 = some (some u1)) (e1 : dAt K 4 u1 = some d1) : ∀ base, DefAtK ⟨P, w, K, mg, base, none⟩ x st [(y1, d1)] := fun base => ⟨rfl, f, oc, od, Dd, doc, pm, an, cdv, ct, osl, PySem.W.mg_of X G a, l, c, k, kw_one w1 e1⟩
theorem defAtK2 (X : K.In h) (G : h.Ns mainGlobals mg)
    (a : PySem.W.nsIn K mainGlobals x = some (some (.ref f))) (l : K.lookup f = some ⟨oc, od, .func (PySem.W.fnOf x x (defArgs st) (defBody st) (defScope st) .none (.ref Dd) doc pm an cdv ct), osl⟩) (c : PySem.W.codeIn K cdv x = true) (k : PySem.W.keepIn K (.ref f) = true)
    (w1 : PySem.W.nsIn K Dd y1 = some (some u1)) (e1 : dAt K 4 u1 = some d1) (w2 : PySem.W.nsIn K Dd y2 = some (some u2)) (e2 : dAt K 4 u2 = some d2) : ∀ base, DefAtK ⟨P, w, K, mg, base, none⟩ x st [(y1, d1), (y2, d2)] := fun base => ⟨rfl, f, oc, od, Dd, doc, pm, an, cdv, ct, osl, PySem.W.mg_of X G a, l, c, k, kw_two w1 e1 w2 e2⟩
theorem initAtK1 {osl : Array (Option Value)} (X : K.In h) (G : h.Ns mainGlobals mg) (a : PySem.W.nsIn K mainGlobals c = some (some (.ref C))) (i : PySem.W.findIn K (.ref C) "__init__" = some (some (.ref f))) (mk : PySem.W.makesIn K C = true) (fn : PySem.W.isFn K (.ref f) = true) (kp : PySem.W.keepIn K (.ref C) = true)
    (l : K.lookup f = some ⟨oc, od, .func (PySem.W.fnOf "__init__" qual (defArgs st) (defBody st) (defScope st) .none (.ref Dd) doc pm an cdv ct), osl⟩) (d : PySem.W.codeIn K cdv qual = true)
    (w1 : PySem.W.nsIn K Dd y1 = some (some u1)) (e1 : dAt K 4 u1 = some d1) : ∀ base, InitAtK ⟨P, w, K, mg, base, none⟩ c qual st [(y1, d1)] := fun base =>
  ⟨rfl, C, f, PySem.W.mg_of X G a, ⟨mk, i, fn, kp⟩, oc, od, Dd, doc, pm, an, cdv, ct, osl, l, d, kw_one w1 e1⟩
end
end Rf
/-! # Rf20: defs called within a suite -/
namespace Rf
open PySem PySem.Spec L2
open L2H (RoomH PinOk cxH inv_startH)
structure FnC (P : Program) (w : World) (K : PySem.W.Frag) (mg : Str → Option Value) (base : Heap) (k : Nat) (f : Addr) (fd : FuncData) (ps : List Str) (sp : Addr × Obj → Sp) : Prop where
  len : ∀ p vs H Q E, sp p vs H Q E → vs.length = ps.length
  go : ∀ (A : Around) (outer : List PySem.Env) (s : Shared) (H : Hp) (args : Args) (us : List Value) (vs : List V) (Q : VK) (E : XK) (p : Addr × Obj), RoomH k A → PinOk outer H s p → Env0 P w K mg base A outer s H → BindsTo s fd args (ps.zip us) → Vals vs us → sp p vs H Q E → codeAny (model P w) A (.call (.ref f) args) (CR (L2.CX P w) outer P w H s Q E) s
theorem fnC_of {P : Program} {w : World} {K : PySem.W.Frag} {mg : Str → Option Value} {base : Heap} {k : Nat} {f : Addr} {name qual : Str} {params : Arguments} {body : List Stmt} {scope : Scope} {dV kV doc pm cdv ct oc : Value} {an od : Option Addr} {osl : Array (Option Value)} {N ps : List Str} {sp : Addr × Obj → Sp}
    (lk : K.lookup f = some ⟨oc, od, .func (PySem.W.fnOf name qual params body scope dV kV doc pm an cdv ct), osl⟩) (hcd : PySem.W.codeIn K cdv qual = true) (S : FnScope N ps scope) (len : ∀ p vs H Q E, sp p vs H Q E → vs.length = ps.length)
    (hbody : ∀ (A : Around) (outer : List PySem.Env) (s : Shared) (H : Hp) (vs : List V) (Q : VK) (E : XK) (p : Addr × Obj), RoomH k (A.deeper (PyProof.Rows.envOfC qual scope s.heap.objs.size f cdv)) → sp p vs H Q E →
      ∃ t, PSs (cxH (L2.CX P w) P w K mg base N qual scope f cdv A outer s H E p) body t ∧ t { nx := fun _ H' => Q .non H', rt := Q } (L2.start N vs) H) :
    FnC P w K mg base (k + 1) f (PySem.W.fnOf name qual params body scope dV kV doc pm an cdv ct) ps sp := by
  refine ⟨len, fun A outer s H args us vs Q E p room pin e0 binds r hsp => ?_⟩
  have hl := len _ _ _ _ _ hsp; have KX : K.In s.heap := e0.mod.kin.keeps fun b o e => (e0.bs b o e).1; have lim : s.heap.NoLimit := e0.mod.nolimit.keeps fun b o e => (e0.bs b o e).1
  have kinds : ∀ y ∈ ps.zip us, scope.names.lookup y.1 = some .local ∨ (scope.names.lookup y.1 = some .cell ∧ ((cellsFrom (s.heap.objs.size + 1) scope.names []).lookup y.1).isSome = true) := fun ⟨m, v⟩ hy => by
    rcases S.par m (List.of_mem_zip hy).1 with q | q <;> first | exact .inl q | exact .inr ⟨q, PySem.W.cellsFrom_some _ _ _ (.inl q)⟩
  refine codeAny_call_function room.depth (KX _ _ lk) rfl S.co S.gen rfl (PySem.W.codeRec_of KX hcd) (binds _ _ _ _ (wpAny_newFunctionEnv_cells S.kind kinds fun env he s1 x => ?_))
  subst he; refine ⟨lim.keeps x.toInCall.keep, codeAny_func ?_⟩
  obtain ⟨t, ht, hq⟩ := hbody A outer s H vs Q E p (room.deeper _) hsp
  have I := inv_startH (CX := L2.CX P w) (E := E) (f := f) (cd := cdv) (qual := qual) S pin e0 hl r x
  refine wpAny_mono (ht.run [] s1 (L2.start N vs) H _ I hq) (fun fl s' hs => ?_) fun e s' hs => hs
  cases fl with
  | ret u => obtain ⟨v, σ', H', J, rv, q⟩ := hs; exact ⟨v, H', J.os, J.bare, J.base, J.hok, rv, q⟩
  | next => obtain ⟨σ', H', J, q⟩ := hs; exact ⟨.non, H', J.os, J.bare, J.base, J.hok, rfl, q⟩
  | brk => obtain ⟨_, _, _, q⟩ := hs; exact q.elim
  | cont => obtain ⟨_, _, _, q⟩ := hs; exact q.elim
section
variable {X : Cx} {k : Nat} {f : Addr} {fd : FuncData} {ps : List Str} {sp : Addr × Obj → Sp} {E : St → XK}
theorem run_fnC {pins : List (Addr × Obj)} {σ : St} {H : Hp} {s : Shared} {Q : VK} {us : List Value} {vs : List V} {p : Addr × Obj} (F : FnC X.prog X.w X.K X.mg X.base k f fd ps sp) (room : RoomH k X.A) (hp : p ∈ X.pn) (hb : Binds X.K fd ps []) (hx : PassesAt (L2.CX X.prog X.w) X σ (E σ)) (I : Inv X pins σ H s) (r : Vals vs us) (h : sp p vs H Q (E σ)) :
    wpAny (model X.prog X.w) X.A (call (.ref f) us) (EP X pins σ Q) X.xe s := by
  have hl : us.length = ps.length := r.length.symm.trans (F.len _ _ _ _ _ h)
  have b := hb s us I.kIn (by simpa using hl); rw [List.append_nil] at b
  have P1 := I.pin p (List.mem_append_left _ hp)
  have pin : PinOk X.stack H s p := ⟨P1.1, P1.2.1, fun hm => (List.mem_cons.mp (I.stkSub p.1 hm)).elim P1.2.2.1 P1.2.2.2.1, P1.2.2.2.2⟩
  refine wpAny_call (codeAny_mono (F.go X.A X.stack s H ⟨us, []⟩ us vs Q (E σ) p room pin I.env0 b r h) fun r s' hq => ?_)
  cases r with
  | error e => exact hx pins H s e s' I hq
  | ok fl => cases fl with
    | ret u => exact I.after hq
    | _ => exact hq.elim
end

/-- a promise within a suite -/
def spC (g : G) (F : Fn) : Addr × Obj → Sp := fun p vs H Q Ex => (∃ fv, p.2.data = .fields fv) ∧ spD (g.hot p) F vs H Q Ex
theorem fnC_ok {g : G} {n : Nat} {f : Addr} {name qual : Str} {params : Arguments} {body : List Stmt} {scope : Scope} {dV kV doc pm cdv ct oc : Value} {an od : Option Addr} {osl : Array (Option Value)} {N ps : List Str} {T : Tb} {B : Rf.S}
    (lk : g.K.lookup f = some ⟨oc, od, .func (PySem.W.fnOf name qual params body scope dV kV doc pm an cdv ct), osl⟩) (hcd : PySem.W.codeIn g.K cdv qual = true) (S : FnScope N ps scope)
    (hfr : T.fr = false) (hq : T.hm = true) (hl : T.lam = false) (K : ∀ p : Addr × Obj, (∃ vs, p.2.data = .fields vs) → Know (g.hot p) n T) (hck : ckSs N T B scope body = true) :
    FnC g.P g.w g.K g.mg g.base (n + 1) f (PySem.W.fnOf name qual params body scope dV kV doc pm an cdv ct) ps (spC g (runFn ps.length N.length T B)) := by
  have hlen : ∀ p vs H Q E, spC g (runFn ps.length N.length T B) p vs H Q E → vs.length = ps.length := fun p vs H Q E ⟨_, Hf, ds, sub, tb, r, h⟩ => by
    unfold runFn at h
    by_cases hd : ds.length = ps.length
    · rw [r.length, hd]
    · rw [if_neg hd] at h; exact h.elim
  refine fnC_of lk hcd S hlen fun A outer s H vs Q E p hr h => ?_
  obtain ⟨hf, Hf, ds, sub, tb, r, h⟩ := h
  unfold runFn at h
  by_cases hd : ds.length = ps.length
  · rw [if_pos hd] at h
    let X := cxH (L2.CX g.P g.w) g.P g.w g.K g.mg g.base N qual scope f cdv A outer s H E p
    have hX : gOf X = g.hot p := rfl
    have G : GoodSM N scope n true X :=
      ⟨⟨⟨rfl, fun x hx => vis_of hx, (fun x hx => by
        unfold glB at hx; split at hx
        · assumption
        · cases hx), fun x hx => ⟨loc_of hx, .inl rfl⟩, fun x hx => hx, S.nd, Nat.lt_of_le_of_lt (Nat.add_le_add_right (Nat.le_add_right _ _) _) hr.un⟩, fun z => Bool.noConfusion z, fun _ => ⟨rfl, ⟨p, [], rfl, hf⟩, hr⟩⟩, rfl, S.kind, passes_of rfl, rfl, rfl⟩
    refine ⟨tDS (g.hot p) T (fun cls d _ H' => E cls d H') B, (sns B).B X scope body _ (by rw [hq]; exact G) (takes_of rfl rfl rfl rfl) (K p hf) (fun z => by rw [hl] at z; cases z) hck, ?_⟩
    have sr := start_sr (g := g.hot p) (N := N) sub tb r
    rw [hd] at sr
    refine ⟨H, Hf, Hf, _, sr, ?_⟩
    rw [hfr]
    generalize ex T B (ds.map (fun d => some (Sl.v d)) ++ List.replicate (N.length - ps.length) none) = o at h ⊢
    cases o with
    | nx env => exact fun σ' H' Hf' r' _ => h .non H' Hf' r'.fut .non
    | rt d => exact fun v H' Hf' f r' => h v H' Hf' f r'
    | err x env => exact fun σ' H' Hf' cls dx r' _ xr => h cls dx H' Hf' r'.fut xr
    | bk env => exact h.elim
    | ct env => exact h.elim
    | bad => exact h.elim
  · rw [if_neg hd] at h; exact h.elim
theorem def_okC {g : G} {n : Nat} {x : Str} {st : Stmt} {N ps : List Str} {T : Tb} {B : Rf.S} (h : DefAt g x st) (S : FnScope N ps (defScope st)) (hfr : T.fr = false) (hq : T.hm = true) (hl : T.lam = false) (K : ∀ p : Addr × Obj, (∃ vs, p.2.data = .fields vs) → Know (g.hot p) n T) (hck : ckSs N T B (defScope st) (defBody st) = true) :
    ∃ f fd, FnC g.P g.w g.K g.mg g.base (n + 1) f fd ps (spC g (runFn ps.length N.length T B)) ∧ g.mg x = some (.ref f) ∧ PySem.W.keepIn g.K (.ref f) = true ∧ DefFd g x st fd := by
  obtain ⟨hn, f, oc, od, kV, doc, pm, an, cdv, ct, osl, h1, h2, h3, h4⟩ := h
  exact ⟨f, _, fnC_ok h2 h3 S hfr hq hl K hck, h1, h4, _, _, _, _, _, _, rfl⟩
theorem def_prmC {g : G} {n : Nat} {x : Str} {st : Stmt} {ps : List Str} {F : Fn} (h : ∃ f fd, FnC g.P g.w g.K g.mg g.base n f fd ps (spC g F) ∧ g.mg x = some (.ref f) ∧ PySem.W.keepIn g.K (.ref f) = true ∧ DefFd g x st fd)
    (hb : ∀ (kV doc pm : Value) (an : Option Addr) (cdv ct : Value) (us : List Value), us.length = ps.length → bindArgs (PySem.W.fnOf x x (defArgs st) (defBody st) (defScope st) .none kV doc pm an cdv ct) ⟨us, []⟩ = pure (ps.zip us)) :
    ∀ p : Addr × Obj, PrmC (g.hot p) n x F := by
  intro p
  obtain ⟨f, fd, h1, h2, h3, kV, doc, pm, an, cdv, ct, rfl⟩ := h
  refine ⟨f, h2, h3, fun X hX hot W tk pins s σ H Hf Q us vs ds I rv sub tb rr h => ?_⟩
  have hx : (gOf X).hx = some p := by rw [hX]
  have hf := hx_fields hot hx
  have hp := hx_mem hx
  obtain ⟨P0, w0, K0, mg0, base0, hx0⟩ := g
  have e1 : X.prog = P0 := congrArg G.P hX
  have e2 : X.w = w0 := congrArg G.w hX
  have e3 : X.K = K0 := congrArg G.K hX
  have e4 : X.mg = mg0 := congrArg G.mg hX
  have e5 : X.base = base0 := congrArg G.base hX
  subst e1 e2 e3 e4 e5
  refine run_fnC (E := fun σ cls d H' => W cls d σ H') h1 hot.room hp (Binds.all (hb kV doc pm an cdv ct)) (passAt tk σ) I rv ⟨hf, Hf, ds, sub, tb, rr, ?_⟩
  cases hF : F ds with
  | ok d => rw [hF] at h; exact h
  | err x => rw [hF] at h; exact h
  | bad => rw [hF] at h; exact h
theorem PrmC.mono {g : G} {n m : Nat} {x : Str} {F : Fn} (h : PrmC g n x F) (hl : n ≤ m) : PrmC g m x F := by
  obtain ⟨f, h1, h2, h3⟩ := h.ex
  exact ⟨f, h1, h2, fun X hX room => h3 X hX ⟨room.cold, room.pin, room.room.mono hl⟩⟩
theorem know_up {g : G} {n : Nat} {T : Tb} (hn : g.hx = none) (hq : T.hm = true) (fh : ∀ p : Addr × Obj, (∃ vs, p.2.data = .fields vs) → ∀ q ∈ T.fn, PrmC (g.hot p) n q.1 q.2) (gl : ∀ p ∈ T.gl, Gcon g p.1 p.2) (mt : T.mt = [] ∧ T.ln = [] ∧ T.pr = [] ∧ T.itc = [] ∧ T.ff = []) (kf : T.kf = []) (bn : ∀ x ∈ T.bn, g.mg x = none) (md : ∀ p ∈ T.md, g.mg p.1 = some (.builtin p.2))
    (at_ : ∀ p ∈ T.at_, ∃ C, g.mg p.1 = some (.ref C) ∧ Cls g.K C ∧ NoAttr g.K C p.2) (xc : ∀ x ∈ T.xc, XcOk g x) (xh : ∀ p ∈ T.xh, XhOk g p.1 p.2) (xi : ∀ p ∈ T.xi, XiOk g p.1 p.2) : ∀ p : Addr × Obj, (∃ vs, p.2.data = .fields vs) → Know (g.hot p) n T := fun p hp => {
  fn := fun z => by rw [hq] at z; cases z
  fh := fun _ => fh p hp
  kf := fun q hq => by rw [kf] at hq; cases hq
  gl := fun q hq => by obtain ⟨v, u, h1, h2, h3⟩ := gl q hq; exact ⟨v, u, h1, h2, fun H => (h3 H).up hn⟩
  mt := fun q hq => by rw [mt.1] at hq; cases hq
  ln := fun q hq => by rw [mt.2.1] at hq; cases hq
  pr := fun q hq => by rw [mt.2.2.1] at hq; cases hq
  itc := fun q hq => by rw [mt.2.2.2.1] at hq; cases hq
  ff := fun q hq => by rw [mt.2.2.2.2] at hq; cases hq
  bn := bn
  md := md
  at_ := at_
  xc := fun x hx => ⟨(xc x hx).ex⟩
  xh := fun x hx => ⟨(xh x hx).ex⟩
  xi := fun x hx => ⟨(xi x hx).ex⟩
  su := fun z => by rw [hq] at z; cases z }
/-! ### what the head's words must say of classes of errors -/
section
open PySem.W
variable {P : Program} {w : World} {K : Frag} {h : Heap} {mg : Str → Option Value}
def nsRef (K : Frag) (x : Str) : Option Addr := match nsIn K mainGlobals x with
  | some (some (.ref a)) => some a
  | _ => none
theorem nsRef_mg {x : Str} {a : Addr} (X : K.In h) (G : h.Ns mainGlobals mg) (e : nsRef K x = some a) : mg x = some (.ref a) := by
  unfold nsRef at e
  split at e
  · rename_i b hb; cases e; exact mg_of X G hb
  · cases e
def xcB (K : Frag) (x : Str) : Bool := match nsRef K x with
  | some C => excIn K C bmVE "ValueError.__new__" && keepIn K (.ref C) && decide (subIn K (.ref C) (.type "BaseException") = some true) && decide (typeIn K (.ref C) = some (.type "type"))
  | none => false
theorem xcOk {x : Str} (X : K.In h) (G : h.Ns mainGlobals mg) (e : xcB K x = true) : ∀ base, XcOk ⟨P, w, K, mg, base, none⟩ x := fun base => by
  unfold xcB at e
  split at e
  · rename_i C hC
    simp only [Bool.and_eq_true, decide_eq_true_eq] at e
    exact ⟨C, nsRef_mg X G hC, e.1.1.1, e.1.1.2, e.1.2, e.2⟩
  · cases e
def excB (K : Frag) (D : Addr) : Bool := decide (findIn K (.ref D) "__getattribute__" = some (some (.builtin "BaseException.__getattribute__"))) && decide (findIn K (.ref D) "__getattr__" = some none) && decide (subIn K (.ref D) (.type "BaseException") = some true) && hasDictIn K D &&
  decide (findIn K (.ref D) "__class__" = some (some (.builtin "object.__class__"))) && decide (specialIn K (.builtin "object.__class__") "__get__" = some (some (.builtin "getset_descriptor.__get__"))) && decide (takesIn K (.builtin "object.__class__") = some true) && decide (mroIn K D (.type "object") = some true)
theorem excB_ok {D : Addr} (e : excB K D = true) : L2.ExcC K D := by
  unfold excB at e
  simp only [Bool.and_eq_true, decide_eq_true_eq] at e
  obtain ⟨⟨⟨⟨⟨⟨⟨h1, h2⟩, h3⟩, h4⟩, h5⟩, h6⟩, h7⟩, h8⟩ := e
  exact ⟨h1, h2, h3, h4, h5, h6, h7, h8⟩
def xhB (K : Frag) (x : Str) (tb : List (Str × Bool)) : Bool := match nsRef K x with
  | some C => tb.all fun p => match nsRef K p.1 with
    | some D => decide (exmOne K (.ref D) (.ref C) = some p.2)
    | none => false
  | none => false
theorem xhOk {x : Str} {tb : List (Str × Bool)} (X : K.In h) (G : h.Ns mainGlobals mg) (e : xhB K x tb = true) : ∀ base, XhOk ⟨P, w, K, mg, base, none⟩ x tb := fun base => by
  unfold xhB at e
  split at e
  · rename_i C hC
    refine ⟨.ref C, .inl (nsRef_mg X G hC), fun p hp => ?_⟩
    have z := List.all_eq_true.mp e p hp
    split at z
    · rename_i D hD
      exact ⟨D, nsRef_mg X G hD, of_decide_eq_true z⟩
    · cases z
  · cases e
def xiB (K : Frag) (x : Str) (tb : List (Str × Bool)) : Bool := match nsRef K x with
  | some C => tb.all fun p => match nsRef K p.1 with
    | some D => excB K D && decide (kitOne K (.ref D) (.ref C) = some p.2)
    | none => false
  | none => false
theorem xiOk {x : Str} {tb : List (Str × Bool)} (X : K.In h) (G : h.Ns mainGlobals mg) (e : xiB K x tb = true) : ∀ base, XiOk ⟨P, w, K, mg, base, none⟩ x tb := fun base => by
  unfold xiB at e
  split at e
  · rename_i C hC
    refine ⟨.ref C, .ref C, rfl, fun u r => r, .inl (nsRef_mg X G hC), fun p hp => ?_⟩
    have z := List.all_eq_true.mp e p hp
    split at z
    · rename_i D hD
      rw [Bool.and_eq_true] at z
      exact ⟨D, nsRef_mg X G hD, excB_ok z.1, of_decide_eq_true z.2⟩
    · cases z
  · cases e
/-- a built-in class -/
def xiTB (K : Frag) (t : String) (x : Str) (tb : List (Str × Bool)) : Bool := decide (nsIn K mainGlobals x = some none) && decide (bootBuiltins x = some (.type t)) && tb.all fun p => match nsRef K p.1 with
    | some D => excB K D && decide (kitOne K (.ref D) (.type t) = some p.2)
    | none => false
theorem xiTOk {t : String} {x : Str} {tb : List (Str × Bool)} (X : K.In h) (G : h.Ns mainGlobals mg) (e : xiTB K t x tb = true) : ∀ base, XiOk ⟨P, w, K, mg, base, none⟩ x tb := fun base => by
  unfold xiTB at e
  simp only [Bool.and_eq_true, decide_eq_true_eq] at e
  obtain ⟨⟨h1, h2⟩, h3⟩ := e
  refine ⟨.type t, .ty t, rfl, fun u r => r, .inr ⟨mg_none_of X G h1, t, rfl, rfl, h2⟩, fun p hp => ?_⟩
  have z := List.all_eq_true.mp h3 p hp
  split at z
  · rename_i D hD
    rw [Bool.and_eq_true] at z
    exact ⟨D, nsRef_mg X G hD, excB_ok z.1, of_decide_eq_true z.2⟩
  · cases z
def tabB (K : Frag) : Bool := match tabIn K "ascending" with
  | some (_, Pt) => (K.lookup Pt).isNone
  | none => false
theorem tabB_ok (e : tabB K = true) : ∃ c Pt, tabIn K "ascending" = some (c, Pt) ∧ K.lookup Pt = none := by
  unfold tabB at e
  split at e
  · rename_i c Pt hc
    exact ⟨c, Pt, hc, by simpa using e⟩
  · cases e
end
end Rf
/-! # F1: fractions as data -/
namespace Rf
open PySem
/-- a fraction as the program holds it -/
def fq (q : Rat) : D := .tup [.int q.num, .int (q.den : Int)]
theorem fq_inj {a b : Rat} (h : fq a = fq b) : a = b := by
  simp only [fq, D.tup.injEq, List.cons.injEq, D.int.injEq] at h
  exact Rat.ext h.1 (by omega)
@[simp] theorem fq_eq {a b : Rat} : fq a = fq b ↔ a = b := ⟨fq_inj, fun h => by rw [h]⟩
theorem okN_fq (n : Nat) (q : Rat) : okN (n + 1) (fq q) = true := by simp [okN, fq]
theorem nice_fq (n : Nat) (a b : Rat) : nice (n + 1) (fq a) (fq b) = true := by simp [nice, fq]
@[simp] theorem eqD_fq (a b : Rat) : eqD (fq a) (fq b) = .ok (decide (a = b)) := by
  rw [eqD_of (okN_fq 0 a) (okN_fq 0 b) (nice_fq 0 a b)]
  congr 1
  exact decide_eq_decide.mpr fq_eq
@[simp] theorem cop_eq_fq (a b : Rat) : cop .eq (fq a) (fq b) = .ok (.bl (decide (a = b))) := cop_eq (eqD_fq a b)
@[simp] theorem cop_ne_fq (a b : Rat) : cop .ne (fq a) (fq b) = .ok (.bl (!decide (a = b))) := cop_ne' (eqD_fq a b)
@[simp] theorem ix_fq0 (q : Rat) : ixD (fq q) (.int 0) = .ok (.int q.num) := ixT0 _ _
@[simp] theorem ix_fq1 (q : Rat) : ixD (fq q) (.int 1) = .ok (.int (q.den : Int)) := ixT1 _ _ _
@[simp] theorem isi_fq (q : Rat) : isiB .tuple (fq q) = .ok true := id rfl
@[simp] theorem len_fq (q : Rat) : biF .len [fq q] = .ok (.int 2) := id rfl
theorem fq_of {N M : Int} {q : Rat} (h1 : q.num = N) (h2 : (q.den : Int) = M) : D.tup [.int N, .int M] = fq q := by rw [fq, h1, h2]
@[simp] theorem fq_zero : D.tup [.int 0, .int 1] = fq 0 := fq_of rfl rfl
@[simp] theorem fq_one : D.tup [.int 1, .int 1] = fq 1 := fq_of rfl rfl
theorem half_num : ((1 : Rat) / 2).num = 1 := by decide +kernel
theorem half_den : ((1 : Rat) / 2).den = 2 := by decide +kernel
@[simp] theorem fq_half : D.tup [.int 1, .int 2] = fq (1 / 2) := fq_of half_num (by rw [half_den]; rfl)

/-! ### sizes -/
/-- both parts below 2 ^ k -/
def Sz (k : Nat) (q : Rat) : Prop := q.num.natAbs < 2 ^ k ∧ q.den < 2 ^ k
theorem Sz.mono {j k : Nat} {q : Rat} (h : Sz j q) (hl : j ≤ k) : Sz k q :=
  ⟨Nat.lt_of_lt_of_le h.1 (Nat.pow_le_pow_right (by decide) hl), Nat.lt_of_lt_of_le h.2 (Nat.pow_le_pow_right (by decide) hl)⟩
/-- n / d has no larger parts than n, d -/
theorem divInt_parts (n d : Int) (hd : d ≠ 0) : ((n : Rat) / d).num.natAbs ≤ n.natAbs ∧ ((n : Rat) / d).den ≤ d.natAbs := by
  rw [← Rat.divInt_eq_div]
  constructor
  · rw [Rat.num_divInt]
    have h1 : (d.sign * n / (d.gcd n : Int)).natAbs ≤ (d.sign * n).natAbs := Int.natAbs_ediv_le_natAbs _ _
    rw [Int.natAbs_mul, Int.natAbs_sign_of_ne_zero hd, Nat.one_mul] at h1
    exact h1
  · rw [Rat.den_divInt, if_neg hd]
    exact Nat.div_le_self _ _
theorem Sz.div_int {k : Nat} {n d : Int} (h1 : n.natAbs < 2 ^ k) (h2 : d.natAbs < 2 ^ k) (hd : d ≠ 0) : Sz k ((n : Rat) / d) :=
  ⟨Nat.lt_of_le_of_lt (divInt_parts n d hd).1 h1, Nat.lt_of_le_of_lt (divInt_parts n d hd).2 h2⟩
theorem rat_eq (q : Rat) : q = (q.num : Rat) / (q.den : Int) := by
  rw [← Rat.divInt_eq_div]; exact (Rat.num_divInt_den q).symm
theorem den_ne (q : Rat) : (q.den : Int) ≠ 0 := by have := q.den_nz; omega
theorem den_pos (q : Rat) : 0 < (q.den : Int) := by have := q.den_pos; omega
theorem add_eq (a b : Rat) : a + b = ((a.num * b.den + b.num * a.den : Int) : Rat) / ((a.den * b.den : Int) : Rat) := by
  rw [← Rat.divInt_eq_div, Rat.add_def', ← Rat.divInt_ofNat]; rfl
theorem sub_eq (a b : Rat) : a - b = ((a.num * b.den - b.num * a.den : Int) : Rat) / ((a.den * b.den : Int) : Rat) := by
  rw [← Rat.divInt_eq_div, Rat.sub_def', ← Rat.divInt_ofNat]; rfl
theorem mul_eq (a b : Rat) : a * b = ((a.num * b.num : Int) : Rat) / ((a.den * b.den : Int) : Rat) := by
  rw [← Rat.divInt_eq_div, Rat.mul_def', ← Rat.divInt_ofNat]; rfl
theorem div_eq (a b : Rat) : a / b = ((a.num * b.den : Int) : Rat) / ((a.den * b.num : Int) : Rat) := by
  rw [← Rat.divInt_eq_div, ← Rat.divInt_mul_divInt, Rat.num_divInt_den, ← Rat.inv_def, Rat.div_def]
theorem Sz.pow_mul {j k : Nat} {x y : Nat} (hx : x < 2 ^ j) (hy : y < 2 ^ k) : x * y < 2 ^ (j + k) := by
  rw [Nat.pow_add]; exact Nat.mul_lt_mul'' hx hy
theorem two_pow (k : Nat) : 2 ^ (k + 1) = 2 ^ k + 2 ^ k := by rw [Nat.pow_succ]; omega
theorem sum_lt {k : Nat} {x y : Int} (hx : x.natAbs < 2 ^ k) (hy : y.natAbs < 2 ^ k) : (x + y).natAbs < 2 ^ (k + 1) ∧ (x - y).natAbs < 2 ^ (k + 1) := by
  have := two_pow k
  constructor <;> omega
theorem mul_na {j k : Nat} {x y : Int} (hx : x.natAbs < 2 ^ j) (hy : y.natAbs < 2 ^ k) : (x * y).natAbs < 2 ^ (j + k) := by
  rw [Int.natAbs_mul]; exact Sz.pow_mul hx hy
theorem Sz.den_na {k : Nat} {q : Rat} (h : Sz k q) : (q.den : Int).natAbs < 2 ^ k := by rw [Int.natAbs_natCast]; exact h.2
section
variable {j k : Nat} {a b : Rat}
theorem Sz.add (ha : Sz j a) (hb : Sz k b) : Sz (j + k + 1) (a + b) := by
  rw [add_eq]
  refine Sz.div_int (sum_lt (mul_na ha.1 hb.den_na) ?_).1 ?_ ?_
  · have := mul_na hb.1 ha.den_na; rwa [Nat.add_comm] at this
  · exact Nat.lt_trans (mul_na ha.den_na hb.den_na) (Nat.pow_lt_pow_right (by decide) (by omega))
  · exact Int.mul_ne_zero (den_ne a) (den_ne b)
theorem Sz.sub (ha : Sz j a) (hb : Sz k b) : Sz (j + k + 1) (a - b) := by
  rw [sub_eq]
  refine Sz.div_int (sum_lt (mul_na ha.1 hb.den_na) ?_).2 ?_ ?_
  · have := mul_na hb.1 ha.den_na; rwa [Nat.add_comm] at this
  · exact Nat.lt_trans (mul_na ha.den_na hb.den_na) (Nat.pow_lt_pow_right (by decide) (by omega))
  · exact Int.mul_ne_zero (den_ne a) (den_ne b)
theorem Sz.mul (ha : Sz j a) (hb : Sz k b) : Sz (j + k) (a * b) := by
  rw [mul_eq]
  exact Sz.div_int (mul_na ha.1 hb.1) (mul_na ha.den_na hb.den_na) (Int.mul_ne_zero (den_ne a) (den_ne b))
theorem num_ne (h : b ≠ 0) : b.num ≠ 0 := fun z => h (Rat.num_eq_zero.mp z)
theorem Sz.div (ha : Sz j a) (hb : Sz k b) (h : b ≠ 0) : Sz (j + k) (a / b) := by
  rw [div_eq]
  exact Sz.div_int (mul_na ha.1 hb.den_na) (mul_na ha.den_na hb.1) (Int.mul_ne_zero (den_ne a) (num_ne h))
theorem Sz.neg (ha : Sz j a) : Sz j (-a) := ⟨by rw [Rat.neg_num, Int.natAbs_neg]; exact ha.1, ha.2⟩
theorem Sz.int {n : Int} (h : n.natAbs < 2 ^ k) (hk : 0 < k) : Sz k (n : Rat) := ⟨h, by show 1 < 2 ^ k; exact Nat.one_lt_two_pow (by omega)⟩
theorem Sz.zero : Sz 1 0 := ⟨by decide, by decide⟩
theorem Sz.one : Sz 1 1 := ⟨by decide, by decide⟩
theorem Sz.half : Sz 2 (1 / 2) := ⟨by rw [half_num]; decide, by rw [half_den]; decide⟩
end
/-- the parts of n / d, as gcd gives them -/
theorem parts_gcd (n d : Int) (hd : d ≠ 0) (s : Int) (hs : s = if d < 0 then -((Nat.gcd n.natAbs d.natAbs : Nat) : Int) else ((Nat.gcd n.natAbs d.natAbs : Nat) : Int)) : ((n : Rat) / d).num = n.fdiv s ∧ (((n : Rat) / d).den : Int) = d.fdiv s := by
  have hg : 0 < Nat.gcd n.natAbs d.natAbs := Nat.gcd_pos_of_pos_right _ (Int.natAbs_pos.mpr hd)
  have d1 : ((Nat.gcd n.natAbs d.natAbs : Nat) : Int) ∣ n := Int.natAbs_dvd_natAbs.mp (by rw [Int.natAbs_natCast]; exact Nat.gcd_dvd_left _ _)
  have d2 : ((Nat.gcd n.natAbs d.natAbs : Nat) : Int) ∣ d := Int.natAbs_dvd_natAbs.mp (by rw [Int.natAbs_natCast]; exact Nat.gcd_dvd_right _ _)
  have hgc : d.gcd n = Nat.gcd n.natAbs d.natAbs := Nat.gcd_comm _ _
  rw [← Rat.divInt_eq_div, Rat.num_divInt, Rat.den_divInt, if_neg hd, hgc]
  generalize Nat.gcd n.natAbs d.natAbs = g at *
  obtain ⟨x, rfl⟩ := d1
  obtain ⟨y, rfl⟩ := d2
  have gp : (0 : Int) < g := by omega
  have y0 : y ≠ 0 := fun z => hd (by rw [z, Int.mul_zero])
  have e1 : ∀ z : Int, ((g : Int) * z) / (g : Int) = z := fun z => Int.mul_ediv_cancel_left z (by omega)
  have f1 : ∀ z : Int, ((g : Int) * z).fdiv g = z := fun z => by rw [Int.fdiv_eq_ediv_of_nonneg _ (by omega)]; exact e1 z
  have f2 : ∀ z : Int, ((g : Int) * z).fdiv (-(g : Int)) = -z := fun z => by
    have : ((g : Int) * z) = (-(g : Int)) * (-z) := by rw [Int.neg_mul_neg]
    rw [this, Int.mul_fdiv_cancel_left _ (by omega)]
  rcases Int.lt_or_gt_of_ne y0 with h | h
  · have hn : (g : Int) * y < 0 := Int.mul_neg_of_pos_of_neg gp h
    rw [if_pos hn] at hs
    subst hs
    have sg : Int.sign ((g : Int) * y) = -1 := Int.sign_eq_neg_one_of_neg hn
    rw [sg, f2, f2]
    refine ⟨?_, ?_⟩
    · have : (-1 : Int) * ((g : Int) * x) = g * (-x) := by rw [Int.neg_one_mul, Int.mul_neg]
      rw [this, e1]
    · have : ((g : Int) * y).natAbs = g * y.natAbs := by rw [Int.natAbs_mul, Int.natAbs_natCast]
      rw [this, Nat.mul_div_cancel_left _ (by omega)]
      omega
  · have hn : 0 < (g : Int) * y := Int.mul_pos gp h
    rw [if_neg (by omega)] at hs
    subst hs
    have sg : Int.sign ((g : Int) * y) = 1 := Int.sign_eq_one_of_pos hn
    rw [sg, f1, f1]
    refine ⟨by rw [Int.one_mul, e1], ?_⟩
    have : ((g : Int) * y).natAbs = g * y.natAbs := by rw [Int.natAbs_mul, Int.natAbs_natCast]
    rw [this, Nat.mul_div_cancel_left _ (by omega)]
    omega
/-! ### slices of lists -/
theorem slD_to (xs : List D) (k : Nat) : slD (.lst xs) none (some (k : Int)) = .ok (.lst (xs.take k)) := by
  have e : HT.sIx xs.length 0 none = 0 := rfl
  simp only [slD, cutD, HT.sIx_nat, e, List.drop_zero, Nat.sub_zero, R.ok.injEq, D.lst.injEq]
  rw [← List.take_eq_take_min]
theorem slD_from (xs : List D) (k : Nat) : slD (.lst xs) (some (k : Int)) none = .ok (.lst (xs.drop k)) := by
  have e : HT.sIx xs.length xs.length none = xs.length := rfl
  simp only [slD, cutD, HT.sIx_nat, e, R.ok.injEq, D.lst.injEq]
  rw [List.take_of_length_le (by rw [List.length_drop]; omega)]
  rcases Nat.le_total k xs.length with h | h
  · rw [Nat.min_eq_left h]
  · rw [Nat.min_eq_right h, List.drop_of_length_le (Nat.le_refl _), List.drop_of_length_le h]
theorem slD_mid (xs : List D) (i j : Nat) : slD (.lst xs) (some (i : Int)) (some (j : Int)) = .ok (.lst ((xs.drop i).take (j - i))) := by
  simp only [slD, cutD, HT.sIx_nat, R.ok.injEq, D.lst.injEq]
  rcases Nat.le_total i xs.length with h | h
  · rw [Nat.min_eq_left h]
    rcases Nat.le_total j xs.length with h' | h'
    · rw [Nat.min_eq_left h']
    · rw [Nat.min_eq_right h', List.take_of_length_le (by rw [List.length_drop]; omega), List.take_of_length_le (by rw [List.length_drop]; omega)]
  · rw [Nat.min_eq_right h, List.drop_of_length_le (Nat.le_refl _), List.drop_of_length_le h]
    simp
end Rf
namespace Pg
open PySem PySem.Spec L2 Rf
def topS (i : Nat) : Stmt := PySem.Challenge.pw_whattwosettle_k75_risk_is_the_lesser_pro.main.body.getD i (.Pass ⟨0, 0, 0, 0⟩)
/-! frac(n, d): 0 n, 1 d, 2 shared -/
noncomputable def frac_T : Tb := { md := [("gcd", "math.gcd")], xc := ["BadNumber"] }
@[simp] theorem frac_xc0 : frac_T.xc[0]? = some ("BadNumber" : Str) := id rfl
def frac_B : S := (.cons (.ife (.cmp .eq (.var 1) (.int 0)) (.cons (.raise_ 0)
    .nil) .nil)
    (.cons (.asg (.name 2) (.bi .gcd (.cons (.var 0) (.cons (.var 1) .nil))))
    (.cons (.ife (.cmp .lt (.var 1) (.int 0)) (.cons (.asg (.name 2) (.neg (.var 2)))
    .nil) .nil)
    (.cons (.ret (.tup (.cons (.bin .fdiv (.var 0) (.var 2)) (.cons (.bin .fdiv (.var 1) (.var 2)) .nil))))
    .nil))))
noncomputable def frac_F : Fn := runFn 2 3 frac_T frac_B
/-! below(a, b): 0 a, 1 b -/
noncomputable def below_T : Tb := {  }
def below_B : S := (.cons (.ret (.cmp .lt (.bin .mul (.ix (.var 0) (.int 0)) (.ix (.var 1) (.int 1))) (.bin .mul (.ix (.var 1) (.int 0)) (.ix (.var 0) (.int 1)))))
    .nil)
noncomputable def below_F : Fn := runFn 2 2 below_T below_B
/-! at_most(a, b): 0 a, 1 b -/
noncomputable def at_most_T : Tb := {  }
def at_most_B : S := (.cons (.ret (.cmp .le (.bin .mul (.ix (.var 0) (.int 0)) (.ix (.var 1) (.int 1))) (.bin .mul (.ix (.var 1) (.int 0)) (.ix (.var 0) (.int 1)))))
    .nil)
noncomputable def at_most_F : Fn := runFn 2 2 at_most_T at_most_B
/-! turn(a, b, c): 0 a, 1 b, 2 c -/
noncomputable def turn_T : Tb := {  }
def turn_B : S := (.cons (.ret (.bin .sub (.bin .mul (.bin .sub (.ix (.var 1) (.int 0)) (.ix (.var 0) (.int 0))) (.bin .sub (.ix (.var 2) (.int 1)) (.ix (.var 0) (.int 1)))) (.bin .mul (.bin .sub (.ix (.var 1) (.int 1)) (.ix (.var 0) (.int 1))) (.bin .sub (.ix (.var 2) (.int 0)) (.ix (.var 0) (.int 0))))))
    .nil)
noncomputable def turn_F : Fn := runFn 3 3 turn_T turn_B
/-! whole_spots(points): 0 points, 1 wide, 2 high, 3 spots, 4 x, 5 y, 6 k -/
noncomputable def whole_spots_T : Tb := { bn := ["enumerate"], md := [("lcm", "math.lcm")] }
def whole_spots_W1 : S := (.cons (.asg (.name 1) (.bi .lcm (.cons (.var 1) (.cons (.ix (.var 4) (.int 1)) .nil))))
    (.cons (.asg (.name 2) (.bi .lcm (.cons (.var 2) (.cons (.ix (.var 5) (.int 1)) .nil))))
    .nil))
def whole_spots_L1 : S := .for_ (.tup (.cons (.name 4) (.cons (.name 5) .nil))) (.cons (.var 0) .nil) whole_spots_W1
def whole_spots_W2 : S := (.cons (.app 3 (.tup (.cons (.bin .mul (.ix (.var 4) (.int 0)) (.bin .fdiv (.var 1) (.ix (.var 4) (.int 1)))) (.cons (.bin .mul (.ix (.var 5) (.int 0)) (.bin .fdiv (.var 2) (.ix (.var 5) (.int 1)))) (.cons (.var 6) .nil)))))
    .nil)
def whole_spots_L2 : S := .for_ (.tup (.cons (.name 6) (.cons (.tup (.cons (.name 4) (.cons (.name 5) .nil))) .nil))) (.enum (.var 0)) whole_spots_W2
def whole_spots_B : S := (.cons (.asg (.name 1) (.int 1))
    (.cons (.asg (.name 2) (.int 1))
    (.cons whole_spots_L1
    (.cons (.asgO 3 (.lst .nil))
    (.cons whole_spots_L2
    (.cons (.frz [3] (.ret (.var 3)))
    .nil))))))
noncomputable def whole_spots_F : Fn := runFn 1 7 whole_spots_T whole_spots_B
/-! _law_cell(script, k): 0 script, 1 k -/
noncomputable def law_cell_T : Tb := { bn := ["len"] }
def law_cell_B : S := (.cons (.ife (.cmp .lt (.var 1) (.bi .len (.cons (.var 0) .nil))) (.cons (.ret (.ix (.var 0) (.var 1)))
    .nil) .nil)
    (.cons (.ret (.int 0))
    .nil))
noncomputable def law_cell_F : Fn := runFn 2 2 law_cell_T law_cell_B
/-! _law_digits(cell, base, count): 0 cell, 1 base, 2 count, 3 rest, 4 digits, 5 k -/
noncomputable def law_digits_T : Tb := { bn := ["abs", "int", "range"] }
def law_digits_W1 : S := (.cons (.app 4 (.bin .mod (.bi .int (.cons (.var 3) .nil)) (.var 1)))
    (.cons (.asg (.name 3) (.bin .fdiv (.var 3) (.var 1)))
    .nil))
def law_digits_L1 : S := .for_ (.name 5) (.rng1 (.var 2)) law_digits_W1
def law_digits_W2 : S := (.cons (.asg (.name 3) (.bin .mod (.bi .int (.cons (.bin .add (.bin .add (.bin .mul (.var 3) (.int 48271)) (.bin .mul (.var 5) (.int 69621))) (.int 17)) .nil)) (.int 2147483647)))
    (.cons (.asg (.name 3) (.bin .mod (.bi .int (.cons (.bin .add (.bin .add (.bin .mul (.var 3) (.int 16807)) (.bin .mul (.int 2) (.var 5))) (.int 5)) .nil)) (.int 2147483629)))
    (.cons (.app 4 (.bin .mod (.bi .int (.cons (.bin .fdiv (.var 3) (.int 64)) .nil)) (.var 1)))
    .nil)))
def law_digits_L2 : S := .for_ (.name 5) (.rng1 (.var 2)) law_digits_W2
def law_digits_B : S := (.cons (.asg (.name 3) (.bi .abs (.cons (.bi .int (.cons (.var 0) .nil)) .nil)))
    (.cons (.asgO 4 (.lst .nil))
    (.cons (.ife (.cmp .ge (.var 3) (.bin .pow (.int 10) (.int 18))) (.cons law_digits_L1
    (.cons (.frz [4] (.ret (.var 4)))
    .nil)) .nil)
    (.cons law_digits_L2
    (.cons (.frz [4] (.ret (.var 4)))
    .nil)))))
noncomputable def law_digits_F : Fn := runFn 3 6 law_digits_T law_digits_B
/-! _law_lowest(n, d): 0 n, 1 d, 2 a, 3 b, 4 c -/
noncomputable def law_lowest_T : Tb := { bn := ["abs"] }
def law_lowest_W1 : S := (.cons (.asg (.name 4) (.bin .sub (.var 2) (.bin .mul (.bin .fdiv (.var 2) (.var 3)) (.var 3))))
    (.cons (.asg (.name 2) (.var 3))
    (.cons (.asg (.name 3) (.var 4))
    .nil)))
def law_lowest_L1 : S := .while_ (.cmp .gt (.var 3) (.int 0)) law_lowest_W1
def law_lowest_B : S := (.cons (.asg (.name 2) (.bi .abs (.cons (.var 0) .nil)))
    (.cons (.asg (.name 3) (.var 1))
    (.cons law_lowest_L1
    (.cons (.ret (.tup (.cons (.bin .fdiv (.var 0) (.var 2)) (.cons (.bin .fdiv (.var 1) (.var 2)) .nil))))
    .nil))))
noncomputable def law_lowest_F : Fn := runFn 2 5 law_lowest_T law_lowest_B
/-! _law_steps(row, many): 0 row, 1 many, 2 steps, 3 k, 4 step, 5 at -/
noncomputable def law_steps_T : Tb := { bn := ["range", "int", "len"] }
def law_steps_W1 : S := (.cons (.asg (.name 5) (.bin .add (.var 5) (.int 1)))
    .nil)
def law_steps_L1 : S := .while_ (.and (.cmp .lt (.var 5) (.bi .len (.cons (.var 2) .nil))) (.cmp .lt (.bin .mul (.ix (.ix (.var 2) (.var 5)) (.int 1)) (.ix (.var 4) (.int 0))) (.bin .mul (.ix (.var 4) (.int 1)) (.ix (.ix (.var 2) (.var 5)) (.int 0))))) law_steps_W1
def law_steps_W2 : S := (.cons (.asg (.name 4) (.tup (.cons (.bin .add (.int 1) (.ix (.var 0) (.bin .add (.int 12) (.bin .mul (.int 2) (.var 3))))) (.cons (.bin .add (.int 1) (.ix (.var 0) (.bin .add (.int 13) (.bin .mul (.int 2) (.var 3))))) .nil))))
    (.cons (.ife (.cmp .eq (.bin .mod (.bi .int (.cons (.ix (.var 0) (.int 2)) .nil)) (.int 2)) (.int 0)) (.cons (.asg (.name 4) (.tup (.cons (.bin .add (.int 1) (.bin .mod (.bi .int (.cons (.ix (.var 0) (.bin .add (.int 12) (.bin .mul (.int 2) (.var 3)))) .nil)) (.int 7))) (.cons (.bin .add (.int 1) (.bin .mod (.bi .int (.cons (.ix (.var 0) (.bin .add (.int 13) (.bin .mul (.int 2) (.var 3)))) .nil)) (.int 7))) .nil))))
    .nil) .nil)
    (.cons (.asg (.name 5) (.int 0))
    (.cons law_steps_L1
    (.cons (.ife (.or (.cmp .eq (.var 5) (.bi .len (.cons (.var 2) .nil))) (.cmp .gt (.bin .mul (.ix (.ix (.var 2) (.var 5)) (.int 1)) (.ix (.var 4) (.int 0))) (.bin .mul (.ix (.var 4) (.int 1)) (.ix (.ix (.var 2) (.var 5)) (.int 0))))) (.cons (.asg (.name 2) (.bin .add (.bin .add (.sl (.var 2) .nil (.cons (.var 5) .nil)) (.lst (.cons (.var 4) .nil))) (.sl (.var 2) (.cons (.var 5) .nil) .nil)))
    .nil) .nil)
    .nil)))))
def law_steps_L2 : S := .for_ (.name 3) (.rng1 (.var 1)) law_steps_W2
def law_steps_B : S := (.cons (.asg (.name 2) (.lst .nil))
    (.cons law_steps_L2
    (.cons (.ret (.var 2))
    .nil)))
noncomputable def law_steps_F : Fn := runFn 2 6 law_steps_T law_steps_B
/-! _law_bounds(chain): 0 chain, 1 bounds, 2 k, 3 a, 4 b -/
noncomputable def law_bounds_T : Tb := { bn := ["range", "len"] }
def law_bounds_W1 : S := (.cons (.asg (.name 3) (.bin .sub (.ix (.ix (.var 0) (.bin .sub (.var 2) (.int 1))) (.int 1)) (.ix (.ix (.var 0) (.var 2)) (.int 1))))
    (.cons (.asg (.name 4) (.bin .sub (.ix (.ix (.var 0) (.var 2)) (.int 0)) (.ix (.ix (.var 0) (.bin .sub (.var 2) (.int 1))) (.int 0))))
    (.cons (.app 1 (.tup (.cons (.var 3) (.cons (.var 4) (.cons (.bin .add (.bin .mul (.var 3) (.ix (.ix (.var 0) (.var 2)) (.int 0))) (.bin .mul (.var 4) (.ix (.ix (.var 0) (.var 2)) (.int 1)))) .nil)))))
    .nil)))
def law_bounds_L1 : S := .for_ (.name 2) (.rng2 (.int 1) (.bi .len (.cons (.var 0) .nil))) law_bounds_W1
def law_bounds_B : S := (.cons (.asgO 1 (.lst (.cons (.tup (.cons (.int 1) (.cons (.int 0) (.cons (.ix (.ix (.var 0) (.neg (.int 1))) (.int 0)) .nil)))) (.cons (.tup (.cons (.int 0) (.cons (.int 1) (.cons (.ix (.ix (.var 0) (.int 0)) (.int 1)) .nil)))) .nil))))
    (.cons law_bounds_L1
    (.cons (.frz [1] (.ret (.var 1)))
    .nil)))
noncomputable def law_bounds_F : Fn := runFn 1 5 law_bounds_T law_bounds_B
/-! _law_box(chain): 0 chain, 1 k -/
noncomputable def law_box_T : Tb := { bn := ["len"] }
def law_box_B : S := (.cons (.ife (.cmp .eq (.bi .len (.cons (.var 0) .nil)) (.int 1)) (.cons (.ret (.tup (.cons (.tup (.cons (.ix (.ix (.var 0) (.int 0)) (.int 0)) (.cons (.int 1) .nil))) (.cons (.tup (.cons (.ix (.ix (.var 0) (.int 0)) (.int 1)) (.cons (.int 1) .nil))) .nil))))
    .nil) .nil)
    (.cons (.asg (.name 1) (.bin .fdiv (.bi .len (.cons (.var 0) .nil)) (.int 2)))
    (.cons (.ret (.tup (.cons (.tup (.cons (.bin .add (.ix (.ix (.var 0) (.bin .sub (.var 1) (.int 1))) (.int 0)) (.ix (.ix (.var 0) (.var 1)) (.int 0))) (.cons (.int 2) .nil))) (.cons (.tup (.cons (.bin .add (.ix (.ix (.var 0) (.bin .sub (.var 1) (.int 1))) (.int 1)) (.ix (.ix (.var 0) (.var 1)) (.int 1))) (.cons (.int 2) .nil))) .nil))))
    .nil)))
noncomputable def law_box_F : Fn := runFn 1 2 law_box_T law_box_B
/-! _law_spot(chain, row): 0 chain, 1 row, 2 k, 3 left, 4 i, 5 x, 6 y -/
noncomputable def law_spot_T : Tb := { bn := ["int", "len", "max"] }
def law_spot_B : S := (.cons (.asg (.name 2) (.bin .mod (.bi .int (.cons (.ix (.var 1) (.int 1)) .nil)) (.bi .len (.cons (.var 0) .nil))))
    (.cons (.asg (.name 3) (.ix (.var 0) (.bi .max2 (.cons (.bin .sub (.var 2) (.int 1)) (.cons (.int 0) .nil)))))
    (.cons (.asg (.name 4) (.bin .mod (.bi .int (.cons (.ix (.var 1) (.int 2)) .nil)) (.int 13)))
    (.cons (.asg (.name 5) (.bin .add (.bin .mul (.ix (.var 3) (.int 0)) (.bin .sub (.int 12) (.var 4))) (.bin .mul (.ix (.ix (.var 0) (.var 2)) (.int 0)) (.var 4))))
    (.cons (.asg (.name 6) (.bin .add (.bin .mul (.ix (.var 3) (.int 1)) (.bin .sub (.int 12) (.var 4))) (.bin .mul (.ix (.ix (.var 0) (.var 2)) (.int 1)) (.var 4))))
    (.cons (.ife (.cmp .lt (.bin .mod (.bi .int (.cons (.ix (.var 1) (.int 0)) .nil)) (.int 5)) (.int 2)) (.cons (.ret (.tup (.cons (.tup (.cons (.var 5) (.cons (.int 12) .nil))) (.cons (.tup (.cons (.var 6) (.cons (.int 12) .nil))) .nil))))
    .nil) .nil)
    (.cons (.ife (.cmp .eq (.bin .mod (.bi .int (.cons (.ix (.var 1) (.int 0)) .nil)) (.int 5)) (.int 2)) (.cons (.ret (.tup (.cons (.tup (.cons (.bin .mul (.ix (.ix (.var 0) (.int 0)) (.int 0)) (.var 4)) (.cons (.int 12) .nil))) (.cons (.tup (.cons (.ix (.ix (.var 0) (.int 0)) (.int 1)) (.cons (.int 1) .nil))) .nil))))
    .nil) .nil)
    (.cons (.ife (.cmp .eq (.bin .mod (.bi .int (.cons (.ix (.var 1) (.int 0)) .nil)) (.int 5)) (.int 3)) (.cons (.ret (.tup (.cons (.tup (.cons (.ix (.ix (.var 0) (.neg (.int 1))) (.int 0)) (.cons (.int 1) .nil))) (.cons (.tup (.cons (.bin .mul (.ix (.ix (.var 0) (.neg (.int 1))) (.int 1)) (.var 4)) (.cons (.int 12) .nil))) .nil))))
    .nil) .nil)
    (.cons (.ret (.tup (.cons (.tup (.cons (.bin .mul (.var 5) (.bin .mod (.bi .int (.cons (.ix (.var 1) (.int 3)) .nil)) (.int 13))) (.cons (.int 144) .nil))) (.cons (.tup (.cons (.bin .mul (.var 6) (.bin .mod (.bi .int (.cons (.ix (.var 1) (.int 4)) .nil)) (.int 13))) (.cons (.int 144) .nil))) .nil))))
    .nil)))))))))
noncomputable def law_spot_F : Fn := runFn 2 7 law_spot_T law_spot_B
/-! _law_beyond(corner, pick): 0 corner, 1 pick -/
noncomputable def law_beyond_T : Tb := { bn := ["int"] }
def law_beyond_B : S := (.cons (.ife (.cmp .eq (.bin .mod (.bi .int (.cons (.var 1) .nil)) (.int 4)) (.int 0)) (.cons (.ret (.tup (.cons (.tup (.cons (.bin .add (.bin .mul (.int 97) (.ix (.var 0) (.int 0))) (.int 1)) (.cons (.int 97) .nil))) (.cons (.tup (.cons (.ix (.var 0) (.int 1)) (.cons (.int 1) .nil))) .nil))))
    .nil) .nil)
    (.cons (.ife (.cmp .eq (.bin .mod (.bi .int (.cons (.var 1) .nil)) (.int 4)) (.int 1)) (.cons (.ret (.tup (.cons (.tup (.cons (.ix (.var 0) (.int 0)) (.cons (.int 1) .nil))) (.cons (.tup (.cons (.bin .add (.bin .mul (.int 97) (.ix (.var 0) (.int 1))) (.int 1)) (.cons (.int 97) .nil))) .nil))))
    .nil) .nil)
    (.cons (.ife (.cmp .eq (.bin .mod (.bi .int (.cons (.var 1) .nil)) (.int 4)) (.int 2)) (.cons (.ret (.tup (.cons (.tup (.cons (.neg (.int 1)) (.cons (.int 97) .nil))) (.cons (.tup (.cons (.ix (.var 0) (.int 1)) (.cons (.int 1) .nil))) .nil))))
    .nil) .nil)
    (.cons (.ret (.tup (.cons (.tup (.cons (.ix (.var 0) (.int 0)) (.cons (.int 1) .nil))) (.cons (.tup (.cons (.neg (.int 1)) (.cons (.int 97) .nil))) .nil))))
    .nil))))
noncomputable def law_beyond_F : Fn := runFn 2 2 law_beyond_T law_beyond_B
/-! _law_word(e): 0 e -/
noncomputable def law_wordH_T : Tb := { bn := ["isinstance"], xi := [("ValueError", [("BadNumber", true), ("Outside", true)]), ("BadMenu", [("BadNumber", false), ("Outside", false)]), ("NoGain", [("BadNumber", false), ("Outside", false)]), ("TooMany", [("BadNumber", false), ("Outside", false)]), ("Outside", [("BadNumber", false), ("Outside", true)]), ("BadNumber", [("BadNumber", true), ("Outside", false)])], hm := true }
@[simp] theorem law_wordH_xi : law_wordH_T.xi = ([("ValueError", [("BadNumber", true), ("Outside", true)]), ("BadMenu", [("BadNumber", false), ("Outside", false)]), ("NoGain", [("BadNumber", false), ("Outside", false)]), ("TooMany", [("BadNumber", false), ("Outside", false)]), ("Outside", [("BadNumber", false), ("Outside", true)]), ("BadNumber", [("BadNumber", true), ("Outside", false)])] : List (Str × List (Str × Bool))) := rfl
def law_wordH_B : S := (.cons (.ife (.or (.not (.isx (.var 0) 0)) (.or (.isx (.var 0) 1) (.or (.isx (.var 0) 2) (.isx (.var 0) 3)))) (.cons (.ret (.str "other"))
    .nil) .nil)
    (.cons (.ife (.and (.isx (.var 0) 4) (.not (.isx (.var 0) 5))) (.cons (.ret (.str "outside"))
    .nil) .nil)
    (.cons (.ife (.and (.isx (.var 0) 5) (.not (.isx (.var 0) 4))) (.cons (.ret (.str "number"))
    .nil) .nil)
    (.cons (.ret (.str "other"))
    .nil))))
noncomputable def law_wordH_F : Fn := runFn 1 1 law_wordH_T law_wordH_B
/-! _law_due_way(one, other, inside): 0 one, 1 other, 2 inside, 3 first, 4 second -/
noncomputable def law_due_way_T : Tb := { bn := ["int"] }
def law_due_way_B : S := (.cons (.ife (.not (.var 2)) (.cons (.ret (.tup (.cons (.str "outside") (.cons .non .nil))))
    .nil) .nil)
    (.cons (.ife (.or (.cmp .eq (.ix (.ix (.var 0) (.int 0)) (.int 0)) (.int 0)) (.cmp .eq (.ix (.ix (.var 1) (.int 1)) (.int 0)) (.int 0))) (.cons (.ret (.tup (.cons (.str "number") (.cons .non .nil))))
    .nil) .nil)
    (.cons (.asg (.name 3) (.bin .mul (.bin .mul (.bin .mul (.ix (.ix (.var 0) (.int 0)) (.int 0)) (.ix (.ix (.var 0) (.int 1)) (.int 0))) (.ix (.ix (.var 1) (.int 0)) (.int 1))) (.ix (.ix (.var 1) (.int 1)) (.int 1))))
    (.cons (.asg (.name 4) (.bin .mul (.bin .mul (.bin .mul (.ix (.ix (.var 1) (.int 0)) (.int 0)) (.ix (.ix (.var 1) (.int 1)) (.int 0))) (.ix (.ix (.var 0) (.int 0)) (.int 1))) (.ix (.ix (.var 0) (.int 1)) (.int 1))))
    (.cons (.ret (.tup (.cons (.str "kept") (.cons (.bi .int (.cons (.cmp .lt (.var 4) (.var 3)) .nil)) .nil))))
    .nil)))))
noncomputable def law_due_way_F : Fn := runFn 3 5 law_due_way_T law_due_way_B
/-! plus(a, b): 0 a, 1 b -/
noncomputable def plus_T : Tb := { fn := [("frac", frac_F)] }
@[simp] theorem plus_fn0 : plus_T.fn[0]? = some (("frac" : Str), frac_F) := id rfl
def plus_B : S := (.cons (.ret (.call 0 (.cons (.bin .add (.bin .mul (.ix (.var 0) (.int 0)) (.ix (.var 1) (.int 1))) (.bin .mul (.ix (.var 1) (.int 0)) (.ix (.var 0) (.int 1)))) (.cons (.bin .mul (.ix (.var 0) (.int 1)) (.ix (.var 1) (.int 1))) .nil))))
    .nil)
noncomputable def plus_F : Fn := runFn 2 2 plus_T plus_B
/-! minus(a, b): 0 a, 1 b -/
noncomputable def minus_T : Tb := { fn := [("frac", frac_F)] }
@[simp] theorem minus_fn0 : minus_T.fn[0]? = some (("frac" : Str), frac_F) := id rfl
def minus_B : S := (.cons (.ret (.call 0 (.cons (.bin .sub (.bin .mul (.ix (.var 0) (.int 0)) (.ix (.var 1) (.int 1))) (.bin .mul (.ix (.var 1) (.int 0)) (.ix (.var 0) (.int 1)))) (.cons (.bin .mul (.ix (.var 0) (.int 1)) (.ix (.var 1) (.int 1))) .nil))))
    .nil)
noncomputable def minus_F : Fn := runFn 2 2 minus_T minus_B
/-! times(a, b): 0 a, 1 b -/
noncomputable def times_T : Tb := { fn := [("frac", frac_F)] }
@[simp] theorem times_fn0 : times_T.fn[0]? = some (("frac" : Str), frac_F) := id rfl
def times_B : S := (.cons (.ret (.call 0 (.cons (.bin .mul (.ix (.var 0) (.int 0)) (.ix (.var 1) (.int 0))) (.cons (.bin .mul (.ix (.var 0) (.int 1)) (.ix (.var 1) (.int 1))) .nil))))
    .nil)
noncomputable def times_F : Fn := runFn 2 2 times_T times_B
/-! over(a, b): 0 a, 1 b -/
noncomputable def over_T : Tb := { fn := [("frac", frac_F)], xc := ["BadNumber"] }
@[simp] theorem over_fn0 : over_T.fn[0]? = some (("frac" : Str), frac_F) := id rfl
@[simp] theorem over_xc0 : over_T.xc[0]? = some ("BadNumber" : Str) := id rfl
def over_B : S := (.cons (.ife (.cmp .eq (.ix (.var 1) (.int 0)) (.int 0)) (.cons (.raise_ 0)
    .nil) .nil)
    (.cons (.ret (.call 0 (.cons (.bin .mul (.ix (.var 0) (.int 0)) (.ix (.var 1) (.int 1))) (.cons (.bin .mul (.ix (.var 0) (.int 1)) (.ix (.var 1) (.int 0))) .nil))))
    .nil))
noncomputable def over_F : Fn := runFn 2 2 over_T over_B
/-! no_worse(one, other): 0 one, 1 other -/
noncomputable def no_worse_T : Tb := { fn := [("at_most", at_most_F)] }
@[simp] theorem no_worse_fn0 : no_worse_T.fn[0]? = some (("at_most" : Str), at_most_F) := id rfl
def no_worse_B : S := (.cons (.ret (.and (.call 0 (.cons (.ix (.var 1) (.int 0)) (.cons (.ix (.var 0) (.int 0)) .nil))) (.call 0 (.cons (.ix (.var 1) (.int 1)) (.cons (.ix (.var 0) (.int 1)) .nil)))))
    .nil)
noncomputable def no_worse_F : Fn := runFn 2 2 no_worse_T no_worse_B
/-! upper_chain(points): 0 points, 1 chain, 2 spot -/
noncomputable def upper_chain_T : Tb := { fn := [("whole_spots", whole_spots_F), ("turn", turn_F)], bn := ["sorted", "len"] }
@[simp] theorem upper_chain_fn0 : upper_chain_T.fn[0]? = some (("whole_spots" : Str), whole_spots_F) := id rfl
@[simp] theorem upper_chain_fn1 : upper_chain_T.fn[1]? = some (("turn" : Str), turn_F) := id rfl
def upper_chain_W1 : S := (.cons (.pop 1)
    .nil)
def upper_chain_L1 : S := .while_ (.and (.cmp .ge (.olen 1) (.int 2)) (.cmp .ge (.call 1 (.cons (.oix 1 (.neg (.int 2))) (.cons (.oix 1 (.neg (.int 1))) (.cons (.var 2) .nil)))) (.int 0))) upper_chain_W1
def upper_chain_W2 : S := (.cons upper_chain_L1
    (.cons (.app 1 (.var 2))
    .nil))
def upper_chain_L2 : S := .for_ (.name 2) (.cons (.bi .sorted (.cons (.call 0 (.cons (.var 0) .nil)) .nil)) .nil) upper_chain_W2
def upper_chain_W3 : S := (.cons (.frz [1] (.asgO 1 (.sl (.var 1) (.cons (.int 1) .nil) .nil)))
    .nil)
def upper_chain_L3 : S := .while_ (.and (.cmp .ge (.olen 1) (.int 2)) (.cmp .ge (.ix (.oix 1 (.int 1)) (.int 1)) (.ix (.oix 1 (.int 0)) (.int 1)))) upper_chain_W3
def upper_chain_C1 : E := (.comp (.ix (.var 0) (.ix (.var 2) (.int 2))) (.name 2) (.cons (.var 1) .nil) .nil [2])
def upper_chain_B : S := (.cons (.asgO 1 (.lst .nil))
    (.cons upper_chain_L2
    (.cons upper_chain_L3
    (.cons (.frz [1] (.ret upper_chain_C1))
    .nil))))
noncomputable def upper_chain_F : Fn := runFn 1 3 upper_chain_T upper_chain_B
/-! _law_is_number(value): 0 value, 1 part -/
noncomputable def law_is_number_T : Tb := { fn := [("_law_lowest", law_lowest_F)], bn := ["isinstance", "tuple", "len", "int", "bool"] }
@[simp] theorem law_is_number_fn0 : law_is_number_T.fn[0]? = some (("_law_lowest" : Str), law_lowest_F) := id rfl
def law_is_number_W1 : S := (.cons (.ife (.or (.not (.isi (.var 1) .int)) (.isi (.var 1) .bool)) (.cons (.ret (.bl false))
    .nil) .nil)
    .nil)
def law_is_number_L1 : S := .for_ (.name 1) (.cons (.var 0) .nil) law_is_number_W1
def law_is_number_B : S := (.cons (.ife (.or (.not (.isi (.var 0) .tuple)) (.cmp .ne (.bi .len (.cons (.var 0) .nil)) (.int 2))) (.cons (.ret (.bl false))
    .nil) .nil)
    (.cons law_is_number_L1
    (.cons (.ret (.and (.cmp .gt (.ix (.var 0) (.int 1)) (.int 0)) (.cmp .eq (.call 0 (.cons (.ix (.var 0) (.int 0)) (.cons (.ix (.var 0) (.int 1)) .nil))) (.var 0))))
    .nil)))
noncomputable def law_is_number_F : Fn := runFn 1 2 law_is_number_T law_is_number_B
/-! _law_world(cell): 0 cell, 1 row, 2 many, 3 steps, 4 x, 5 y, 6 step, 7 chain, 8 units, 9 left, 10 low, 11 one -/
noncomputable def law_world_T : Tb := { fn := [("_law_digits", law_digits_F), ("_law_steps", law_steps_F), ("_law_lowest", law_lowest_F), ("_law_bounds", law_bounds_F)], bn := ["int", "max"] }
@[simp] theorem law_world_fn0 : law_world_T.fn[0]? = some (("_law_digits" : Str), law_digits_F) := id rfl
@[simp] theorem law_world_fn1 : law_world_T.fn[1]? = some (("_law_steps" : Str), law_steps_F) := id rfl
@[simp] theorem law_world_fn2 : law_world_T.fn[2]? = some (("_law_lowest" : Str), law_lowest_F) := id rfl
@[simp] theorem law_world_fn3 : law_world_T.fn[3]? = some (("_law_bounds" : Str), law_bounds_F) := id rfl
def law_world_W1 : S := (.cons (.asg (.name 5) (.bin .add (.var 5) (.ix (.var 6) (.int 1))))
    .nil)
def law_world_L1 : S := .for_ (.name 6) (.cons (.var 3) .nil) law_world_W1
def law_world_W2 : S := (.cons (.asg (.name 4) (.bin .add (.var 4) (.ix (.var 6) (.int 0))))
    (.cons (.asg (.name 5) (.bin .sub (.var 5) (.ix (.var 6) (.int 1))))
    (.cons (.app 7 (.tup (.cons (.var 4) (.cons (.var 5) .nil))))
    .nil)))
def law_world_L2 : S := .for_ (.name 6) (.cons (.var 3) .nil) law_world_W2
def law_world_C1 : E := (.comp (.bin .add (.bin .mul (.var 11) (.bin .pow (.int 10) (.int 5))) (.ix (.var 1) (.int 9))) (.name 11) (.cons (.var 8) .nil) .nil [11])
def law_world_B : S := (.cons (.asg (.name 1) (.call 0 (.cons (.var 0) (.cons (.int 60) (.cons (.int 54) .nil)))))
    (.cons (.asg (.name 2) (.bin .mod (.bi .int (.cons (.ix (.var 1) (.int 0)) .nil)) (.int 6)))
    (.cons (.ife (.cmp .ge (.ix (.var 1) (.int 0)) (.int 54)) (.cons (.asg (.name 2) (.bin .add (.int 6) (.bin .mod (.bi .int (.cons (.ix (.var 1) (.int 1)) .nil)) (.int 16))))
    .nil) .nil)
    (.cons (.asg (.name 3) (.call 1 (.cons (.var 1) (.cons (.var 2) .nil))))
    (.cons (.asg (.name 4) (.bi .max2 (.cons (.int 0) (.cons (.bin .sub (.bin .mod (.bi .int (.cons (.ix (.var 1) (.int 3)) .nil)) (.int 8)) (.int 3)) .nil))))
    (.cons (.asg (.name 5) (.bi .max2 (.cons (.int 0) (.cons (.bin .sub (.bin .mod (.bi .int (.cons (.ix (.var 1) (.int 4)) .nil)) (.int 8)) (.int 3)) .nil))))
    (.cons (.ife (.cmp .eq (.var 3) (.lst .nil)) (.cons (.asg (.name 4) (.bin .add (.var 4) (.int 1)))
    (.cons (.asg (.name 5) (.bin .add (.var 5) (.int 1)))
    .nil)) .nil)
    (.cons law_world_L1
    (.cons (.asgO 7 (.lst (.cons (.tup (.cons (.var 4) (.cons (.var 5) .nil))) .nil)))
    (.cons law_world_L2
    (.cons (.asg (.name 8) (.lst (.cons (.bin .add (.int 1) (.bin .mod (.bi .int (.cons (.ix (.var 1) (.int 5)) .nil)) (.int 6))) (.cons (.bin .add (.int 1) (.bin .mod (.bi .int (.cons (.ix (.var 1) (.int 6)) .nil)) (.int 6))) (.cons (.bin .add (.int 1) (.bin .mod (.bi .int (.cons (.ix (.var 1) (.int 7)) .nil)) (.int 6))) (.cons (.bin .add (.int 1) (.bin .mod (.bi .int (.cons (.ix (.var 1) (.int 8)) .nil)) (.int 6))) .nil))))))
    (.cons (.ife (.cmp .eq (.bin .mod (.bi .int (.cons (.ix (.var 1) (.int 2)) .nil)) (.int 5)) (.int 4)) (.cons (.asg (.name 8) law_world_C1)
    .nil) .nil)
    (.cons (.asg (.name 9) (.call 2 (.cons (.bin .sub (.ix (.var 1) (.int 10)) (.int 30)) (.cons (.bin .add (.int 1) (.bin .mod (.bi .int (.cons (.ix (.var 1) (.int 9)) .nil)) (.int 6))) .nil))))
    (.cons (.asg (.name 10) (.call 2 (.cons (.bin .sub (.ix (.var 1) (.int 11)) (.int 30)) (.cons (.bin .add (.int 1) (.bin .mod (.bi .int (.cons (.ix (.var 1) (.int 8)) .nil)) (.int 6))) .nil))))
    (.cons (.frz [7] (.ret (.tup (.cons (.tup (.cons (.var 9) (.cons (.var 10) .nil))) (.cons (.var 8) (.cons (.var 7) (.cons (.call 3 (.cons (.var 7) .nil)) .nil)))))))
    .nil)))))))))))))))
noncomputable def law_world_F : Fn := runFn 1 12 law_world_T law_world_B
/-! _law_at(world, x, y): 0 world, 1 x, 2 y, 3 units, 4 left, 5 low, 6 first, 7 second -/
noncomputable def law_at_T : Tb := { fn := [("_law_lowest", law_lowest_F)] }
@[simp] theorem law_at_fn0 : law_at_T.fn[0]? = some (("_law_lowest" : Str), law_lowest_F) := id rfl
def law_at_B : S := (.cons (.asg (.name 3) (.ix (.var 0) (.int 1)))
    (.cons (.asg (.name 4) (.ix (.ix (.var 0) (.int 0)) (.int 0)))
    (.cons (.asg (.name 5) (.ix (.ix (.var 0) (.int 0)) (.int 1)))
    (.cons (.asg (.name 6) (.bin .add (.bin .mul (.bin .mul (.ix (.var 4) (.int 0)) (.ix (.var 3) (.int 1))) (.ix (.var 1) (.int 1))) (.bin .mul (.bin .mul (.ix (.var 4) (.int 1)) (.ix (.var 3) (.int 0))) (.ix (.var 1) (.int 0)))))
    (.cons (.asg (.name 7) (.bin .add (.bin .mul (.bin .mul (.ix (.var 5) (.int 0)) (.ix (.var 3) (.int 3))) (.ix (.var 2) (.int 1))) (.bin .mul (.bin .mul (.ix (.var 5) (.int 1)) (.ix (.var 3) (.int 2))) (.ix (.var 2) (.int 0)))))
    (.cons (.ret (.tup (.cons (.call 0 (.cons (.var 6) (.cons (.bin .mul (.bin .mul (.ix (.var 4) (.int 1)) (.ix (.var 3) (.int 1))) (.ix (.var 1) (.int 1))) .nil))) (.cons (.call 0 (.cons (.var 7) (.cons (.bin .mul (.bin .mul (.ix (.var 5) (.int 1)) (.ix (.var 3) (.int 3))) (.ix (.var 2) (.int 1))) .nil))) .nil))))
    .nil))))))
noncomputable def law_at_F : Fn := runFn 3 8 law_at_T law_at_B
/-! _law_large(world, cell): 0 world, 1 cell, 2 row, 3 one -/
noncomputable def law_large_T : Tb := { fn := [("_law_digits", law_digits_F)] }
@[simp] theorem law_large_fn0 : law_large_T.fn[0]? = some (("_law_digits" : Str), law_digits_F) := id rfl
def law_large_C1 : E := (.comp (.bin .add (.int 1) (.var 3)) (.name 3) (.cons (.var 2) .nil) .nil [3])
def law_large_B : S := (.cons (.asg (.name 2) (.call 0 (.cons (.var 1) (.cons (.bin .pow (.int 10) (.int 28)) (.cons (.int 4) .nil)))))
    (.cons (.ret (.tup (.cons (.ix (.var 0) (.int 0)) (.cons law_large_C1 (.cons (.ix (.var 0) (.int 2)) (.cons (.ix (.var 0) (.int 3)) .nil))))))
    .nil))
noncomputable def law_large_F : Fn := runFn 2 4 law_large_T law_large_B
/-! _law_pair(chain, row): 0 chain, 1 row, 2 box, 3 p, 4 q, 5 r, 6 s, 7 one, 8 other, 9 x, 10 y, 11 first -/
noncomputable def law_pair_T : Tb := { fn := [("_law_spot", law_spot_F), ("_law_box", law_box_F)], bn := ["int"] }
@[simp] theorem law_pair_fn0 : law_pair_T.fn[0]? = some (("_law_spot" : Str), law_spot_F) := id rfl
@[simp] theorem law_pair_fn1 : law_pair_T.fn[1]? = some (("_law_box" : Str), law_box_F) := id rfl
def law_pair_B : S := (.cons (.ife (.cmp .eq (.bin .mod (.bi .int (.cons (.ix (.var 1) (.int 0)) .nil)) (.int 2)) (.int 1)) (.cons (.ret (.tup (.cons (.call 0 (.cons (.var 0) (.cons (.sl (.var 1) (.cons (.int 1) .nil) (.cons (.int 6) .nil)) .nil))) (.cons (.call 0 (.cons (.var 0) (.cons (.sl (.var 1) (.cons (.int 6) .nil) (.cons (.int 11) .nil)) .nil))) .nil))))
    .nil) .nil)
    (.cons (.asg (.name 2) (.call 1 (.cons (.var 0) .nil)))
    (.cons (.asg (.name 3) (.bin .add (.int 1) (.bin .mod (.bi .int (.cons (.ix (.var 1) (.int 1)) .nil)) (.int 8))))
    (.cons (.asg (.name 4) (.bin .add (.int 1) (.bin .mod (.bi .int (.cons (.ix (.var 1) (.int 2)) .nil)) (.int 8))))
    (.cons (.asg (.name 5) (.bin .add (.int 1) (.bin .mod (.bi .int (.cons (.ix (.var 1) (.int 3)) .nil)) (.int 8))))
    (.cons (.asg (.name 6) (.bin .add (.int 1) (.bin .mod (.bi .int (.cons (.ix (.var 1) (.int 4)) .nil)) (.int 8))))
    (.cons (.asgO 7 (.lst (.cons (.bin .mul (.bin .mul (.int 1000) (.var 3)) (.var 4)) (.cons (.bin .mul (.bin .mul (.int 1000) (.var 5)) (.var 6)) .nil))))
    (.cons (.asgO 8 (.lst (.cons (.bin .mul (.bin .mul (.int 1000) (.var 3)) (.var 5)) (.cons (.bin .mul (.bin .mul (.int 1000) (.var 4)) (.var 6)) .nil))))
    (.cons (.ife (.cmp .eq (.bin .mod (.bi .int (.cons (.ix (.var 1) (.int 5)) .nil)) (.int 4)) (.int 2)) (.cons (.asgIx 7 (.bin .mod (.bi .int (.cons (.ix (.var 1) (.int 6)) .nil)) (.int 2)) (.bin .sub (.oix 7 (.bin .mod (.bi .int (.cons (.ix (.var 1) (.int 6)) .nil)) (.int 2))) (.int 1)))
    .nil) .nil)
    (.cons (.ife (.cmp .eq (.bin .mod (.bi .int (.cons (.ix (.var 1) (.int 5)) .nil)) (.int 4)) (.int 3)) (.cons (.asgIx 8 (.bin .mod (.bi .int (.cons (.ix (.var 1) (.int 6)) .nil)) (.int 2)) (.bin .sub (.oix 8 (.bin .mod (.bi .int (.cons (.ix (.var 1) (.int 6)) .nil)) (.int 2))) (.int 1)))
    .nil) .nil)
    (.cons (.asg (.name 9) (.ix (.var 2) (.int 0)))
    (.cons (.asg (.name 10) (.ix (.var 2) (.int 1)))
    (.cons (.asg (.name 11) (.tup (.cons (.tup (.cons (.bin .mul (.ix (.var 9) (.int 0)) (.oix 7 (.int 0))) (.cons (.bin .mul (.int 64000) (.ix (.var 9) (.int 1))) .nil))) (.cons (.tup (.cons (.bin .mul (.ix (.var 10) (.int 0)) (.oix 7 (.int 1))) (.cons (.bin .mul (.int 64000) (.ix (.var 10) (.int 1))) .nil))) .nil))))
    (.cons (.ret (.tup (.cons (.var 11) (.cons (.tup (.cons (.tup (.cons (.bin .mul (.ix (.var 9) (.int 0)) (.oix 8 (.int 0))) (.cons (.bin .mul (.int 64000) (.ix (.var 9) (.int 1))) .nil))) (.cons (.tup (.cons (.bin .mul (.ix (.var 10) (.int 0)) (.oix 8 (.int 1))) (.cons (.bin .mul (.int 64000) (.ix (.var 10) (.int 1))) .nil))) .nil))) .nil))))
    .nil))))))))))))))
noncomputable def law_pair_F : Fn := runFn 2 12 law_pair_T law_pair_B
/-! _law_due_risk(own, others, person, inside): 0 own, 1 others, 2 person, 3 inside, 4 g, 5 h -/
noncomputable def law_due_risk_T : Tb := { fn := [("_law_lowest", law_lowest_F)] }
@[simp] theorem law_due_risk_fn0 : law_due_risk_T.fn[0]? = some (("_law_lowest" : Str), law_lowest_F) := id rfl
def law_due_risk_B : S := (.cons (.ife (.not (.var 3)) (.cons (.ret (.tup (.cons (.str "outside") (.cons .non .nil))))
    .nil) .nil)
    (.cons (.asg (.name 4) (.ix (.var 0) (.var 2)))
    (.cons (.asg (.name 5) (.ix (.var 1) (.var 2)))
    (.cons (.ife (.cmp .eq (.ix (.var 4) (.int 0)) (.int 0)) (.cons (.ret (.tup (.cons (.str "number") (.cons .non .nil))))
    .nil) .nil)
    (.cons (.ret (.tup (.cons (.str "kept") (.cons (.call 0 (.cons (.bin .sub (.bin .mul (.ix (.var 4) (.int 0)) (.ix (.var 5) (.int 1))) (.bin .mul (.ix (.var 5) (.int 0)) (.ix (.var 4) (.int 1)))) (.cons (.bin .mul (.ix (.var 4) (.int 0)) (.ix (.var 5) (.int 1))) .nil))) .nil))))
    .nil)))))
noncomputable def law_due_risk_F : Fn := runFn 4 6 law_due_risk_T law_due_risk_B
/-! _law_product(world, spot): 0 world, 1 spot, 2 units, 3 top -/
noncomputable def law_product_T : Tb := { fn := [("_law_lowest", law_lowest_F)] }
@[simp] theorem law_product_fn0 : law_product_T.fn[0]? = some (("_law_lowest" : Str), law_lowest_F) := id rfl
def law_product_B : S := (.cons (.asg (.name 2) (.ix (.var 0) (.int 1)))
    (.cons (.asg (.name 3) (.bin .mul (.bin .mul (.bin .mul (.ix (.ix (.var 1) (.int 0)) (.int 0)) (.ix (.ix (.var 1) (.int 1)) (.int 0))) (.ix (.var 2) (.int 0))) (.ix (.var 2) (.int 2))))
    (.cons (.ret (.call 0 (.cons (.var 3) (.cons (.bin .mul (.bin .mul (.bin .mul (.ix (.ix (.var 1) (.int 0)) (.int 1)) (.ix (.ix (.var 1) (.int 1)) (.int 1))) (.ix (.var 2) (.int 1))) (.ix (.var 2) (.int 3))) .nil))))
    .nil)))
noncomputable def law_product_F : Fn := runFn 2 4 law_product_T law_product_B
/-! gap(point, base): 0 point, 1 base -/
noncomputable def gap_T : Tb := { fn := [("minus", minus_F)] }
@[simp] theorem gap_fn0 : gap_T.fn[0]? = some (("minus" : Str), minus_F) := id rfl
def gap_B : S := (.cons (.ret (.tup (.cons (.call 0 (.cons (.ix (.var 0) (.int 0)) (.cons (.ix (.var 1) (.int 0)) .nil))) (.cons (.call 0 (.cons (.ix (.var 0) (.int 1)) (.cons (.ix (.var 1) (.int 1)) .nil))) .nil))))
    .nil)
noncomputable def gap_F : Fn := runFn 2 2 gap_T gap_B
/-! y_at(left, right, x): 0 left, 1 right, 2 x, 3 share -/
noncomputable def y_at_T : Tb := { fn := [("minus", minus_F), ("over", over_F), ("times", times_F), ("plus", plus_F)] }
@[simp] theorem y_at_fn0 : y_at_T.fn[0]? = some (("minus" : Str), minus_F) := id rfl
@[simp] theorem y_at_fn1 : y_at_T.fn[1]? = some (("over" : Str), over_F) := id rfl
@[simp] theorem y_at_fn2 : y_at_T.fn[2]? = some (("times" : Str), times_F) := id rfl
@[simp] theorem y_at_fn3 : y_at_T.fn[3]? = some (("plus" : Str), plus_F) := id rfl
def y_at_B : S := (.cons (.asg (.name 3) (.call 1 (.cons (.call 0 (.cons (.var 2) (.cons (.ix (.var 0) (.int 0)) .nil))) (.cons (.call 0 (.cons (.ix (.var 1) (.int 0)) (.cons (.ix (.var 0) (.int 0)) .nil))) .nil))))
    (.cons (.ret (.call 3 (.cons (.ix (.var 0) (.int 1)) (.cons (.call 2 (.cons (.call 0 (.cons (.ix (.var 1) (.int 1)) (.cons (.ix (.var 0) (.int 1)) .nil))) (.cons (.var 3) .nil))) .nil))))
    .nil))
noncomputable def y_at_F : Fn := runFn 3 4 y_at_T y_at_B
/-! x_at(left, right, y): 0 left, 1 right, 2 y, 3 share -/
noncomputable def x_at_T : Tb := { fn := [("minus", minus_F), ("over", over_F), ("times", times_F), ("plus", plus_F)] }
@[simp] theorem x_at_fn0 : x_at_T.fn[0]? = some (("minus" : Str), minus_F) := id rfl
@[simp] theorem x_at_fn1 : x_at_T.fn[1]? = some (("over" : Str), over_F) := id rfl
@[simp] theorem x_at_fn2 : x_at_T.fn[2]? = some (("times" : Str), times_F) := id rfl
@[simp] theorem x_at_fn3 : x_at_T.fn[3]? = some (("plus" : Str), plus_F) := id rfl
def x_at_B : S := (.cons (.asg (.name 3) (.call 1 (.cons (.call 0 (.cons (.var 2) (.cons (.ix (.var 0) (.int 1)) .nil))) (.cons (.call 0 (.cons (.ix (.var 1) (.int 1)) (.cons (.ix (.var 0) (.int 1)) .nil))) .nil))))
    (.cons (.ret (.call 3 (.cons (.ix (.var 0) (.int 0)) (.cons (.call 2 (.cons (.call 0 (.cons (.ix (.var 1) (.int 0)) (.cons (.ix (.var 0) (.int 0)) .nil))) (.cons (.var 3) .nil))) .nil))))
    .nil))
noncomputable def x_at_F : Fn := runFn 3 4 x_at_T x_at_B
/-! clipped(chain, apart): 0 chain, 1 apart, 2 part, 3 left, 4 low -/
noncomputable def clipped_T : Tb := { fn := [("at_most", at_most_F), ("below", below_F), ("y_at", y_at_F), ("x_at", x_at_F)], bn := ["list", "len"] }
@[simp] theorem clipped_fn0 : clipped_T.fn[0]? = some (("at_most" : Str), at_most_F) := id rfl
@[simp] theorem clipped_fn1 : clipped_T.fn[1]? = some (("below" : Str), below_F) := id rfl
@[simp] theorem clipped_fn2 : clipped_T.fn[2]? = some (("y_at" : Str), y_at_F) := id rfl
@[simp] theorem clipped_fn3 : clipped_T.fn[3]? = some (("x_at" : Str), x_at_F) := id rfl
def clipped_W1 : S := (.cons (.frz [2] (.asgO 2 (.sl (.var 2) (.cons (.int 1) .nil) .nil)))
    .nil)
def clipped_L1 : S := .while_ (.and (.cmp .ge (.olen 2) (.int 2)) (.call 0 (.cons (.ix (.oix 2 (.int 1)) (.int 0)) (.cons (.var 3) .nil)))) clipped_W1
def clipped_W2 : S := (.cons (.frz [2] (.asgO 2 (.sl (.var 2) .nil (.cons (.neg (.int 1)) .nil))))
    .nil)
def clipped_L2 : S := .while_ (.and (.cmp .ge (.olen 2) (.int 2)) (.call 0 (.cons (.ix (.oix 2 (.neg (.int 2))) (.int 1)) (.cons (.var 4) .nil)))) clipped_W2
def clipped_B : S := (.cons (.asg (.tup (.cons (.name 3) (.cons (.name 4) .nil))) (.var 1))
    (.cons (.asgO 2 (.bi .list (.cons (.var 0) .nil)))
    (.cons clipped_L1
    (.cons (.ife (.call 1 (.cons (.ix (.oix 2 (.int 0)) (.int 0)) (.cons (.var 3) .nil))) (.cons (.asgIx 2 (.int 0) (.tup (.cons (.var 3) (.cons (.call 2 (.cons (.oix 2 (.int 0)) (.cons (.oix 2 (.int 1)) (.cons (.var 3) .nil)))) .nil))))
    .nil) .nil)
    (.cons clipped_L2
    (.cons (.ife (.call 1 (.cons (.ix (.oix 2 (.neg (.int 1))) (.int 1)) (.cons (.var 4) .nil))) (.cons (.asgIx 2 (.neg (.int 1)) (.tup (.cons (.call 3 (.cons (.oix 2 (.neg (.int 2))) (.cons (.oix 2 (.neg (.int 1))) (.cons (.var 4) .nil)))) (.cons (.var 4) .nil))))
    .nil) .nil)
    (.cons (.frz [2] (.ret (.var 2)))
    .nil)))))))
noncomputable def clipped_F : Fn := runFn 2 5 clipped_T clipped_B
/-! height_on(chain, x): 0 chain, 1 x, 2 k -/
noncomputable def height_on_T : Tb := { fn := [("at_most", at_most_F), ("below", below_F), ("y_at", y_at_F)] }
@[simp] theorem height_on_fn0 : height_on_T.fn[0]? = some (("at_most" : Str), at_most_F) := id rfl
@[simp] theorem height_on_fn1 : height_on_T.fn[1]? = some (("below" : Str), below_F) := id rfl
@[simp] theorem height_on_fn2 : height_on_T.fn[2]? = some (("y_at" : Str), y_at_F) := id rfl
def height_on_W1 : S := (.cons (.asg (.name 2) (.bin .add (.var 2) (.int 1)))
    .nil)
def height_on_L1 : S := .while_ (.call 1 (.cons (.ix (.ix (.var 0) (.var 2)) (.int 0)) (.cons (.var 1) .nil))) height_on_W1
def height_on_B : S := (.cons (.ife (.call 0 (.cons (.var 1) (.cons (.ix (.ix (.var 0) (.int 0)) (.int 0)) .nil))) (.cons (.ret (.ix (.ix (.var 0) (.int 0)) (.int 1)))
    .nil) .nil)
    (.cons (.asg (.name 2) (.int 1))
    (.cons height_on_L1
    (.cons (.ret (.call 2 (.cons (.ix (.var 0) (.bin .sub (.var 2) (.int 1))) (.cons (.ix (.var 0) (.var 2)) (.cons (.var 1) .nil)))))
    .nil))))
noncomputable def height_on_F : Fn := runFn 2 3 height_on_T height_on_B
/-! Problem.gain(self, point): 0 self, 1 point -/
noncomputable def Problem_gain_T : Tb := { fn := [("gap", gap_F)], at_ := [("Problem", "apart")] }
@[simp] theorem Problem_gain_fn0 : Problem_gain_T.fn[0]? = some (("gap" : Str), gap_F) := id rfl
@[simp] theorem Problem_gain_at0 : (("Problem" : Str), ("apart" : Str)) ∈ Problem_gain_T.at_ := by decide
def Problem_gain_B : S := (.cons (.ret (.call 0 (.cons (.var 1) (.cons (.att (.var 0) "apart") .nil))))
    .nil)
noncomputable def Problem_gain_F : Fn := runFn 2 2 Problem_gain_T Problem_gain_B
/-! gain_product(problem, point): 0 problem, 1 point, 2 first, 3 second -/
noncomputable def gain_product_T : Tb := { fn := [("times", times_F)], mt := [("Problem", "gain", Problem_gain_F)] }
@[simp] theorem gain_product_fn0 : gain_product_T.fn[0]? = some (("times" : Str), times_F) := id rfl
@[simp] theorem gain_product_mt0 : gain_product_T.mt[0]? = some (("Problem" : Str), ("gain" : Str), Problem_gain_F) := id rfl
def gain_product_B : S := (.cons (.asg (.tup (.cons (.name 2) (.cons (.name 3) .nil))) (.meth 0 (.var 0) (.cons (.var 1) .nil)))
    (.cons (.ret (.call 0 (.cons (.var 2) (.cons (.var 3) .nil))))
    .nil))
noncomputable def gain_product_F : Fn := runFn 2 4 gain_product_T gain_product_B
/-! Problem.__contains__(self, point): 0 self, 1 point -/
noncomputable def Problem_contains_T : Tb := { fn := [("no_worse", no_worse_F), ("below", below_F), ("height_on", height_on_F), ("at_most", at_most_F)], at_ := [("Problem", "apart"), ("Problem", "frontier")] }
@[simp] theorem Problem_contains_fn0 : Problem_contains_T.fn[0]? = some (("no_worse" : Str), no_worse_F) := id rfl
@[simp] theorem Problem_contains_fn1 : Problem_contains_T.fn[1]? = some (("below" : Str), below_F) := id rfl
@[simp] theorem Problem_contains_fn2 : Problem_contains_T.fn[2]? = some (("height_on" : Str), height_on_F) := id rfl
@[simp] theorem Problem_contains_fn3 : Problem_contains_T.fn[3]? = some (("at_most" : Str), at_most_F) := id rfl
@[simp] theorem Problem_contains_at0 : (("Problem" : Str), ("apart" : Str)) ∈ Problem_contains_T.at_ := by decide
@[simp] theorem Problem_contains_at1 : (("Problem" : Str), ("frontier" : Str)) ∈ Problem_contains_T.at_ := by decide
def Problem_contains_B : S := (.cons (.ife (.or (.not (.call 0 (.cons (.var 1) (.cons (.att (.var 0) "apart") .nil)))) (.call 1 (.cons (.ix (.ix (.att (.var 0) "frontier") (.neg (.int 1))) (.int 0)) (.cons (.ix (.var 1) (.int 0)) .nil)))) (.cons (.ret (.bl false))
    .nil) .nil)
    (.cons (.ret (.call 3 (.cons (.ix (.var 1) (.int 1)) (.cons (.call 2 (.cons (.att (.var 0) "frontier") (.cons (.ix (.var 1) (.int 0)) .nil))) .nil))))
    .nil))
noncomputable def Problem_contains_F : Fn := runFn 2 2 Problem_contains_T Problem_contains_B
/-! risk(problem, own, others, person): 0 problem, 1 own, 2 others, 3 person, 4 kept -/
noncomputable def risk_T : Tb := { fn := [("minus", minus_F), ("over", over_F)], xc := ["Outside"], mt := [("Problem", "__contains__", Problem_contains_F), ("Problem", "gain", Problem_gain_F)] }
@[simp] theorem risk_fn0 : risk_T.fn[0]? = some (("minus" : Str), minus_F) := id rfl
@[simp] theorem risk_fn1 : risk_T.fn[1]? = some (("over" : Str), over_F) := id rfl
@[simp] theorem risk_mt0 : risk_T.mt[0]? = some (("Problem" : Str), ("__contains__" : Str), Problem_contains_F) := id rfl
@[simp] theorem risk_mt1 : risk_T.mt[1]? = some (("Problem" : Str), ("gain" : Str), Problem_gain_F) := id rfl
@[simp] theorem risk_xc0 : risk_T.xc[0]? = some ("Outside" : Str) := id rfl
def risk_B : S := (.cons (.ife (.or (.min_ 0 true (.var 1) (.var 0)) (.min_ 0 true (.var 2) (.var 0))) (.cons (.raise_ 0)
    .nil) .nil)
    (.cons (.asg (.name 4) (.ix (.meth 1 (.var 0) (.cons (.var 1) .nil)) (.var 3)))
    (.cons (.ret (.call 1 (.cons (.call 0 (.cons (.var 4) (.cons (.ix (.meth 1 (.var 0) (.cons (.var 2) .nil)) (.var 3)) .nil))) (.cons (.var 4) .nil))))
    .nil)))
noncomputable def risk_F : Fn := runFn 4 5 risk_T risk_B
/-! Problem.__init__(self, apart, corners): 0 self, 1 apart, 2 corners, 3 chain -/
noncomputable def Problem_init_T : Tb := { fn := [("upper_chain", upper_chain_F), ("clipped", clipped_F)], bn := ["list", "len", "tuple"], xc := ["NoGain"], at_ := [("Problem", "apart"), ("Problem", "frontier")] }
@[simp] theorem Problem_init_fn0 : Problem_init_T.fn[0]? = some (("upper_chain" : Str), upper_chain_F) := id rfl
@[simp] theorem Problem_init_fn1 : Problem_init_T.fn[1]? = some (("clipped" : Str), clipped_F) := id rfl
@[simp] theorem Problem_init_at0 : (("Problem" : Str), ("apart" : Str)) ∈ Problem_init_T.at_ := by decide
@[simp] theorem Problem_init_at1 : (("Problem" : Str), ("frontier" : Str)) ∈ Problem_init_T.at_ := by decide
@[simp] theorem Problem_init_xc0 : Problem_init_T.xc[0]? = some ("NoGain" : Str) := id rfl
def Problem_init_B : S := (.cons (.asg (.name 3) (.call 1 (.cons (.call 0 (.cons (.bin .add (.lst (.cons (.var 1) .nil)) (.bi .list (.cons (.var 2) .nil))) .nil)) (.cons (.var 1) .nil))))
    (.cons (.ife (.and (.cmp .eq (.bi .len (.cons (.var 3) .nil)) (.int 1)) (.or (.cmp .eq (.ix (.ix (.var 3) (.int 0)) (.int 0)) (.ix (.var 1) (.int 0))) (.cmp .eq (.ix (.ix (.var 3) (.int 0)) (.int 1)) (.ix (.var 1) (.int 1))))) (.cons (.raise_ 0)
    .nil) .nil)
    (.cons (.setA 0 "apart" (.var 1))
    (.cons (.setA 0 "frontier" (.bi .tuple (.cons (.var 3) .nil)))
    .nil))))
noncomputable def Problem_init_F : Fn := runInit 2 4 Problem_init_T Problem_init_B "Problem"
/-! gives_way(problem, one, other): 0 problem, 1 one, 2 other -/
noncomputable def gives_way_T : Tb := { fn := [("risk", risk_F), ("at_most", at_most_F)] }
@[simp] theorem gives_way_fn0 : gives_way_T.fn[0]? = some (("risk" : Str), risk_F) := id rfl
@[simp] theorem gives_way_fn1 : gives_way_T.fn[1]? = some (("at_most" : Str), at_most_F) := id rfl
def gives_way_B : S := (.cons (.ife (.call 1 (.cons (.call 0 (.cons (.var 0) (.cons (.var 1) (.cons (.var 2) (.cons (.int 0) .nil))))) (.cons (.call 0 (.cons (.var 0) (.cons (.var 2) (.cons (.var 1) (.cons (.int 1) .nil))))) .nil))) (.cons (.ret (.int 0))
    .nil) .nil)
    (.cons (.ret (.int 1))
    .nil))
noncomputable def gives_way_F : Fn := runFn 3 3 gives_way_T gives_way_B
/-! _law_risk(problem, own, others, person): 0 problem, 1 own, 2 others, 3 person, 4 e -/
noncomputable def law_risk_T : Tb := { fn := [("risk", risk_F)], xh := [("SettleError", [("BadNumber", true), ("Outside", true)])], hfn := [("_law_word", law_wordH_F)] }
@[simp] theorem law_risk_fn0 : law_risk_T.fn[0]? = some (("risk" : Str), risk_F) := id rfl
@[simp] theorem law_risk_hfn0 : law_risk_T.hfn[0]? = some (("_law_word" : Str), law_wordH_F) := id rfl
@[simp] theorem law_risk_xh : law_risk_T.xh = ([("SettleError", [("BadNumber", true), ("Outside", true)])] : List (Str × List (Str × Bool))) := rfl
def law_risk_B : S := (.cons (.tryAs 4 0 (.cons (.ret (.tup (.cons (.str "kept") (.cons (.call 0 (.cons (.var 0) (.cons (.var 1) (.cons (.var 2) (.cons (.var 3) .nil))))) .nil))))
    .nil)
    (.cons (.ret (.tup (.cons (.call 0 (.cons (.var 4) .nil)) (.cons .non .nil))))
    .nil))
    .nil)
noncomputable def law_risk_F : Fn := runFn 4 5 law_risk_T law_risk_B
/-! _law_way(problem, one, other): 0 problem, 1 one, 2 other, 3 e -/
noncomputable def law_way_T : Tb := { fn := [("gives_way", gives_way_F)], xh := [("SettleError", [("BadNumber", true), ("Outside", true)])], hfn := [("_law_word", law_wordH_F)] }
@[simp] theorem law_way_fn0 : law_way_T.fn[0]? = some (("gives_way" : Str), gives_way_F) := id rfl
@[simp] theorem law_way_hfn0 : law_way_T.hfn[0]? = some (("_law_word" : Str), law_wordH_F) := id rfl
@[simp] theorem law_way_xh : law_way_T.xh = ([("SettleError", [("BadNumber", true), ("Outside", true)])] : List (Str × List (Str × Bool))) := rfl
def law_way_B : S := (.cons (.tryAs 3 0 (.cons (.ret (.tup (.cons (.str "kept") (.cons (.call 0 (.cons (.var 0) (.cons (.var 1) (.cons (.var 2) .nil)))) .nil))))
    .nil)
    (.cons (.ret (.tup (.cons (.call 0 (.cons (.var 3) .nil)) (.cons .non .nil))))
    .nil))
    .nil)
noncomputable def law_way_F : Fn := runFn 3 4 law_way_T law_way_B
/-! _law_judged(problem, points, spots, i, j): 0 problem, 1 points, 2 spots, 3 i, 4 j, 5 inside, 6 person, 7 due, 8 found -/
noncomputable def law_judged_T : Tb := { fn := [("_law_due_risk", law_due_risk_F), ("_law_risk", law_risk_F), ("_law_is_number", law_is_number_F), ("_law_due_way", law_due_way_F), ("_law_way", law_way_F)], bn := ["isinstance", "int", "bool"] }
@[simp] theorem law_judged_fn0 : law_judged_T.fn[0]? = some (("_law_due_risk" : Str), law_due_risk_F) := id rfl
@[simp] theorem law_judged_fn1 : law_judged_T.fn[1]? = some (("_law_risk" : Str), law_risk_F) := id rfl
@[simp] theorem law_judged_fn2 : law_judged_T.fn[2]? = some (("_law_is_number" : Str), law_is_number_F) := id rfl
@[simp] theorem law_judged_fn3 : law_judged_T.fn[3]? = some (("_law_due_way" : Str), law_due_way_F) := id rfl
@[simp] theorem law_judged_fn4 : law_judged_T.fn[4]? = some (("_law_way" : Str), law_way_F) := id rfl
def law_judged_W1 : S := (.cons (.asg (.name 7) (.call 0 (.cons (.ix (.var 2) (.var 3)) (.cons (.ix (.var 2) (.var 4)) (.cons (.var 6) (.cons (.var 5) .nil))))))
    (.cons (.asg (.name 8) (.call 1 (.cons (.var 0) (.cons (.ix (.var 1) (.var 3)) (.cons (.ix (.var 1) (.var 4)) (.cons (.var 6) .nil))))))
    (.cons (.ife (.cmp .ne (.ix (.var 8) (.int 0)) (.ix (.var 7) (.int 0))) (.cons (.ret (.bl false))
    .nil) .nil)
    (.cons (.ife (.and (.cmp .eq (.ix (.var 7) (.int 0)) (.str "kept")) (.or (.not (.call 2 (.cons (.ix (.var 8) (.int 1)) .nil))) (.cmp .ne (.ix (.var 8) (.int 1)) (.ix (.var 7) (.int 1))))) (.cons (.ret (.bl false))
    .nil) .nil)
    .nil))))
def law_judged_L1 : S := .for_ (.name 6) (.cons (.lst (.cons (.int 0) (.cons (.int 1) .nil))) .nil) law_judged_W1
def law_judged_B : S := (.cons (.asg (.name 5) (.and (.cmp .lt (.var 3) (.int 4)) (.cmp .lt (.var 4) (.int 4))))
    (.cons law_judged_L1
    (.cons (.asg (.name 7) (.call 3 (.cons (.ix (.var 2) (.var 3)) (.cons (.ix (.var 2) (.var 4)) (.cons (.var 5) .nil)))))
    (.cons (.asg (.name 8) (.call 4 (.cons (.var 0) (.cons (.ix (.var 1) (.var 3)) (.cons (.ix (.var 1) (.var 4)) .nil)))))
    (.cons (.ife (.cmp .ne (.ix (.var 8) (.int 0)) (.ix (.var 7) (.int 0))) (.cons (.ret (.bl false))
    .nil) .nil)
    (.cons (.ife (.cmp .ne (.ix (.var 7) (.int 0)) (.str "kept")) (.cons (.ret (.bl true))
    .nil) .nil)
    (.cons (.ret (.and (.isi (.ix (.var 8) (.int 1)) .int) (.and (.not (.isi (.ix (.var 8) (.int 1)) .bool)) (.cmp .eq (.ix (.var 8) (.int 1)) (.ix (.var 7) (.int 1))))))
    .nil)))))))
noncomputable def law_judged_F : Fn := runFn 5 9 law_judged_T law_judged_B
/-! law(script): 0 script, 1 world, 2 chain, 3 pair, 4 row, 5 spots, 6 points, 7 problem, 8 i, 9 found, 10 j, 11 spot, 12 corner -/
noncomputable def law_T : Tb := { fn := [("_law_cell", law_cell_F), ("_law_world", law_world_F), ("_law_large", law_large_F), ("_law_digits", law_digits_F), ("_law_pair", law_pair_F), ("_law_beyond", law_beyond_F), ("_law_at", law_at_F), ("Problem", Problem_init_F), ("gain_product", gain_product_F), ("_law_is_number", law_is_number_F), ("_law_product", law_product_F), ("_law_judged", law_judged_F)], bn := ["int", "len", "range"] }
@[simp] theorem law_fn0 : law_T.fn[0]? = some (("_law_cell" : Str), law_cell_F) := id rfl
@[simp] theorem law_fn1 : law_T.fn[1]? = some (("_law_world" : Str), law_world_F) := id rfl
@[simp] theorem law_fn2 : law_T.fn[2]? = some (("_law_large" : Str), law_large_F) := id rfl
@[simp] theorem law_fn3 : law_T.fn[3]? = some (("_law_digits" : Str), law_digits_F) := id rfl
@[simp] theorem law_fn4 : law_T.fn[4]? = some (("_law_pair" : Str), law_pair_F) := id rfl
@[simp] theorem law_fn5 : law_T.fn[5]? = some (("_law_beyond" : Str), law_beyond_F) := id rfl
@[simp] theorem law_fn6 : law_T.fn[6]? = some (("_law_at" : Str), law_at_F) := id rfl
@[simp] theorem law_fn7 : law_T.fn[7]? = some (("Problem" : Str), Problem_init_F) := id rfl
@[simp] theorem law_fn8 : law_T.fn[8]? = some (("gain_product" : Str), gain_product_F) := id rfl
@[simp] theorem law_fn9 : law_T.fn[9]? = some (("_law_is_number" : Str), law_is_number_F) := id rfl
@[simp] theorem law_fn10 : law_T.fn[10]? = some (("_law_product" : Str), law_product_F) := id rfl
@[simp] theorem law_fn11 : law_T.fn[11]? = some (("_law_judged" : Str), law_judged_F) := id rfl
def law_C1 : E := (.comp (.call 6 (.cons (.var 1) (.cons (.ix (.var 11) (.int 0)) (.cons (.ix (.var 11) (.int 1)) .nil)))) (.name 11) (.cons (.var 5) .nil) .nil [11])
def law_C2 : E := (.comp (.call 6 (.cons (.var 1) (.cons (.tup (.cons (.ix (.var 12) (.int 0)) (.cons (.int 1) .nil))) (.cons (.tup (.cons (.ix (.var 12) (.int 1)) (.cons (.int 1) .nil))) .nil)))) (.name 12) (.cons (.var 2) .nil) .nil [12])
def law_W1 : S := (.cons (.frz [5] (.ife (.not (.call 11 (.cons (.var 7) (.cons (.var 6) (.cons (.var 5) (.cons (.var 8) (.cons (.var 10) .nil))))))) (.cons (.ret (.bl false))
    .nil) .nil))
    .nil)
def law_L1 : S := .for_ (.name 10) (.rng1 (.int 5)) law_W1
def law_W2 : S := (.cons (.asg (.name 9) (.call 8 (.cons (.var 7) (.cons (.ix (.var 6) (.var 8)) .nil))))
    (.cons (.ife (.or (.not (.call 9 (.cons (.var 9) .nil))) (.cmp .ne (.var 9) (.call 10 (.cons (.var 1) (.cons (.oix 5 (.var 8)) .nil))))) (.cons (.ret (.bl false))
    .nil) .nil)
    (.cons law_L1
    .nil)))
def law_L2 : S := .for_ (.name 8) (.rng1 (.int 5)) law_W2
def law_B : S := (.cons (.asg (.name 1) (.call 1 (.cons (.call 0 (.cons (.var 0) (.cons (.int 0) .nil))) .nil)))
    (.cons (.ife (.cmp .eq (.bin .mod (.bi .int (.cons (.call 0 (.cons (.var 0) (.cons (.int 3) .nil))) .nil)) (.int 4)) (.int 3)) (.cons (.asg (.name 1) (.call 2 (.cons (.var 1) (.cons (.bin .fdiv (.call 0 (.cons (.var 0) (.cons (.int 3) .nil))) (.int 4)) .nil))))
    .nil) .nil)
    (.cons (.asg (.name 2) (.ix (.var 1) (.int 2)))
    (.cons (.asg (.name 3) (.call 4 (.cons (.var 2) (.cons (.call 3 (.cons (.call 0 (.cons (.var 0) (.cons (.int 1) .nil))) (.cons (.int 60) (.cons (.int 11) .nil)))) .nil))))
    (.cons (.asg (.name 4) (.call 3 (.cons (.call 0 (.cons (.var 0) (.cons (.int 2) .nil))) (.cons (.int 60) (.cons (.int 2) .nil)))))
    (.cons (.asgO 5 (.lst (.cons (.ix (.var 3) (.int 0)) (.cons (.ix (.var 3) (.int 1)) (.cons (.tup (.cons (.tup (.cons (.int 0) (.cons (.int 1) .nil))) (.cons (.tup (.cons (.ix (.ix (.var 2) (.int 0)) (.int 1)) (.cons (.int 1) .nil))) .nil))) (.cons (.tup (.cons (.tup (.cons (.ix (.ix (.var 2) (.neg (.int 1))) (.int 0)) (.cons (.int 1) .nil))) (.cons (.tup (.cons (.int 0) (.cons (.int 1) .nil))) .nil))) .nil))))))
    (.cons (.app 5 (.call 5 (.cons (.ix (.var 2) (.bin .mod (.bi .int (.cons (.ix (.var 4) (.int 0)) .nil)) (.bi .len (.cons (.var 2) .nil)))) (.cons (.ix (.var 4) (.int 1)) .nil))))
    (.cons (.frz [5] (.asg (.name 6) law_C1))
    (.cons (.asg (.name 7) (.call 7 (.cons (.ix (.var 1) (.int 0)) (.cons law_C2 .nil))))
    (.cons law_L2
    (.cons (.ret (.bl true))
    .nil)))))))))))
noncomputable def law_F : Fn := runFn 1 13 law_T law_B
/-- what the head gives -/
structure Facts (g : G) : Prop where
  f_frac : DefAtD g "frac" (topS 11) [(.int 1)]
  f_below : DefAt g "below" (topS 16)
  f_at_most : DefAt g "at_most" (topS 17)
  f_turn : DefAt g "turn" (topS 31)
  f_whole_spots : DefAt g "whole_spots" (topS 32)
  f_law_cell : DefAt g "_law_cell" (topS 46)
  f_law_digits : DefAt g "_law_digits" (topS 47)
  f_law_lowest : DefAt g "_law_lowest" (topS 48)
  f_law_steps : DefAt g "_law_steps" (topS 50)
  f_law_bounds : DefAt g "_law_bounds" (topS 51)
  f_law_box : DefAt g "_law_box" (topS 55)
  f_law_spot : DefAt g "_law_spot" (topS 56)
  f_law_beyond : DefAt g "_law_beyond" (topS 58)
  f_law_word : DefAt g "_law_word" (topS 59)
  f_law_due_way : DefAt g "_law_due_way" (topS 63)
  f_plus : DefAt g "plus" (topS 12)
  f_minus : DefAt g "minus" (topS 13)
  f_times : DefAt g "times" (topS 14)
  f_over : DefAt g "over" (topS 15)
  f_no_worse : DefAt g "no_worse" (topS 24)
  f_upper_chain : DefAt g "upper_chain" (topS 33)
  f_law_is_number : DefAt g "_law_is_number" (topS 49)
  f_law_world : DefAt g "_law_world" (topS 52)
  f_law_at : DefAt g "_law_at" (topS 53)
  f_law_large : DefAt g "_law_large" (topS 54)
  f_law_pair : DefAt g "_law_pair" (topS 57)
  f_law_due_risk : DefAt g "_law_due_risk" (topS 62)
  f_law_product : DefAt g "_law_product" (topS 65)
  f_gap : DefAt g "gap" (topS 22)
  f_y_at : DefAt g "y_at" (topS 34)
  f_x_at : DefAt g "x_at" (topS 35)
  f_clipped : DefAt g "clipped" (topS 36)
  f_height_on : DefAt g "height_on" (topS 37)
  f_Problem_gain : MethAt g "Problem" "gain" "Problem.gain" (clsB (topS 44) 10)
  f_gain_product : DefAt g "gain_product" (topS 26)
  f_Problem_contains : MethAt g "Problem" "__contains__" "Problem.__contains__" (clsB (topS 44) 3)
  f_risk : DefAt g "risk" (topS 28)
  f_Problem_init : InitAt g "Problem" "Problem.__init__" (clsB (topS 44) 0)
  f_gives_way : DefAt g "gives_way" (topS 29)
  f_law_risk : DefAt g "_law_risk" (topS 60)
  f_law_way : DefAt g "_law_way" (topS 61)
  f_law_judged : DefAt g "_law_judged" (topS 64)
  f_law : DefAt g "law" (topS 66)
  fl_Problem_apart : FldAt g "Problem" "apart"
  fl_Problem_frontier : FldAt g "Problem" "frontier"
  b_enumerate : g.mg "enumerate" = none
  b_len : g.mg "len" = none
  b_abs : g.mg "abs" = none
  b_int : g.mg "int" = none
  b_range : g.mg "range" = none
  b_max : g.mg "max" = none
  b_isinstance : g.mg "isinstance" = none
  b_sorted : g.mg "sorted" = none
  b_tuple : g.mg "tuple" = none
  b_bool : g.mg "bool" = none
  b_list : g.mg "list" = none
  m_gcd : g.mg "gcd" = some (.builtin "math.gcd")
  m_lcm : g.mg "lcm" = some (.builtin "math.lcm")
  xc_BadNumber : XcOk g "BadNumber"
  xc_Outside : XcOk g "Outside"
  xc_NoGain : XcOk g "NoGain"
  xh_0 : XhOk g "SettleError" [("BadNumber", true), ("Outside", true)]
  xi_0 : XiOk g "ValueError" [("BadNumber", true), ("Outside", true)]
  xi_1 : XiOk g "BadMenu" [("BadNumber", false), ("Outside", false)]
  xi_2 : XiOk g "NoGain" [("BadNumber", false), ("Outside", false)]
  xi_3 : XiOk g "TooMany" [("BadNumber", false), ("Outside", false)]
  xi_4 : XiOk g "Outside" [("BadNumber", false), ("Outside", true)]
  xi_5 : XiOk g "BadNumber" [("BadNumber", true), ("Outside", false)]
section
variable {g : G} (h : Facts g)
include h
theorem frac_know : Know g 0 frac_T := ⟨(fun _ => (List.forall_mem_nil _)), (fun z => Bool.noConfusion (show false = true from z)), (List.forall_mem_nil _), (List.forall_mem_nil _), (List.forall_mem_nil _), (List.forall_mem_nil _), (List.forall_mem_nil _), (List.forall_mem_nil _), (List.forall_mem_nil _), (List.forall_mem_nil _), (List.forall_mem_cons.2 ⟨h.m_gcd, (List.forall_mem_nil _)⟩), (List.forall_mem_nil _), (List.forall_mem_cons.2 ⟨h.xc_BadNumber, (List.forall_mem_nil _)⟩), (List.forall_mem_nil _), (List.forall_mem_nil _), (fun _ p _ => (List.forall_mem_nil _))⟩
theorem frac_ok : ∃ f fd, FnOk g.P g.w g.K g.mg g.base (L2.CX g.P g.w) 1 f fd ["n", "d"] (spD g frac_F) ∧ g.mg "frac" = some (.ref f) ∧ PySem.W.keepIn g.K (.ref f) = true ∧ DefFdD g "frac" (topS 11) [(.int 1)] fd :=
  def_okD (N := ["n", "d", "shared"]) h.f_frac (fnScope_by' (by decide +kernel)) (frac_know h) (by decide +kernel)
theorem frac_prmD1 : Prm g 1 "frac" (fun ds => frac_F (ds ++ [(.int 1)])) := def_prmD 0 1 (frac_ok h) rfl (fun _ _ _ _ _ _ _ us its h1 h2 => match us, its, h1, h2 with | [_], [_], _, _ => ⟨_, rfl, rfl⟩)
theorem frac_prm : Prm g 1 "frac" frac_F := by
  have z := def_prmD 1 2 (frac_ok h) rfl (fun _ _ _ _ _ _ _ us its h1 h2 => match us, its, h1, h2 with | [_, _], [_], _, _ => ⟨_, rfl, rfl⟩)
  simpa using z
theorem below_know : Know g 0 below_T := ⟨(fun _ => (List.forall_mem_nil _)), (fun z => Bool.noConfusion (show false = true from z)), (List.forall_mem_nil _), (List.forall_mem_nil _), (List.forall_mem_nil _), (List.forall_mem_nil _), (List.forall_mem_nil _), (List.forall_mem_nil _), (List.forall_mem_nil _), (List.forall_mem_nil _), (List.forall_mem_nil _), (List.forall_mem_nil _), (List.forall_mem_nil _), (List.forall_mem_nil _), (List.forall_mem_nil _), (fun _ p _ => (List.forall_mem_nil _))⟩
theorem below_ok : ∃ f fd, FnOk g.P g.w g.K g.mg g.base (L2.CX g.P g.w) 1 f fd ["a", "b"] (spD g below_F) ∧ g.mg "below" = some (.ref f) ∧ PySem.W.keepIn g.K (.ref f) = true ∧ DefFd g "below" (topS 16) fd :=
  def_ok (N := ["a", "b"]) h.f_below (fnScope_by' (by decide +kernel)) (below_know h) (by decide +kernel)
theorem below_prm : Prm g 1 "below" below_F := def_prm (below_ok h) (fun _ _ _ _ _ _ us hl => match us, hl with | [_, _], _ => rfl)
theorem at_most_know : Know g 0 at_most_T := ⟨(fun _ => (List.forall_mem_nil _)), (fun z => Bool.noConfusion (show false = true from z)), (List.forall_mem_nil _), (List.forall_mem_nil _), (List.forall_mem_nil _), (List.forall_mem_nil _), (List.forall_mem_nil _), (List.forall_mem_nil _), (List.forall_mem_nil _), (List.forall_mem_nil _), (List.forall_mem_nil _), (List.forall_mem_nil _), (List.forall_mem_nil _), (List.forall_mem_nil _), (List.forall_mem_nil _), (fun _ p _ => (List.forall_mem_nil _))⟩
theorem at_most_ok : ∃ f fd, FnOk g.P g.w g.K g.mg g.base (L2.CX g.P g.w) 1 f fd ["a", "b"] (spD g at_most_F) ∧ g.mg "at_most" = some (.ref f) ∧ PySem.W.keepIn g.K (.ref f) = true ∧ DefFd g "at_most" (topS 17) fd :=
  def_ok (N := ["a", "b"]) h.f_at_most (fnScope_by' (by decide +kernel)) (at_most_know h) (by decide +kernel)
theorem at_most_prm : Prm g 1 "at_most" at_most_F := def_prm (at_most_ok h) (fun _ _ _ _ _ _ us hl => match us, hl with | [_, _], _ => rfl)
theorem turn_know : Know g 0 turn_T := ⟨(fun _ => (List.forall_mem_nil _)), (fun z => Bool.noConfusion (show false = true from z)), (List.forall_mem_nil _), (List.forall_mem_nil _), (List.forall_mem_nil _), (List.forall_mem_nil _), (List.forall_mem_nil _), (List.forall_mem_nil _), (List.forall_mem_nil _), (List.forall_mem_nil _), (List.forall_mem_nil _), (List.forall_mem_nil _), (List.forall_mem_nil _), (List.forall_mem_nil _), (List.forall_mem_nil _), (fun _ p _ => (List.forall_mem_nil _))⟩
theorem turn_ok : ∃ f fd, FnOk g.P g.w g.K g.mg g.base (L2.CX g.P g.w) 1 f fd ["a", "b", "c"] (spD g turn_F) ∧ g.mg "turn" = some (.ref f) ∧ PySem.W.keepIn g.K (.ref f) = true ∧ DefFd g "turn" (topS 31) fd :=
  def_ok (N := ["a", "b", "c"]) h.f_turn (fnScope_by' (by decide +kernel)) (turn_know h) (by decide +kernel)
theorem turn_prm : Prm g 1 "turn" turn_F := def_prm (turn_ok h) (fun _ _ _ _ _ _ us hl => match us, hl with | [_, _, _], _ => rfl)
theorem whole_spots_know : Know g 0 whole_spots_T := ⟨(fun _ => (List.forall_mem_nil _)), (fun z => Bool.noConfusion (show false = true from z)), (List.forall_mem_nil _), (List.forall_mem_nil _), (List.forall_mem_nil _), (List.forall_mem_nil _), (List.forall_mem_nil _), (List.forall_mem_nil _), (List.forall_mem_nil _), (List.forall_mem_cons.2 ⟨h.b_enumerate, (List.forall_mem_nil _)⟩), (List.forall_mem_cons.2 ⟨h.m_lcm, (List.forall_mem_nil _)⟩), (List.forall_mem_nil _), (List.forall_mem_nil _), (List.forall_mem_nil _), (List.forall_mem_nil _), (fun _ p _ => (List.forall_mem_nil _))⟩
theorem whole_spots_ok : ∃ f fd, FnOk g.P g.w g.K g.mg g.base (L2.CX g.P g.w) 1 f fd ["points"] (spD g whole_spots_F) ∧ g.mg "whole_spots" = some (.ref f) ∧ PySem.W.keepIn g.K (.ref f) = true ∧ DefFd g "whole_spots" (topS 32) fd :=
  def_ok (N := ["points", "wide", "high", "spots", "x", "y", "k"]) h.f_whole_spots (fnScope_by' (by decide +kernel)) (whole_spots_know h) (by decide +kernel)
theorem whole_spots_prm : Prm g 1 "whole_spots" whole_spots_F := def_prm (whole_spots_ok h) (fun _ _ _ _ _ _ us hl => match us, hl with | [_], _ => rfl)
theorem law_cell_know : Know g 0 law_cell_T := ⟨(fun _ => (List.forall_mem_nil _)), (fun z => Bool.noConfusion (show false = true from z)), (List.forall_mem_nil _), (List.forall_mem_nil _), (List.forall_mem_nil _), (List.forall_mem_nil _), (List.forall_mem_nil _), (List.forall_mem_nil _), (List.forall_mem_nil _), (List.forall_mem_cons.2 ⟨h.b_len, (List.forall_mem_nil _)⟩), (List.forall_mem_nil _), (List.forall_mem_nil _), (List.forall_mem_nil _), (List.forall_mem_nil _), (List.forall_mem_nil _), (fun _ p _ => (List.forall_mem_nil _))⟩
theorem law_cell_ok : ∃ f fd, FnOk g.P g.w g.K g.mg g.base (L2.CX g.P g.w) 1 f fd ["script", "k"] (spD g law_cell_F) ∧ g.mg "_law_cell" = some (.ref f) ∧ PySem.W.keepIn g.K (.ref f) = true ∧ DefFd g "_law_cell" (topS 46) fd :=
  def_ok (N := ["script", "k"]) h.f_law_cell (fnScope_by' (by decide +kernel)) (law_cell_know h) (by decide +kernel)
theorem law_cell_prm : Prm g 1 "_law_cell" law_cell_F := def_prm (law_cell_ok h) (fun _ _ _ _ _ _ us hl => match us, hl with | [_, _], _ => rfl)
theorem law_digits_know : Know g 0 law_digits_T := ⟨(fun _ => (List.forall_mem_nil _)), (fun z => Bool.noConfusion (show false = true from z)), (List.forall_mem_nil _), (List.forall_mem_nil _), (List.forall_mem_nil _), (List.forall_mem_nil _), (List.forall_mem_nil _), (List.forall_mem_nil _), (List.forall_mem_nil _), (List.forall_mem_cons.2 ⟨h.b_abs, (List.forall_mem_cons.2 ⟨h.b_int, (List.forall_mem_cons.2 ⟨h.b_range, (List.forall_mem_nil _)⟩)⟩)⟩), (List.forall_mem_nil _), (List.forall_mem_nil _), (List.forall_mem_nil _), (List.forall_mem_nil _), (List.forall_mem_nil _), (fun _ p _ => (List.forall_mem_nil _))⟩
theorem law_digits_ok : ∃ f fd, FnOk g.P g.w g.K g.mg g.base (L2.CX g.P g.w) 1 f fd ["cell", "base", "count"] (spD g law_digits_F) ∧ g.mg "_law_digits" = some (.ref f) ∧ PySem.W.keepIn g.K (.ref f) = true ∧ DefFd g "_law_digits" (topS 47) fd :=
  def_ok (N := ["cell", "base", "count", "rest", "digits", "k"]) h.f_law_digits (fnScope_by' (by decide +kernel)) (law_digits_know h) (by decide +kernel)
theorem law_digits_prm : Prm g 1 "_law_digits" law_digits_F := def_prm (law_digits_ok h) (fun _ _ _ _ _ _ us hl => match us, hl with | [_, _, _], _ => rfl)
theorem law_lowest_know : Know g 0 law_lowest_T := ⟨(fun _ => (List.forall_mem_nil _)), (fun z => Bool.noConfusion (show false = true from z)), (List.forall_mem_nil _), (List.forall_mem_nil _), (List.forall_mem_nil _), (List.forall_mem_nil _), (List.forall_mem_nil _), (List.forall_mem_nil _), (List.forall_mem_nil _), (List.forall_mem_cons.2 ⟨h.b_abs, (List.forall_mem_nil _)⟩), (List.forall_mem_nil _), (List.forall_mem_nil _), (List.forall_mem_nil _), (List.forall_mem_nil _), (List.forall_mem_nil _), (fun _ p _ => (List.forall_mem_nil _))⟩
theorem law_lowest_ok : ∃ f fd, FnOk g.P g.w g.K g.mg g.base (L2.CX g.P g.w) 1 f fd ["n", "d"] (spD g law_lowest_F) ∧ g.mg "_law_lowest" = some (.ref f) ∧ PySem.W.keepIn g.K (.ref f) = true ∧ DefFd g "_law_lowest" (topS 48) fd :=
  def_ok (N := ["n", "d", "a", "b", "c"]) h.f_law_lowest (fnScope_by' (by decide +kernel)) (law_lowest_know h) (by decide +kernel)
theorem law_lowest_prm : Prm g 1 "_law_lowest" law_lowest_F := def_prm (law_lowest_ok h) (fun _ _ _ _ _ _ us hl => match us, hl with | [_, _], _ => rfl)
theorem law_steps_know : Know g 0 law_steps_T := ⟨(fun _ => (List.forall_mem_nil _)), (fun z => Bool.noConfusion (show false = true from z)), (List.forall_mem_nil _), (List.forall_mem_nil _), (List.forall_mem_nil _), (List.forall_mem_nil _), (List.forall_mem_nil _), (List.forall_mem_nil _), (List.forall_mem_nil _), (List.forall_mem_cons.2 ⟨h.b_range, (List.forall_mem_cons.2 ⟨h.b_int, (List.forall_mem_cons.2 ⟨h.b_len, (List.forall_mem_nil _)⟩)⟩)⟩), (List.forall_mem_nil _), (List.forall_mem_nil _), (List.forall_mem_nil _), (List.forall_mem_nil _), (List.forall_mem_nil _), (fun _ p _ => (List.forall_mem_nil _))⟩
theorem law_steps_ok : ∃ f fd, FnOk g.P g.w g.K g.mg g.base (L2.CX g.P g.w) 1 f fd ["row", "many"] (spD g law_steps_F) ∧ g.mg "_law_steps" = some (.ref f) ∧ PySem.W.keepIn g.K (.ref f) = true ∧ DefFd g "_law_steps" (topS 50) fd :=
  def_ok (N := ["row", "many", "steps", "k", "step", "at"]) h.f_law_steps (fnScope_by' (by decide +kernel)) (law_steps_know h) (by decide +kernel)
theorem law_steps_prm : Prm g 1 "_law_steps" law_steps_F := def_prm (law_steps_ok h) (fun _ _ _ _ _ _ us hl => match us, hl with | [_, _], _ => rfl)
theorem law_bounds_know : Know g 0 law_bounds_T := ⟨(fun _ => (List.forall_mem_nil _)), (fun z => Bool.noConfusion (show false = true from z)), (List.forall_mem_nil _), (List.forall_mem_nil _), (List.forall_mem_nil _), (List.forall_mem_nil _), (List.forall_mem_nil _), (List.forall_mem_nil _), (List.forall_mem_nil _), (List.forall_mem_cons.2 ⟨h.b_range, (List.forall_mem_cons.2 ⟨h.b_len, (List.forall_mem_nil _)⟩)⟩), (List.forall_mem_nil _), (List.forall_mem_nil _), (List.forall_mem_nil _), (List.forall_mem_nil _), (List.forall_mem_nil _), (fun _ p _ => (List.forall_mem_nil _))⟩
theorem law_bounds_ok : ∃ f fd, FnOk g.P g.w g.K g.mg g.base (L2.CX g.P g.w) 1 f fd ["chain"] (spD g law_bounds_F) ∧ g.mg "_law_bounds" = some (.ref f) ∧ PySem.W.keepIn g.K (.ref f) = true ∧ DefFd g "_law_bounds" (topS 51) fd :=
  def_ok (N := ["chain", "bounds", "k", "a", "b"]) h.f_law_bounds (fnScope_by' (by decide +kernel)) (law_bounds_know h) (by decide +kernel)
theorem law_bounds_prm : Prm g 1 "_law_bounds" law_bounds_F := def_prm (law_bounds_ok h) (fun _ _ _ _ _ _ us hl => match us, hl with | [_], _ => rfl)
theorem law_box_know : Know g 0 law_box_T := ⟨(fun _ => (List.forall_mem_nil _)), (fun z => Bool.noConfusion (show false = true from z)), (List.forall_mem_nil _), (List.forall_mem_nil _), (List.forall_mem_nil _), (List.forall_mem_nil _), (List.forall_mem_nil _), (List.forall_mem_nil _), (List.forall_mem_nil _), (List.forall_mem_cons.2 ⟨h.b_len, (List.forall_mem_nil _)⟩), (List.forall_mem_nil _), (List.forall_mem_nil _), (List.forall_mem_nil _), (List.forall_mem_nil _), (List.forall_mem_nil _), (fun _ p _ => (List.forall_mem_nil _))⟩
theorem law_box_ok : ∃ f fd, FnOk g.P g.w g.K g.mg g.base (L2.CX g.P g.w) 1 f fd ["chain"] (spD g law_box_F) ∧ g.mg "_law_box" = some (.ref f) ∧ PySem.W.keepIn g.K (.ref f) = true ∧ DefFd g "_law_box" (topS 55) fd :=
  def_ok (N := ["chain", "k"]) h.f_law_box (fnScope_by' (by decide +kernel)) (law_box_know h) (by decide +kernel)
theorem law_box_prm : Prm g 1 "_law_box" law_box_F := def_prm (law_box_ok h) (fun _ _ _ _ _ _ us hl => match us, hl with | [_], _ => rfl)
theorem law_spot_know : Know g 0 law_spot_T := ⟨(fun _ => (List.forall_mem_nil _)), (fun z => Bool.noConfusion (show false = true from z)), (List.forall_mem_nil _), (List.forall_mem_nil _), (List.forall_mem_nil _), (List.forall_mem_nil _), (List.forall_mem_nil _), (List.forall_mem_nil _), (List.forall_mem_nil _), (List.forall_mem_cons.2 ⟨h.b_int, (List.forall_mem_cons.2 ⟨h.b_len, (List.forall_mem_cons.2 ⟨h.b_max, (List.forall_mem_nil _)⟩)⟩)⟩), (List.forall_mem_nil _), (List.forall_mem_nil _), (List.forall_mem_nil _), (List.forall_mem_nil _), (List.forall_mem_nil _), (fun _ p _ => (List.forall_mem_nil _))⟩
theorem law_spot_ok : ∃ f fd, FnOk g.P g.w g.K g.mg g.base (L2.CX g.P g.w) 1 f fd ["chain", "row"] (spD g law_spot_F) ∧ g.mg "_law_spot" = some (.ref f) ∧ PySem.W.keepIn g.K (.ref f) = true ∧ DefFd g "_law_spot" (topS 56) fd :=
  def_ok (N := ["chain", "row", "k", "left", "i", "x", "y"]) h.f_law_spot (fnScope_by' (by decide +kernel)) (law_spot_know h) (by decide +kernel)
theorem law_spot_prm : Prm g 1 "_law_spot" law_spot_F := def_prm (law_spot_ok h) (fun _ _ _ _ _ _ us hl => match us, hl with | [_, _], _ => rfl)
theorem law_beyond_know : Know g 0 law_beyond_T := ⟨(fun _ => (List.forall_mem_nil _)), (fun z => Bool.noConfusion (show false = true from z)), (List.forall_mem_nil _), (List.forall_mem_nil _), (List.forall_mem_nil _), (List.forall_mem_nil _), (List.forall_mem_nil _), (List.forall_mem_nil _), (List.forall_mem_nil _), (List.forall_mem_cons.2 ⟨h.b_int, (List.forall_mem_nil _)⟩), (List.forall_mem_nil _), (List.forall_mem_nil _), (List.forall_mem_nil _), (List.forall_mem_nil _), (List.forall_mem_nil _), (fun _ p _ => (List.forall_mem_nil _))⟩
theorem law_beyond_ok : ∃ f fd, FnOk g.P g.w g.K g.mg g.base (L2.CX g.P g.w) 1 f fd ["corner", "pick"] (spD g law_beyond_F) ∧ g.mg "_law_beyond" = some (.ref f) ∧ PySem.W.keepIn g.K (.ref f) = true ∧ DefFd g "_law_beyond" (topS 58) fd :=
  def_ok (N := ["corner", "pick"]) h.f_law_beyond (fnScope_by' (by decide +kernel)) (law_beyond_know h) (by decide +kernel)
theorem law_beyond_prm : Prm g 1 "_law_beyond" law_beyond_F := def_prm (law_beyond_ok h) (fun _ _ _ _ _ _ us hl => match us, hl with | [_, _], _ => rfl)
theorem law_wordH_know : ∀ p : Addr × Obj, (∃ vs, p.2.data = .fields vs) → Know (g.hot p) 0 law_wordH_T := know_up h.f_law_word.1 rfl (fun p _ => (List.forall_mem_nil _)) (List.forall_mem_nil _) ⟨rfl, rfl, rfl, rfl, rfl⟩ rfl (List.forall_mem_cons.2 ⟨h.b_isinstance, (List.forall_mem_nil _)⟩) (List.forall_mem_nil _) (List.forall_mem_nil _) (List.forall_mem_nil _) (List.forall_mem_nil _) (List.forall_mem_cons.2 ⟨h.xi_0, (List.forall_mem_cons.2 ⟨h.xi_1, (List.forall_mem_cons.2 ⟨h.xi_2, (List.forall_mem_cons.2 ⟨h.xi_3, (List.forall_mem_cons.2 ⟨h.xi_4, (List.forall_mem_cons.2 ⟨h.xi_5, (List.forall_mem_nil _)⟩)⟩)⟩)⟩)⟩)⟩)
theorem law_wordH_ok : ∃ f fd, FnC g.P g.w g.K g.mg g.base 1 f fd ["e"] (spC g law_wordH_F) ∧ g.mg "_law_word" = some (.ref f) ∧ PySem.W.keepIn g.K (.ref f) = true ∧ DefFd g "_law_word" (topS 59) fd :=
  def_okC (N := ["e"]) h.f_law_word (fnScope_by' (by decide +kernel)) rfl rfl rfl (law_wordH_know h) (by decide +kernel)
theorem law_wordH_prm : ∀ p : Addr × Obj, PrmC (g.hot p) 1 "_law_word" law_wordH_F := def_prmC (law_wordH_ok h) (fun _ _ _ _ _ _ us hl => match us, hl with | [_], _ => rfl)
theorem law_due_way_know : Know g 0 law_due_way_T := ⟨(fun _ => (List.forall_mem_nil _)), (fun z => Bool.noConfusion (show false = true from z)), (List.forall_mem_nil _), (List.forall_mem_nil _), (List.forall_mem_nil _), (List.forall_mem_nil _), (List.forall_mem_nil _), (List.forall_mem_nil _), (List.forall_mem_nil _), (List.forall_mem_cons.2 ⟨h.b_int, (List.forall_mem_nil _)⟩), (List.forall_mem_nil _), (List.forall_mem_nil _), (List.forall_mem_nil _), (List.forall_mem_nil _), (List.forall_mem_nil _), (fun _ p _ => (List.forall_mem_nil _))⟩
theorem law_due_way_ok : ∃ f fd, FnOk g.P g.w g.K g.mg g.base (L2.CX g.P g.w) 1 f fd ["one", "other", "inside"] (spD g law_due_way_F) ∧ g.mg "_law_due_way" = some (.ref f) ∧ PySem.W.keepIn g.K (.ref f) = true ∧ DefFd g "_law_due_way" (topS 63) fd :=
  def_ok (N := ["one", "other", "inside", "first", "second"]) h.f_law_due_way (fnScope_by' (by decide +kernel)) (law_due_way_know h) (by decide +kernel)
theorem law_due_way_prm : Prm g 1 "_law_due_way" law_due_way_F := def_prm (law_due_way_ok h) (fun _ _ _ _ _ _ us hl => match us, hl with | [_, _, _], _ => rfl)
theorem plus_know : Know g 1 plus_T := ⟨(fun _ => (List.forall_mem_cons.2 ⟨(frac_prm h).mono (by decide), (List.forall_mem_nil _)⟩)), (fun z => Bool.noConfusion (show false = true from z)), (List.forall_mem_nil _), (List.forall_mem_nil _), (List.forall_mem_nil _), (List.forall_mem_nil _), (List.forall_mem_nil _), (List.forall_mem_nil _), (List.forall_mem_nil _), (List.forall_mem_nil _), (List.forall_mem_nil _), (List.forall_mem_nil _), (List.forall_mem_nil _), (List.forall_mem_nil _), (List.forall_mem_nil _), (fun _ p _ => (List.forall_mem_nil _))⟩
theorem plus_ok : ∃ f fd, FnOk g.P g.w g.K g.mg g.base (L2.CX g.P g.w) 2 f fd ["a", "b"] (spD g plus_F) ∧ g.mg "plus" = some (.ref f) ∧ PySem.W.keepIn g.K (.ref f) = true ∧ DefFd g "plus" (topS 12) fd :=
  def_ok (N := ["a", "b"]) h.f_plus (fnScope_by' (by decide +kernel)) (plus_know h) (by decide +kernel)
theorem plus_prm : Prm g 2 "plus" plus_F := def_prm (plus_ok h) (fun _ _ _ _ _ _ us hl => match us, hl with | [_, _], _ => rfl)
theorem minus_know : Know g 1 minus_T := ⟨(fun _ => (List.forall_mem_cons.2 ⟨(frac_prm h).mono (by decide), (List.forall_mem_nil _)⟩)), (fun z => Bool.noConfusion (show false = true from z)), (List.forall_mem_nil _), (List.forall_mem_nil _), (List.forall_mem_nil _), (List.forall_mem_nil _), (List.forall_mem_nil _), (List.forall_mem_nil _), (List.forall_mem_nil _), (List.forall_mem_nil _), (List.forall_mem_nil _), (List.forall_mem_nil _), (List.forall_mem_nil _), (List.forall_mem_nil _), (List.forall_mem_nil _), (fun _ p _ => (List.forall_mem_nil _))⟩
theorem minus_ok : ∃ f fd, FnOk g.P g.w g.K g.mg g.base (L2.CX g.P g.w) 2 f fd ["a", "b"] (spD g minus_F) ∧ g.mg "minus" = some (.ref f) ∧ PySem.W.keepIn g.K (.ref f) = true ∧ DefFd g "minus" (topS 13) fd :=
  def_ok (N := ["a", "b"]) h.f_minus (fnScope_by' (by decide +kernel)) (minus_know h) (by decide +kernel)
theorem minus_prm : Prm g 2 "minus" minus_F := def_prm (minus_ok h) (fun _ _ _ _ _ _ us hl => match us, hl with | [_, _], _ => rfl)
theorem times_know : Know g 1 times_T := ⟨(fun _ => (List.forall_mem_cons.2 ⟨(frac_prm h).mono (by decide), (List.forall_mem_nil _)⟩)), (fun z => Bool.noConfusion (show false = true from z)), (List.forall_mem_nil _), (List.forall_mem_nil _), (List.forall_mem_nil _), (List.forall_mem_nil _), (List.forall_mem_nil _), (List.forall_mem_nil _), (List.forall_mem_nil _), (List.forall_mem_nil _), (List.forall_mem_nil _), (List.forall_mem_nil _), (List.forall_mem_nil _), (List.forall_mem_nil _), (List.forall_mem_nil _), (fun _ p _ => (List.forall_mem_nil _))⟩
theorem times_ok : ∃ f fd, FnOk g.P g.w g.K g.mg g.base (L2.CX g.P g.w) 2 f fd ["a", "b"] (spD g times_F) ∧ g.mg "times" = some (.ref f) ∧ PySem.W.keepIn g.K (.ref f) = true ∧ DefFd g "times" (topS 14) fd :=
  def_ok (N := ["a", "b"]) h.f_times (fnScope_by' (by decide +kernel)) (times_know h) (by decide +kernel)
theorem times_prm : Prm g 2 "times" times_F := def_prm (times_ok h) (fun _ _ _ _ _ _ us hl => match us, hl with | [_, _], _ => rfl)
theorem over_know : Know g 1 over_T := ⟨(fun _ => (List.forall_mem_cons.2 ⟨(frac_prm h).mono (by decide), (List.forall_mem_nil _)⟩)), (fun z => Bool.noConfusion (show false = true from z)), (List.forall_mem_nil _), (List.forall_mem_nil _), (List.forall_mem_nil _), (List.forall_mem_nil _), (List.forall_mem_nil _), (List.forall_mem_nil _), (List.forall_mem_nil _), (List.forall_mem_nil _), (List.forall_mem_nil _), (List.forall_mem_nil _), (List.forall_mem_cons.2 ⟨h.xc_BadNumber, (List.forall_mem_nil _)⟩), (List.forall_mem_nil _), (List.forall_mem_nil _), (fun _ p _ => (List.forall_mem_nil _))⟩
theorem over_ok : ∃ f fd, FnOk g.P g.w g.K g.mg g.base (L2.CX g.P g.w) 2 f fd ["a", "b"] (spD g over_F) ∧ g.mg "over" = some (.ref f) ∧ PySem.W.keepIn g.K (.ref f) = true ∧ DefFd g "over" (topS 15) fd :=
  def_ok (N := ["a", "b"]) h.f_over (fnScope_by' (by decide +kernel)) (over_know h) (by decide +kernel)
theorem over_prm : Prm g 2 "over" over_F := def_prm (over_ok h) (fun _ _ _ _ _ _ us hl => match us, hl with | [_, _], _ => rfl)
theorem no_worse_know : Know g 1 no_worse_T := ⟨(fun _ => (List.forall_mem_cons.2 ⟨(at_most_prm h).mono (by decide), (List.forall_mem_nil _)⟩)), (fun z => Bool.noConfusion (show false = true from z)), (List.forall_mem_nil _), (List.forall_mem_nil _), (List.forall_mem_nil _), (List.forall_mem_nil _), (List.forall_mem_nil _), (List.forall_mem_nil _), (List.forall_mem_nil _), (List.forall_mem_nil _), (List.forall_mem_nil _), (List.forall_mem_nil _), (List.forall_mem_nil _), (List.forall_mem_nil _), (List.forall_mem_nil _), (fun _ p _ => (List.forall_mem_nil _))⟩
theorem no_worse_ok : ∃ f fd, FnOk g.P g.w g.K g.mg g.base (L2.CX g.P g.w) 2 f fd ["one", "other"] (spD g no_worse_F) ∧ g.mg "no_worse" = some (.ref f) ∧ PySem.W.keepIn g.K (.ref f) = true ∧ DefFd g "no_worse" (topS 24) fd :=
  def_ok (N := ["one", "other"]) h.f_no_worse (fnScope_by' (by decide +kernel)) (no_worse_know h) (by decide +kernel)
theorem no_worse_prm : Prm g 2 "no_worse" no_worse_F := def_prm (no_worse_ok h) (fun _ _ _ _ _ _ us hl => match us, hl with | [_, _], _ => rfl)
theorem upper_chain_know : Know g 1 upper_chain_T := ⟨(fun _ => (List.forall_mem_cons.2 ⟨(whole_spots_prm h).mono (by decide), (List.forall_mem_cons.2 ⟨(turn_prm h).mono (by decide), (List.forall_mem_nil _)⟩)⟩)), (fun z => Bool.noConfusion (show false = true from z)), (List.forall_mem_nil _), (List.forall_mem_nil _), (List.forall_mem_nil _), (List.forall_mem_nil _), (List.forall_mem_nil _), (List.forall_mem_nil _), (List.forall_mem_nil _), (List.forall_mem_cons.2 ⟨h.b_sorted, (List.forall_mem_cons.2 ⟨h.b_len, (List.forall_mem_nil _)⟩)⟩), (List.forall_mem_nil _), (List.forall_mem_nil _), (List.forall_mem_nil _), (List.forall_mem_nil _), (List.forall_mem_nil _), (fun _ p _ => (List.forall_mem_nil _))⟩
theorem upper_chain_ok : ∃ f fd, FnOk g.P g.w g.K g.mg g.base (L2.CX g.P g.w) 2 f fd ["points"] (spD g upper_chain_F) ∧ g.mg "upper_chain" = some (.ref f) ∧ PySem.W.keepIn g.K (.ref f) = true ∧ DefFd g "upper_chain" (topS 33) fd :=
  def_ok (N := ["points", "chain", "spot"]) h.f_upper_chain (fnScope_by' (by decide +kernel)) (upper_chain_know h) (by decide +kernel)
theorem upper_chain_prm : Prm g 2 "upper_chain" upper_chain_F := def_prm (upper_chain_ok h) (fun _ _ _ _ _ _ us hl => match us, hl with | [_], _ => rfl)
theorem law_is_number_know : Know g 1 law_is_number_T := ⟨(fun _ => (List.forall_mem_cons.2 ⟨(law_lowest_prm h).mono (by decide), (List.forall_mem_nil _)⟩)), (fun z => Bool.noConfusion (show false = true from z)), (List.forall_mem_nil _), (List.forall_mem_nil _), (List.forall_mem_nil _), (List.forall_mem_nil _), (List.forall_mem_nil _), (List.forall_mem_nil _), (List.forall_mem_nil _), (List.forall_mem_cons.2 ⟨h.b_isinstance, (List.forall_mem_cons.2 ⟨h.b_tuple, (List.forall_mem_cons.2 ⟨h.b_len, (List.forall_mem_cons.2 ⟨h.b_int, (List.forall_mem_cons.2 ⟨h.b_bool, (List.forall_mem_nil _)⟩)⟩)⟩)⟩)⟩), (List.forall_mem_nil _), (List.forall_mem_nil _), (List.forall_mem_nil _), (List.forall_mem_nil _), (List.forall_mem_nil _), (fun _ p _ => (List.forall_mem_nil _))⟩
theorem law_is_number_ok : ∃ f fd, FnOk g.P g.w g.K g.mg g.base (L2.CX g.P g.w) 2 f fd ["value"] (spD g law_is_number_F) ∧ g.mg "_law_is_number" = some (.ref f) ∧ PySem.W.keepIn g.K (.ref f) = true ∧ DefFd g "_law_is_number" (topS 49) fd :=
  def_ok (N := ["value", "part"]) h.f_law_is_number (fnScope_by' (by decide +kernel)) (law_is_number_know h) (by decide +kernel)
theorem law_is_number_prm : Prm g 2 "_law_is_number" law_is_number_F := def_prm (law_is_number_ok h) (fun _ _ _ _ _ _ us hl => match us, hl with | [_], _ => rfl)
theorem law_world_know : Know g 1 law_world_T := ⟨(fun _ => (List.forall_mem_cons.2 ⟨(law_digits_prm h).mono (by decide), (List.forall_mem_cons.2 ⟨(law_steps_prm h).mono (by decide), (List.forall_mem_cons.2 ⟨(law_lowest_prm h).mono (by decide), (List.forall_mem_cons.2 ⟨(law_bounds_prm h).mono (by decide), (List.forall_mem_nil _)⟩)⟩)⟩)⟩)), (fun z => Bool.noConfusion (show false = true from z)), (List.forall_mem_nil _), (List.forall_mem_nil _), (List.forall_mem_nil _), (List.forall_mem_nil _), (List.forall_mem_nil _), (List.forall_mem_nil _), (List.forall_mem_nil _), (List.forall_mem_cons.2 ⟨h.b_int, (List.forall_mem_cons.2 ⟨h.b_max, (List.forall_mem_nil _)⟩)⟩), (List.forall_mem_nil _), (List.forall_mem_nil _), (List.forall_mem_nil _), (List.forall_mem_nil _), (List.forall_mem_nil _), (fun _ p _ => (List.forall_mem_nil _))⟩
theorem law_world_ok : ∃ f fd, FnOk g.P g.w g.K g.mg g.base (L2.CX g.P g.w) 2 f fd ["cell"] (spD g law_world_F) ∧ g.mg "_law_world" = some (.ref f) ∧ PySem.W.keepIn g.K (.ref f) = true ∧ DefFd g "_law_world" (topS 52) fd :=
  def_ok (N := ["cell", "row", "many", "steps", "x", "y", "step", "chain", "units", "left", "low", "one"]) h.f_law_world (fnScope_by' (by decide +kernel)) (law_world_know h) (by decide +kernel)
theorem law_world_prm : Prm g 2 "_law_world" law_world_F := def_prm (law_world_ok h) (fun _ _ _ _ _ _ us hl => match us, hl with | [_], _ => rfl)
theorem law_at_know : Know g 1 law_at_T := ⟨(fun _ => (List.forall_mem_cons.2 ⟨(law_lowest_prm h).mono (by decide), (List.forall_mem_nil _)⟩)), (fun z => Bool.noConfusion (show false = true from z)), (List.forall_mem_nil _), (List.forall_mem_nil _), (List.forall_mem_nil _), (List.forall_mem_nil _), (List.forall_mem_nil _), (List.forall_mem_nil _), (List.forall_mem_nil _), (List.forall_mem_nil _), (List.forall_mem_nil _), (List.forall_mem_nil _), (List.forall_mem_nil _), (List.forall_mem_nil _), (List.forall_mem_nil _), (fun _ p _ => (List.forall_mem_nil _))⟩
theorem law_at_ok : ∃ f fd, FnOk g.P g.w g.K g.mg g.base (L2.CX g.P g.w) 2 f fd ["world", "x", "y"] (spD g law_at_F) ∧ g.mg "_law_at" = some (.ref f) ∧ PySem.W.keepIn g.K (.ref f) = true ∧ DefFd g "_law_at" (topS 53) fd :=
  def_ok (N := ["world", "x", "y", "units", "left", "low", "first", "second"]) h.f_law_at (fnScope_by' (by decide +kernel)) (law_at_know h) (by decide +kernel)
theorem law_at_prm : Prm g 2 "_law_at" law_at_F := def_prm (law_at_ok h) (fun _ _ _ _ _ _ us hl => match us, hl with | [_, _, _], _ => rfl)
theorem law_large_know : Know g 1 law_large_T := ⟨(fun _ => (List.forall_mem_cons.2 ⟨(law_digits_prm h).mono (by decide), (List.forall_mem_nil _)⟩)), (fun z => Bool.noConfusion (show false = true from z)), (List.forall_mem_nil _), (List.forall_mem_nil _), (List.forall_mem_nil _), (List.forall_mem_nil _), (List.forall_mem_nil _), (List.forall_mem_nil _), (List.forall_mem_nil _), (List.forall_mem_nil _), (List.forall_mem_nil _), (List.forall_mem_nil _), (List.forall_mem_nil _), (List.forall_mem_nil _), (List.forall_mem_nil _), (fun _ p _ => (List.forall_mem_nil _))⟩
theorem law_large_ok : ∃ f fd, FnOk g.P g.w g.K g.mg g.base (L2.CX g.P g.w) 2 f fd ["world", "cell"] (spD g law_large_F) ∧ g.mg "_law_large" = some (.ref f) ∧ PySem.W.keepIn g.K (.ref f) = true ∧ DefFd g "_law_large" (topS 54) fd :=
  def_ok (N := ["world", "cell", "row", "one"]) h.f_law_large (fnScope_by' (by decide +kernel)) (law_large_know h) (by decide +kernel)
theorem law_large_prm : Prm g 2 "_law_large" law_large_F := def_prm (law_large_ok h) (fun _ _ _ _ _ _ us hl => match us, hl with | [_, _], _ => rfl)
theorem law_pair_know : Know g 1 law_pair_T := ⟨(fun _ => (List.forall_mem_cons.2 ⟨(law_spot_prm h).mono (by decide), (List.forall_mem_cons.2 ⟨(law_box_prm h).mono (by decide), (List.forall_mem_nil _)⟩)⟩)), (fun z => Bool.noConfusion (show false = true from z)), (List.forall_mem_nil _), (List.forall_mem_nil _), (List.forall_mem_nil _), (List.forall_mem_nil _), (List.forall_mem_nil _), (List.forall_mem_nil _), (List.forall_mem_nil _), (List.forall_mem_cons.2 ⟨h.b_int, (List.forall_mem_nil _)⟩), (List.forall_mem_nil _), (List.forall_mem_nil _), (List.forall_mem_nil _), (List.forall_mem_nil _), (List.forall_mem_nil _), (fun _ p _ => (List.forall_mem_nil _))⟩
theorem law_pair_ok : ∃ f fd, FnOk g.P g.w g.K g.mg g.base (L2.CX g.P g.w) 2 f fd ["chain", "row"] (spD g law_pair_F) ∧ g.mg "_law_pair" = some (.ref f) ∧ PySem.W.keepIn g.K (.ref f) = true ∧ DefFd g "_law_pair" (topS 57) fd :=
  def_ok (N := ["chain", "row", "box", "p", "q", "r", "s", "one", "other", "x", "y", "first"]) h.f_law_pair (fnScope_by' (by decide +kernel)) (law_pair_know h) (by decide +kernel)
theorem law_pair_prm : Prm g 2 "_law_pair" law_pair_F := def_prm (law_pair_ok h) (fun _ _ _ _ _ _ us hl => match us, hl with | [_, _], _ => rfl)
theorem law_due_risk_know : Know g 1 law_due_risk_T := ⟨(fun _ => (List.forall_mem_cons.2 ⟨(law_lowest_prm h).mono (by decide), (List.forall_mem_nil _)⟩)), (fun z => Bool.noConfusion (show false = true from z)), (List.forall_mem_nil _), (List.forall_mem_nil _), (List.forall_mem_nil _), (List.forall_mem_nil _), (List.forall_mem_nil _), (List.forall_mem_nil _), (List.forall_mem_nil _), (List.forall_mem_nil _), (List.forall_mem_nil _), (List.forall_mem_nil _), (List.forall_mem_nil _), (List.forall_mem_nil _), (List.forall_mem_nil _), (fun _ p _ => (List.forall_mem_nil _))⟩
theorem law_due_risk_ok : ∃ f fd, FnOk g.P g.w g.K g.mg g.base (L2.CX g.P g.w) 2 f fd ["own", "others", "person", "inside"] (spD g law_due_risk_F) ∧ g.mg "_law_due_risk" = some (.ref f) ∧ PySem.W.keepIn g.K (.ref f) = true ∧ DefFd g "_law_due_risk" (topS 62) fd :=
  def_ok (N := ["own", "others", "person", "inside", "g", "h"]) h.f_law_due_risk (fnScope_by' (by decide +kernel)) (law_due_risk_know h) (by decide +kernel)
theorem law_due_risk_prm : Prm g 2 "_law_due_risk" law_due_risk_F := def_prm (law_due_risk_ok h) (fun _ _ _ _ _ _ us hl => match us, hl with | [_, _, _, _], _ => rfl)
theorem law_product_know : Know g 1 law_product_T := ⟨(fun _ => (List.forall_mem_cons.2 ⟨(law_lowest_prm h).mono (by decide), (List.forall_mem_nil _)⟩)), (fun z => Bool.noConfusion (show false = true from z)), (List.forall_mem_nil _), (List.forall_mem_nil _), (List.forall_mem_nil _), (List.forall_mem_nil _), (List.forall_mem_nil _), (List.forall_mem_nil _), (List.forall_mem_nil _), (List.forall_mem_nil _), (List.forall_mem_nil _), (List.forall_mem_nil _), (List.forall_mem_nil _), (List.forall_mem_nil _), (List.forall_mem_nil _), (fun _ p _ => (List.forall_mem_nil _))⟩
theorem law_product_ok : ∃ f fd, FnOk g.P g.w g.K g.mg g.base (L2.CX g.P g.w) 2 f fd ["world", "spot"] (spD g law_product_F) ∧ g.mg "_law_product" = some (.ref f) ∧ PySem.W.keepIn g.K (.ref f) = true ∧ DefFd g "_law_product" (topS 65) fd :=
  def_ok (N := ["world", "spot", "units", "top"]) h.f_law_product (fnScope_by' (by decide +kernel)) (law_product_know h) (by decide +kernel)
theorem law_product_prm : Prm g 2 "_law_product" law_product_F := def_prm (law_product_ok h) (fun _ _ _ _ _ _ us hl => match us, hl with | [_, _], _ => rfl)
theorem gap_know : Know g 2 gap_T := ⟨(fun _ => (List.forall_mem_cons.2 ⟨(minus_prm h).mono (by decide), (List.forall_mem_nil _)⟩)), (fun z => Bool.noConfusion (show false = true from z)), (List.forall_mem_nil _), (List.forall_mem_nil _), (List.forall_mem_nil _), (List.forall_mem_nil _), (List.forall_mem_nil _), (List.forall_mem_nil _), (List.forall_mem_nil _), (List.forall_mem_nil _), (List.forall_mem_nil _), (List.forall_mem_nil _), (List.forall_mem_nil _), (List.forall_mem_nil _), (List.forall_mem_nil _), (fun _ p _ => (List.forall_mem_nil _))⟩
theorem gap_ok : ∃ f fd, FnOk g.P g.w g.K g.mg g.base (L2.CX g.P g.w) 3 f fd ["point", "base"] (spD g gap_F) ∧ g.mg "gap" = some (.ref f) ∧ PySem.W.keepIn g.K (.ref f) = true ∧ DefFd g "gap" (topS 22) fd :=
  def_ok (N := ["point", "base"]) h.f_gap (fnScope_by' (by decide +kernel)) (gap_know h) (by decide +kernel)
theorem gap_prm : Prm g 3 "gap" gap_F := def_prm (gap_ok h) (fun _ _ _ _ _ _ us hl => match us, hl with | [_, _], _ => rfl)
theorem y_at_know : Know g 2 y_at_T := ⟨(fun _ => (List.forall_mem_cons.2 ⟨(minus_prm h).mono (by decide), (List.forall_mem_cons.2 ⟨(over_prm h).mono (by decide), (List.forall_mem_cons.2 ⟨(times_prm h).mono (by decide), (List.forall_mem_cons.2 ⟨(plus_prm h).mono (by decide), (List.forall_mem_nil _)⟩)⟩)⟩)⟩)), (fun z => Bool.noConfusion (show false = true from z)), (List.forall_mem_nil _), (List.forall_mem_nil _), (List.forall_mem_nil _), (List.forall_mem_nil _), (List.forall_mem_nil _), (List.forall_mem_nil _), (List.forall_mem_nil _), (List.forall_mem_nil _), (List.forall_mem_nil _), (List.forall_mem_nil _), (List.forall_mem_nil _), (List.forall_mem_nil _), (List.forall_mem_nil _), (fun _ p _ => (List.forall_mem_nil _))⟩
theorem y_at_ok : ∃ f fd, FnOk g.P g.w g.K g.mg g.base (L2.CX g.P g.w) 3 f fd ["left", "right", "x"] (spD g y_at_F) ∧ g.mg "y_at" = some (.ref f) ∧ PySem.W.keepIn g.K (.ref f) = true ∧ DefFd g "y_at" (topS 34) fd :=
  def_ok (N := ["left", "right", "x", "share"]) h.f_y_at (fnScope_by' (by decide +kernel)) (y_at_know h) (by decide +kernel)
theorem y_at_prm : Prm g 3 "y_at" y_at_F := def_prm (y_at_ok h) (fun _ _ _ _ _ _ us hl => match us, hl with | [_, _, _], _ => rfl)
theorem x_at_know : Know g 2 x_at_T := ⟨(fun _ => (List.forall_mem_cons.2 ⟨(minus_prm h).mono (by decide), (List.forall_mem_cons.2 ⟨(over_prm h).mono (by decide), (List.forall_mem_cons.2 ⟨(times_prm h).mono (by decide), (List.forall_mem_cons.2 ⟨(plus_prm h).mono (by decide), (List.forall_mem_nil _)⟩)⟩)⟩)⟩)), (fun z => Bool.noConfusion (show false = true from z)), (List.forall_mem_nil _), (List.forall_mem_nil _), (List.forall_mem_nil _), (List.forall_mem_nil _), (List.forall_mem_nil _), (List.forall_mem_nil _), (List.forall_mem_nil _), (List.forall_mem_nil _), (List.forall_mem_nil _), (List.forall_mem_nil _), (List.forall_mem_nil _), (List.forall_mem_nil _), (List.forall_mem_nil _), (fun _ p _ => (List.forall_mem_nil _))⟩
theorem x_at_ok : ∃ f fd, FnOk g.P g.w g.K g.mg g.base (L2.CX g.P g.w) 3 f fd ["left", "right", "y"] (spD g x_at_F) ∧ g.mg "x_at" = some (.ref f) ∧ PySem.W.keepIn g.K (.ref f) = true ∧ DefFd g "x_at" (topS 35) fd :=
  def_ok (N := ["left", "right", "y", "share"]) h.f_x_at (fnScope_by' (by decide +kernel)) (x_at_know h) (by decide +kernel)
theorem x_at_prm : Prm g 3 "x_at" x_at_F := def_prm (x_at_ok h) (fun _ _ _ _ _ _ us hl => match us, hl with | [_, _, _], _ => rfl)
theorem clipped_know : Know g 3 clipped_T := ⟨(fun _ => (List.forall_mem_cons.2 ⟨(at_most_prm h).mono (by decide), (List.forall_mem_cons.2 ⟨(below_prm h).mono (by decide), (List.forall_mem_cons.2 ⟨(y_at_prm h).mono (by decide), (List.forall_mem_cons.2 ⟨(x_at_prm h).mono (by decide), (List.forall_mem_nil _)⟩)⟩)⟩)⟩)), (fun z => Bool.noConfusion (show false = true from z)), (List.forall_mem_nil _), (List.forall_mem_nil _), (List.forall_mem_nil _), (List.forall_mem_nil _), (List.forall_mem_nil _), (List.forall_mem_nil _), (List.forall_mem_nil _), (List.forall_mem_cons.2 ⟨h.b_list, (List.forall_mem_cons.2 ⟨h.b_len, (List.forall_mem_nil _)⟩)⟩), (List.forall_mem_nil _), (List.forall_mem_nil _), (List.forall_mem_nil _), (List.forall_mem_nil _), (List.forall_mem_nil _), (fun _ p _ => (List.forall_mem_nil _))⟩
theorem clipped_ok : ∃ f fd, FnOk g.P g.w g.K g.mg g.base (L2.CX g.P g.w) 4 f fd ["chain", "apart"] (spD g clipped_F) ∧ g.mg "clipped" = some (.ref f) ∧ PySem.W.keepIn g.K (.ref f) = true ∧ DefFd g "clipped" (topS 36) fd :=
  def_ok (N := ["chain", "apart", "part", "left", "low"]) h.f_clipped (fnScope_by' (by decide +kernel)) (clipped_know h) (by decide +kernel)
theorem clipped_prm : Prm g 4 "clipped" clipped_F := def_prm (clipped_ok h) (fun _ _ _ _ _ _ us hl => match us, hl with | [_, _], _ => rfl)
theorem height_on_know : Know g 3 height_on_T := ⟨(fun _ => (List.forall_mem_cons.2 ⟨(at_most_prm h).mono (by decide), (List.forall_mem_cons.2 ⟨(below_prm h).mono (by decide), (List.forall_mem_cons.2 ⟨(y_at_prm h).mono (by decide), (List.forall_mem_nil _)⟩)⟩)⟩)), (fun z => Bool.noConfusion (show false = true from z)), (List.forall_mem_nil _), (List.forall_mem_nil _), (List.forall_mem_nil _), (List.forall_mem_nil _), (List.forall_mem_nil _), (List.forall_mem_nil _), (List.forall_mem_nil _), (List.forall_mem_nil _), (List.forall_mem_nil _), (List.forall_mem_nil _), (List.forall_mem_nil _), (List.forall_mem_nil _), (List.forall_mem_nil _), (fun _ p _ => (List.forall_mem_nil _))⟩
theorem height_on_ok : ∃ f fd, FnOk g.P g.w g.K g.mg g.base (L2.CX g.P g.w) 4 f fd ["chain", "x"] (spD g height_on_F) ∧ g.mg "height_on" = some (.ref f) ∧ PySem.W.keepIn g.K (.ref f) = true ∧ DefFd g "height_on" (topS 37) fd :=
  def_ok (N := ["chain", "x", "k"]) h.f_height_on (fnScope_by' (by decide +kernel)) (height_on_know h) (by decide +kernel)
theorem height_on_prm : Prm g 4 "height_on" height_on_F := def_prm (height_on_ok h) (fun _ _ _ _ _ _ us hl => match us, hl with | [_, _], _ => rfl)
theorem Problem_gain_know : Know g 3 Problem_gain_T := ⟨(fun _ => (List.forall_mem_cons.2 ⟨(gap_prm h).mono (by decide), (List.forall_mem_nil _)⟩)), (fun z => Bool.noConfusion (show false = true from z)), (List.forall_mem_nil _), (List.forall_mem_nil _), (List.forall_mem_nil _), (List.forall_mem_nil _), (List.forall_mem_nil _), (List.forall_mem_nil _), (List.forall_mem_nil _), (List.forall_mem_nil _), (List.forall_mem_nil _), (List.forall_mem_cons.2 ⟨h.fl_Problem_apart.ex, (List.forall_mem_nil _)⟩), (List.forall_mem_nil _), (List.forall_mem_nil _), (List.forall_mem_nil _), (fun _ p _ => (List.forall_mem_nil _))⟩
theorem Problem_gain_prm : PrmM g 4 "Problem" "gain" Problem_gain_F := meth_ok (N := ["self", "point"]) (ps := ["self", "point"]) (T := Problem_gain_T) (B := Problem_gain_B) h.f_Problem_gain (fnScope_by' (by decide +kernel)) (Problem_gain_know h) (by decide +kernel) (fun _ _ _ _ _ _ us hl => match us, hl with | [_, _], _ => rfl)
theorem gain_product_know : Know g 4 gain_product_T := ⟨(fun _ => (List.forall_mem_cons.2 ⟨(times_prm h).mono (by decide), (List.forall_mem_nil _)⟩)), (fun z => Bool.noConfusion (show false = true from z)), (List.forall_mem_nil _), (List.forall_mem_nil _), (List.forall_mem_nil _), (List.forall_mem_cons.2 ⟨(Problem_gain_prm h).mono (by decide), (List.forall_mem_nil _)⟩), (List.forall_mem_nil _), (List.forall_mem_nil _), (List.forall_mem_nil _), (List.forall_mem_nil _), (List.forall_mem_nil _), (List.forall_mem_nil _), (List.forall_mem_nil _), (List.forall_mem_nil _), (List.forall_mem_nil _), (fun _ p _ => (List.forall_mem_nil _))⟩
theorem gain_product_ok : ∃ f fd, FnOk g.P g.w g.K g.mg g.base (L2.CX g.P g.w) 5 f fd ["problem", "point"] (spD g gain_product_F) ∧ g.mg "gain_product" = some (.ref f) ∧ PySem.W.keepIn g.K (.ref f) = true ∧ DefFd g "gain_product" (topS 26) fd :=
  def_ok (N := ["problem", "point", "first", "second"]) h.f_gain_product (fnScope_by' (by decide +kernel)) (gain_product_know h) (by decide +kernel)
theorem gain_product_prm : Prm g 5 "gain_product" gain_product_F := def_prm (gain_product_ok h) (fun _ _ _ _ _ _ us hl => match us, hl with | [_, _], _ => rfl)
theorem Problem_contains_know : Know g 4 Problem_contains_T := ⟨(fun _ => (List.forall_mem_cons.2 ⟨(no_worse_prm h).mono (by decide), (List.forall_mem_cons.2 ⟨(below_prm h).mono (by decide), (List.forall_mem_cons.2 ⟨(height_on_prm h).mono (by decide), (List.forall_mem_cons.2 ⟨(at_most_prm h).mono (by decide), (List.forall_mem_nil _)⟩)⟩)⟩)⟩)), (fun z => Bool.noConfusion (show false = true from z)), (List.forall_mem_nil _), (List.forall_mem_nil _), (List.forall_mem_nil _), (List.forall_mem_nil _), (List.forall_mem_nil _), (List.forall_mem_nil _), (List.forall_mem_nil _), (List.forall_mem_nil _), (List.forall_mem_nil _), (List.forall_mem_cons.2 ⟨h.fl_Problem_apart.ex, (List.forall_mem_cons.2 ⟨h.fl_Problem_frontier.ex, (List.forall_mem_nil _)⟩)⟩), (List.forall_mem_nil _), (List.forall_mem_nil _), (List.forall_mem_nil _), (fun _ p _ => (List.forall_mem_nil _))⟩
theorem Problem_contains_prm : PrmM g 5 "Problem" "__contains__" Problem_contains_F := meth_ok (N := ["self", "point"]) (ps := ["self", "point"]) (T := Problem_contains_T) (B := Problem_contains_B) h.f_Problem_contains (fnScope_by' (by decide +kernel)) (Problem_contains_know h) (by decide +kernel) (fun _ _ _ _ _ _ us hl => match us, hl with | [_, _], _ => rfl)
theorem risk_know : Know g 5 risk_T := ⟨(fun _ => (List.forall_mem_cons.2 ⟨(minus_prm h).mono (by decide), (List.forall_mem_cons.2 ⟨(over_prm h).mono (by decide), (List.forall_mem_nil _)⟩)⟩)), (fun z => Bool.noConfusion (show false = true from z)), (List.forall_mem_nil _), (List.forall_mem_nil _), (List.forall_mem_nil _), (List.forall_mem_cons.2 ⟨(Problem_contains_prm h).mono (by decide), (List.forall_mem_cons.2 ⟨(Problem_gain_prm h).mono (by decide), (List.forall_mem_nil _)⟩)⟩), (List.forall_mem_nil _), (List.forall_mem_nil _), (List.forall_mem_nil _), (List.forall_mem_nil _), (List.forall_mem_nil _), (List.forall_mem_nil _), (List.forall_mem_cons.2 ⟨h.xc_Outside, (List.forall_mem_nil _)⟩), (List.forall_mem_nil _), (List.forall_mem_nil _), (fun _ p _ => (List.forall_mem_nil _))⟩
theorem risk_ok : ∃ f fd, FnOk g.P g.w g.K g.mg g.base (L2.CX g.P g.w) 6 f fd ["problem", "own", "others", "person"] (spD g risk_F) ∧ g.mg "risk" = some (.ref f) ∧ PySem.W.keepIn g.K (.ref f) = true ∧ DefFd g "risk" (topS 28) fd :=
  def_ok (N := ["problem", "own", "others", "person", "kept"]) h.f_risk (fnScope_by' (by decide +kernel)) (risk_know h) (by decide +kernel)
theorem risk_prm : Prm g 6 "risk" risk_F := def_prm (risk_ok h) (fun _ _ _ _ _ _ us hl => match us, hl with | [_, _, _, _], _ => rfl)
theorem Problem_init_know : Know g 4 Problem_init_T := ⟨(fun _ => (List.forall_mem_cons.2 ⟨(upper_chain_prm h).mono (by decide), (List.forall_mem_cons.2 ⟨(clipped_prm h).mono (by decide), (List.forall_mem_nil _)⟩)⟩)), (fun z => Bool.noConfusion (show false = true from z)), (List.forall_mem_nil _), (List.forall_mem_nil _), (List.forall_mem_nil _), (List.forall_mem_nil _), (List.forall_mem_nil _), (List.forall_mem_nil _), (List.forall_mem_nil _), (List.forall_mem_cons.2 ⟨h.b_list, (List.forall_mem_cons.2 ⟨h.b_len, (List.forall_mem_cons.2 ⟨h.b_tuple, (List.forall_mem_nil _)⟩)⟩)⟩), (List.forall_mem_nil _), (List.forall_mem_cons.2 ⟨h.fl_Problem_apart.ex, (List.forall_mem_cons.2 ⟨h.fl_Problem_frontier.ex, (List.forall_mem_nil _)⟩)⟩), (List.forall_mem_cons.2 ⟨h.xc_NoGain, (List.forall_mem_nil _)⟩), (List.forall_mem_nil _), (List.forall_mem_nil _), (fun _ p _ => (List.forall_mem_nil _))⟩
theorem Problem_init_prm : Prm g 6 "Problem" Problem_init_F := cls_ok (p0 := "self") (N := ["self", "apart", "corners", "chain"]) (ps := ["apart", "corners"]) (T := Problem_init_T) (B := Problem_init_B) h.f_Problem_init (fnScope_by' (by decide +kernel)) (Problem_init_know h) (by decide +kernel) (fun _ _ _ _ _ _ us hl => match us, hl with | [_, _, _], _ => rfl)
theorem gives_way_know : Know g 6 gives_way_T := ⟨(fun _ => (List.forall_mem_cons.2 ⟨(risk_prm h).mono (by decide), (List.forall_mem_cons.2 ⟨(at_most_prm h).mono (by decide), (List.forall_mem_nil _)⟩)⟩)), (fun z => Bool.noConfusion (show false = true from z)), (List.forall_mem_nil _), (List.forall_mem_nil _), (List.forall_mem_nil _), (List.forall_mem_nil _), (List.forall_mem_nil _), (List.forall_mem_nil _), (List.forall_mem_nil _), (List.forall_mem_nil _), (List.forall_mem_nil _), (List.forall_mem_nil _), (List.forall_mem_nil _), (List.forall_mem_nil _), (List.forall_mem_nil _), (fun _ p _ => (List.forall_mem_nil _))⟩
theorem gives_way_ok : ∃ f fd, FnOk g.P g.w g.K g.mg g.base (L2.CX g.P g.w) 7 f fd ["problem", "one", "other"] (spD g gives_way_F) ∧ g.mg "gives_way" = some (.ref f) ∧ PySem.W.keepIn g.K (.ref f) = true ∧ DefFd g "gives_way" (topS 29) fd :=
  def_ok (N := ["problem", "one", "other"]) h.f_gives_way (fnScope_by' (by decide +kernel)) (gives_way_know h) (by decide +kernel)
theorem gives_way_prm : Prm g 7 "gives_way" gives_way_F := def_prm (gives_way_ok h) (fun _ _ _ _ _ _ us hl => match us, hl with | [_, _, _], _ => rfl)
theorem law_risk_know : Know g 6 law_risk_T := ⟨(fun _ => (List.forall_mem_cons.2 ⟨(risk_prm h).mono (by decide), (List.forall_mem_nil _)⟩)), (fun z => Bool.noConfusion (show false = true from z)), (List.forall_mem_nil _), (List.forall_mem_nil _), (List.forall_mem_nil _), (List.forall_mem_nil _), (List.forall_mem_nil _), (List.forall_mem_nil _), (List.forall_mem_nil _), (List.forall_mem_nil _), (List.forall_mem_nil _), (List.forall_mem_nil _), (List.forall_mem_nil _), (List.forall_mem_cons.2 ⟨h.xh_0, (List.forall_mem_nil _)⟩), (List.forall_mem_nil _), (fun _ p _ => (List.forall_mem_cons.2 ⟨(law_wordH_prm h p).mono (by decide), (List.forall_mem_nil _)⟩))⟩
theorem law_risk_ok : ∃ f fd, FnOk g.P g.w g.K g.mg g.base (L2.CX g.P g.w) 7 f fd ["problem", "own", "others", "person"] (spD g law_risk_F) ∧ g.mg "_law_risk" = some (.ref f) ∧ PySem.W.keepIn g.K (.ref f) = true ∧ DefFd g "_law_risk" (topS 60) fd :=
  def_ok (N := ["problem", "own", "others", "person", "e"]) h.f_law_risk (fnScope_by' (by decide +kernel)) (law_risk_know h) (by decide +kernel)
theorem law_risk_prm : Prm g 7 "_law_risk" law_risk_F := def_prm (law_risk_ok h) (fun _ _ _ _ _ _ us hl => match us, hl with | [_, _, _, _], _ => rfl)
theorem law_way_know : Know g 7 law_way_T := ⟨(fun _ => (List.forall_mem_cons.2 ⟨(gives_way_prm h).mono (by decide), (List.forall_mem_nil _)⟩)), (fun z => Bool.noConfusion (show false = true from z)), (List.forall_mem_nil _), (List.forall_mem_nil _), (List.forall_mem_nil _), (List.forall_mem_nil _), (List.forall_mem_nil _), (List.forall_mem_nil _), (List.forall_mem_nil _), (List.forall_mem_nil _), (List.forall_mem_nil _), (List.forall_mem_nil _), (List.forall_mem_nil _), (List.forall_mem_cons.2 ⟨h.xh_0, (List.forall_mem_nil _)⟩), (List.forall_mem_nil _), (fun _ p _ => (List.forall_mem_cons.2 ⟨(law_wordH_prm h p).mono (by decide), (List.forall_mem_nil _)⟩))⟩
theorem law_way_ok : ∃ f fd, FnOk g.P g.w g.K g.mg g.base (L2.CX g.P g.w) 8 f fd ["problem", "one", "other"] (spD g law_way_F) ∧ g.mg "_law_way" = some (.ref f) ∧ PySem.W.keepIn g.K (.ref f) = true ∧ DefFd g "_law_way" (topS 61) fd :=
  def_ok (N := ["problem", "one", "other", "e"]) h.f_law_way (fnScope_by' (by decide +kernel)) (law_way_know h) (by decide +kernel)
theorem law_way_prm : Prm g 8 "_law_way" law_way_F := def_prm (law_way_ok h) (fun _ _ _ _ _ _ us hl => match us, hl with | [_, _, _], _ => rfl)
theorem law_judged_know : Know g 8 law_judged_T := ⟨(fun _ => (List.forall_mem_cons.2 ⟨(law_due_risk_prm h).mono (by decide), (List.forall_mem_cons.2 ⟨(law_risk_prm h).mono (by decide), (List.forall_mem_cons.2 ⟨(law_is_number_prm h).mono (by decide), (List.forall_mem_cons.2 ⟨(law_due_way_prm h).mono (by decide), (List.forall_mem_cons.2 ⟨(law_way_prm h).mono (by decide), (List.forall_mem_nil _)⟩)⟩)⟩)⟩)⟩)), (fun z => Bool.noConfusion (show false = true from z)), (List.forall_mem_nil _), (List.forall_mem_nil _), (List.forall_mem_nil _), (List.forall_mem_nil _), (List.forall_mem_nil _), (List.forall_mem_nil _), (List.forall_mem_nil _), (List.forall_mem_cons.2 ⟨h.b_isinstance, (List.forall_mem_cons.2 ⟨h.b_int, (List.forall_mem_cons.2 ⟨h.b_bool, (List.forall_mem_nil _)⟩)⟩)⟩), (List.forall_mem_nil _), (List.forall_mem_nil _), (List.forall_mem_nil _), (List.forall_mem_nil _), (List.forall_mem_nil _), (fun _ p _ => (List.forall_mem_nil _))⟩
theorem law_judged_ok : ∃ f fd, FnOk g.P g.w g.K g.mg g.base (L2.CX g.P g.w) 9 f fd ["problem", "points", "spots", "i", "j"] (spD g law_judged_F) ∧ g.mg "_law_judged" = some (.ref f) ∧ PySem.W.keepIn g.K (.ref f) = true ∧ DefFd g "_law_judged" (topS 64) fd :=
  def_ok (N := ["problem", "points", "spots", "i", "j", "inside", "person", "due", "found"]) h.f_law_judged (fnScope_by' (by decide +kernel)) (law_judged_know h) (by decide +kernel)
theorem law_judged_prm : Prm g 9 "_law_judged" law_judged_F := def_prm (law_judged_ok h) (fun _ _ _ _ _ _ us hl => match us, hl with | [_, _, _, _, _], _ => rfl)
theorem law_know : Know g 9 law_T := ⟨(fun _ => (List.forall_mem_cons.2 ⟨(law_cell_prm h).mono (by decide), (List.forall_mem_cons.2 ⟨(law_world_prm h).mono (by decide), (List.forall_mem_cons.2 ⟨(law_large_prm h).mono (by decide), (List.forall_mem_cons.2 ⟨(law_digits_prm h).mono (by decide), (List.forall_mem_cons.2 ⟨(law_pair_prm h).mono (by decide), (List.forall_mem_cons.2 ⟨(law_beyond_prm h).mono (by decide), (List.forall_mem_cons.2 ⟨(law_at_prm h).mono (by decide), (List.forall_mem_cons.2 ⟨(Problem_init_prm h).mono (by decide), (List.forall_mem_cons.2 ⟨(gain_product_prm h).mono (by decide), (List.forall_mem_cons.2 ⟨(law_is_number_prm h).mono (by decide), (List.forall_mem_cons.2 ⟨(law_product_prm h).mono (by decide), (List.forall_mem_cons.2 ⟨(law_judged_prm h).mono (by decide), (List.forall_mem_nil _)⟩)⟩)⟩)⟩)⟩)⟩)⟩)⟩)⟩)⟩)⟩)⟩)), (fun z => Bool.noConfusion (show false = true from z)), (List.forall_mem_nil _), (List.forall_mem_nil _), (List.forall_mem_nil _), (List.forall_mem_nil _), (List.forall_mem_nil _), (List.forall_mem_nil _), (List.forall_mem_nil _), (List.forall_mem_cons.2 ⟨h.b_int, (List.forall_mem_cons.2 ⟨h.b_len, (List.forall_mem_cons.2 ⟨h.b_range, (List.forall_mem_nil _)⟩)⟩)⟩), (List.forall_mem_nil _), (List.forall_mem_nil _), (List.forall_mem_nil _), (List.forall_mem_nil _), (List.forall_mem_nil _), (fun _ p _ => (List.forall_mem_nil _))⟩
theorem law_ok : ∃ f fd, FnOk g.P g.w g.K g.mg g.base (L2.CX g.P g.w) 10 f fd ["script"] (spD g law_F) ∧ g.mg "law" = some (.ref f) ∧ PySem.W.keepIn g.K (.ref f) = true ∧ DefFd g "law" (topS 66) fd :=
  def_ok (N := ["script", "world", "chain", "pair", "row", "spots", "points", "problem", "i", "found", "j", "spot", "corner"]) h.f_law (fnScope_by' (by decide +kernel)) (law_know h) (by decide +kernel)
theorem law_prm : Prm g 10 "law" law_F := def_prm (law_ok h) (fun _ _ _ _ _ _ us hl => match us, hl with | [_], _ => rfl)
end
theorem all_mk {P : Program} {w : World} {K : PySem.W.Frag} {mg : Str → Option Value} {fa : Addr} (hfa : mg "law" = some (.ref fa))
    (f_frac : ∀ base, DefAtD ⟨P, w, K, mg, base, none⟩ "frac" (topS 11) [(.int 1)])
    (f_below : ∀ base, DefAt ⟨P, w, K, mg, base, none⟩ "below" (topS 16))
    (f_at_most : ∀ base, DefAt ⟨P, w, K, mg, base, none⟩ "at_most" (topS 17))
    (f_turn : ∀ base, DefAt ⟨P, w, K, mg, base, none⟩ "turn" (topS 31))
    (f_whole_spots : ∀ base, DefAt ⟨P, w, K, mg, base, none⟩ "whole_spots" (topS 32))
    (f_law_cell : ∀ base, DefAt ⟨P, w, K, mg, base, none⟩ "_law_cell" (topS 46))
    (f_law_digits : ∀ base, DefAt ⟨P, w, K, mg, base, none⟩ "_law_digits" (topS 47))
    (f_law_lowest : ∀ base, DefAt ⟨P, w, K, mg, base, none⟩ "_law_lowest" (topS 48))
    (f_law_steps : ∀ base, DefAt ⟨P, w, K, mg, base, none⟩ "_law_steps" (topS 50))
    (f_law_bounds : ∀ base, DefAt ⟨P, w, K, mg, base, none⟩ "_law_bounds" (topS 51))
    (f_law_box : ∀ base, DefAt ⟨P, w, K, mg, base, none⟩ "_law_box" (topS 55))
    (f_law_spot : ∀ base, DefAt ⟨P, w, K, mg, base, none⟩ "_law_spot" (topS 56))
    (f_law_beyond : ∀ base, DefAt ⟨P, w, K, mg, base, none⟩ "_law_beyond" (topS 58))
    (f_law_word : ∀ base, DefAt ⟨P, w, K, mg, base, none⟩ "_law_word" (topS 59))
    (f_law_due_way : ∀ base, DefAt ⟨P, w, K, mg, base, none⟩ "_law_due_way" (topS 63))
    (f_plus : ∀ base, DefAt ⟨P, w, K, mg, base, none⟩ "plus" (topS 12))
    (f_minus : ∀ base, DefAt ⟨P, w, K, mg, base, none⟩ "minus" (topS 13))
    (f_times : ∀ base, DefAt ⟨P, w, K, mg, base, none⟩ "times" (topS 14))
    (f_over : ∀ base, DefAt ⟨P, w, K, mg, base, none⟩ "over" (topS 15))
    (f_no_worse : ∀ base, DefAt ⟨P, w, K, mg, base, none⟩ "no_worse" (topS 24))
    (f_upper_chain : ∀ base, DefAt ⟨P, w, K, mg, base, none⟩ "upper_chain" (topS 33))
    (f_law_is_number : ∀ base, DefAt ⟨P, w, K, mg, base, none⟩ "_law_is_number" (topS 49))
    (f_law_world : ∀ base, DefAt ⟨P, w, K, mg, base, none⟩ "_law_world" (topS 52))
    (f_law_at : ∀ base, DefAt ⟨P, w, K, mg, base, none⟩ "_law_at" (topS 53))
    (f_law_large : ∀ base, DefAt ⟨P, w, K, mg, base, none⟩ "_law_large" (topS 54))
    (f_law_pair : ∀ base, DefAt ⟨P, w, K, mg, base, none⟩ "_law_pair" (topS 57))
    (f_law_due_risk : ∀ base, DefAt ⟨P, w, K, mg, base, none⟩ "_law_due_risk" (topS 62))
    (f_law_product : ∀ base, DefAt ⟨P, w, K, mg, base, none⟩ "_law_product" (topS 65))
    (f_gap : ∀ base, DefAt ⟨P, w, K, mg, base, none⟩ "gap" (topS 22))
    (f_y_at : ∀ base, DefAt ⟨P, w, K, mg, base, none⟩ "y_at" (topS 34))
    (f_x_at : ∀ base, DefAt ⟨P, w, K, mg, base, none⟩ "x_at" (topS 35))
    (f_clipped : ∀ base, DefAt ⟨P, w, K, mg, base, none⟩ "clipped" (topS 36))
    (f_height_on : ∀ base, DefAt ⟨P, w, K, mg, base, none⟩ "height_on" (topS 37))
    (f_Problem_gain : ∀ base, MethAt ⟨P, w, K, mg, base, none⟩ "Problem" "gain" "Problem.gain" (clsB (topS 44) 10))
    (f_gain_product : ∀ base, DefAt ⟨P, w, K, mg, base, none⟩ "gain_product" (topS 26))
    (f_Problem_contains : ∀ base, MethAt ⟨P, w, K, mg, base, none⟩ "Problem" "__contains__" "Problem.__contains__" (clsB (topS 44) 3))
    (f_risk : ∀ base, DefAt ⟨P, w, K, mg, base, none⟩ "risk" (topS 28))
    (f_Problem_init : ∀ base, InitAt ⟨P, w, K, mg, base, none⟩ "Problem" "Problem.__init__" (clsB (topS 44) 0))
    (f_gives_way : ∀ base, DefAt ⟨P, w, K, mg, base, none⟩ "gives_way" (topS 29))
    (f_law_risk : ∀ base, DefAt ⟨P, w, K, mg, base, none⟩ "_law_risk" (topS 60))
    (f_law_way : ∀ base, DefAt ⟨P, w, K, mg, base, none⟩ "_law_way" (topS 61))
    (f_law_judged : ∀ base, DefAt ⟨P, w, K, mg, base, none⟩ "_law_judged" (topS 64))
    (f_law : ∀ base, DefAt ⟨P, w, K, mg, base, none⟩ "law" (topS 66))
    (fl_Problem_apart : ∀ base, FldAt ⟨P, w, K, mg, base, none⟩ "Problem" "apart")
    (fl_Problem_frontier : ∀ base, FldAt ⟨P, w, K, mg, base, none⟩ "Problem" "frontier")
    (b_enumerate : mg "enumerate" = none)
    (b_len : mg "len" = none)
    (b_abs : mg "abs" = none)
    (b_int : mg "int" = none)
    (b_range : mg "range" = none)
    (b_max : mg "max" = none)
    (b_isinstance : mg "isinstance" = none)
    (b_sorted : mg "sorted" = none)
    (b_tuple : mg "tuple" = none)
    (b_bool : mg "bool" = none)
    (b_list : mg "list" = none)
    (m_gcd : mg "gcd" = some (.builtin "math.gcd"))
    (m_lcm : mg "lcm" = some (.builtin "math.lcm"))
    (xc_BadNumber : ∀ base, XcOk ⟨P, w, K, mg, base, none⟩ "BadNumber")
    (xc_Outside : ∀ base, XcOk ⟨P, w, K, mg, base, none⟩ "Outside")
    (xc_NoGain : ∀ base, XcOk ⟨P, w, K, mg, base, none⟩ "NoGain")
    (xh_0 : ∀ base, XhOk ⟨P, w, K, mg, base, none⟩ "SettleError" [("BadNumber", true), ("Outside", true)])
    (xi_0 : ∀ base, XiOk ⟨P, w, K, mg, base, none⟩ "ValueError" [("BadNumber", true), ("Outside", true)])
    (xi_1 : ∀ base, XiOk ⟨P, w, K, mg, base, none⟩ "BadMenu" [("BadNumber", false), ("Outside", false)])
    (xi_2 : ∀ base, XiOk ⟨P, w, K, mg, base, none⟩ "NoGain" [("BadNumber", false), ("Outside", false)])
    (xi_3 : ∀ base, XiOk ⟨P, w, K, mg, base, none⟩ "TooMany" [("BadNumber", false), ("Outside", false)])
    (xi_4 : ∀ base, XiOk ⟨P, w, K, mg, base, none⟩ "Outside" [("BadNumber", false), ("Outside", true)])
    (xi_5 : ∀ base, XiOk ⟨P, w, K, mg, base, none⟩ "BadNumber" [("BadNumber", true), ("Outside", false)])
    : ∃ fd, LawOk P w K mg 10 fa fd "script" law_F := by
  have F : ∀ base, TabAt ⟨P, w, K, mg, base, none⟩ → Facts ⟨P, w, K, mg, base, none⟩ := fun base tab => ⟨f_frac base, f_below base, f_at_most base, f_turn base, f_whole_spots base, f_law_cell base, f_law_digits base, f_law_lowest base, f_law_steps base, f_law_bounds base, f_law_box base, f_law_spot base, f_law_beyond base, f_law_word base, f_law_due_way base, f_plus base, f_minus base, f_times base, f_over base, f_no_worse base, f_upper_chain base, f_law_is_number base, f_law_world base, f_law_at base, f_law_large base, f_law_pair base, f_law_due_risk base, f_law_product base, f_gap base, f_y_at base, f_x_at base, f_clipped base, f_height_on base, f_Problem_gain base, f_gain_product base, f_Problem_contains base, f_risk base, f_Problem_init base, f_gives_way base, f_law_risk base, f_law_way base, f_law_judged base, f_law base, fl_Problem_apart base, fl_Problem_frontier base, b_enumerate, b_len, b_abs, b_int, b_range, b_max, b_isinstance, b_sorted, b_tuple, b_bool, b_list, m_gcd, m_lcm, xc_BadNumber base, xc_Outside base, xc_NoGain base, xh_0 base, xi_0 base, xi_1 base, xi_2 base, xi_3 base, xi_4 base, xi_5 base⟩
  exact law_of (N := ["script", "world", "chain", "pair", "row", "spots", "points", "problem", "i", "found", "j", "spot", "corner"]) (B := law_B) (T := law_T) hfa f_law (fnScope_by' (by decide +kernel)) (fun base tab => law_know (F base tab)) (by decide +kernel) rfl rfl rfl (fun _ _ _ _ _ _ us hl => match us, hl with | [_], _ => rfl)
end Pg
/-! # H1: the upper chain of sorted spots -/
namespace Hull
/-- a place and its index -/
abbrev Spot := Int × Int × Nat
def turn (a b c : Spot) : Int := (b.1 - a.1) * (c.2.1 - a.2.1) - (b.2.1 - a.2.1) * (c.1 - a.1)
/-- left of, or below -/
def le (a b : Spot) : Prop := a.1 < b.1 ∨ (a.1 = b.1 ∧ a.2.1 ≤ b.2.1)
theorem le_refl (a : Spot) : le a a := .inr ⟨rfl, Int.le_refl _⟩
theorem le_trans {a b c : Spot} (h : le a b) (k : le b c) : le a c := by unfold le at *; omega
theorem le_total (a b : Spot) : le a b ∨ le b a := by unfold le; omega
/-- v between u and w -/
theorem cross_id (ux uy vx vy wx wy : Int) : vx * (ux * wy - uy * wx) = wx * (ux * vy - uy * vx) + ux * (vx * wy - vy * wx) := by grind
theorem le_zero_of {x k : Int} (hx : 0 < x) (h : x * k ≤ 0) : k ≤ 0 := by
  rcases Int.lt_or_le 0 k with z | z
  · have := Int.mul_pos hx z; omega
  · exact z
theorem neg_mul_le {x k : Int} (hx : 0 ≤ x) (hk : k ≤ 0) : x * k ≤ 0 := Int.mul_nonpos_of_nonneg_of_nonpos hx hk
/-- earlier edges lie above what comes later -/
theorem above_later {a b c s : Spot} (ab : le a b) (bc : le b c) (cs : le c s) (h1 : turn a b c < 0) (h2 : turn b c s ≤ 0) : turn a b s ≤ 0 := by
  unfold turn at *
  obtain ⟨ax, ay, _⟩ := a
  obtain ⟨bx, by_, _⟩ := b
  obtain ⟨cx, cy, _⟩ := c
  obtain ⟨sx, sy, _⟩ := s
  simp only [le] at *
  have hv : 0 < cx - bx := by
    rcases Int.lt_or_le 0 (cx - bx) with z | z
    · exact z
    · have e : cx = bx := by omega
      subst e
      have : 0 ≤ (cx - ax) * (cy - by_) := Int.mul_nonneg (by omega) (by omega)
      grind
  have id := cross_id (bx - ax) (by_ - ay) (cx - bx) (cy - by_) (sx - cx) (sy - cy)
  have e1 : (bx - ax) * (cy - by_) - (by_ - ay) * (cx - bx) ≤ 0 := by grind
  have e2 : (cx - bx) * (sy - cy) - (cy - by_) * (sx - cx) ≤ 0 := by grind
  have p1 := neg_mul_le (show 0 ≤ sx - cx by omega) e1
  have p2 := neg_mul_le (show 0 ≤ bx - ax by omega) e2
  have p3 := le_zero_of hv (k := (bx - ax) * (sy - cy) - (by_ - ay) * (sx - cx)) (by omega)
  grind
/-- what is left of b and below a, b lies below b, s -/
theorem left_below {a b s p : Spot} (ab : le a b) (bs : le b s) (pb : le p b) (h1 : turn a b s < 0) (h2 : turn a b p ≤ 0) : turn b s p ≤ 0 := by
  unfold turn at *
  obtain ⟨ax, ay, _⟩ := a
  obtain ⟨bx, by_, _⟩ := b
  obtain ⟨px, py, _⟩ := p
  obtain ⟨sx, sy, _⟩ := s
  simp only [le] at *
  have id := cross_id (bx - px) (by_ - py) (bx - ax) (by_ - ay) (sx - bx) (sy - by_)
  have e1 : (bx - px) * (by_ - ay) - (by_ - py) * (bx - ax) ≤ 0 := by grind
  have e2 : (bx - ax) * (sy - by_) - (by_ - ay) * (sx - bx) ≤ 0 := by grind
  rcases Int.lt_or_le 0 (bx - ax) with z | z
  · have p1 := neg_mul_le (show 0 ≤ sx - bx by omega) e1
    have p2 := neg_mul_le (show 0 ≤ bx - px by omega) e2
    have p3 := le_zero_of z (k := (bx - px) * (sy - by_) - (by_ - py) * (sx - bx)) (by omega)
    grind
  · have e : bx = ax := by omega
    subst e
    have hy : 0 < by_ - ay := by
      rcases Int.lt_or_le 0 (by_ - ay) with y | y
      · exact y
      · have e : by_ = ay := by omega
        subst e
        grind
    have q : (by_ - ay) * (bx - px) ≤ 0 := by grind
    have q0 := le_zero_of hy q
    have e : bx = px := by omega
    subst e
    have : 0 ≤ (sx - bx) * (by_ - py) := Int.mul_nonneg (by omega) (by omega)
    grind
/-- c is taken away: what is right of it -/
theorem pop_right {b c s p : Spot} (h1 : 0 ≤ turn b c s) (h2 : turn b c p ≤ 0) (h3 : turn c s p ≤ 0) : turn b s p ≤ 0 := by
  unfold turn at *
  grind
/-- c is taken away: what is between b and c -/
theorem pop_mid {b c s p : Spot} (bp : le b p) (pc : le p c) (cs : le c s) (h1 : 0 ≤ turn b c s) (h2 : turn b c p ≤ 0) : turn b s p ≤ 0 := by
  unfold turn at *
  obtain ⟨cx, cy, _⟩ := c
  obtain ⟨bx, by_, _⟩ := b
  obtain ⟨px, py, _⟩ := p
  obtain ⟨sx, sy, _⟩ := s
  simp only [le] at *
  have id := cross_id (px - bx) (py - by_) (cx - bx) (cy - by_) (sx - bx) (sy - by_)
  rcases Int.lt_or_le 0 (cx - bx) with z | z
  · have e1 : 0 ≤ (px - bx) * (cy - by_) - (py - by_) * (cx - bx) := by grind
    have e2 : 0 ≤ (cx - bx) * (sy - by_) - (cy - by_) * (sx - bx) := by grind
    have p1 := Int.mul_nonneg (show 0 ≤ sx - bx by omega) e1
    have p2 := Int.mul_nonneg (show 0 ≤ px - bx by omega) e2
    have p3 := le_zero_of z (k := -((px - bx) * (sy - by_) - (py - by_) * (sx - bx))) (by grind)
    grind
  · have e : cx = bx := by omega
    have e' : px = bx := by omega
    subst e e'
    have q : (cy - by_) * (sx - px) ≤ 0 := by grind
    have h0 : 0 ≤ (cy - by_) * (sx - px) := Int.mul_nonneg (by omega) (by omega)
    have h3 : (cy - by_) * (sx - px) = 0 := by omega
    rcases Int.mul_eq_zero.mp h3 with y | y
    · have e : py = by_ := by omega
      subst e
      grind
    · have e : sx = px := by omega
      subst e
      grind
/-! ### the chain, its last spot first -/
def popW (s : Spot) : List Spot → List Spot
  | b :: a :: r => if 0 ≤ turn a b s then popW s (a :: r) else b :: a :: r
  | l => l
def hullR : List Spot → List Spot → List Spot
  | [], rc => rc
  | s :: l, rc => hullR l (s :: popW s rc)
/-- strictly bent down -/
def Bent : List Spot → Prop
  | c :: b :: a :: r => turn a b c < 0 ∧ Bent (b :: a :: r)
  | _ => True
/-- all of P on or below each edge -/
def Over (P : List Spot) : List Spot → Prop
  | b :: a :: r => (∀ p ∈ P, turn a b p ≤ 0) ∧ Over P (a :: r)
  | _ => True
def Desc : List Spot → Prop
  | b :: a :: r => le a b ∧ Desc (a :: r)
  | _ => True
structure Inv (P rc : List Spot) : Prop where
  sub : ∀ c ∈ rc, c ∈ P
  bent : Bent rc
  over : Over P rc
  desc : Desc rc
  top : ∃ b r, rc = b :: r ∧ ∀ p ∈ P, le p b
  low : ∃ b, rc.getLast? = some b ∧ ∀ p ∈ P, le b p
theorem Bent.tail {b : Spot} {r : List Spot} (h : Bent (b :: r)) : Bent r := by
  cases r with
  | nil => trivial
  | cons a r => cases r with
    | nil => trivial
    | cons a' r => exact h.2
theorem Over.tail {P : List Spot} {b : Spot} {r : List Spot} (h : Over P (b :: r)) : Over P r := by
  cases r with
  | nil => trivial
  | cons a r => exact h.2
theorem Desc.tail {b : Spot} {r : List Spot} (h : Desc (b :: r)) : Desc r := by
  cases r with
  | nil => trivial
  | cons a r => exact h.2
/-- s is below every edge that is left -/
theorem over_new {s : Spot} {P : List Spot} : ∀ {rc : List Spot}, Bent rc → Over P rc → Desc rc → (∀ b r, rc = b :: r → le b s) → (∀ b a r, rc = b :: a :: r → turn a b s ≤ 0) → Over (P ++ [s]) rc
  | [], _, _, _, _, _ => trivial
  | [b], _, _, _, _, _ => trivial
  | b :: a :: r, hb, ho, hd, hl, ht => by
    refine ⟨fun p hp => ?_, over_new (rc := a :: r) hb.tail ho.tail hd.tail (fun b' r' e => ?_) fun b' a' r' e => ?_⟩
    · rcases List.mem_append.mp hp with z | z
      · exact ho.1 p z
      · have : p = s := by simpa using z
        subst this
        exact ht b a r rfl
    · cases e
      exact le_trans hd.1 (hl b (a :: r) rfl)
    · cases e
      exact above_later hd.2.1 hd.1 (hl b _ rfl) hb.1 (ht b _ _ rfl)
/-- behind the taking away -/
theorem pop_spec {s : Spot} {P : List Spot} : ∀ {rc : List Spot}, Bent rc → Over P rc → Desc rc → (∀ b r, rc = b :: r → le b s) → (∀ b r, rc = b :: r → ∀ p ∈ P, le b p → turn b s p ≤ 0) →
    ∃ b r, popW s rc = b :: r ∧ Bent (b :: r) ∧ Over P (b :: r) ∧ Desc (b :: r) ∧ le b s ∧ (∀ p ∈ P, le b p → turn b s p ≤ 0) ∧ (∀ a r', r = a :: r' → turn a b s < 0) ∧ (b :: r).getLast? = rc.getLast? ∧ (∀ c ∈ b :: r, c ∈ rc) ∨ rc = []
  | [], _, _, _, _, _ => ⟨(0, 0, 0), [], .inr rfl⟩
  | [b], hb, ho, hd, hl, hp => ⟨b, [], .inl ⟨rfl, hb, ho, hd, hl b [] rfl, hp b [] rfl, (fun a r' e => nomatch e), rfl, fun c h => h⟩⟩
  | b :: a :: r, hb, ho, hd, hl, hp => by
    unfold popW
    by_cases h : 0 ≤ turn a b s
    · rw [if_pos h]
      obtain ⟨b', r', z⟩ := pop_spec (s := s) (rc := a :: r) hb.tail ho.tail hd.tail (fun b' r' e => by cases e; exact le_trans hd.1 (hl b _ rfl)) fun b' r' e p hpP hle => by
        cases e
        rcases le_total b p with k | k
        · exact pop_right h (ho.1 p hpP) (hp b _ rfl p hpP k)
        · exact pop_mid hle k (hl b _ rfl) h (ho.1 p hpP)
      refine ⟨b', r', ?_⟩
      rcases z with ⟨z1, z2, z3, z4, z5, z6, z7, z8, z9⟩ | z
      · exact .inl ⟨z1, z2, z3, z4, z5, z6, z7, by rw [z8]; simp, fun c hc => List.mem_cons_of_mem _ (z9 c hc)⟩
      · cases z
    · rw [if_neg h]
      exact ⟨b, a :: r, .inl ⟨rfl, hb, ho, hd, hl b _ rfl, hp b _ rfl, fun a' r' e => by cases e; omega, rfl, fun c hc => hc⟩⟩
theorem turn_same {b s p : Spot} (h1 : le b p) (h2 : le p b) : turn b s p ≤ 0 := by
  unfold turn le at *
  have e1 : p.1 = b.1 := by omega
  have e2 : p.2.1 = b.2.1 := by omega
  rw [e1, e2]
  simp
theorem turn_self1 (a b : Spot) : turn a b a ≤ 0 := by unfold turn; simp
theorem turn_self2 (a b : Spot) : turn a b b ≤ 0 := by unfold turn; grind
theorem Inv.step {P rc : List Spot} {s : Spot} (I : Inv P rc) (hs : ∀ p ∈ P, le p s) : Inv (P ++ [s]) (s :: popW s rc) := by
  obtain ⟨b0, r0, e0, ht⟩ := I.top
  obtain ⟨bl, el, hl⟩ := I.low
  obtain ⟨b, r, z⟩ := pop_spec (s := s) I.bent I.over I.desc (fun b r e => hs b (I.sub b (by rw [e]; simp))) fun b r e p hp hle => by
    rw [e0] at e; cases e
    exact turn_same hle (ht p hp)
  rcases z with ⟨z1, z2, z3, z4, z5, z6, z7, z8, z9⟩ | z
  · rw [z1]
    refine ⟨fun c hc => ?_, ?_, ⟨fun p hp => ?_, ?_⟩, ⟨z5, z4⟩, ⟨s, b :: r, rfl, fun p hp => ?_⟩, ⟨bl, by rw [List.getLast?_cons_cons, z8]; exact el, fun p hp => ?_⟩⟩
    · rcases List.mem_cons.mp hc with y | y
      · subst y; simp
      · exact List.mem_append_left _ (I.sub c (z9 c y))
    · cases r with
      | nil => trivial
      | cons a r => exact ⟨z7 a r rfl, z2⟩
    · rcases List.mem_append.mp hp with y | y
      · cases r with
        | nil =>
          have e : some b = some bl := by rw [← el, ← z8]; rfl
          cases e
          exact z6 p y (hl p y)
        | cons a r =>
          rcases le_total b p with k | k
          · exact z6 p y k
          · exact left_below z4.1 z5 k (z7 a r rfl) (z3.1 p y)
      · have : p = s := by simpa using y
        subst this
        exact turn_self2 _ _
    · exact over_new z2 z3 z4 (fun b' r' e => by cases e; exact z5) fun b' a' r' e => by cases e; exact Int.le_of_lt (z7 _ _ rfl)
    · rcases List.mem_append.mp hp with y | y
      · exact hs p y
      · have : p = s := by simpa using y
        subst this; exact le_refl _
    · rcases List.mem_append.mp hp with y | y
      · exact hl p y
      · have : p = s := by simpa using y
        subst this
        have hm : bl ∈ rc := List.mem_of_getLast? el
        exact hs bl (I.sub bl hm)
  · rw [z] at e0; cases e0
theorem inv_one (s : Spot) : Inv [s] [s] := ⟨fun c h => h, trivial, trivial, trivial, ⟨s, [], rfl, fun p hp => by simp at hp; subst hp; exact le_refl _⟩, ⟨s, rfl, fun p hp => by simp at hp; subst hp; exact le_refl _⟩⟩
theorem inv_run : ∀ (l P rc : List Spot), Inv P rc → (∀ p ∈ P, ∀ s ∈ l, le p s) → l.Pairwise le → Inv (P ++ l) (hullR l rc)
  | [], P, rc, I, _, _ => by simpa [hullR] using I
  | s :: l, P, rc, I, h, hp => by
    have hp' := List.pairwise_cons.mp hp
    have J := inv_run l (P ++ [s]) (s :: popW s rc) (I.step fun p q => h p q s (by simp)) (fun p q t ht => by
      rcases List.mem_append.mp q with y | y
      · exact h p y t (by simp [ht])
      · have : p = s := by simpa using y
        subst this; exact hp'.1 t ht) hp'.2
    simpa [hullR] using J
theorem inv_hull {s : Spot} {l : List Spot} (h : (s :: l).Pairwise le) : Inv (s :: l) (hullR l [s]) := by
  have hp := List.pairwise_cons.mp h
  simpa using inv_run l [s] [s] (inv_one s) (fun p hp' t ht => by simp at hp'; subst hp'; exact hp.1 t ht) hp.2
end Hull
/-! # H1b: the falling chain, from the left -/
namespace Hull
def BentF : List Spot → Prop
  | a :: b :: c :: r => turn a b c < 0 ∧ BentF (b :: c :: r)
  | _ => True
def OverF (P : List Spot) : List Spot → Prop
  | a :: b :: r => (∀ p ∈ P, turn a b p ≤ 0) ∧ OverF P (b :: r)
  | _ => True
def DescF : List Spot → Prop
  | a :: b :: r => le a b ∧ DescF (b :: r)
  | _ => True
def FallF : List Spot → Prop
  | a :: b :: r => (a.1 < b.1 ∧ b.2.1 < a.2.1) ∧ FallF (b :: r)
  | _ => True
theorem fwd {P : List Spot} : ∀ (rc acc : List Spot), Bent rc → Over P rc → Desc rc → BentF acc → OverF P acc → DescF acc →
    (∀ b r c t, rc = b :: r → acc = c :: t → le b c ∧ ∀ p ∈ P, turn b c p ≤ 0) → (∀ b a r c t, rc = b :: a :: r → acc = c :: t → turn a b c < 0) → (∀ b r c d t, rc = b :: r → acc = c :: d :: t → turn b c d < 0) →
    BentF (rc.reverseAux acc) ∧ OverF P (rc.reverseAux acc) ∧ DescF (rc.reverseAux acc)
  | [], acc, _, _, _, h1, h2, h3, _, _, _ => ⟨h1, h2, h3⟩
  | b :: r, acc, hb, ho, hd, h1, h2, h3, j1, j2, j3 => by
    show BentF (r.reverseAux (b :: acc)) ∧ OverF P (r.reverseAux (b :: acc)) ∧ DescF (r.reverseAux (b :: acc))
    refine fwd r (b :: acc) hb.tail ho.tail hd.tail ?_ ?_ ?_ ?_ ?_ ?_
    · cases acc with
      | nil => trivial
      | cons c t => cases t with
        | nil => trivial
        | cons d t => exact ⟨j3 b r c d t rfl rfl, h1⟩
    · cases acc with
      | nil => trivial
      | cons c t => exact ⟨(j1 b r c t rfl rfl).2, h2⟩
    · cases acc with
      | nil => trivial
      | cons c t => exact ⟨(j1 b r c t rfl rfl).1, h3⟩
    · intro a r' c t e1 e2
      subst e1
      cases e2
      exact ⟨hd.1, ho.1⟩
    · intro a a' r' c t e1 e2
      subst e1
      cases e2
      exact hb.1
    · intro a r' c d t e1 e2
      subst e1
      cases e2
      exact j2 b a r' d t rfl rfl
theorem fwd0 {P rc : List Spot} (I : Inv P rc) : BentF rc.reverse ∧ OverF P rc.reverse ∧ DescF rc.reverse :=
  fwd rc [] I.bent I.over I.desc trivial trivial trivial (fun _ _ _ _ _ e => nomatch e) (fun _ _ _ _ _ _ e => nomatch e) (fun _ _ _ _ _ _ e => nomatch e)
/-- the rising start is dropped -/
def dropUp : List Spot → List Spot
  | a :: b :: r => if a.2.1 ≤ b.2.1 then dropUp (b :: r) else a :: b :: r
  | l => l
theorem BentF.tail {b : Spot} {r : List Spot} (h : BentF (b :: r)) : BentF r := by
  cases r with
  | nil => trivial
  | cons a r => cases r with
    | nil => trivial
    | cons a' r => exact h.2
theorem OverF.tail {P : List Spot} {b : Spot} {r : List Spot} (h : OverF P (b :: r)) : OverF P r := by
  cases r with
  | nil => trivial
  | cons a r => exact h.2
theorem DescF.tail {b : Spot} {r : List Spot} (h : DescF (b :: r)) : DescF r := by
  cases r with
  | nil => trivial
  | cons a r => exact h.2
/-- once it falls it falls on -/
theorem fall_on : ∀ {l : List Spot}, BentF l → DescF l → (∀ a b r, l = a :: b :: r → b.2.1 < a.2.1) → FallF l
  | [], _, _, _ => trivial
  | [a], _, _, _ => trivial
  | a :: b :: r, hb, hd, h => by
    have h1 := h a b r rfl
    have h0 : a.1 < b.1 := by have := hd.1; unfold le at this; omega
    refine ⟨⟨h0, h1⟩, fall_on hb.tail hd.tail fun b' c r' e => ?_⟩
    cases e
    have t := hb.1
    have l := hd.2.1
    unfold turn le at *
    rcases Int.lt_or_le c.2.1 b.2.1 with z | z
    · exact z
    · have p1 : 0 ≤ (b.1 - a.1) * (c.2.1 - b.2.1) := Int.mul_nonneg (by omega) (by omega)
      have p2 : 0 ≤ (a.2.1 - b.2.1) * (c.1 - b.1) := Int.mul_nonneg (by omega) (by omega)
      grind
structure Falls (P ch : List Spot) : Prop where
  sub : ∀ c ∈ ch, c ∈ P
  bent : BentF ch
  over : OverF P ch
  fall : FallF ch
  head : ∃ a r, ch = a :: r ∧ ∀ p ∈ P, p.2.1 ≤ a.2.1
  last : ∃ b, ch.getLast? = some b ∧ ∀ p ∈ P, le p b
/-- a rising edge ahead of a: all points left of a are no higher -/
def Left (P : List Spot) (a : Spot) : Prop := ∀ p ∈ P, p.1 < a.1 → p.2.1 ≤ a.2.1
theorem drop_spec {P : List Spot} : ∀ {l : List Spot}, (∀ c ∈ l, c ∈ P) → BentF l → OverF P l → DescF l → (∃ a r, l = a :: r ∧ Left P a ∧ ((∀ p ∈ P, le a p) ∨ ∀ b r', r = b :: r' → a.1 < b.1)) → (∃ b, l.getLast? = some b ∧ ∀ p ∈ P, le p b) → Falls P (dropUp l)
  | [], _, _, _, _, h, _ => by obtain ⟨a, r, e, _⟩ := h; cases e
  | [a], hs, hb, ho, hd, h, hl => by
    obtain ⟨a', r', e, hL, _⟩ := h
    cases e
    obtain ⟨b, e, hl⟩ := hl
    obtain rfl : a = b := by simpa using e
    refine ⟨hs, hb, ho, trivial, ⟨a, [], rfl, fun p hp => ?_⟩, ⟨a, rfl, hl⟩⟩
    have z := hl p hp
    rcases Int.lt_or_le p.1 a.1 with y | y
    · exact hL p hp y
    · unfold le at z; omega
  | a :: b :: r, hs, hb, ho, hd, h, hl => by
    obtain ⟨a', r', e, hL, hz⟩ := h
    cases e
    unfold dropUp
    by_cases c : a.2.1 ≤ b.2.1
    · rw [if_pos c]
      have hv : a.1 < b.1 ∨ ((∀ p ∈ P, le a p) ∧ a.1 = b.1) := by
        have l := hd.1
        rcases Int.lt_or_le a.1 b.1 with y | y
        · exact .inl y
        · have e : a.1 = b.1 := by unfold le at l; omega
          rcases hz with z | z
          · exact .inr ⟨z, e⟩
          · have := z b r rfl
            omega
      refine drop_spec (fun c hc => hs c (List.mem_cons_of_mem _ hc)) hb.tail ho.tail hd.tail ⟨b, r, rfl, fun p hp hx => ?_, ?_⟩ ?_
      · rcases hv with y | ⟨y, e⟩
        · have t := ho.1 p hp
          unfold turn at t
          rcases Int.lt_or_le b.2.1 p.2.1 with w | w
          · have q1 : 0 < (b.1 - a.1) * (p.2.1 - b.2.1) := Int.mul_pos (by omega) (by omega)
            have q2 : 0 ≤ (b.2.1 - a.2.1) * (b.1 - p.1) := Int.mul_nonneg (by omega) (by omega)
            grind
          · exact w
        · have := y p hp
          unfold le at this; omega
      · refine .inr fun c' r' e' => ?_
        subst e'
        have t := hb.1
        have l := hd.1
        have l2 := hd.2.1
        unfold turn le at *
        rcases Int.lt_or_le b.1 c'.1 with w | w
        · exact w
        · have e : b.1 = c'.1 := by omega
          have q : 0 ≤ (b.1 - a.1) * (c'.2.1 - b.2.1) := Int.mul_nonneg (by omega) (by omega)
          rw [← e] at t
          grind
      · obtain ⟨z, e, hl⟩ := hl
        exact ⟨z, by rw [← e, List.getLast?_cons_cons], hl⟩
    · rw [if_neg c]
      have hf := fall_on hb hd fun a' b' r' e => by cases e; omega
      refine ⟨hs, hb, ho, hf, ⟨a, b :: r, rfl, fun p hp => ?_⟩, hl⟩
      rcases Int.lt_or_le p.1 a.1 with y | y
      · exact hL p hp y
      · have t := ho.1 p hp
        have f := hf.1
        unfold turn at t
        rcases Int.lt_or_le a.2.1 p.2.1 with w | w
        · have q1 : 0 < (b.1 - a.1) * (p.2.1 - a.2.1) := Int.mul_pos (by omega) (by omega)
          have q2 : 0 ≤ (a.2.1 - b.2.1) * (p.1 - a.1) := Int.mul_nonneg (by omega) (by omega)
          grind
        · exact w
/-- the upper chain of what is sorted -/
def upper (l : List Spot) : List Spot := match l with
  | [] => []
  | s :: l => dropUp (hullR l [s]).reverse
theorem upper_spec {s : Spot} {l : List Spot} (h : (s :: l).Pairwise le) : Falls (s :: l) (upper (s :: l)) := by
  have I := inv_hull h
  obtain ⟨h1, h2, h3⟩ := fwd0 I
  obtain ⟨b, r, e, ht⟩ := I.top
  obtain ⟨f, el, hl⟩ := I.low
  have hr : (hullR l [s]).reverse.head? = some f := by rw [List.head?_reverse]; exact el
  obtain ⟨t, et⟩ : ∃ t, (hullR l [s]).reverse = f :: t := by
    cases z : (hullR l [s]).reverse with
    | nil => rw [z] at hr; cases hr
    | cons x t => rw [z] at hr; cases hr; exact ⟨t, rfl⟩
  refine drop_spec (fun c hc => I.sub c (by simpa using hc)) h1 h2 h3 ⟨f, t, et, fun p hp hx => ?_, .inl hl⟩ ⟨b, by rw [List.getLast?_reverse, e]; rfl, ht⟩
  have := hl p hp
  unfold le at this; omega
end Hull
/-! # H2: falling chains of fractions, cut at the left -/
namespace Clip
abbrev Pt := Rat × Rat
def turn (a b c : Pt) : Rat := (b.1 - a.1) * (c.2 - a.2) - (b.2 - a.2) * (c.1 - a.1)
def yAt (a b : Pt) (x : Rat) : Rat := a.2 + (b.2 - a.2) * ((x - a.1) / (b.1 - a.1))
def xAt (a b : Pt) (y : Rat) : Rat := a.1 + (b.1 - a.1) * ((y - a.2) / (b.2 - a.2))
/-- a, b lie in this order on a falling edge of the lot -/
def Edge (L : List Pt) (a b : Pt) : Prop := a.1 < b.1 ∧ b.2 < a.2 ∧ ∃ A B, A ∈ L ∧ B ∈ L ∧ A.1 ≤ a.1 ∧ b.1 ≤ B.1 ∧ turn A B a = 0 ∧ turn A B b = 0 ∧ A.1 < B.1 ∧ B.2 < A.2 ∧ ∀ p ∈ L, turn A B p ≤ 0
def Edges (L : List Pt) : List Pt → Prop
  | a :: b :: r => Edge L a b ∧ Edges L (b :: r)
  | _ => True
def Bent : List Pt → Prop
  | a :: b :: c :: r => turn a b c < 0 ∧ Bent (b :: c :: r)
  | _ => True
theorem lt_or_ge (a b : Rat) : a < b ∨ b ≤ a := by
  rcases (Rat.le_total : b ≤ a ∨ a ≤ b) with h | h
  · exact .inr h
  · by_cases e : a = b
    · exact .inr (by grind)
    · exact .inl (by grind)
theorem pos_of {x k : Rat} (hx : 0 < x) (h : 0 < x * k) : 0 < k := by
  rcases lt_or_ge 0 k with z | z
  · exact z
  · have : x * k ≤ 0 := by
      have := Rat.mul_nonneg (Rat.le_of_lt hx) (show 0 ≤ -k by grind)
      grind
    grind
theorem nonneg_of {x k : Rat} (hx : 0 < x) (h : 0 ≤ x * k) : 0 ≤ k := by
  rcases lt_or_ge k 0 with z | z
  · have := Rat.mul_pos hx (show 0 < -k by grind)
    grind
  · exact z
theorem eq_of {x k : Rat} (hx : 0 < x) (h : x * k = 0) : k = 0 := by
  rcases Rat.mul_eq_zero.mp h with z | z
  · grind
  · exact z
section
variable {L : List Pt} {a b c p q : Pt} {x : Rat}
/-- the edge a, b itself lies over the lot -/
theorem Edge.over (h : Edge L a b) : ∀ p ∈ L, turn a b p ≤ 0 := by
  obtain ⟨h1, h2, A, B, _, _, h3, h4, h5, h6, h7, h8, h9⟩ := h
  intro p hp
  have t := h9 p hp
  have k : (B.1 - A.1) * turn a b p = (b.1 - a.1) * turn A B p := by
    unfold turn at *
    grind
  have : 0 ≤ (B.1 - A.1) * (-turn a b p) := by
    have := Rat.mul_nonneg (show 0 ≤ b.1 - a.1 by grind) (show 0 ≤ -turn A B p by grind)
    grind
  have := nonneg_of (show 0 < B.1 - A.1 by grind) this
  grind
theorem Edge.self (ha : a ∈ L) (hb : b ∈ L) (h1 : a.1 < b.1) (h2 : b.2 < a.2) (ho : ∀ p ∈ L, turn a b p ≤ 0) : Edge L a b :=
  ⟨h1, h2, a, b, ha, hb, by grind, by grind, by unfold turn; grind, by unfold turn; grind, h1, h2, ho⟩
theorem cut_mul (h : a.1 < b.1) (x : Rat) : (b.1 - a.1) * (yAt a b x - a.2) = (b.2 - a.2) * (x - a.1) := by
  unfold yAt
  have : b.1 - a.1 ≠ 0 := by grind
  grind
/-- the left part of the edge is cut away -/
theorem Edge.cut (h : Edge L a b) (h1 : a.1 < x) (h2 : x < b.1) : Edge L (x, yAt a b x) b := by
  obtain ⟨k1, k2, A, B, hA, hB, h3, h4, h5, h6, h7, h8, h9⟩ := h
  have e := cut_mul (a := a) (b := b) k1 x
  have key : (b.1 - a.1) * (yAt a b x - b.2) = (b.2 - a.2) * (x - b.1) := by grind
  have y1 : b.2 < yAt a b x := by
    have : 0 < (b.1 - a.1) * (yAt a b x - b.2) := by
      rw [key]
      have := Rat.mul_pos (show 0 < a.2 - b.2 by grind) (show 0 < b.1 - x by grind)
      grind
    have := pos_of (show 0 < b.1 - a.1 by grind) this
    grind
  refine ⟨h2, y1, A, B, hA, hB, by show A.1 ≤ x; grind, h4, ?_, h6, h7, h8, h9⟩
  have z : (b.1 - a.1) * turn A B (x, yAt a b x) = 0 := by
    unfold turn at *
    simp only at *
    grind
  exact eq_of (show 0 < b.1 - a.1 by grind) z
theorem bent_cut (h : a.1 < b.1) (h1 : a.1 < x) (h2 : x < b.1) (t : turn a b c < 0) : turn (x, yAt a b x) b c < 0 := by
  have e := cut_mul h x
  have k : (b.1 - a.1) * turn (x, yAt a b x) b c = (b.1 - x) * turn a b c := by
    unfold turn at *
    simp only at *
    grind
  have : 0 < (b.1 - a.1) * (-turn (x, yAt a b x) b c) := by
    have := Rat.mul_pos (show 0 < b.1 - x by grind) (show 0 < -turn a b c by grind)
    grind
  have := pos_of (show 0 < b.1 - a.1 by grind) this
  grind
end
/-! ### the cut -/
def dropL (l : Rat) : List Pt → List Pt
  | a :: b :: r => if b.1 ≤ l then dropL l (b :: r) else a :: b :: r
  | t => t
def fixL (l : Rat) : List Pt → List Pt
  | a :: b :: r => if a.1 < l then (l, yAt a b l) :: b :: r else a :: b :: r
  | t => t
theorem Edges.tail {L : List Pt} {b : Pt} {r : List Pt} (h : Edges L (b :: r)) : Edges L r := by
  cases r with
  | nil => trivial
  | cons a r => exact h.2
theorem Bent.tail {b : Pt} {r : List Pt} (h : Bent (b :: r)) : Bent r := by
  cases r with
  | nil => trivial
  | cons a r => cases r with
    | nil => trivial
    | cons a' r => exact h.2
/-- what is kept: a suffix; dropped means: its head is not right of l -/
theorem dropL_spec {L : List Pt} {l : Rat} : ∀ {t : List Pt}, Edges L t → Bent t → t ≠ [] → ∃ a r, dropL l t = a :: r ∧ Edges L (a :: r) ∧ Bent (a :: r) ∧ (∀ b r', r = b :: r' → l < b.1) ∧ (∃ pre, t = pre ++ a :: r) ∧ (dropL l t = t ∨ a.1 ≤ l)
  | [], _, _, h => absurd rfl h
  | [a], he, hb, _ => ⟨a, [], rfl, he, hb, (fun b r' e => nomatch e), ⟨[], rfl⟩, .inl rfl⟩
  | a :: b :: r, he, hb, _ => by
    unfold dropL
    by_cases h : b.1 ≤ l
    · rw [if_pos h]
      obtain ⟨a', r', h1, h2, h3, h4, ⟨pre, h5⟩, h6⟩ := dropL_spec (l := l) (t := b :: r) he.tail hb.tail (by simp)
      refine ⟨a', r', h1, h2, h3, h4, ⟨a :: pre, by rw [h5]; rfl⟩, .inr ?_⟩
      rcases h6 with z | z
      · rw [h1] at z
        cases z
        exact h
      · exact z
    · rw [if_neg h]
      exact ⟨a, b :: r, rfl, he, hb, (fun b' r' e => by cases e; grind), ⟨[], rfl⟩, .inl rfl⟩
theorem fixL_spec {L : List Pt} {l : Rat} {a : Pt} {r : List Pt} (he : Edges L (a :: r)) (hb : Bent (a :: r)) (hr : ∀ b r', r = b :: r' → l < b.1) (h1 : r = [] → l ≤ a.1) : ∃ a', fixL l (a :: r) = a' :: r ∧ Edges L (a' :: r) ∧ Bent (a' :: r) ∧ (a' = a ∧ l ≤ a.1 ∨ a'.1 = l ∧ a.1 < l) := by
  cases r with
  | nil => exact ⟨a, rfl, he, hb, .inl ⟨rfl, h1 rfl⟩⟩
  | cons b r =>
    have eF : fixL l (a :: b :: r) = if a.1 < l then (l, yAt a b l) :: b :: r else a :: b :: r := rfl
    rw [eF]
    by_cases h : a.1 < l
    · rw [if_pos h]
      have hl := hr b r rfl
      refine ⟨_, rfl, ⟨he.1.cut h hl, he.2⟩, ?_, .inr ⟨rfl, h⟩⟩
      cases r with
      | nil => trivial
      | cons c r => exact ⟨bent_cut he.1.1 h hl hb.1, hb.2⟩
    · rw [if_neg h]
      exact ⟨a, rfl, he, hb, .inl ⟨rfl, by grind⟩⟩
/-- cut at the left -/
def cutL (l : Rat) (t : List Pt) : List Pt := fixL l (dropL l t)
theorem cutL_spec {L : List Pt} {l : Rat} {t : List Pt} {z : Pt} (he : Edges L t) (hb : Bent t) (hz : t.getLast? = some z) (hl : l ≤ z.1) :
    ∃ a r, cutL l t = a :: r ∧ Edges L (a :: r) ∧ Bent (a :: r) ∧ (a :: r).getLast? = some z ∧ l ≤ a.1 ∧ (∀ b ∈ r, l < b.1) ∧ (∃ pre a0, t = pre ++ a0 :: r ∧ (a = a0 ∨ r ≠ [])) ∧ (a.1 = l ∨ cutL l t = t ∧ t = a :: r) := by
  have ht : t ≠ [] := fun e => by rw [e] at hz; cases hz
  obtain ⟨a, r, h1, h2, h3, h4, ⟨pre, h5⟩, h6⟩ := dropL_spec (l := l) he hb ht
  have hlast : (a :: r).getLast? = some z := by
    rw [h5, List.getLast?_append] at hz
    simpa using hz
  obtain ⟨a', k1, k2, k3, k4⟩ := fixL_spec h2 h3 h4 (fun e => by subst e; simp at hlast; subst hlast; exact hl)
  have hinc : ∀ {b : Pt} {r : List Pt}, Edges L (b :: r) → ∀ c ∈ r, b.1 < c.1 := by
    intro b r
    induction r generalizing b with
    | nil => intro _ c hc; cases hc
    | cons d r ih =>
      intro h c hc
      rcases List.mem_cons.mp hc with y | y
      · subst y; exact h.1.1
      · have := ih h.2 c y
        have := h.1.1
        grind
  have hge : l ≤ a'.1 := by
    rcases k4 with ⟨y, y2⟩ | ⟨y, _⟩
    · rw [y]; exact y2
    · rw [y]; grind
  refine ⟨a', r, by unfold cutL; rw [h1, k1], k2, k3, ?_, hge, fun b hb' => ?_, ⟨pre, a, h5, ?_⟩, ?_⟩
  · cases r with
    | nil =>
      rcases k4 with ⟨y, _⟩ | ⟨y, y2⟩
      · rw [y]; exact hlast
      · simp at hlast; subst hlast; grind
    | cons b r => rw [List.getLast?_cons_cons] at hlast ⊢; exact hlast
  · have := hinc k2 b hb'
    grind
  · rcases k4 with ⟨y, _⟩ | ⟨y, y2⟩
    · exact .inl y
    · refine .inr fun e => ?_
      subst e
      simp at hlast; subst hlast; grind
  · rcases k4 with ⟨y, y2⟩ | ⟨y, _⟩
    · subst y
      rcases h6 with e | e
      · refine .inr ⟨?_, ?_⟩
        · unfold cutL; rw [h1, k1, ← h1, e]
        · rw [← e, h1]
      · exact .inl (by grind)
    · exact .inl y
end Clip
/-! # H2b: cut at both ends -/
namespace Clip
def sw (p : Pt) : Pt := (p.2, p.1)
@[simp] theorem sw_sw (p : Pt) : sw (sw p) = p := rfl
theorem sw_map (t : List Pt) : (t.map sw).map sw = t := by
  rw [List.map_map]
  have : (sw ∘ sw) = id := rfl
  rw [this, List.map_id]
def mir (t : List Pt) : List Pt := (t.map sw).reverse
@[simp] theorem mir_mir (t : List Pt) : mir (mir t) = t := by
  unfold mir
  rw [List.map_reverse, List.reverse_reverse, sw_map]
theorem mem_sw {L : List Pt} {p : Pt} (h : p ∈ L.map sw) : sw p ∈ L := by
  obtain ⟨q, hq, rfl⟩ := List.mem_map.mp h
  exact hq
theorem turn_sw (a b c : Pt) : turn (sw c) (sw b) (sw a) = turn a b c := by
  unfold turn sw
  grind
theorem turn_cyc (a b c : Pt) : turn b c a = turn a b c := by
  unfold turn
  grind
theorem Edge.sw {L : List Pt} {a b : Pt} (h : Edge L a b) : Edge (L.map sw) (Clip.sw b) (Clip.sw a) := by
  obtain ⟨k1, k2, A, B, hA, hB, h3, h4, h5, h6, h7, h8, h9⟩ := h
  refine ⟨k2, k1, Clip.sw B, Clip.sw A, List.mem_map_of_mem hB, List.mem_map_of_mem hA, ?_, ?_, ?_, ?_, h8, h7, fun p hp => ?_⟩
  · show B.2 ≤ b.2
    have k : 0 ≤ (B.1 - A.1) * (b.2 - B.2) := by
      have e : (B.1 - A.1) * (b.2 - B.2) = (A.2 - B.2) * (B.1 - b.1) := by
        unfold turn at h6
        grind
      rw [e]
      exact Rat.mul_nonneg (by grind) (by grind)
    have := nonneg_of (show 0 < B.1 - A.1 by grind) k
    grind
  · show a.2 ≤ A.2
    have k : 0 ≤ (B.1 - A.1) * (A.2 - a.2) := by
      have e : (B.1 - A.1) * (A.2 - a.2) = (A.2 - B.2) * (a.1 - A.1) := by
        unfold turn at h5
        grind
      rw [e]
      exact Rat.mul_nonneg (by grind) (by grind)
    have := nonneg_of (show 0 < B.1 - A.1 by grind) k
    grind
  · have e : turn (Clip.sw B) (Clip.sw A) (Clip.sw b) = turn b A B := turn_sw b A B
    rw [e, ← turn_cyc b A B]; exact h6
  · have e : turn (Clip.sw B) (Clip.sw A) (Clip.sw a) = turn a A B := turn_sw a A B
    rw [e, ← turn_cyc a A B]; exact h5
  · have e : turn (Clip.sw B) (Clip.sw A) p = turn (Clip.sw p) A B := turn_sw (Clip.sw p) A B
    rw [e, ← turn_cyc (Clip.sw p) A B]; exact h9 _ (mem_sw hp)
theorem mir_aux {L : List Pt} : ∀ (t acc : List Pt), Edges L t → Bent t → Edges (L.map sw) acc → Bent acc → (∀ a r c s, t = a :: r → acc = c :: s → Edge (L.map sw) (sw a) c) →
    (∀ a b r c s, t = a :: b :: r → acc = c :: s → turn (sw b) (sw a) c < 0) → (∀ a r c d s, t = a :: r → acc = c :: d :: s → turn (sw a) c d < 0) → Edges (L.map sw) ((t.map sw).reverseAux acc) ∧ Bent ((t.map sw).reverseAux acc)
  | [], acc, _, _, h1, h2, _, _, _ => ⟨h1, h2⟩
  | a :: t, acc, he, hb, h1, h2, j1, j2, j3 => by
    show Edges (L.map sw) ((t.map sw).reverseAux (sw a :: acc)) ∧ Bent ((t.map sw).reverseAux (sw a :: acc))
    refine mir_aux t (sw a :: acc) he.tail hb.tail ?_ ?_ ?_ ?_ ?_
    · cases acc with
      | nil => trivial
      | cons c s => exact ⟨j1 a t c s rfl rfl, h1⟩
    · cases acc with
      | nil => trivial
      | cons c s => cases s with
        | nil => trivial
        | cons d s => exact ⟨j3 a t c d s rfl rfl, h2⟩
    · intro b r c s e1 e2
      subst e1
      cases e2
      exact he.1.sw
    · intro b c' r c s e1 e2
      subst e1
      cases e2
      rw [turn_sw]; exact hb.1
    · intro b r c d s e1 e2
      subst e1
      cases e2
      exact j2 a b r d s rfl rfl
theorem mir_ok {L t : List Pt} (he : Edges L t) (hb : Bent t) : Edges (L.map sw) (mir t) ∧ Bent (mir t) :=
  mir_aux t [] he hb trivial trivial (fun _ _ _ _ _ e => nomatch e) (fun _ _ _ _ _ _ e => nomatch e) (fun _ _ _ _ _ _ e => nomatch e)
def cutR (w : Rat) (t : List Pt) : List Pt := mir (cutL w (mir t))
/-- no mixture of two points is better than (l, w) -/
def NG (L : List Pt) (l w : Rat) : Prop := (∀ p ∈ L, p.1 ≤ l) ∨ (∀ p ∈ L, p.2 ≤ w) ∨ ∃ A B : Pt, A.1 < B.1 ∧ B.2 < A.2 ∧ (∀ p ∈ L, turn A B p ≤ 0) ∧ turn A B (l, w) = 0
structure Res (L : List Pt) (l w : Rat) (T : List Pt) : Prop where
  edges : Edges L T
  bent : Bent T
  ge : ∀ t ∈ T, l ≤ t.1 ∧ w ≤ t.2
  inner : ∀ x ∈ T.tail.dropLast, x ∈ L
  left : ∃ a r, T = a :: r ∧ (a.1 = l ∨ (l < a.1 ∧ a ∈ L ∧ ∀ p ∈ L, p.2 ≤ a.2))
  right : ∃ z, T.getLast? = some z ∧ (z.2 = w ∨ (w < z.2 ∧ z ∈ L ∧ ∀ p ∈ L, p.1 ≤ z.1))
  one : ∀ a, T = [a] → (l < a.1 ∧ w < a.2) ∨ NG L l w
theorem edges_inc {L : List Pt} : ∀ {r : List Pt} {b : Pt}, Edges L (b :: r) → ∀ c ∈ r, b.1 < c.1
  | [], _, _, c, hc => nomatch hc
  | d :: r, b, h, c, hc => by
    rcases List.mem_cons.mp hc with y | y
    · subst y; exact h.1.1
    · have := edges_inc h.2 c y
      have := h.1.1
      grind
theorem clip_res {L t : List Pt} {l w : Rat} {c0 z : Pt} {r0 : List Pt} (he : Edges L t) (hb : Bent t) (hs : ∀ c ∈ t, c ∈ L) (h0 : t = c0 :: r0) (htop : ∀ p ∈ L, p.2 ≤ c0.2) (hz : t.getLast? = some z) (hlast : ∀ p ∈ L, p.1 < z.1 ∨ (p.1 = z.1 ∧ p.2 ≤ z.2)) (hap : (l, w) ∈ L) :
    Res L l w (cutR w (cutL l t)) := by
  have hlz : l ≤ z.1 := by have := hlast _ hap; simp at this; grind
  have hzm : z ∈ L := hs z (List.mem_of_getLast? hz)
  obtain ⟨a, r, e1, k1, k2, k3, k4, k5, ⟨pre, a0, k6, k7⟩, k8⟩ := cutL_spec (l := l) he hb hz hlz
  -- a is not below
  have unch : t = a :: r → a = c0 := fun e => by rw [h0] at e; cases e; rfl
  have haw : w ≤ a.2 := by
    rcases k8 with y | ⟨_, y⟩
    · cases r with
      | nil =>
        simp at k3; subst k3
        have := hlast _ hap
        simp at this
        grind
      | cons b r =>
        have o := k1.1.over _ hap
        have f := k1.1.1
        unfold turn at o
        simp only at o
        have : 0 ≤ (b.1 - a.1) * (a.2 - w) := by grind
        have := nonneg_of (show 0 < b.1 - a.1 by grind) this
        grind
    · rw [unch y]; exact htop _ hap
  have haL : a.1 = l ∨ (l < a.1 ∧ a ∈ L ∧ ∀ p ∈ L, p.2 ≤ a.2) := by
    rcases k8 with y | ⟨_, y⟩
    · exact .inl y
    · have e := unch y
      rcases lt_or_ge l a.1 with q | q
      · exact .inr ⟨q, by rw [e]; exact hs c0 (by rw [h0]; simp), by rw [e]; exact htop⟩
      · exact .inl (by grind)
  obtain ⟨m1, m2⟩ := mir_ok k1 k2
  have hM : mir (a :: r) = mir r ++ [sw a] := by simp [mir]
  have hMl : (mir (a :: r)).getLast? = some (sw a) := by rw [hM]; simp
  obtain ⟨z', rr, f1, g1, g2, g3, g4, g5, ⟨pre', z0, g6, g7⟩, g8⟩ := cutL_spec (l := w) (z := sw a) m1 m2 hMl haw
  have eT : cutR w (cutL l t) = mir (z' :: rr) := by unfold cutR; rw [e1, f1]
  have n1 := mir_ok g1 g2
  rw [sw_map] at n1
  have hhead : (mir (z' :: rr)).head? = some a := by
    unfold mir
    rw [List.head?_reverse, List.getLast?_map, g3]
    rfl
  have hlst : (mir (z' :: rr)).getLast? = some (sw z') := by simp [mir]
  obtain ⟨rT, hT⟩ : ∃ rT, mir (z' :: rr) = a :: rT := by
    cases q : mir (z' :: rr) with
    | nil => rw [q] at hhead; cases hhead
    | cons x s => rw [q] at hhead; cases hhead; exact ⟨s, rfl⟩
  have hrr : ∀ x ∈ rr.dropLast, sw x ∈ L := fun x hx => by
    have q : mir r ++ [sw a] = pre' ++ z0 :: rr := by rw [← hM]; exact g6
    have hne : rr ≠ [] := fun e => by subst e; cases hx
    have q2 : mir r = pre' ++ z0 :: rr.dropLast := by
      have := congrArg List.dropLast q
      rw [List.dropLast_concat, List.dropLast_append_of_ne_nil (by simp), List.dropLast_cons_of_ne_nil hne] at this
      exact this
    have : x ∈ mir r := by rw [q2]; simp [hx]
    have : sw x ∈ r := by
      unfold mir at this
      rw [List.mem_reverse] at this
      exact mem_sw this
    exact hs _ (by rw [k6]; simp [this])
  rw [eT]
  refine ⟨n1.1, n1.2, fun t ht => ⟨?_, ?_⟩, fun x hx => ?_, ⟨a, rT, hT, haL⟩, ⟨sw z', hlst, ?_⟩, fun b eb => ?_⟩
  · rw [hT] at ht
    rcases List.mem_cons.mp ht with y | y
    · subst y; exact k4
    · have := edges_inc (by rw [hT] at n1; exact n1.1) t y
      grind
  · have : sw t ∈ z' :: rr := by
      unfold mir at ht
      rw [List.mem_reverse] at ht
      exact mem_sw ht
    rcases List.mem_cons.mp this with y | y
    · have : t.2 = z'.1 := by rw [← y]; rfl
      rw [this]; exact g4
    · have := g5 _ y
      show w ≤ (sw t).1
      grind
  · have e : (mir (z' :: rr)).tail.dropLast = mir (rr.dropLast) := by
      have e1 : mir (z' :: rr) = mir rr ++ [sw z'] := by simp [mir]
      rw [e1]
      cases q : mir rr with
      | nil =>
        have : rr = [] := by
          have := congrArg mir q
          rw [mir_mir] at this
          simpa [mir] using this
        subst this
        simp [mir]
      | cons x s =>
        rw [List.cons_append, List.tail_cons, List.dropLast_concat]
        have : mir rr.dropLast = (mir rr).tail := by
          unfold mir
          rw [List.map_dropLast, List.tail_reverse]
        rw [this, q]
        rfl
    rw [e] at hx
    have : sw x ∈ rr.dropLast := by
      unfold mir at hx
      rw [List.mem_reverse] at hx
      exact mem_sw hx
    have := hrr _ this
    rwa [sw_sw] at this
  · rcases g8 with y | ⟨_, y⟩
    · exact .inl y
    · have e : sw z' = z := by
        have q := congrArg mir y
        rw [mir_mir] at q
        have : (mir (z' :: rr)).getLast? = some z := by rw [← q]; exact k3
        rw [hlst] at this
        exact Option.some.inj this
      rcases lt_or_ge w z'.1 with q | q
      · refine .inr ⟨q, by rw [e]; exact hzm, fun p hp => ?_⟩
        have := hlast p hp
        rw [e]
        grind
      · exact .inl (by show z'.1 = w; grind)
  · rw [hT] at eb
    have hb' : b = a ∧ rT = [] := by simpa [eq_comm] using eb
    obtain ⟨rfl, rfl⟩ := hb'
    have hrr0 : rr = [] ∧ z' = sw b := by
      have q := congrArg mir hT
      rw [mir_mir] at q
      have q2 : mir [b] = [sw b] := by simp [mir]
      rw [q2] at q
      simpa [and_comm] using q
    obtain ⟨rfl, rfl⟩ := hrr0
    cases r with
    | nil =>
      simp at k3; subst k3
      rcases haL with y | ⟨y, y2, y3⟩
      · right; left
        intro p hp
        have := hlast p hp
        grind
      · rcases lt_or_ge w b.2 with q | q
        · exact .inl ⟨y, q⟩
        · right; right; left
          intro p hp
          have := y3 p hp
          grind
    | cons b' r =>
      have hw : b.2 = w := by
        rcases g8 with y | ⟨_, y⟩
        · exact y
        · have := congrArg List.length y
          simp [mir] at this
      right
      rcases haL with y | ⟨y, y2, y3⟩
      · obtain ⟨q1, q2, A, B, hA, hB, h3, h4, h5, h6, h7, h8, h9⟩ := k1.1
        refine .inr (.inr ⟨A, B, h7, h8, h9, ?_⟩)
        have e : ((l, w) : Pt) = b := by rw [← y, ← hw]
        rw [e]; exact h5
      · right; left
        intro p hp
        have := y3 p hp
        grind
/-- some mixture of p and q (counted from (l, w)) is better for both -/
def crosses (a b : Pt) : Prop := (0 < a.1 ∧ 0 < a.2) ∨ (0 < a.1 ∧ 0 < b.2 ∧ a.2 ≤ 0 ∧ b.1 ≤ 0 ∧ 0 < a.1 * b.2 - a.2 * b.1)
def from_ (l w : Rat) (p : Pt) : Pt := (p.1 - l, p.2 - w)
theorem no_gain {L : List Pt} {l w : Rat} (h : NG L l w) : ∀ p ∈ L, ∀ q ∈ L, ¬ crosses (from_ l w p) (from_ l w q) := by
  intro p hp q hq c
  unfold crosses from_ at c
  simp only at c
  rcases h with h | h | ⟨A, B, h1, h2, h3, h4⟩
  · have := h p hp
    grind
  · have := h p hp
    have := h q hq
    grind
  · have tp := h3 p hp
    have tq := h3 q hq
    unfold turn at tp tq h4
    simp only at h4
    -- the line through (l, w)
    have lp : (B.1 - A.1) * (p.2 - w) + (A.2 - B.2) * (p.1 - l) ≤ 0 := by grind
    have lq : (B.1 - A.1) * (q.2 - w) + (A.2 - B.2) * (q.1 - l) ≤ 0 := by grind
    have dx : 0 < B.1 - A.1 := by grind
    have dy : 0 < A.2 - B.2 := by grind
    rcases c with ⟨c1, c2⟩ | ⟨c1, c2, c3, c4, c5⟩
    · have := Rat.mul_pos dx c2
      have := Rat.mul_pos dy c1
      grind
    · -- dx (q.2 - w) ≤ dy (l - q.1), dy (p.1 - l) ≤ dx (w - p.2)
      have m1 : 0 ≤ (q.2 - w) * (-((B.1 - A.1) * (p.2 - w) + (A.2 - B.2) * (p.1 - l))) := Rat.mul_nonneg (by grind) (by grind)
      have m2 : 0 ≤ (-(p.2 - w)) * (-((B.1 - A.1) * (q.2 - w) + (A.2 - B.2) * (q.1 - l))) := Rat.mul_nonneg (by grind) (by grind)
      have m3 := Rat.mul_pos dy c5
      grind
theorem has_gain {L T : List Pt} {l w : Rat} (R : Res L l w T) (h : ¬ ∃ a, T = [a] ∧ (a.1 = l ∨ a.2 = w)) : ∃ p ∈ L, ∃ q ∈ L, crosses (from_ l w p) (from_ l w q) := by
  obtain ⟨a, r, e, hl⟩ := R.left
  subst e
  have better : ∀ p ∈ L, l < p.1 → w < p.2 → ∃ p ∈ L, ∃ q ∈ L, crosses (from_ l w p) (from_ l w q) := fun p hp h1 h2 => ⟨p, hp, p, hp, .inl ⟨by show 0 < p.1 - l; grind, by show 0 < p.2 - w; grind⟩⟩
  cases r with
  | nil =>
    obtain ⟨z, ez, hz⟩ := R.right
    simp at ez; subst ez
    rcases hl with y | ⟨y1, y2, y3⟩
    · exact absurd ⟨a, rfl, .inl y⟩ h
    · rcases hz with y | ⟨y4, _, _⟩
      · exact absurd ⟨a, rfl, .inr y⟩ h
      · exact better a y2 y1 y4
  | cons b r =>
    obtain ⟨q1, q2, A, B, hA, hB, h3, h4, h5, h6, h7, h8, h9⟩ := R.edges.1
    have ga := R.ge a (by simp)
    have gb := R.ge b (by simp)
    have hB1 : l < B.1 := by grind
    have hA2 : w < A.2 := by
      have k : 0 ≤ (B.1 - A.1) * (A.2 - a.2) := by
        have e : (B.1 - A.1) * (A.2 - a.2) = (A.2 - B.2) * (a.1 - A.1) := by
          unfold turn at h5
          grind
        rw [e]
        exact Rat.mul_nonneg (by grind) (by grind)
      have := nonneg_of (show 0 < B.1 - A.1 by grind) k
      grind
    rcases lt_or_ge l A.1 with y | y
    · exact better A hA y hA2
    · rcases lt_or_ge w B.2 with x | x
      · exact better B hB hB1 x
      · refine ⟨B, hB, A, hA, .inr ⟨by show 0 < B.1 - l; grind, by show 0 < A.2 - w; grind, by show B.2 - w ≤ 0; grind, by show A.1 - l ≤ 0; grind, ?_⟩⟩
        show 0 < (B.1 - l) * (A.2 - w) - (B.2 - w) * (A.1 - l)
        unfold turn at h5
        have e : (B.1 - l) * (A.2 - w) - (B.2 - w) * (A.1 - l) = (B.1 - A.1) * (a.2 - w) + (A.2 - B.2) * (a.1 - l) := by grind
        rw [e]
        have m1 := Rat.mul_pos (show 0 < B.1 - A.1 by grind) (show 0 < a.2 - w by grind)
        have m2 := Rat.mul_nonneg (show 0 ≤ A.2 - B.2 by grind) (show 0 ≤ a.1 - l by grind)
        grind
end Clip
/-! # H3: units -/
namespace Clip
def scl (v : Rat) (p : Pt) : Pt := (v * p.1, v * p.2)
section
variable {v : Rat}
theorem scl_lt (h : 0 < v) {a b : Rat} : v * a < v * b ↔ a < b := by
  constructor
  · intro z
    have := pos_of h (show 0 < v * (b - a) by grind)
    grind
  · intro z
    have := Rat.mul_pos h (show 0 < b - a by grind)
    grind
theorem scl_le (h : 0 < v) {a b : Rat} : v * a ≤ v * b ↔ a ≤ b := by
  have := scl_lt h (a := b) (b := a)
  constructor
  · intro z
    rcases lt_or_ge b a with y | y
    · have := this.mpr y; grind
    · exact y
  · intro z
    rcases lt_or_ge (v * b) (v * a) with y | y
    · have := this.mp y; grind
    · exact y
theorem scl_eq (h : 0 < v) {a b : Rat} : v * a = v * b ↔ a = b := by
  constructor
  · intro z
    have h1 := (scl_le h (a := a) (b := b)).mp (by grind)
    have h2 := (scl_le h (a := b) (b := a)).mp (by grind)
    grind
  · intro z; rw [z]
theorem turn_scl (v : Rat) (a b c : Pt) : turn (scl v a) (scl v b) (scl v c) = v * v * turn a b c := by
  unfold turn scl
  grind
theorem vv (h : 0 < v) : 0 < v * v := Rat.mul_pos h h
theorem turn_scl_le (h : 0 < v) (a b c : Pt) (t : turn a b c ≤ 0) : turn (scl v a) (scl v b) (scl v c) ≤ 0 := by
  rw [turn_scl]
  have := (scl_le (vv h) (a := turn a b c) (b := 0)).mpr t
  grind
theorem turn_scl_lt (h : 0 < v) (a b c : Pt) (t : turn a b c < 0) : turn (scl v a) (scl v b) (scl v c) < 0 := by
  rw [turn_scl]
  have := (scl_lt (vv h) (a := turn a b c) (b := 0)).mpr t
  grind
theorem Edge.scl (h : 0 < v) {L : List Pt} {a b : Pt} (e : Edge L a b) : Edge (L.map (Clip.scl v)) (Clip.scl v a) (Clip.scl v b) := by
  obtain ⟨k1, k2, A, B, hA, hB, h3, h4, h5, h6, h7, h8, h9⟩ := e
  refine ⟨(scl_lt h).mpr k1, (scl_lt h).mpr k2, Clip.scl v A, Clip.scl v B, List.mem_map_of_mem hA, List.mem_map_of_mem hB, (scl_le h).mpr h3, (scl_le h).mpr h4, ?_, ?_, (scl_lt h).mpr h7, (scl_lt h).mpr h8, fun p hp => ?_⟩
  · rw [turn_scl, h5]; grind
  · rw [turn_scl, h6]; grind
  · obtain ⟨q, hq, rfl⟩ := List.mem_map.mp hp
    exact turn_scl_le h _ _ _ (h9 q hq)
theorem edges_scl (h : 0 < v) {L : List Pt} : ∀ {t : List Pt}, Edges L t → Edges (L.map (scl v)) (t.map (scl v))
  | [], _ => trivial
  | [_], _ => trivial
  | a :: b :: r, e => ⟨e.1.scl h, edges_scl h (t := b :: r) e.2⟩
theorem bent_scl (h : 0 < v) : ∀ {t : List Pt}, Bent t → Bent (t.map (scl v))
  | [], _ => trivial
  | [_], _ => trivial
  | [_, _], _ => trivial
  | a :: b :: c :: r, e => ⟨turn_scl_lt h _ _ _ e.1, bent_scl h (t := b :: c :: r) e.2⟩
theorem yAt_scl (h : 0 < v) (a b : Pt) (x : Rat) : yAt (scl v a) (scl v b) (v * x) = v * yAt a b x := by
  unfold yAt scl
  simp only
  by_cases e : b.1 - a.1 = 0
  · have e2 : v * b.1 - v * a.1 = 0 := by grind
    rw [e, e2, Rat.div_def, Rat.div_def, Rat.inv_zero]
    grind
  · have e3 : v ≠ 0 := by grind
    have e4 : v * b.1 - v * a.1 ≠ 0 := by
      intro z
      have : v * b.1 = v * a.1 := by grind
      have := (scl_eq h).mp this
      grind
    have e5 : (v * x - v * a.1) / (v * b.1 - v * a.1) = (x - a.1) / (b.1 - a.1) := by
      have : v * b.1 - v * a.1 = v * (b.1 - a.1) := by grind
      rw [this] at e4 ⊢
      grind
    rw [e5]
    grind
theorem dropL_scl (h : 0 < v) (l : Rat) : ∀ t : List Pt, dropL (v * l) (t.map (scl v)) = (dropL l t).map (scl v)
  | [] => rfl
  | [_] => rfl
  | a :: b :: r => by
    have ih := dropL_scl h l (b :: r)
    show (if v * b.1 ≤ v * l then dropL (v * l) ((b :: r).map (scl v)) else (a :: b :: r).map (scl v)) = (if b.1 ≤ l then dropL l (b :: r) else a :: b :: r).map (scl v)
    by_cases c : b.1 ≤ l
    · rw [if_pos c, if_pos ((scl_le h).mpr c), ih]
    · rw [if_neg c, if_neg (fun z => c ((scl_le h).mp z))]
theorem fixL_scl (h : 0 < v) (l : Rat) (t : List Pt) : fixL (v * l) (t.map (scl v)) = (fixL l t).map (scl v) := by
  match t with
  | [] => rfl
  | [_] => rfl
  | a :: b :: r =>
    show (if v * a.1 < v * l then (v * l, yAt (scl v a) (scl v b) (v * l)) :: scl v b :: r.map (scl v) else (a :: b :: r).map (scl v)) = (if a.1 < l then (l, yAt a b l) :: b :: r else a :: b :: r).map (scl v)
    by_cases c : a.1 < l
    · rw [if_pos c, if_pos ((scl_lt h).mpr c), yAt_scl h]
      rfl
    · rw [if_neg c, if_neg (fun z => c ((scl_lt h).mp z))]
theorem cutL_scl (h : 0 < v) (l : Rat) (t : List Pt) : cutL (v * l) (t.map (scl v)) = (cutL l t).map (scl v) := by
  unfold cutL
  rw [dropL_scl h, fixL_scl h]
theorem mir_scl (v : Rat) (t : List Pt) : mir (t.map (scl v)) = (mir t).map (scl v) := by
  unfold mir
  rw [List.map_map, List.map_reverse, List.map_map]
  rfl
theorem cut_scl (h : 0 < v) (l w : Rat) (t : List Pt) : cutR (v * w) (cutL (v * l) (t.map (scl v))) = (cutR w (cutL l t)).map (scl v) := by
  unfold cutR
  rw [cutL_scl h, mir_scl, cutL_scl h, mir_scl]
end
end Clip
/-! # H4: a lot has one chain only -/
namespace Clip
def Last (L T : List Pt) : Prop := ∃ z, T.getLast? = some z ∧ ∀ p ∈ L, p.1 < z.1 ∨ (p.1 = z.1 ∧ p.2 ≤ z.2)
structure Ch (L T : List Pt) : Prop where
  edges : Edges L T
  bent : Bent T
  sub : ∀ c ∈ T, c ∈ L
  last : Last L T
theorem Ch.tail {L : List Pt} {a b : Pt} {r : List Pt} (h : Ch L (a :: b :: r)) : Ch L (b :: r) := by
  refine ⟨h.edges.2, Bent.tail h.bent, fun c hc => h.sub c (List.mem_cons_of_mem _ hc), ?_⟩
  obtain ⟨z, h1, h2⟩ := h.last
  exact ⟨z, by simpa using h1, h2⟩
theorem Ch.one {L : List Pt} {a c : Pt} (h : Ch L [a]) (hc : c ∈ L) : c.1 ≤ a.1 := by
  obtain ⟨z, h1, h2⟩ := h.last
  simp at h1
  subst h1
  rcases h2 c hc with k | k <;> grind
theorem no_short {L : List Pt} {a b c : Pt} {r : List Pt} (h : Ch L (a :: b :: r)) (hc : c ∈ L) (h1 : b.1 < c.1) (t : turn a b c = 0) : False := by
  cases r with
  | nil => have := h.tail.one hc; grind
  | cons d r =>
    have E := h.edges.1.1
    have B := h.bent.1
    have O := h.edges.2.1.over c hc
    have k : (b.1 - a.1) * turn b d c = (c.1 - b.1) * (-turn a b d) := by
      unfold turn at *
      grind
    have := Rat.mul_pos (show 0 < c.1 - b.1 by grind) (show 0 < -turn a b d by grind)
    have := pos_of (show 0 < b.1 - a.1 by grind) (k := turn b d c) (by grind)
    grind
theorem uniq_tail {L : List Pt} : ∀ {r s : List Pt} {a : Pt}, Ch L (a :: r) → Ch L (a :: s) → r = s
  | [], [], _, _, _ => rfl
  | [], c :: s, a, h1, h2 => by
    have := h1.one (h2.sub c (by simp))
    have := h2.edges.1.1
    grind
  | b :: r, [], a, h1, h2 => by
    have := h2.one (h1.sub b (by simp))
    have := h1.edges.1.1
    grind
  | b :: r, c :: s, a, h1, h2 => by
    have hb := h1.sub b (by simp)
    have hc := h2.sub c (by simp)
    have e1 := h1.edges.1
    have e2 := h2.edges.1
    have t1 := e1.over c hc
    have t2 := e2.over b hb
    have t : turn a b c = 0 := by
      have : turn a c b = -turn a b c := by unfold turn; grind
      grind
    have t' : turn a c b = 0 := by
      have : turn a c b = -turn a b c := by unfold turn; grind
      grind
    have x : b.1 = c.1 := by
      rcases lt_or_ge b.1 c.1 with k | k
      · exact (no_short h1 hc k t).elim
      · rcases lt_or_ge c.1 b.1 with k2 | k2
        · exact (no_short h2 hb k2 t').elim
        · grind
    have y : b.2 = c.2 := by
      have p := e1.1
      have := eq_of (show 0 < b.1 - a.1 by grind) (k := c.2 - b.2) (by unfold turn at t; grind)
      grind
    have e : b = c := Prod.ext x y
    subst e
    rw [uniq_tail h1.tail h2.tail]
theorem head_le {L : List Pt} {a a' : Pt} {r : List Pt} (h : Ch L (a :: r)) (ha : a' ∈ L) (e : a'.2 = a.2) : a'.1 ≤ a.1 := by
  cases r with
  | nil => exact h.one ha
  | cons b r =>
    have E := h.edges.1
    have O := E.over a' ha
    rcases lt_or_ge a.1 a'.1 with k | k
    · have := Rat.mul_pos (show 0 < a.2 - b.2 by have := E.2.1; grind) (show 0 < a'.1 - a.1 by grind)
      unfold turn at O
      grind
    · exact k
theorem uniq {L : List Pt} {a b : Pt} {r s : List Pt} (h1 : Ch L (a :: r)) (t1 : ∀ p ∈ L, p.2 ≤ a.2) (h2 : Ch L (b :: s)) (t2 : ∀ p ∈ L, p.2 ≤ b.2) : a :: r = b :: s := by
  have ha := h1.sub a (by simp)
  have hb := h2.sub b (by simp)
  have y : a.2 = b.2 := by have := t1 b hb; have := t2 a ha; grind
  have x1 := head_le h1 hb y.symm
  have x2 := head_le h2 ha y
  have e : a = b := Prod.ext (by grind) y
  subst e
  rw [uniq_tail h1 h2]
end Clip
/-! # G1: what fracs.py computes -/
namespace Pg
open PySem Rf
theorem gcd_div {n d : Int} (hd : d ≠ 0) (hz : d.natAbs < 2 ^ 8900) : okDiv ((Nat.gcd n.natAbs d.natAbs : Nat) : Int) = true ∧ okDiv (-((Nat.gcd n.natAbs d.natAbs : Nat) : Int)) = true := by
  have hg : 0 < Nat.gcd n.natAbs d.natAbs := Nat.gcd_pos_of_pos_right _ (Int.natAbs_pos.mpr hd)
  have hl : Nat.gcd n.natAbs d.natAbs < 2 ^ 8900 := Nat.lt_of_le_of_lt (Nat.gcd_le_right _ (Int.natAbs_pos.mpr hd)) hz
  exact ⟨okDiv_of (n := 8900) (by rw [Int.natAbs_natCast]; exact hl) (by omega) (by decide), okDiv_of (n := 8900) (by rw [Int.natAbs_neg, Int.natAbs_natCast]; exact hl) (by omega) (by decide)⟩
theorem frac_v (n d : Int) (hd : d ≠ 0) (hz : d.natAbs < 2 ^ 8900) : frac_F [.int n, .int d] = .ok (fq ((n : Rat) / d)) := by
  obtain ⟨g1, g2⟩ := gcd_div (n := n) hd hz
  by_cases h : d < 0
  · obtain ⟨p1, p2⟩ := parts_gcd n d hd _ (by rw [if_pos h])
    rw [fq, p1, p2]
    simp [frac_F, runFn, frac_B, hd, h, bop_fdiv g2]
  · obtain ⟨p1, p2⟩ := parts_gcd n d hd _ (by rw [if_neg h])
    rw [fq, p1, p2]
    simp [frac_F, runFn, frac_B, hd, h, bop_fdiv g1]
theorem frac_e (n : Int) : frac_F [.int n, .int 0] = .err ⟨"BadNumber", []⟩ := by
  simp [frac_F, runFn, frac_B]
section
variable {j k : Nat} {a b : Rat}
theorem mulA (ha : Sz j a) (hb : Sz k b) (h : j + k ≤ 8800) (hj : 0 < j := by omega) (hk : 0 < k := by omega) :
    okMul a.num b.den = true ∧ okMul b.num a.den = true ∧ okMul a.den b.den = true ∧ okMul a.num b.num = true ∧ okMul a.den b.num = true :=
  ⟨okMul_of ha.1 hb.den_na (by omega) hj hk, okMul_of hb.1 ha.den_na (by omega) hk hj, okMul_of ha.den_na hb.den_na (by omega) hj hk, okMul_of ha.1 hb.1 (by omega) hj hk, okMul_of ha.den_na hb.1 (by omega) hj hk⟩
theorem Sz.pos (ha : Sz k a) : 0 < k := by
  rcases Nat.eq_zero_or_pos k with h | h
  · subst h
    have := ha.2
    have := a.den_pos
    simp at *
    omega
  · exact h
theorem dd_lt (ha : Sz j a) (hb : Sz k b) (h : j + k ≤ 8800) : ((a.den : Int) * b.den).natAbs < 2 ^ 8900 :=
  Nat.lt_of_lt_of_le (mul_na ha.den_na hb.den_na) (Nat.pow_le_pow_right (by decide) (by omega))
theorem plus_v (ha : Sz j a) (hb : Sz k b) (h : j + k ≤ 8800) : plus_F [fq a, fq b] = .ok (fq (a + b)) := by
  obtain ⟨m1, m2, m3, _, _⟩ := mulA ha hb h (Sz.pos ha) (Sz.pos hb)
  have e := frac_v (a.num * b.den + b.num * a.den) (a.den * b.den) (Int.mul_ne_zero (den_ne a) (den_ne b)) (dd_lt ha hb h)
  rw [← add_eq] at e
  simp [plus_F, runFn, plus_B, bop_mul m1, bop_mul m2, bop_mul m3, e]
theorem minus_v (ha : Sz j a) (hb : Sz k b) (h : j + k ≤ 8800) : minus_F [fq a, fq b] = .ok (fq (a - b)) := by
  obtain ⟨m1, m2, m3, _, _⟩ := mulA ha hb h (Sz.pos ha) (Sz.pos hb)
  have e := frac_v (a.num * b.den - b.num * a.den) (a.den * b.den) (Int.mul_ne_zero (den_ne a) (den_ne b)) (dd_lt ha hb h)
  rw [← sub_eq] at e
  simp [minus_F, runFn, minus_B, bop_mul m1, bop_mul m2, bop_mul m3, e]
theorem times_v (ha : Sz j a) (hb : Sz k b) (h : j + k ≤ 8800) : times_F [fq a, fq b] = .ok (fq (a * b)) := by
  obtain ⟨m1, m2, m3, m4, _⟩ := mulA ha hb h (Sz.pos ha) (Sz.pos hb)
  have e := frac_v (a.num * b.num) (a.den * b.den) (Int.mul_ne_zero (den_ne a) (den_ne b)) (dd_lt ha hb h)
  rw [← mul_eq] at e
  simp [times_F, runFn, times_B, bop_mul m3, bop_mul m4, e]
theorem over_v (ha : Sz j a) (hb : Sz k b) (h : j + k ≤ 8800) (h0 : b ≠ 0) : over_F [fq a, fq b] = .ok (fq (a / b)) := by
  obtain ⟨m1, m2, m3, m4, m5⟩ := mulA ha hb h (Sz.pos ha) (Sz.pos hb)
  have e := frac_v (a.num * b.den) (a.den * b.num) (Int.mul_ne_zero (den_ne a) (num_ne h0)) (Nat.lt_of_lt_of_le (mul_na ha.den_na hb.1) (Nat.pow_le_pow_right (by decide) (by omega)))
  rw [← div_eq] at e
  simp [over_F, runFn, over_B, num_ne h0, bop_mul m1, bop_mul m5, e]
theorem over_e (a : Rat) : over_F [fq a, fq 0] = .err ⟨"BadNumber", []⟩ := by
  simp [over_F, runFn, over_B]
theorem below_v (ha : Sz j a) (hb : Sz k b) (h : j + k ≤ 8800) : below_F [fq a, fq b] = .ok (.bl (decide (a < b))) := by
  obtain ⟨m1, m2, _, _, _⟩ := mulA ha hb h (Sz.pos ha) (Sz.pos hb)
  simp [below_F, runFn, below_B, bop_mul m1, bop_mul m2, Rat.lt_iff]
theorem at_most_v (ha : Sz j a) (hb : Sz k b) (h : j + k ≤ 8800) : at_most_F [fq a, fq b] = .ok (.bl (decide (a ≤ b))) := by
  obtain ⟨m1, m2, _, _, _⟩ := mulA ha hb h (Sz.pos ha) (Sz.pos hb)
  simp [at_most_F, runFn, at_most_B, bop_mul m1, bop_mul m2, Rat.le_iff]
end
theorem low_L : ∀ (b a : Nat) (n d : D) (x : Option Sl), a < 2 ^ 8900 → b < 2 ^ 8900 → ∃ x', ex law_lowest_T law_lowest_L1 [some (.v n), some (.v d), some (.v (.int (a : Int))), some (.v (.int (b : Int))), x] =
    .nx [some (.v n), some (.v d), some (.v (.int ((Nat.gcd a b : Nat) : Int))), some (.v (.int 0)), x'] := by
  intro b
  induction b using Nat.strongRecOn with
  | _ b ih =>
    intro a n d x ha hb
    rw [law_lowest_L1, ex_while, whileS_eq]
    rcases Nat.eq_zero_or_pos b with h0 | h0
    · subst h0
      exact ⟨x, by simp⟩
    · have hd : okDiv (b : Int) = true := okDiv_of (n := 8900) (by rw [Int.natAbs_natCast]; exact hb) (by omega) (by decide)
      have hq : ((a : Int)).fdiv b = ((a / b : Nat) : Int) := by rw [Int.fdiv_eq_ediv_of_nonneg _ (by omega)]; rfl
      have hm : okMul ((a / b : Nat) : Int) (b : Int) = true := okMul_of (m := 8900) (n := 8900) (by rw [Int.natAbs_natCast]; exact Nat.lt_of_le_of_lt (Nat.div_le_self a b) ha) (by rw [Int.natAbs_natCast]; exact hb) (by decide)
      have hs : (a : Int) - ((a / b : Nat) : Int) * b = ((a % b : Nat) : Int) := by
        have := Nat.div_add_mod a b
        have : (b : Int) * ((a / b : Nat) : Int) + ((a % b : Nat) : Int) = a := by exact_mod_cast this
        rw [Int.mul_comm]; omega
      obtain ⟨x', e⟩ := ih (a % b) (Nat.mod_lt _ h0) b n d (some (.v (.int ((a % b : Nat) : Int)))) hb (Nat.lt_trans (Nat.mod_lt _ h0) hb)
      refine ⟨x', ?_⟩
      have hc : evT law_lowest_T (.cmp .gt (.var 3) (.int 0)) [some (.v n), some (.v d), some (.v (.int (a : Int))), some (.v (.int (b : Int))), x] = .ok true := by simp; omega
      have hw : ex law_lowest_T law_lowest_W1 [some (.v n), some (.v d), some (.v (.int (a : Int))), some (.v (.int (b : Int))), x] = .nx [some (.v n), some (.v d), some (.v (.int (b : Int))), some (.v (.int ((a % b : Nat) : Int))), some (.v (.int ((a % b : Nat) : Int)))] := by
        simp only [law_lowest_W1, ex_cons, ex_asg, ev_bin, ev_var, getV_zero, getV_succ, R.bind_ok, bop_fdiv hd, hq, bop_mul hm, bop_sub, hs, Out.of_ok, setT_name, List.set, andThen_nx, ex_nil]
      rw [hc, hw]
      have e' : whileS (evT law_lowest_T (.cmp .gt (.var 3) (.int 0))) (ex law_lowest_T law_lowest_W1) [some (.v n), some (.v d), some (.v (.int (b : Int))), some (.v (.int ((a % b : Nat) : Int))), some (.v (.int ((a % b : Nat) : Int)))] = _ := e
      rw [Nat.gcd_comm a b, Nat.gcd_rec b a, Nat.gcd_comm (a % b) b]
      exact e'
theorem law_lowest_v (n d : Int) (h : 0 < d) (hn : n.natAbs < 2 ^ 8900) (hz : d.natAbs < 2 ^ 8900) : law_lowest_F [.int n, .int d] = .ok (fq ((n : Rat) / d)) := by
  have hd : d ≠ 0 := by omega
  obtain ⟨g1, _⟩ := gcd_div (n := n) hd hz
  have ha : ∀ n : Int, (if n < 0 then -n else n) = (n.natAbs : Int) := fun n => by split <;> omega
  obtain ⟨p1, p2⟩ := parts_gcd n d hd _ (by rw [if_neg (by omega)])
  rw [fq, p1, p2]
  obtain ⟨x', e⟩ := low_L d.natAbs n.natAbs (.int n) (.int d) none hn hz
  have hdn : (d.natAbs : Int) = d := by omega
  rw [hdn] at e
  simp [law_lowest_F, runFn, law_lowest_B, ha, e, bop_fdiv g1]
theorem evI_lst {T : Tb} {i : Nat} {env : Rf.Env} {xs : List D} (h : getV env i = .ok (.lst xs)) : evI T (.cons (.var i) .nil) env = .ok xs := by simp [h]
theorem evI_tup {T : Tb} {i : Nat} {env : Rf.Env} {xs : List D} (h : getV env i = .ok (.tup xs)) : evI T (.cons (.var i) .nil) env = .ok xs := by simp [h]
end Pg
/-! # G2: what upper_chain computes -/
namespace Pg
open PySem Rf Hull
def spotD (s : Spot) : D := .tup [.int s.1, .int s.2.1, .int (s.2.2 : Int)]
def SzS (s : Spot) : Prop := s.1.natAbs < 2 ^ 20000 ∧ s.2.1.natAbs < 2 ^ 20000
theorem ixD_neg {xs : List D} {a : D} {j k : Nat} (h : xs[j]? = some a) (hk : xs.length = j + k) (h0 : 0 < k) : ixD (.lst xs) (.int (-(k : Int))) = .ok a := by
  have e : L2.ixN xs.length (-(k : Int)) = some j := by
    unfold L2.ixN
    rw [if_neg (by omega), if_pos (by omega)]
    congr 1
    omega
  simp [ixD, L2.atI, e, h, ofO]
theorem ixD_last (xs : List D) (a : D) : ixD (.lst (xs ++ [a])) (.int (-1)) = .ok a := ixD_neg (j := xs.length) (k := 1) (by simp) (by simp) (by decide)
theorem ixD_last2 (xs : List D) (a b : D) : ixD (.lst (xs ++ [a, b])) (.int (-2)) = .ok a := ixD_neg (j := xs.length) (k := 2) (by simp) (by simp) (by decide)
theorem ixD_last1 (xs : List D) (a b : D) : ixD (.lst (xs ++ [a, b])) (.int (-1)) = .ok b := ixD_neg (j := xs.length + 1) (k := 1) (by simp) (by simp) (by decide)
theorem diff_lt {a b : Int} (ha : a.natAbs < 2 ^ 20000) (hb : b.natAbs < 2 ^ 20000) : (a - b).natAbs < 2 ^ 20001 := by
  have : 2 ^ 20001 = 2 ^ 20000 + 2 ^ 20000 := by rw [Nat.pow_succ]; omega
  omega
theorem turn_v {a b c : Spot} (ha : SzS a) (hb : SzS b) (hc : SzS c) : turn_F [spotD a, spotD b, spotD c] = .ok (.int (Hull.turn a b c)) := by
  have m1 : okMul (b.1 - a.1) (c.2.1 - a.2.1) = true := okMul_of (diff_lt hb.1 ha.1) (diff_lt hc.2 ha.2) (by decide)
  have m2 : okMul (b.2.1 - a.2.1) (c.1 - a.1) = true := okMul_of (diff_lt hb.2 ha.2) (diff_lt hc.1 ha.1) (by decide)
  simp [turn_F, runFn, turn_B, spotD, bop_mul m1, bop_mul m2, Hull.turn]
theorem popW_mem {s : Spot} : ∀ {rc : List Spot} {x : Spot}, x ∈ popW s rc → x ∈ rc
  | [], _, h => h
  | [_], _, h => h
  | b :: a :: r, x, h => by
    unfold popW at h
    split at h
    · exact List.mem_cons_of_mem _ (popW_mem h)
    · exact h
theorem pop_L {s : Spot} (P : Option Sl) (hs : SzS s) : ∀ (rc : List Spot), (∀ x ∈ rc, SzS x) → ex upper_chain_T upper_chain_L1 [P, some (.o ((rc.map spotD).reverse)), some (.v (spotD s))] = .nx [P, some (.o (((popW s rc).map spotD).reverse)), some (.v (spotD s))]
  | [], _ => by
    rw [upper_chain_L1, ex_while, whileS_eq]
    simp [popW]
  | [b], _ => by
    rw [upper_chain_L1, ex_while, whileS_eq]
    simp [popW]
  | b :: a :: r, h => by
    have ih := pop_L P hs (a :: r) fun x hx => h x (List.mem_cons_of_mem _ hx)
    rw [upper_chain_L1, ex_while, whileS_eq]
    have eL : ((b :: a :: r).map spotD).reverse = (r.map spotD).reverse ++ [spotD a, spotD b] := by simp
    have t := turn_v (h a (by simp)) (h b (by simp)) hs
    have i1 := ixD_last1 ((r.map spotD).reverse) (spotD a) (spotD b)
    have i2 := ixD_last2 ((r.map spotD).reverse) (spotD a) (spotD b)
    have hc : evT upper_chain_T (.and (.cmp .ge (.olen 1) (.int 2)) (.cmp .ge (.call 1 (.cons (.oix 1 (.neg (.int 2))) (.cons (.oix 1 (.neg (.int 1))) (.cons (.var 2) .nil)))) (.int 0))) [P, some (.o (((b :: a :: r).map spotD).reverse)), some (.v (spotD s))] = .ok (decide (0 ≤ Hull.turn a b s)) := by
      rw [eL]
      have l2 : (2 : Int) ≤ (r.length : Int) + 2 := by omega
      simp [i1, i2, t, l2]
    rw [hc]
    by_cases z : 0 ≤ Hull.turn a b s
    · have hw : ex upper_chain_T upper_chain_W1 [P, some (.o (((b :: a :: r).map spotD).reverse)), some (.v (spotD s))] = .nx [P, some (.o (((a :: r).map spotD).reverse)), some (.v (spotD s))] := by
        rw [eL]
        simp [upper_chain_W1, List.dropLast_append_of_ne_nil]
      rw [hw]
      have e2 : popW s (b :: a :: r) = popW s (a :: r) := by
        show (if 0 ≤ Hull.turn a b s then popW s (a :: r) else b :: a :: r) = _
        rw [if_pos z]
      rw [e2]
      simpa [z, upper_chain_L1, ex_while] using ih
    · have e2 : popW s (b :: a :: r) = b :: a :: r := by
        show (if 0 ≤ Hull.turn a b s then popW s (a :: r) else b :: a :: r) = _
        rw [if_neg z]
      rw [e2]
      simp [z]
theorem hullR_snoc (b : Spot) : ∀ (a rc : List Spot), hullR (a ++ [b]) rc = b :: popW b (hullR a rc)
  | [], rc => rfl
  | s :: a, rc => by
    show hullR (a ++ [b]) (s :: popW s rc) = _
    rw [hullR_snoc b a]
    rfl
theorem hullR_mem : ∀ {a rc : List Spot} {x : Spot}, x ∈ hullR a rc → x ∈ a ∨ x ∈ rc
  | [], _, _, h => .inr h
  | s :: a, rc, x, h => by
    rcases hullR_mem (a := a) (rc := s :: popW s rc) h with y | y
    · exact .inl (List.mem_cons_of_mem _ y)
    · rcases List.mem_cons.mp y with z | z
      · exact .inl (by rw [z]; simp)
      · exact .inr (popW_mem z)
theorem hullR_len : ∀ (a rc : List Spot), (hullR a rc).length ≤ a.length + rc.length
  | [], rc => by simp [hullR]
  | s :: a, rc => by
    have h1 := hullR_len a (s :: popW s rc)
    have h2 : ∀ rc : List Spot, (popW s rc).length ≤ rc.length := by
      intro rc
      match rc with
      | [] => simp [popW]
      | [_] => simp [popW]
      | b :: a :: r =>
        unfold popW
        split
        · have := popLen s (a :: r)
          simp at this ⊢; omega
        · simp
    have := h2 rc
    simp [hullR] at h1 ⊢
    omega
where popLen (s : Spot) : ∀ rc : List Spot, (popW s rc).length ≤ rc.length
  | [] => by simp [popW]
  | [_] => by simp [popW]
  | b :: a :: r => by
    unfold popW
    split
    · have := popLen s (a :: r)
      simp at this ⊢; omega
    · simp
theorem chain_L {it : E} {P : D} {env : Rf.Env} {l : List Spot} (hI : evI upper_chain_T it env = .ok (l.map spotD)) (he : env = [some (.v P), some (.o []), none]) (hs : ∀ s ∈ l, SzS s) (hl : l.length ≤ 1000) :
    ∃ x, ex upper_chain_T (.for_ (.name 2) it upper_chain_W2) env = .nx [some (.v P), some (.o (((hullR l []).map spotD).reverse)), x] := by
  obtain ⟨env', h1, x, rfl⟩ := ex_for_run spotD (T := upper_chain_T) (t := .name 2) (it := it) (body := upper_chain_W2) (env := env) l
    (fun a env => ∃ x, env = [some (.v P), some (.o (((hullR a []).map spotD).reverse)), x]) hI ⟨none, by rw [he]; rfl⟩ (by
      rintro a b c env hab ⟨x, rfl⟩
      refine ⟨_, rfl, _, .inl ?_, some (.v (spotD b)), rfl⟩
      have hm : ∀ y ∈ hullR a [], SzS y := fun y hy => by
        rcases hullR_mem hy with z | z
        · exact hs y (by rw [hab]; simp [z])
        · cases z
      have e := pop_L (s := b) (some (.v P)) (hs b (by rw [hab]; simp)) (hullR a []) hm
      have len : (popW b (hullR a [])).length < 16777216 := by
        have q1 := hullR_len a []
        have q2 := hullR_len.popLen b (hullR a [])
        have q3 : a.length ≤ l.length := by rw [hab]; simp
        simp at q1
        omega
      rw [hullR_snoc]
      simp [upper_chain_W2, e, len])
  exact ⟨x, h1⟩
theorem drop_L (P x : Option Sl) : ∀ (l : List Spot), ex upper_chain_T upper_chain_L3 [P, some (.o (l.map spotD)), x] = .nx [P, some (.o ((dropUp l).map spotD)), x]
  | [] => by
    rw [upper_chain_L3, ex_while, whileS_eq]
    simp [dropUp]
  | [b] => by
    rw [upper_chain_L3, ex_while, whileS_eq]
    simp [dropUp]
  | a :: b :: r => by
    have ih := drop_L P x (b :: r)
    rw [upper_chain_L3, ex_while, whileS_eq]
    have l2 : (2 : Int) ≤ (r.length : Int) + 1 + 1 := by omega
    have hc : evT upper_chain_T (.and (.cmp .ge (.olen 1) (.int 2)) (.cmp .ge (.ix (.oix 1 (.int 1)) (.int 1)) (.ix (.oix 1 (.int 0)) (.int 1)))) [P, some (.o ((a :: b :: r).map spotD)), x] = .ok (decide (a.2.1 ≤ b.2.1)) := by
      simp [l2, spotD]
    rw [hc]
    by_cases z : a.2.1 ≤ b.2.1
    · have sl := slD_from (spotD a :: spotD b :: r.map spotD) 1
      have hw : ex upper_chain_T upper_chain_W3 [P, some (.o ((a :: b :: r).map spotD)), x] = .nx [P, some (.o ((b :: r).map spotD)), x] := by
        simp at sl
        simp [upper_chain_W3, frzE, partD, sl]
      rw [hw]
      have e2 : dropUp (a :: b :: r) = dropUp (b :: r) := by
        show (if a.2.1 ≤ b.2.1 then dropUp (b :: r) else a :: b :: r) = _
        rw [if_pos z]
      rw [e2]
      simpa [z, upper_chain_L3, ex_while] using ih
    · have e2 : dropUp (a :: b :: r) = a :: b :: r := by
        show (if a.2.1 ≤ b.2.1 then dropUp (b :: r) else a :: b :: r) = _
        rw [if_neg z]
      rw [e2]
      simp [z]
/-! ### the spots, sorted -/
def rowS (s : Spot) : List Int := [s.1, s.2.1, (s.2.2 : Int)]
theorem spot_row (s : Spot) : rowD (rowS s) = spotD s := rfl
def leS (a b : Spot) : Bool := leR (rowS a) (rowS b)
theorem sort_v (l : List Spot) : biF .sorted [.lst (l.map spotD)] = .ok (.lst ((l.mergeSort leS).map spotD)) := by
  have e : (l.map rowS).mergeSort leR = (l.mergeSort leS).map rowS := (PySem.W.sort_maps rowS (fun a _ b _ => rfl)).symm
  cases l with
  | nil => simp [biF, sortD]
  | cons s l =>
    have e2 : rowsOf ((s :: l).map spotD) = some ((s :: l).map rowS) := by
      have := rowsOf_map (rs := (s :: l).map rowS) (fun r hr => by obtain ⟨x, _, rfl⟩ := List.mem_map.mp hr; simp [rowS])
      rw [List.map_map] at this
      exact this
    have e3 : sortD ((s :: l).map spotD) = .ok (.lst ((((s :: l).map rowS).mergeSort leR).map rowD)) := by
      rw [List.map_cons] at e2 ⊢
      unfold spotD at e2 ⊢
      simp only [sortD]
      rw [e2]
    have e4 : biF .sorted [.lst ((s :: l).map spotD)] = sortD ((s :: l).map spotD) := by simp only [biF]
    rw [e4, e3, e, List.map_map]
    rfl
theorem leS_le {a b : Spot} (h : leS a b = true) : le a b := by
  unfold leS leR rowS at h
  have h : [a.1, a.2.1, (a.2.2 : Int)] ≤ [b.1, b.2.1, (b.2.2 : Int)] := of_decide_eq_true h
  rw [List.cons_le_cons_iff] at h
  rcases h with h | ⟨h1, h2⟩
  · exact .inl h
  · rw [List.cons_le_cons_iff] at h2
    exact .inr ⟨h1, by omega⟩
theorem sorted_le (l : List Spot) : (l.mergeSort leS).Pairwise le := by
  have h := List.pairwise_mergeSort (le := leS) (fun a b c h1 h2 => by
    unfold leS leR at *
    exact decide_eq_true (List.le_trans (of_decide_eq_true h1) (of_decide_eq_true h2))) (fun a b => by
    unfold leS leR
    rcases List.le_total (rowS a) (rowS b) with z | z
    · simp [z]
    · simp [z]) l
  exact h.imp fun {a b} z => leS_le z
end Pg
/-! # G3: whole_spots, upper_chain -/
namespace Pg
open PySem Rf Hull
abbrev Pt := Rat × Rat
def pt (p : Pt) : D := .tup [fq p.1, fq p.2]
def SzP (k : Nat) (p : Pt) : Prop := Sz k p.1 ∧ Sz k p.2
def lcmX (ps : List Pt) : Nat := ps.foldl (fun a p => Nat.lcm a p.1.den) 1
def lcmY (ps : List Pt) : Nat := ps.foldl (fun a p => Nat.lcm a p.2.den) 1
theorem lcmX_snoc (ps : List Pt) (p : Pt) : lcmX (ps ++ [p]) = Nat.lcm (lcmX ps) p.1.den := by simp [lcmX]
theorem lcmY_snoc (ps : List Pt) (p : Pt) : lcmY (ps ++ [p]) = Nat.lcm (lcmY ps) p.2.den := by simp [lcmY]
theorem lcm_lt {a b m k : Nat} (ha : 0 < a ∧ a < 2 ^ m) (hb : 0 < b ∧ b < 2 ^ k) : 0 < Nat.lcm a b ∧ Nat.lcm a b < 2 ^ (m + k) := by
  refine ⟨Nat.lcm_pos ha.1 hb.1, Nat.lt_of_le_of_lt (Nat.div_le_self _ _) ?_⟩
  rw [Nat.pow_add]
  exact Nat.mul_lt_mul'' ha.2 hb.2
theorem lcmX_lt {k : Nat} : ∀ (ps : List Pt), (∀ p ∈ ps, SzP k p) → 0 < lcmX ps ∧ lcmX ps < 2 ^ (1 + ps.length * k) := by
  intro ps h
  have key : ∀ (ps : List Pt) (a m : Nat), (∀ p ∈ ps, SzP k p) → 0 < a ∧ a < 2 ^ m → 0 < ps.foldl (fun a p => Nat.lcm a p.1.den) a ∧ ps.foldl (fun a p => Nat.lcm a p.1.den) a < 2 ^ (m + ps.length * k) := by
    intro ps
    induction ps with
    | nil => intro a m _ ha; simpa using ha
    | cons p ps ih =>
      intro a m h ha
      have := ih (Nat.lcm a p.1.den) (m + k) (fun q hq => h q (List.mem_cons_of_mem _ hq)) (lcm_lt ha ⟨p.1.den_pos, (h p (by simp)).1.2⟩)
      rw [List.foldl_cons, List.length_cons, Nat.add_mul, Nat.one_mul]
      rwa [show m + (ps.length * k + k) = m + k + ps.length * k by omega]
  exact key ps 1 1 h ⟨by decide, by decide⟩
theorem lcmY_lt {k : Nat} : ∀ (ps : List Pt), (∀ p ∈ ps, SzP k p) → 0 < lcmY ps ∧ lcmY ps < 2 ^ (1 + ps.length * k) := by
  intro ps h
  have key : ∀ (ps : List Pt) (a m : Nat), (∀ p ∈ ps, SzP k p) → 0 < a ∧ a < 2 ^ m → 0 < ps.foldl (fun a p => Nat.lcm a p.2.den) a ∧ ps.foldl (fun a p => Nat.lcm a p.2.den) a < 2 ^ (m + ps.length * k) := by
    intro ps
    induction ps with
    | nil => intro a m _ ha; simpa using ha
    | cons p ps ih =>
      intro a m h ha
      have := ih (Nat.lcm a p.2.den) (m + k) (fun q hq => h q (List.mem_cons_of_mem _ hq)) (lcm_lt ha ⟨p.2.den_pos, (h p (by simp)).2.2⟩)
      rw [List.foldl_cons, List.length_cons, Nat.add_mul, Nat.one_mul]
      rwa [show m + (ps.length * k + k) = m + k + ps.length * k by omega]
  exact key ps 1 1 h ⟨by decide, by decide⟩
theorem dvd_fold (f : Pt → Nat) : ∀ (ps : List Pt) (a : Nat), a ∣ ps.foldl (fun a p => Nat.lcm a (f p)) a ∧ ∀ p ∈ ps, f p ∣ ps.foldl (fun a p => Nat.lcm a (f p)) a
  | [], a => ⟨Nat.dvd_refl a, fun p h => nomatch h⟩
  | q :: ps, a => by
    obtain ⟨h1, h2⟩ := dvd_fold f ps (Nat.lcm a (f q))
    refine ⟨Nat.dvd_trans (Nat.dvd_lcm_left _ _) h1, fun p hp => ?_⟩
    rcases List.mem_cons.mp hp with z | z
    · subst z; exact Nat.dvd_trans (Nat.dvd_lcm_right _ _) h1
    · exact h2 p z
theorem log_lt {n m : Nat} (h : n < 2 ^ m) (hm : m ≤ 12999) : n.log2 < 13000 := by
  by_cases z : n = 0
  · subst z; decide
  · have := (Nat.log2_lt z).mpr (Nat.lt_of_lt_of_le h (Nat.pow_le_pow_right (by decide) hm)); omega
theorem lcm_v {a b : Nat} (ha : a.log2 < 13000) (hb : b.log2 < 13000) : biF .lcm [.int (a : Int), .int (b : Int)] = .ok (.int ((Nat.lcm a b : Nat) : Int)) := by
  have : okLcm (a : Int) (b : Int) = true := by unfold okLcm; simp [ha, hb]
  simp [biF, this]
/-- a point as a spot -/
def spotOf (W H : Nat) (q : Pt × Nat) : Spot := (q.1.1.num * ((W / q.1.1.den : Nat) : Int), q.1.2.num * ((H / q.1.2.den : Nat) : Int), q.2)
def spots (ps : List Pt) : List Spot := ps.zipIdx.map (spotOf (lcmX ps) (lcmY ps))
theorem part_lt {k : Nat} {q : Rat} {W : Nat} (hq : Sz k q) (hW : W < 2 ^ 12000) (hk : k ≤ 7000) : (q.num * ((W / q.den : Nat) : Int)).natAbs < 2 ^ 20000 := by
  have h1 : W / q.den < 2 ^ 12000 := Nat.lt_of_le_of_lt (Nat.div_le_self _ _) hW
  have h2 := mul_na (x := q.num) (y := ((W / q.den : Nat) : Int)) hq.1 (by rw [Int.natAbs_natCast]; exact h1)
  exact Nat.lt_of_lt_of_le h2 (Nat.pow_le_pow_right (by decide) (by omega))
section
variable {k : Nat} {ps : List Pt}
theorem W_lt (h : ∀ p ∈ ps, SzP k p) (hk : 1 + ps.length * k ≤ 12000) : lcmX ps < 2 ^ 12000 ∧ lcmY ps < 2 ^ 12000 :=
  ⟨Nat.lt_of_lt_of_le (lcmX_lt ps h).2 (Nat.pow_le_pow_right (by decide) hk), Nat.lt_of_lt_of_le (lcmY_lt ps h).2 (Nat.pow_le_pow_right (by decide) hk)⟩
theorem spots_sz (h : ∀ p ∈ ps, SzP k p) (hk : 1 + ps.length * k ≤ 12000) (hk2 : k ≤ 7000) : ∀ s ∈ spots ps, SzS s := by
  intro s hs
  obtain ⟨⟨p, i⟩, hq, rfl⟩ := List.mem_map.mp hs
  have hp : p ∈ ps := List.fst_mem_of_mem_zipIdx hq
  obtain ⟨w1, w2⟩ := W_lt h hk
  exact ⟨part_lt (h p hp).1 w1 hk2, part_lt (h p hp).2 w2 hk2⟩
theorem whole_spots_v (h : ∀ p ∈ ps, SzP k p) (hk : 1 + ps.length * k ≤ 12000) (hk2 : k ≤ 7000) (hl : ps.length ≤ 1000) : whole_spots_F [.lst (ps.map pt)] = .ok (.lst ((spots ps).map spotD)) := by
  obtain ⟨env1, e1, x1, y1, rfl⟩ := ex_for_run pt (T := whole_spots_T) (t := .tup (.cons (.name 4) (.cons (.name 5) .nil))) (it := .cons (.var 0) .nil) (body := whole_spots_W1)
    (env := [some (.v (.lst (ps.map pt))), some (.v (.int 1)), some (.v (.int 1)), none, none, none, none]) ps
    (fun a env => ∃ x y, env = [some (.v (.lst (ps.map pt))), some (.v (.int (lcmX a : Nat))), some (.v (.int (lcmY a : Nat))), none, x, y, none]) (evI_lst (by simp)) ⟨none, none, rfl⟩ (by
      rintro a b c env hab ⟨x, y, rfl⟩
      have ha : ∀ p ∈ a, SzP k p := fun p hp => h p (by rw [hab]; simp [hp])
      have hb : SzP k b := h b (by rw [hab]; simp)
      have hal : a.length * k ≤ ps.length * k := Nat.mul_le_mul_right _ (by rw [hab]; simp)
      have v1 := lcm_v (log_lt (lcmX_lt a ha).2 (by omega)) (log_lt hb.1.2 (by omega))
      have v2 := lcm_v (log_lt (lcmY_lt a ha).2 (by omega)) (log_lt hb.2.2 (by omega))
      refine ⟨_, rfl, _, .inl ?_, some (.v (fq b.1)), some (.v (fq b.2)), rfl⟩
      rw [lcmX_snoc, lcmY_snoc]
      simp [whole_spots_W1, pt, v1, v2])
  obtain ⟨w1, w2⟩ := W_lt h hk
  obtain ⟨env2, e2, x2, y2, z2, rfl⟩ := ex_for_run (fun q : Pt × Nat => D.tup [.int (q.2 : Int), pt q.1]) (T := whole_spots_T) (t := .tup (.cons (.name 6) (.cons (.tup (.cons (.name 4) (.cons (.name 5) .nil))) .nil))) (it := .enum (.var 0)) (body := whole_spots_W2)
    (env := [some (.v (.lst (ps.map pt))), some (.v (.int (lcmX ps : Nat))), some (.v (.int (lcmY ps : Nat))), some (.o []), x1, y1, none]) ps.zipIdx
    (fun a env => ∃ x y z, env = [some (.v (.lst (ps.map pt))), some (.v (.int (lcmX ps : Nat))), some (.v (.int (lcmY ps : Nat))), some (.o ((a.map (spotOf (lcmX ps) (lcmY ps))).map spotD)), x, y, z])
    (by simp [enumD, List.zipIdx_map]) ⟨x1, y1, none, rfl⟩ (by
      rintro a ⟨p, i⟩ c env hab ⟨x, y, z, rfl⟩
      have hp : p ∈ ps := by
        have : (p, i) ∈ ps.zipIdx := by rw [hab]; simp
        exact List.fst_mem_of_mem_zipIdx this
      have s := h p hp
      have d1 : okDiv (p.1.den : Int) = true := okDiv_of (n := 8900) (by rw [Int.natAbs_natCast]; exact Nat.lt_of_lt_of_le s.1.2 (Nat.pow_le_pow_right (by decide) (by omega))) (den_ne _) (by decide)
      have d2 : okDiv (p.2.den : Int) = true := okDiv_of (n := 8900) (by rw [Int.natAbs_natCast]; exact Nat.lt_of_lt_of_le s.2.2 (Nat.pow_le_pow_right (by decide) (by omega))) (den_ne _) (by decide)
      have f1 : ((lcmX ps : Nat) : Int).fdiv (p.1.den : Int) = ((lcmX ps / p.1.den : Nat) : Int) := by rw [Int.fdiv_eq_ediv_of_nonneg _ (by omega)]; rfl
      have f2 : ((lcmY ps : Nat) : Int).fdiv (p.2.den : Int) = ((lcmY ps / p.2.den : Nat) : Int) := by rw [Int.fdiv_eq_ediv_of_nonneg _ (by omega)]; rfl
      have lt1 : ((lcmX ps / p.1.den : Nat) : Int).natAbs < 2 ^ 12000 := by rw [Int.natAbs_natCast]; exact Nat.lt_of_le_of_lt (Nat.div_le_self _ _) w1
      have lt2 : ((lcmY ps / p.2.den : Nat) : Int).natAbs < 2 ^ 12000 := by rw [Int.natAbs_natCast]; exact Nat.lt_of_le_of_lt (Nat.div_le_self _ _) w2
      have m1 : okMul p.1.num ((lcmX ps / p.1.den : Nat) : Int) = true := okMul_of s.1.1 lt1 (by omega) (Sz.pos s.1) (by decide)
      have m2 : okMul p.2.num ((lcmY ps / p.2.den : Nat) : Int) = true := okMul_of s.2.1 lt2 (by omega) (Sz.pos s.2) (by decide)
      refine ⟨_, rfl, _, .inl ?_, some (.v (fq p.1)), some (.v (fq p.2)), some (.v (.int (i : Int))), rfl⟩
      have len : a.length < 16777216 := by
        have q := congrArg List.length hab
        simp at q
        omega
      simp only [whole_spots_W2, pt]
      simp [bop_fdiv d1, bop_fdiv d2, f1, f2, bop_mul m1, bop_mul m2, len, spotOf, spotD, -Int.natCast_ediv])
  have e1' : ex whole_spots_T whole_spots_L1 [some (.v (.lst (ps.map pt))), some (.v (.int 1)), some (.v (.int 1)), none, none, none, none] = _ := e1
  have e2' : ex whole_spots_T whole_spots_L2 [some (.v (.lst (ps.map pt))), some (.v (.int (lcmX ps : Nat))), some (.v (.int (lcmY ps : Nat))), some (.o []), x1, y1, none] = _ := e2
  have e3 : ex whole_spots_T whole_spots_B [some (.v (.lst (ps.map pt))), none, none, none, none, none, none] = .rt (.lst ((spots ps).map spotD)) := by
    simp [whole_spots_B, e1', e2', frzE, spots]
  rw [whole_spots_F, runFn_out (np := 1) (nn := 7) rfl rfl e3, outR_rt]
end
end Pg
/-! # G4: upper_chain: what it gives -/
namespace Pg
open PySem Rf Hull
def sorted (ps : List Pt) : List Spot := (spots ps).mergeSort leS
def pick (ps : List Pt) (s : Spot) : Pt := ps.getD s.2.2 (0, 0)
def upperPts (ps : List Pt) : List Pt := (upper (sorted ps)).map (pick ps)
theorem upper_eq (l : List Spot) : upper l = dropUp (hullR l []).reverse := by
  cases l with
  | nil => rfl
  | cons s l => rfl
theorem dropUp_mem : ∀ {l : List Spot} {x : Spot}, x ∈ dropUp l → x ∈ l
  | [], _, h => h
  | [_], _, h => h
  | a :: b :: r, x, h => by
    unfold dropUp at h
    split at h
    · exact List.mem_cons_of_mem _ (dropUp_mem h)
    · exact h
theorem dropUp_len : ∀ (l : List Spot), (dropUp l).length ≤ l.length
  | [] => Nat.le_refl _
  | [_] => Nat.le_refl _
  | a :: b :: r => by
    unfold dropUp
    split
    · exact Nat.le_succ_of_le (dropUp_len (b :: r))
    · exact Nat.le_refl _
theorem upper_mem {l : List Spot} {x : Spot} (h : x ∈ upper l) : x ∈ l := by
  rw [upper_eq] at h
  have := dropUp_mem h
  rw [List.mem_reverse] at this
  rcases hullR_mem this with z | z
  · exact z
  · cases z
theorem upper_len (l : List Spot) : (upper l).length ≤ l.length := by
  rw [upper_eq]
  have := dropUp_len (hullR l []).reverse
  have := hullR_len l []
  simp at *
  omega
theorem sorted_mem {ps : List Pt} {s : Spot} : s ∈ sorted ps ↔ s ∈ spots ps := List.mem_mergeSort
theorem spot_ix {ps : List Pt} {s : Spot} (h : s ∈ spots ps) : ∃ p, ps[s.2.2]? = some p ∧ s = spotOf (lcmX ps) (lcmY ps) (p, s.2.2) := by
  obtain ⟨⟨p, i⟩, hq, rfl⟩ := List.mem_map.mp h
  have := List.mem_zipIdx_iff_getElem?.mp hq
  exact ⟨p, this, rfl⟩
theorem pick_of {ps : List Pt} {s : Spot} {p : Pt} (h : ps[s.2.2]? = some p) : pick ps s = p := by
  unfold pick
  rw [List.getD_eq_getElem?_getD, h]
  rfl
section
variable {k : Nat} {ps : List Pt}
theorem upper_chain_v (h : ∀ p ∈ ps, SzP k p) (hk : 1 + ps.length * k ≤ 12000) (hk2 : k ≤ 7000) (hl : ps.length ≤ 1000) : upper_chain_F [.lst (ps.map pt)] = .ok (.lst ((upperPts ps).map pt)) := by
  have e0 := whole_spots_v h hk hk2 hl
  have hsz : ∀ s ∈ sorted ps, SzS s := fun s hs => spots_sz h hk hk2 s (sorted_mem.mp hs)
  have hlen : (sorted ps).length ≤ 1000 := by unfold sorted spots; simpa using hl
  obtain ⟨x, e1⟩ := chain_L (it := .cons (.bi .sorted (.cons (.call 0 (.cons (.var 0) .nil)) .nil)) .nil) (P := .lst (ps.map pt)) (env := [some (.v (.lst (ps.map pt))), some (.o []), none]) (l := sorted ps) (by
    have := sort_v (spots ps)
    simp [e0, this, sorted]) rfl hsz hlen
  have e1' : ex upper_chain_T upper_chain_L2 [some (.v (.lst (ps.map pt))), some (.o []), none] = _ := e1
  have e2 := drop_L (some (.v (.lst (ps.map pt)))) x (hullR (sorted ps) []).reverse
  rw [← upper_eq, List.map_reverse] at e2
  have ec : ∀ z, ev upper_chain_T upper_chain_C1 [some (.v (.lst (ps.map pt))), some (.v (.lst ((upper (sorted ps)).map spotD))), z] = .ok (.lst ((upperPts ps).map pt)) := fun z => by
    have := ev_comp_map spotD (T := upper_chain_T) (elt := .ix (.var 0) (.ix (.var 2) (.int 2))) (it := .cons (.var 1) .nil) (cond := .nil) (tg := .name 2) (own := [2]) (env := [some (.v (.lst (ps.map pt))), some (.v (.lst ((upper (sorted ps)).map spotD))), z]) (upper (sorted ps)) (fun _ => true) (fun s => pt (pick ps s)) (evI_lst (by simp)) (by
      intro s hs
      refine ⟨_, rfl, by simp, fun _ => ?_⟩
      obtain ⟨p, hp, _⟩ := spot_ix (sorted_mem.mp (upper_mem hs))
      have hp2 : (ps.map pt)[s.2.2]? = some (pt p) := by rw [List.getElem?_map, hp]; rfl
      rw [pick_of hp]
      have i0 := ixD_nat hp2
      cases z with
      | none => simp [hideO, wipeE, spotD, i0]
      | some w => cases w <;> simp [hideO, wipeE, spotD, i0]) (by have := upper_len (sorted ps); omega)
    rw [List.filter_eq_self.mpr (by simp)] at this
    rw [upper_chain_C1, this, upperPts, List.map_map]
    rfl
  have e3 : ex upper_chain_T upper_chain_B [some (.v (.lst (ps.map pt))), none, none] = .rt (.lst ((upperPts ps).map pt)) := by
    simp [upper_chain_B, e1', e2, frzE, ec]
  rw [upper_chain_F, runFn_out (np := 1) (nn := 3) rfl rfl e3, outR_rt]
end
/-! ### what is true of it -/
theorem den_mul {q : Rat} {W : Nat} (h : q.den ∣ W) : ((q.num * ((W / q.den : Nat) : Int) : Int) : Rat) = q * (W : Rat) := by
  obtain ⟨c, rfl⟩ := h
  rw [Nat.mul_div_cancel_left _ q.den_pos]
  have h1 := rat_eq q
  have h2 : ((q.den : Int) : Rat) ≠ 0 := by
    have := q.den_nz
    intro z
    have : ((q.den : Int) : Rat) = ((0 : Int) : Rat) := z
    rw [Rat.intCast_inj] at this
    omega
  rw [Rat.intCast_mul]
  have e : ((q.den * c : Nat) : Rat) = ((q.den : Int) : Rat) * ((c : Int) : Rat) := by
    rw [← Rat.intCast_mul]
    rfl
  rw [e]
  generalize ((q.den : Int) : Rat) = d at *
  generalize ((c : Int) : Rat) = c' at *
  generalize ((q.num : Int) : Rat) = n at *
  rw [h1]
  grind
structure SpotOk (ps : List Pt) (s : Spot) : Prop where
  mem : pick ps s ∈ ps
  x : (s.1 : Rat) = (pick ps s).1 * (lcmX ps : Rat)
  y : (s.2.1 : Rat) = (pick ps s).2 * (lcmY ps : Rat)
theorem spot_ok {ps : List Pt} {s : Spot} (h : s ∈ sorted ps) : SpotOk ps s := by
  obtain ⟨p, hp, e⟩ := spot_ix (sorted_mem.mp h)
  have hm := List.mem_of_getElem? hp
  have ep := pick_of hp
  refine ⟨by rw [ep]; exact hm, ?_, ?_⟩
  · rw [ep, e]
    exact den_mul ((dvd_fold (fun p => p.1.den) ps 1).2 p hm)
  · rw [ep, e]
    exact den_mul ((dvd_fold (fun p => p.2.den) ps 1).2 p hm)
theorem spot_has {ps : List Pt} {p : Pt} (h : p ∈ ps) : ∃ s ∈ sorted ps, pick ps s = p := by
  obtain ⟨i, hi⟩ := List.mem_iff_getElem?.mp h
  refine ⟨spotOf (lcmX ps) (lcmY ps) (p, i), sorted_mem.mpr (List.mem_map.mpr ⟨(p, i), List.mem_zipIdx_iff_getElem?.mpr hi, rfl⟩), pick_of hi⟩
theorem cast_pos {n : Nat} (h : 0 < n) : (0 : Rat) < (n : Rat) := by
  have : ((0 : Nat) : Rat) < (n : Rat) := Rat.natCast_lt_natCast.mpr h
  simpa using this
section
variable {ps : List Pt}
theorem W_pos (ps : List Pt) : (0 : Rat) < (lcmX ps : Rat) ∧ (0 : Rat) < (lcmY ps : Rat) := by
  have key : ∀ (f : Pt → Nat), (∀ p, 0 < f p) → ∀ (l : List Pt) (a : Nat), 0 < a → 0 < l.foldl (fun a p => Nat.lcm a (f p)) a := by
    intro f hf l
    induction l with
    | nil => intro a h; exact h
    | cons p l ih => intro a h; exact ih _ (Nat.lcm_pos h (hf p))
  exact ⟨cast_pos (key (fun p => p.1.den) (fun p => p.1.den_pos) ps 1 (by decide)), cast_pos (key (fun p => p.2.den) (fun p => p.2.den_pos) ps 1 (by decide))⟩
theorem mul_cancel_le {a b c : Rat} (h : 0 < c) : a * c ≤ b * c ↔ a ≤ b := by
  constructor
  · intro z
    have : 0 ≤ c * (b - a) := by grind
    have := Clip.nonneg_of h this
    grind
  · intro z
    have := Rat.mul_nonneg (Rat.le_of_lt h) (show 0 ≤ b - a by grind)
    grind
theorem mul_cancel_lt {a b c : Rat} (h : 0 < c) : a * c < b * c ↔ a < b := by
  constructor
  · intro z
    have : 0 < c * (b - a) := by grind
    have := Clip.pos_of h this
    grind
  · intro z
    have := Rat.mul_pos h (show 0 < b - a by grind)
    grind
theorem ok_lt_x {s t : Spot} (hs : SpotOk ps s) (ht : SpotOk ps t) : s.1 < t.1 ↔ (pick ps s).1 < (pick ps t).1 := by
  rw [← Rat.intCast_lt_intCast, hs.x, ht.x, mul_cancel_lt (W_pos ps).1]
theorem ok_lt_y {s t : Spot} (hs : SpotOk ps s) (ht : SpotOk ps t) : s.2.1 < t.2.1 ↔ (pick ps s).2 < (pick ps t).2 := by
  rw [← Rat.intCast_lt_intCast, hs.y, ht.y, mul_cancel_lt (W_pos ps).2]
theorem ok_turn {a b c : Spot} (ha : SpotOk ps a) (hb : SpotOk ps b) (hc : SpotOk ps c) : ((Hull.turn a b c : Int) : Rat) = Clip.turn (pick ps a) (pick ps b) (pick ps c) * ((lcmX ps : Rat) * (lcmY ps : Rat)) := by
  unfold Hull.turn Clip.turn
  rw [Rat.intCast_sub, Rat.intCast_mul, Rat.intCast_mul, Rat.intCast_sub, Rat.intCast_sub, Rat.intCast_sub, Rat.intCast_sub, ha.x, ha.y, hb.x, hb.y, hc.x, hc.y]
  grind
theorem WH_pos (ps : List Pt) : (0 : Rat) < (lcmX ps : Rat) * (lcmY ps : Rat) := Rat.mul_pos (W_pos ps).1 (W_pos ps).2
theorem ok_turn_lt {a b c : Spot} (ha : SpotOk ps a) (hb : SpotOk ps b) (hc : SpotOk ps c) : Hull.turn a b c < 0 ↔ Clip.turn (pick ps a) (pick ps b) (pick ps c) < 0 := by
  have e := ok_turn ha hb hc
  have h := WH_pos ps
  have z : ((Hull.turn a b c : Int) : Rat) < ((0 : Int) : Rat) ↔ _ := Rat.intCast_lt_intCast
  rw [← z, e]
  have := mul_cancel_lt (a := Clip.turn (pick ps a) (pick ps b) (pick ps c)) (b := 0) h
  rw [Rat.zero_mul] at this
  exact this
theorem ok_turn_le {a b c : Spot} (ha : SpotOk ps a) (hb : SpotOk ps b) (hc : SpotOk ps c) : Hull.turn a b c ≤ 0 ↔ Clip.turn (pick ps a) (pick ps b) (pick ps c) ≤ 0 := by
  have e := ok_turn ha hb hc
  have h := WH_pos ps
  have z : ((Hull.turn a b c : Int) : Rat) ≤ ((0 : Int) : Rat) ↔ _ := Rat.intCast_le_intCast
  rw [← z, e]
  have := mul_cancel_le (a := Clip.turn (pick ps a) (pick ps b) (pick ps c)) (b := 0) h
  rw [Rat.zero_mul] at this
  exact this
structure ChainOk (L C : List Pt) : Prop where
  edges : Clip.Edges L C
  bent : Clip.Bent C
  sub : ∀ c ∈ C, c ∈ L
  top : ∃ c r, C = c :: r ∧ ∀ p ∈ L, p.2 ≤ c.2
  last : ∃ z, C.getLast? = some z ∧ ∀ p ∈ L, p.1 < z.1 ∨ (p.1 = z.1 ∧ p.2 ≤ z.2)
theorem edges_map : ∀ {l : List Spot}, (∀ s ∈ l, s ∈ sorted ps) → OverF (sorted ps) l → FallF l → Clip.Edges ps (l.map (pick ps))
  | [], _, _, _ => trivial
  | [_], _, _, _ => trivial
  | a :: b :: r, hm, ho, hf => by
    have ha := spot_ok (hm a (by simp))
    have hb := spot_ok (hm b (by simp))
    refine ⟨Clip.Edge.self ha.mem hb.mem ((ok_lt_x ha hb).mp hf.1.1) ((ok_lt_y hb ha).mp hf.1.2) fun p hp => ?_, edges_map (fun s hs => hm s (List.mem_cons_of_mem _ hs)) ho.2 hf.2⟩
    obtain ⟨s, hs, rfl⟩ := spot_has hp
    exact (ok_turn_le ha hb (spot_ok hs)).mp (ho.1 s hs)
theorem bent_map : ∀ {l : List Spot}, (∀ s ∈ l, s ∈ sorted ps) → BentF l → Clip.Bent (l.map (pick ps))
  | [], _, _ => trivial
  | [_], _, _ => trivial
  | [_, _], _, _ => trivial
  | a :: b :: c :: r, hm, hb => by
    exact ⟨(ok_turn_lt (spot_ok (hm a (by simp))) (spot_ok (hm b (by simp))) (spot_ok (hm c (by simp)))).mp hb.1, bent_map (fun s hs => hm s (List.mem_cons_of_mem _ hs)) hb.2⟩
theorem upper_ok (hne : ps ≠ []) : ChainOk ps (upperPts ps) := by
  have hs : sorted ps ≠ [] := by
    obtain ⟨p, hp⟩ := List.exists_mem_of_ne_nil ps hne
    obtain ⟨s, hs, _⟩ := spot_has hp
    exact List.ne_nil_of_mem hs
  have F : Falls (sorted ps) (upper (sorted ps)) := by
    have hp := sorted_le (spots ps)
    unfold sorted at hs ⊢
    cases h : (spots ps).mergeSort leS with
    | nil => exact absurd h hs
    | cons s l => rw [h] at hp; exact upper_spec hp
  obtain ⟨a, r, ea, ht⟩ := F.head
  obtain ⟨z, ez, hz⟩ := F.last
  have hsub : ∀ s ∈ upper (sorted ps), s ∈ sorted ps := fun s h => F.sub s h
  refine ⟨edges_map hsub F.over F.fall, bent_map hsub F.bent, fun c hc => ?_, ⟨pick ps a, r.map (pick ps), by unfold upperPts; rw [ea]; rfl, fun p hp => ?_⟩, ⟨pick ps z, by unfold upperPts; rw [List.getLast?_map, ez]; rfl, fun p hp => ?_⟩⟩
  · obtain ⟨s, hs, rfl⟩ := List.mem_map.mp hc
    exact (spot_ok (hsub s hs)).mem
  · obtain ⟨s, hs, rfl⟩ := spot_has hp
    have ha := spot_ok (hsub a (by rw [ea]; simp))
    have h1 := ht s hs
    have h2 := (not_congr (ok_lt_y ha (spot_ok hs))).mp (by omega)
    grind
  · obtain ⟨s, hs, rfl⟩ := spot_has hp
    have hzz := spot_ok (hsub z (List.mem_of_getLast? ez))
    have k1 := ok_lt_x (spot_ok hs) hzz
    have k2 := not_congr (ok_lt_y hzz (spot_ok hs))
    have k3 := not_congr (ok_lt_x hzz (spot_ok hs))
    rcases hz s hs with y | ⟨y1, y2⟩
    · exact .inl (k1.mp y)
    · right
      have a1 : ¬ (pick ps s).1 < (pick ps z).1 := fun w => by have := k1.mpr w; omega
      have a2 := k3.mp (by omega)
      have a3 := k2.mp (by omega)
      grind
end
end Pg
/-! # G5: clipped -/
namespace Pg
open PySem Rf
section
variable {K : Nat} {a b : Pt} {x : Rat}
theorem y_at_v (ha : SzP K a) (hb : SzP K b) (hx : Sz K x) (hK : 8 * K ≤ 8700) (hne : b.1 ≠ a.1) : y_at_F [pt a, pt b, fq x] = .ok (fq (Clip.yAt a b x)) ∧ Sz (7 * K + 4) (Clip.yAt a b x) := by
  have s1 := hx.sub ha.1
  have s2 := hb.1.sub ha.1
  have n2 : b.1 - a.1 ≠ 0 := by grind
  have s3 := s1.div s2 n2
  have s4 := hb.2.sub ha.2
  have s5 := s4.mul s3
  have s6 := ha.2.add s5
  have e1 := minus_v hx ha.1 (by omega)
  have e2 := minus_v hb.1 ha.1 (by omega)
  have e3 := over_v s1 s2 (by omega) n2
  have e4 := minus_v hb.2 ha.2 (by omega)
  have e5 := times_v s4 s3 (by omega)
  have e6 := plus_v ha.2 s5 (by omega)
  refine ⟨?_, s6.mono (by omega)⟩
  simp [y_at_F, runFn, y_at_B, pt, e1, e2, e3, e4, e5, e6, Clip.yAt]
theorem x_at_v (ha : SzP K a) (hb : SzP K b) (hx : Sz K x) (hK : 8 * K ≤ 8700) (hne : b.2 ≠ a.2) : x_at_F [pt a, pt b, fq x] = .ok (fq (Clip.xAt a b x)) ∧ Sz (7 * K + 4) (Clip.xAt a b x) := by
  have s1 := hx.sub ha.2
  have s2 := hb.2.sub ha.2
  have n2 : b.2 - a.2 ≠ 0 := by grind
  have s3 := s1.div s2 n2
  have s4 := hb.1.sub ha.1
  have s5 := s4.mul s3
  have s6 := ha.1.add s5
  have e1 := minus_v hx ha.2 (by omega)
  have e2 := minus_v hb.2 ha.2 (by omega)
  have e3 := over_v s1 s2 (by omega) n2
  have e4 := minus_v hb.1 ha.1 (by omega)
  have e5 := times_v s4 s3 (by omega)
  have e6 := plus_v ha.1 s5 (by omega)
  refine ⟨?_, s6.mono (by omega)⟩
  simp [x_at_F, runFn, x_at_B, pt, e1, e2, e3, e4, e5, e6, Clip.xAt]
end
theorem slD_init (xs : List D) (a : D) : slD (.lst (xs ++ [a])) none (some (-1)) = .ok (.lst xs) := by
  have e0 : HT.sIx (xs ++ [a]).length 0 none = 0 := rfl
  have e1 : HT.sIx (xs ++ [a]).length (xs ++ [a]).length (some (-1)) = xs.length := by
    unfold HT.sIx
    simp
    omega
  simp only [slD, cutD, e0, e1, List.drop_zero, Nat.sub_zero, R.ok.injEq, D.lst.injEq]
  simp
section
variable {K : Nat} {l w : Rat}
theorem left_L (c p0 : Option Sl) (hl : Sz K l) (hK : 2 * K ≤ 8800) : ∀ (t : List Pt), (∀ p ∈ t, SzP K p) → ex clipped_T clipped_L1 [c, p0, some (.o (t.map pt)), some (.v (fq l)), some (.v (fq w))] = .nx [c, p0, some (.o ((Clip.dropL l t).map pt)), some (.v (fq l)), some (.v (fq w))]
  | [], _ => by
    rw [clipped_L1, ex_while, whileS_eq]
    simp [Clip.dropL]
  | [b], _ => by
    rw [clipped_L1, ex_while, whileS_eq]
    simp [Clip.dropL]
  | a :: b :: r, h => by
    have ih := left_L c p0 hl hK (b :: r) fun x hx => h x (List.mem_cons_of_mem _ hx)
    rw [clipped_L1, ex_while, whileS_eq]
    have l2 : (2 : Int) ≤ (r.length : Int) + 1 + 1 := by omega
    have e := at_most_v (h b (by simp)).1 hl (by omega)
    have hc : evT clipped_T (.and (.cmp .ge (.olen 2) (.int 2)) (.call 0 (.cons (.ix (.oix 2 (.int 1)) (.int 0)) (.cons (.var 3) .nil)))) [c, p0, some (.o ((a :: b :: r).map pt)), some (.v (fq l)), some (.v (fq w))] = .ok (decide (b.1 ≤ l)) := by
      simp [l2, pt, e, truD]
    rw [hc]
    by_cases z : b.1 ≤ l
    · have sl := slD_from (pt a :: pt b :: r.map pt) 1
      have hw : ex clipped_T clipped_W1 [c, p0, some (.o ((a :: b :: r).map pt)), some (.v (fq l)), some (.v (fq w))] = .nx [c, p0, some (.o ((b :: r).map pt)), some (.v (fq l)), some (.v (fq w))] := by
        simp at sl
        simp [clipped_W1, frzE, partD, sl]
      rw [hw]
      have e2 : Clip.dropL l (a :: b :: r) = Clip.dropL l (b :: r) := by
        show (if b.1 ≤ l then Clip.dropL l (b :: r) else a :: b :: r) = _
        rw [if_pos z]
      rw [e2]
      simpa [z, clipped_L1, ex_while] using ih
    · have e2 : Clip.dropL l (a :: b :: r) = a :: b :: r := by
        show (if b.1 ≤ l then Clip.dropL l (b :: r) else a :: b :: r) = _
        rw [if_neg z]
      rw [e2]
      simp [z]
theorem mir2 (a b : Pt) (r : List Pt) : (Clip.mir (a :: b :: r)).map pt = (Clip.mir r).map pt ++ [pt (Clip.sw b), pt (Clip.sw a)] := by simp [Clip.mir]
theorem mir1 (b : Pt) (r : List Pt) : (Clip.mir (b :: r)).map pt = (Clip.mir r).map pt ++ [pt (Clip.sw b)] := by simp [Clip.mir]
theorem right_L (c p0 : Option Sl) (hw : Sz K w) (hK : 2 * K ≤ 8800) : ∀ (m : List Pt), (∀ p ∈ m, SzP K p) → ex clipped_T clipped_L2 [c, p0, some (.o ((Clip.mir m).map pt)), some (.v (fq l)), some (.v (fq w))] = .nx [c, p0, some (.o ((Clip.mir (Clip.dropL w m)).map pt)), some (.v (fq l)), some (.v (fq w))]
  | [], _ => by
    rw [clipped_L2, ex_while, whileS_eq]
    simp [Clip.dropL, Clip.mir]
  | [b], _ => by
    rw [clipped_L2, ex_while, whileS_eq]
    simp [Clip.dropL, Clip.mir]
  | a :: b :: r, h => by
    have ih := right_L c p0 hw hK (b :: r) fun x hx => h x (List.mem_cons_of_mem _ hx)
    rw [clipped_L2, ex_while, whileS_eq, mir2]
    have l2 : (2 : Int) ≤ ((Clip.mir r).length : Int) + 2 := by omega
    have e := at_most_v (h b (by simp)).1 hw (by omega)
    have i2 := ixD_last2 ((Clip.mir r).map pt) (pt (Clip.sw b)) (pt (Clip.sw a))
    have hc : evT clipped_T (.and (.cmp .ge (.olen 2) (.int 2)) (.call 0 (.cons (.ix (.oix 2 (.neg (.int 2))) (.int 1)) (.cons (.var 4) .nil)))) [c, p0, some (.o ((Clip.mir r).map pt ++ [pt (Clip.sw b), pt (Clip.sw a)])), some (.v (fq l)), some (.v (fq w))] = .ok (decide (b.1 ≤ w)) := by
      simp [l2, i2]
      simp [pt, Clip.sw, e, truD]
    rw [hc]
    by_cases z : b.1 ≤ w
    · have sl := slD_init ((Clip.mir r).map pt ++ [pt (Clip.sw b)]) (pt (Clip.sw a))
      rw [List.append_assoc] at sl
      have hw2 : ex clipped_T clipped_W2 [c, p0, some (.o ((Clip.mir r).map pt ++ [pt (Clip.sw b), pt (Clip.sw a)])), some (.v (fq l)), some (.v (fq w))] = .nx [c, p0, some (.o ((Clip.mir (b :: r)).map pt)), some (.v (fq l)), some (.v (fq w))] := by
        simp at sl
        rw [mir1]
        simp [clipped_W2, frzE, partD, sl]
      rw [hw2]
      have e2 : Clip.dropL w (a :: b :: r) = Clip.dropL w (b :: r) := by
        show (if b.1 ≤ w then Clip.dropL w (b :: r) else a :: b :: r) = _
        rw [if_pos z]
      rw [e2]
      simpa [z, clipped_L2, ex_while] using ih
    · have e2 : Clip.dropL w (a :: b :: r) = a :: b :: r := by
        show (if b.1 ≤ w then Clip.dropL w (b :: r) else a :: b :: r) = _
        rw [if_neg z]
      rw [e2, mir2]
      simp [z]
theorem dropL_cases (x : Rat) : ∀ t : List Pt, t ≠ [] → ∃ pre a r, Clip.dropL x t = a :: r ∧ t = pre ++ a :: r
  | [], h => absurd rfl h
  | [a], _ => ⟨[], a, [], rfl, rfl⟩
  | a :: b :: r, _ => by
    unfold Clip.dropL
    split
    · obtain ⟨pre, a', r', e1, e2⟩ := dropL_cases x (b :: r) (by simp)
      exact ⟨a :: pre, a', r', e1, by rw [e2]; rfl⟩
    · exact ⟨[], a, b :: r, rfl, rfl⟩
theorem setD_0 (a d : D) (xs : List D) : setD (a :: xs) (.int 0) d = .ok (d :: xs) := by
  have e : L2.ixN (a :: xs).length 0 = some 0 := by unfold L2.ixN; rw [if_pos (by omega), if_pos (by simp)]; rfl
  simp only [setD, e]
  rfl
theorem setD_last (a d : D) (xs : List D) : setD (xs ++ [a]) (.int (-1)) d = .ok (xs ++ [d]) := by
  have e : L2.ixN (xs ++ [a]).length (-1) = some xs.length := by
    unfold L2.ixN
    rw [if_neg (by omega), if_pos (by simp; omega)]
    congr 1
    simp; omega
  simp only [setD, e]
  simp
/-- the left end is set -/
theorem left_if (c p0 : Option Sl) (hl : Sz K l) (hK : 8 * K ≤ 8700) {a : Pt} {r : List Pt} (h : ∀ p ∈ a :: r, SzP K p) (h1 : r = [] → l ≤ a.1) (hne : ∀ b r', r = b :: r' → b.1 ≠ a.1) :
    ex clipped_T (.ife (.call 1 (.cons (.ix (.oix 2 (.int 0)) (.int 0)) (.cons (.var 3) .nil))) (.cons (.asgIx 2 (.int 0) (.tup (.cons (.var 3) (.cons (.call 2 (.cons (.oix 2 (.int 0)) (.cons (.oix 2 (.int 1)) (.cons (.var 3) .nil)))) .nil)))) .nil) .nil) [c, p0, some (.o ((a :: r).map pt)), some (.v (fq l)), some (.v (fq w))] =
      .nx [c, p0, some (.o ((Clip.fixL l (a :: r)).map pt)), some (.v (fq l)), some (.v (fq w))] := by
  have e := below_v (h a (by simp)).1 hl (by omega)
  cases r with
  | nil =>
    have := h1 rfl
    have z : ¬ a.1 < l := by grind
    simp [pt, e, z, truD, Clip.fixL]
  | cons b r =>
    have eF : Clip.fixL l (a :: b :: r) = if a.1 < l then (l, Clip.yAt a b l) :: b :: r else a :: b :: r := rfl
    rw [eF]
    obtain ⟨y1, _⟩ := y_at_v (h a (by simp)) (h b (by simp)) hl hK (hne b r rfl)
    by_cases z : a.1 < l
    · have y2 : y_at_F [.tup [fq a.1, fq a.2], .tup [fq b.1, fq b.2], fq l] = .ok (fq (Clip.yAt a b l)) := y1
      simp [pt, e, z, truD, y2, setD_0]
    · simp [pt, e, z, truD]
theorem xAt_yAt {a b : Pt} (h : a.1 ≠ b.1) (w : Rat) : Clip.xAt (Clip.sw b) (Clip.sw a) w = Clip.yAt a b w := by
  unfold Clip.xAt Clip.yAt Clip.sw
  have h1 : a.1 - b.1 ≠ 0 := by grind
  have h2 : b.1 - a.1 ≠ 0 := by grind
  grind
theorem right_if (c p0 : Option Sl) (hw : Sz K w) (hK : 8 * K ≤ 8700) {a : Pt} {r : List Pt} (h : ∀ p ∈ a :: r, SzP K p) (h1 : r = [] → w ≤ a.1) (hne : ∀ b r', r = b :: r' → a.1 ≠ b.1) :
    ex clipped_T (.ife (.call 1 (.cons (.ix (.oix 2 (.neg (.int 1))) (.int 1)) (.cons (.var 4) .nil))) (.cons (.asgIx 2 (.neg (.int 1)) (.tup (.cons (.call 3 (.cons (.oix 2 (.neg (.int 2))) (.cons (.oix 2 (.neg (.int 1))) (.cons (.var 4) .nil)))) (.cons (.var 4) .nil)))) .nil) .nil) [c, p0, some (.o ((Clip.mir (a :: r)).map pt)), some (.v (fq l)), some (.v (fq w))] =
      .nx [c, p0, some (.o ((Clip.mir (Clip.fixL w (a :: r))).map pt)), some (.v (fq l)), some (.v (fq w))] := by
  have e := below_v (h a (by simp)).1 hw (by omega)
  have i1 := ixD_last ((Clip.mir r).map pt) (pt (Clip.sw a))
  cases r with
  | nil =>
    have := h1 rfl
    have z : ¬ a.1 < w := by grind
    rw [mir1]
    have eF : Clip.fixL w [a] = [a] := rfl
    rw [eF, mir1]
    simp [i1]
    simp [pt, Clip.sw, e, z, truD]
  | cons b r =>
    have eF : Clip.fixL w (a :: b :: r) = if a.1 < w then (w, Clip.yAt a b w) :: b :: r else a :: b :: r := rfl
    rw [eF]
    have sa := h a (by simp)
    have sb := h b (by simp)
    have hn := hne b r rfl
    obtain ⟨y1, _⟩ := x_at_v (a := Clip.sw b) (b := Clip.sw a) (x := w) ⟨sb.2, sb.1⟩ ⟨sa.2, sa.1⟩ hw hK hn
    rw [xAt_yAt hn] at y1
    have i2 := ixD_last2 ((Clip.mir r).map pt) (pt (Clip.sw b)) (pt (Clip.sw a))
    have i3 := ixD_last1 ((Clip.mir r).map pt) (pt (Clip.sw b)) (pt (Clip.sw a))
    have st := setD_last (pt (Clip.sw a)) (pt (Clip.sw (w, Clip.yAt a b w))) ((Clip.mir r).map pt ++ [pt (Clip.sw b)])
    rw [List.append_assoc, List.append_assoc] at st
    have e' : below_F [fq (Clip.sw a).2, fq w] = .ok (.bl (decide (a.1 < w))) := e
    have p1 : ixD (pt (Clip.sw a)) (.int 1) = .ok (fq (Clip.sw a).2) := by simp [pt]
    by_cases z : a.1 < w
    · rw [if_pos z, mir2, mir2]
      have pe : D.tup [fq (Clip.yAt a b w), fq w] = pt (Clip.sw (w, Clip.yAt a b w)) := rfl
      simp [i2, i3, p1, e', z, truD, y1]
      rw [pe]
      simp at st
      simp [st]
    · rw [if_neg z, mir2]
      simp [i3, p1, e', z, truD]
end
end Pg
/-! # G6: clipped, Problem(..) -/
namespace Pg
open PySem Rf
theorem chain_len {L C : List Pt} (h : ChainOk L C) : C ≠ [] := by
  obtain ⟨c, r, e, _⟩ := h.top
  rw [e]; simp
/-- behind the cut at the left -/
theorem left_ok {L t : List Pt} {l w : Rat} (h : ChainOk L t) (hap : (l, w) ∈ L) : ∃ a r z, Clip.cutL l t = a :: r ∧ Clip.Edges L (a :: r) ∧ Clip.Bent (a :: r) ∧ w ≤ a.2 ∧ t.getLast? = some z ∧ l ≤ z.1 := by
  obtain ⟨z, hz, hlast⟩ := h.last
  obtain ⟨c0, r0, h0, htop⟩ := h.top
  have hlz : l ≤ z.1 := by have := hlast _ hap; simp at this; grind
  obtain ⟨a, r, e1, k1, k2, k3, k4, k5, _, k8⟩ := Clip.cutL_spec (l := l) h.edges h.bent hz hlz
  refine ⟨a, r, z, e1, k1, k2, ?_, hz, hlz⟩
  rcases k8 with y | ⟨_, y⟩
  · cases r with
    | nil =>
      simp at k3; subst k3
      have := hlast _ hap
      simp at this
      grind
    | cons b r =>
      have o := k1.1.over _ hap
      have f := k1.1.1
      unfold Clip.turn at o
      simp only at o
      have : 0 ≤ (b.1 - a.1) * (a.2 - w) := by grind
      have := Clip.nonneg_of (show 0 < b.1 - a.1 by grind) this
      grind
  · rw [h0] at y
    cases y
    exact htop _ hap
theorem fixL_sz {K : Nat} {l : Rat} {a : Pt} {r : List Pt} (h : ∀ p ∈ a :: r, SzP K p) (hl : Sz K l) (hK : 8 * K ≤ 8700) (hne : ∀ b r', r = b :: r' → b.1 ≠ a.1) : ∀ p ∈ Clip.fixL l (a :: r), SzP (7 * K + 4) p := by
  have up : ∀ p ∈ a :: r, SzP (7 * K + 4) p := fun p hp => ⟨(h p hp).1.mono (by omega), (h p hp).2.mono (by omega)⟩
  cases r with
  | nil => exact up
  | cons b r =>
    have eF : Clip.fixL l (a :: b :: r) = if a.1 < l then (l, Clip.yAt a b l) :: b :: r else a :: b :: r := rfl
    rw [eF]
    obtain ⟨_, y2⟩ := y_at_v (h a (by simp)) (h b (by simp)) hl hK (hne b r rfl)
    split
    · intro p hp
      rcases List.mem_cons.mp hp with y | y
      · subst y; exact ⟨hl.mono (by omega), y2⟩
      · exact up p (List.mem_cons_of_mem _ y)
    · exact up
theorem fixL_len (l : Rat) (t : List Pt) : (Clip.fixL l t).length = t.length := by
  match t with
  | [] => rfl
  | [_] => rfl
  | a :: b :: r =>
    have eF : Clip.fixL l (a :: b :: r) = if a.1 < l then (l, Clip.yAt a b l) :: b :: r else a :: b :: r := rfl
    rw [eF]; split <;> rfl
theorem dropL_len (l : Rat) : ∀ t : List Pt, (Clip.dropL l t).length ≤ t.length
  | [] => Nat.le_refl _
  | [_] => Nat.le_refl _
  | a :: b :: r => by
    unfold Clip.dropL
    split
    · exact Nat.le_succ_of_le (dropL_len l (b :: r))
    · exact Nat.le_refl _
theorem cut_len (l w : Rat) (t : List Pt) : (Clip.cutR w (Clip.cutL l t)).length ≤ t.length := by
  unfold Clip.cutR Clip.cutL Clip.mir
  rw [List.length_reverse, List.length_map, fixL_len]
  have h1 := dropL_len w ((Clip.fixL l (Clip.dropL l t)).map Clip.sw).reverse
  rw [List.length_reverse, List.length_map, fixL_len] at h1
  exact Nat.le_trans h1 (dropL_len l t)
section
variable {K : Nat} {L C : List Pt} {l w : Rat}
theorem clipped_v (hC : ChainOk L C) (hap : (l, w) ∈ L) (hsz : ∀ p ∈ C, SzP K p) (hl : Sz K l) (hw : Sz K w) (hK : 8 * (7 * K + 4) ≤ 8700) (hlen : C.length ≤ 1000) :
    clipped_F [.lst (C.map pt), pt (l, w)] = .ok (.lst ((Clip.cutR w (Clip.cutL l C)).map pt)) ∧ ∀ p ∈ Clip.cutR w (Clip.cutL l C), SzP (7 * (7 * K + 4) + 4) p := by
  obtain ⟨a1, r1, z, e1, k1, k2, haw, hz, hlz⟩ := left_ok hC hap
  -- the left
  obtain ⟨a, r, d1, d2, _, _, ⟨pre, d5⟩, _⟩ := Clip.dropL_spec (l := l) hC.edges hC.bent (chain_len hC)
  have hlast : (a :: r).getLast? = some z := by
    rw [d5, List.getLast?_append] at hz
    simpa using hz
  have hr1 : r = [] → l ≤ a.1 := fun e => by subst e; simp at hlast; subst hlast; exact hlz
  have hne : ∀ b r', r = b :: r' → b.1 ≠ a.1 := fun b r' e => by subst e; have := d2.1.1; grind
  have hs1 : ∀ p ∈ a :: r, SzP K p := fun p hp => hsz p (by rw [d5]; exact List.mem_append_right _ hp)
  have x1 := left_L (w := w) (some (.v (.lst (C.map pt)))) (some (.v (pt (l, w)))) hl (by omega) C hsz
  rw [d1] at x1
  have x2 := left_if (w := w) (some (.v (.lst (C.map pt)))) (some (.v (pt (l, w)))) hl (by omega) hs1 hr1 hne
  have eL : Clip.fixL l (a :: r) = a1 :: r1 := by rw [← d1]; exact e1
  have hs2 : ∀ p ∈ a1 :: r1, SzP (7 * K + 4) p := by rw [← eL]; exact fixL_sz hs1 hl (by omega) hne
  rw [eL] at x2
  -- the right
  have hM : ∀ p ∈ Clip.mir (a1 :: r1), SzP (7 * K + 4) p := fun p hp => by
    unfold Clip.mir at hp
    rw [List.mem_reverse] at hp
    have := hs2 _ (Clip.mem_sw hp)
    exact ⟨this.2, this.1⟩
  have hMne : Clip.mir (a1 :: r1) ≠ [] := by simp [Clip.mir]
  obtain ⟨m1, m2⟩ := Clip.mir_ok k1 k2
  obtain ⟨b, s, g1, g2, _, _, ⟨pre2, g5⟩, _⟩ := Clip.dropL_spec (l := w) m1 m2 hMne
  have hlast2 : (b :: s).getLast? = some (Clip.sw a1) := by
    have : (Clip.mir (a1 :: r1)).getLast? = some (Clip.sw a1) := by simp [Clip.mir]
    rw [g5, List.getLast?_append] at this
    simpa using this
  have hr2 : s = [] → w ≤ b.1 := fun e => by subst e; simp at hlast2; subst hlast2; exact haw
  have hne2 : ∀ b' r', s = b' :: r' → b.1 ≠ b'.1 := fun b' r' e => by subst e; have := g2.1.1; grind
  have hs3 : ∀ p ∈ b :: s, SzP (7 * K + 4) p := fun p hp => hM p (by rw [g5]; exact List.mem_append_right _ hp)
  have hw' : Sz (7 * K + 4) w := hw.mono (by omega)
  have x3 := right_L (l := l) (some (.v (.lst (C.map pt)))) (some (.v (pt (l, w)))) hw' (by omega) (Clip.mir (a1 :: r1)) hM
  rw [Clip.mir_mir, g1] at x3
  have x4 := right_if (l := l) (some (.v (.lst (C.map pt)))) (some (.v (pt (l, w)))) hw' hK hs3 hr2 hne2
  have eT : Clip.cutR w (Clip.cutL l C) = Clip.mir (Clip.fixL w (b :: s)) := by
    unfold Clip.cutR
    rw [e1, ← g1]
    rfl
  rw [eT]
  refine ⟨?_, fun p hp => ?_⟩
  · have e3 : ex clipped_T clipped_B [some (.v (.lst (C.map pt))), some (.v (pt (l, w))), none, none, none] = .rt (.lst ((Clip.mir (Clip.fixL w (b :: s))).map pt)) := by
      have u : setT (.tup (.cons (.name 3) (.cons (.name 4) .nil))) (pt (l, w)) [some (.v (.lst (C.map pt))), some (.v (pt (l, w))), none, none, none] = some [some (.v (.lst (C.map pt))), some (.v (pt (l, w))), none, some (.v (fq l)), some (.v (fq w))] := by simp [pt]
      rw [clipped_B]
      simp only [ex_cons, ex_asg, ev_var, getV_zero, getV_succ, Out.of_ok, u, andThen_nx, ex_asgO, ev_bi, evs_cons, evs_nil, R.bind_ok, bi_listL, List.set, x1, x2, x3, x4, ex_frz, frzE, ex_ret, andThen_rt]
      simp [frzE]
    rw [clipped_F, runFn_out (np := 2) (nn := 5) rfl rfl e3, outR_rt]
  · unfold Clip.mir at hp
    rw [List.mem_reverse] at hp
    have := fixL_sz hs3 hw' hK (fun b' r' e => (hne2 b' r' e).symm) _ (Clip.mem_sw hp)
    exact ⟨this.2, this.1⟩
end
/-! ### the class -/
theorem setN_0 {at_ : List (Str × Str)} {p : Nat} {c f : Str} {d : D} {fs : List (Str × D)} {env : Rf.Env} (h : (c, f) ∈ at_) (hl : fs.length < 900) : setN at_ 0 f d (some (.n p c fs) :: env) = .nx (some (.n p c (putD f d fs)) :: env) := by
  unfold setN
  simp only [List.getElem?_cons_zero, if_pos (And.intro h hl), List.set_cons_zero]
def probD (ap : Pt) (T : List Pt) : D := .obj "Problem" [("apart", pt ap), ("frontier", .tup (T.map pt))]
def Flat (ap : Pt) (T : List Pt) : Prop := ∃ a, T = [a] ∧ (a.1 = ap.1 ∨ a.2 = ap.2)
/-- the frontier of apart, corners -/
def front (ap : Pt) (cs : List Pt) : List Pt := Clip.cutR ap.2 (Clip.cutL ap.1 (upperPts (ap :: cs)))
theorem front_res (ap : Pt) (cs : List Pt) : Clip.Res (ap :: cs) ap.1 ap.2 (front ap cs) := by
  have h := upper_ok (ps := ap :: cs) (by simp)
  obtain ⟨c0, r0, h0, ht⟩ := h.top
  obtain ⟨z, hz, hl⟩ := h.last
  exact Clip.clip_res h.edges h.bent h.sub h0 ht hz hl (by simp)
theorem upperPts_len (ps : List Pt) : (upperPts ps).length ≤ ps.length := by
  unfold upperPts
  rw [List.length_map]
  have := upper_len (sorted ps)
  simpa [sorted, spots] using this
theorem front_len (ap : Pt) (cs : List Pt) : (front ap cs).length ≤ cs.length + 1 := by
  have h1 := cut_len ap.1 ap.2 (upperPts (ap :: cs))
  have h2 := upperPts_len (ap :: cs)
  simp at h2
  unfold front
  omega
open Classical in
theorem init_v {K : Nat} {ap : Pt} {cs : List Pt} {d : D} (hd : d = .lst (cs.map pt) ∨ d = .tup (cs.map pt)) (hsz : ∀ p ∈ ap :: cs, SzP K p) (hK : 8 * (7 * K + 4) ≤ 8700) (hlen : cs.length ≤ 60) :
    Problem_init_F [pt ap, d] = (if Flat ap (front ap cs) then .err ⟨"NoGain", []⟩ else .ok (probD ap (front ap cs))) := by
  have hC := upper_ok (ps := ap :: cs) (by simp)
  have hl60 : (ap :: cs).length * K ≤ 61 * 155 := Nat.mul_le_mul (by simp; omega) (by omega)
  have e1 := upper_chain_v hsz (by omega) (by omega) (by simp; omega)
  have hsC : ∀ p ∈ upperPts (ap :: cs), SzP K p := fun p hp => hsz p (hC.sub p hp)
  have hap := hsz ap (by simp)
  have hlC := upperPts_len (ap :: cs)
  obtain ⟨e2, s2⟩ := clipped_v (l := ap.1) (w := ap.2) hC (by simp) hsC hap.1 hap.2 hK (by simp at hlC; omega)
  have e2' : clipped_F [.lst ((upperPts (ap :: cs)).map pt), pt ap] = .ok (.lst ((front ap cs).map pt)) := e2
  have hne : front ap cs ≠ [] := by
    obtain ⟨a, r, e, _⟩ := (front_res ap cs).left
    rw [e]; simp
  have eb : biF .list [d] = .ok (.lst (cs.map pt)) := by rcases hd with h | h <;> subst h <;> simp
  have cat : bop .add (.lst [pt ap]) (.lst (cs.map pt)) = .ok (.lst ((ap :: cs).map pt)) := by
    simp [bop]
    rw [okLen_small (by omega)]
  refine runInit_of fun p0 => ?_
  have l3 : ex Problem_init_T (.asg (.name 3) (.call 1 (.cons (.call 0 (.cons (.bin .add (.lst (.cons (.var 1) .nil)) (.bi .list (.cons (.var 2) .nil))) .nil)) (.cons (.var 1) .nil)))) [some (.n p0 "Problem" []), some (.v (pt ap)), some (.v d), none] =
      .nx [some (.n p0 "Problem" []), some (.v (pt ap)), some (.v d), some (.v (.lst ((front ap cs).map pt)))] := by
    have g1 : getV [some (Sl.n p0 "Problem" []), some (.v (pt ap)), some (.v d), none] 1 = .ok (pt ap) := rfl
    have g2 : getV [some (Sl.n p0 "Problem" []), some (.v (pt ap)), some (.v d), none] 2 = .ok d := rfl
    simp only [ex_asg, ev_call, evs_cons, evs_nil, ev_bin, ev_lst, ev_bi, ev_var, g1, g2, R.bind_ok, Problem_init_fn0, Problem_init_fn1, eb, List.length, okLen_small (show 0 + 1 ≤ 16777216 by omega), if_true, cat, e1, e2', Out.of_ok, setT_name, List.set]
  cases hT : front ap cs with
  | nil => exact absurd hT hne
  | cons t r =>
    rw [hT] at l3
    have g1 : ∀ y, getV [some (Sl.n p0 "Problem" []), some (.v (pt ap)), some (.v d), y] 1 = .ok (pt ap) := fun y => rfl
    have g3 : ∀ s y, getV [s, some (.v (pt ap)), some (.v d), some (.v y)] 3 = .ok y := fun s y => rfl
    have hc : evT Problem_init_T (.and (.cmp .eq (.bi .len (.cons (.var 3) .nil)) (.int 1)) (.or (.cmp .eq (.ix (.ix (.var 3) (.int 0)) (.int 0)) (.ix (.var 1) (.int 0))) (.cmp .eq (.ix (.ix (.var 3) (.int 0)) (.int 1)) (.ix (.var 1) (.int 1))))) [some (.n p0 "Problem" []), some (.v (pt ap)), some (.v d), some (.v (.lst ((t :: r).map pt)))] = .ok (decide (Flat ap (t :: r))) := by
      have key : Flat ap (t :: r) ↔ (r = [] ∧ (t.1 = ap.1 ∨ t.2 = ap.2)) := by
        unfold Flat
        constructor
        · rintro ⟨a, e, h⟩
          cases e
          exact ⟨rfl, h⟩
        · rintro ⟨rfl, h⟩
          exact ⟨t, rfl, h⟩
      have len : biF .len [D.lst ((t :: r).map pt)] = .ok (.int ((r.length : Int) + 1)) := by simp
      simp only [evT_and, evT_cmp, evT_or, ev_bi, evs_cons, evs_nil, ev_var, g1, g3, R.bind_ok, len, ev_int, cop_eq_int, ev_ix, List.map_cons, ixL0]
      by_cases hr : r = []
      · subst hr
        have e : decide (Flat ap [t]) = (decide (t.1 = ap.1) || decide (t.2 = ap.2)) := by
          rw [Bool.eq_iff_iff]
          simp [key]
        rw [e]
        simp [pt, asB]
        by_cases q : t.1 = ap.1 <;> simp [q]
      · have e : decide (Flat ap (t :: r)) = false := by
          rw [decide_eq_false_iff_not, key]
          exact fun z => hr z.1
        have q : ¬ ((r.length : Int) + 1 = 1) := by
          have : r.length ≠ 0 := fun z => hr (List.length_eq_zero_iff.mp z)
          omega
        rw [e]
        simp [q, asB]
    have eB : ex Problem_init_T Problem_init_B [some (.n p0 "Problem" []), some (.v (pt ap)), some (.v d), none] = if Flat ap (t :: r) then .err ⟨"NoGain", []⟩ [some (.n p0 "Problem" []), some (.v (pt ap)), some (.v d), some (.v (.lst ((t :: r).map pt)))]
        else .nx [some (.n p0 "Problem" [("apart", pt ap), ("frontier", .tup ((t :: r).map pt))]), some (.v (pt ap)), some (.v d), some (.v (.lst ((t :: r).map pt)))] := by
      rw [Problem_init_B, ex_cons, l3, andThen_nx, ex_cons, ex_ife, hc, Out.of_ok]
      by_cases h : Flat ap (t :: r)
      · simp [h]
      · have s1 : setN Problem_init_T.at_ 0 "apart" (pt ap) [some (.n p0 "Problem" []), some (.v (pt ap)), some (.v d), some (.v (.lst ((t :: r).map pt)))] = .nx [some (.n p0 "Problem" [("apart", pt ap)]), some (.v (pt ap)), some (.v d), some (.v (.lst ((t :: r).map pt)))] := by
          rw [setN_0 Problem_init_at0 (by decide)]
          rfl
        have s2 : setN Problem_init_T.at_ 0 "frontier" (.tup ((t :: r).map pt)) [some (.n p0 "Problem" [("apart", pt ap)]), some (.v (pt ap)), some (.v d), some (.v (.lst ((t :: r).map pt)))] = .nx [some (.n p0 "Problem" [("apart", pt ap), ("frontier", .tup ((t :: r).map pt))]), some (.v (pt ap)), some (.v d), some (.v (.lst ((t :: r).map pt)))] := by
          rw [setN_0 Problem_init_at1 (by show 1 < 900; decide)]
          rfl
        have g1' : ∀ s y, getV [s, some (.v (pt ap)), some (.v d), y] 1 = .ok (pt ap) := fun s y => rfl
        rw [if_neg h]
        simp only [h, decide_false, Bool.false_eq_true, if_false, ex_nil, andThen_nx, ex_cons, ex_setA, ev_var, g1', Out.of_ok, s1, ev_bi, evs_cons, evs_nil, g3, R.bind_ok, bi_tupL, s2]
    have e0 : (some (Sl.n p0 "Problem" []) :: (List.map (fun d => some (Sl.v d)) [pt ap, d] ++ List.replicate (4 - (2 + 1)) none)) = [some (.n p0 "Problem" []), some (.v (pt ap)), some (.v d), none] := rfl
    unfold initP
    rw [if_pos (show [pt ap, d].length = 2 from rfl), e0, eB]
    by_cases h : Flat ap (t :: r)
    · simp [h]
    · simp [h, probD]
end Pg
/-! # F5: sizes found by instances -/
namespace Rf
open PySem
class Bic (i : Int) (k : outParam Nat) : Prop where lt : i.natAbs < 2 ^ k
class Szc (q : Rat) (k : outParam Nat) : Prop where sz : Sz k q
theorem two_le_pow {j k : Nat} (h : j ≤ k) : 2 ^ j ≤ 2 ^ k := Nat.pow_le_pow_right (by decide) h
section
variable {i j : Int} {k l : Nat}
theorem Bic.mono [h : Bic i k] (hl : k ≤ l) : i.natAbs < 2 ^ l := Nat.lt_of_lt_of_le h.lt (two_le_pow hl)
theorem bmax (hi : Bic i k) (hj : Bic j l) : i.natAbs < 2 ^ (max k l) ∧ j.natAbs < 2 ^ (max k l) :=
  ⟨Nat.lt_of_lt_of_le hi.lt (two_le_pow (Nat.le_max_left _ _)), Nat.lt_of_lt_of_le hj.lt (two_le_pow (Nat.le_max_right _ _))⟩
instance [hi : Bic i k] [hj : Bic j l] : Bic (i + j) (max k l + 1) := ⟨(sum_lt (bmax hi hj).1 (bmax hi hj).2).1⟩
instance [hi : Bic i k] [hj : Bic j l] : Bic (i - j) (max k l + 1) := ⟨(sum_lt (bmax hi hj).1 (bmax hi hj).2).2⟩
instance [hi : Bic i k] [hj : Bic j l] : Bic (i * j) (k + l) := ⟨mul_na hi.lt hj.lt⟩
instance [hi : Bic i k] : Bic (-i) k := ⟨by rw [Int.natAbs_neg]; exact hi.lt⟩
instance : Bic 0 1 := ⟨by decide⟩
instance : Bic 1 1 := ⟨by decide⟩
instance : Bic 2 2 := ⟨by decide⟩
instance : Bic 3 2 := ⟨by decide⟩
instance : Bic 4 3 := ⟨by decide⟩
instance : Bic 5 3 := ⟨by decide⟩
instance : Bic 6 3 := ⟨by decide⟩
instance : Bic 7 3 := ⟨by decide⟩
instance : Bic 8 4 := ⟨by decide⟩
instance : Bic 9 4 := ⟨by decide⟩
instance : Bic 10 4 := ⟨by decide⟩
instance : Bic 11 4 := ⟨by decide⟩
instance : Bic 12 4 := ⟨by decide⟩
instance : Bic 13 4 := ⟨by decide⟩
instance : Bic 16 5 := ⟨by decide⟩
instance : Bic 18 5 := ⟨by decide⟩
instance : Bic 24 5 := ⟨by decide⟩
instance : Bic 30 5 := ⟨by decide⟩
instance : Bic 36 6 := ⟨by decide⟩
instance : Bic 40 6 := ⟨by decide⟩
instance : Bic 48 6 := ⟨by decide⟩
instance : Bic 60 6 := ⟨by decide⟩
instance : Bic 97 7 := ⟨by decide⟩
instance : Bic 100 7 := ⟨by decide⟩
instance : Bic 144 8 := ⟨by decide⟩
instance : Bic 1000 10 := ⟨by decide⟩
instance : Bic 64000 16 := ⟨by decide⟩
instance : Bic 100000 17 := ⟨by decide⟩
theorem bpos (h : Bic i k) (hi : i ≠ 0) : 0 < k := by
  rcases Nat.eq_zero_or_pos k with z | z
  · subst z; have := h.lt; simp at this; omega
  · exact z
theorem okMul_c (hi : Bic i k) (hj : Bic j l) (h : k + l ≤ 90000000) : okMul i j = true := by
  refine okMul_of (m := k + 1) (n := l + 1) (Nat.lt_of_lt_of_le hi.lt (two_le_pow (by omega))) (Nat.lt_of_lt_of_le hj.lt (two_le_pow (by omega))) (by omega) (by omega) (by omega)
theorem mul_c [hi : Bic i k] [hj : Bic j l] (h : k + l ≤ 90000000) : bop .mul (.int i) (.int j) = .ok (.int (i * j)) := bop_mul (okMul_c hi hj h)
theorem okDiv_c (hj : Bic j k) (h0 : j ≠ 0) (h : k ≤ 8999) : okDiv j = true := okDiv_of (n := k + 1) (Nat.lt_of_lt_of_le hj.lt (two_le_pow (by omega))) h0 (by omega) (by omega)
theorem fdiv_c [hj : Bic j k] (h0 : j ≠ 0) (h : k ≤ 8999) : bop .fdiv (.int i) (.int j) = .ok (.int (i.fdiv j)) := bop_fdiv (okDiv_c hj h0 h)
theorem mod_c (h0 : j ≠ 0) : bop .mod (.int i) (.int j) = .ok (.int (i.fmod j)) := bop_mod h0
theorem bic_of {a : Int} (h0 : 0 ≤ a) (h1 : a < 2 ^ k) : Bic a k := ⟨by
  have e : ((a.natAbs : Nat) : Int) = a := by omega
  have : ((a.natAbs : Nat) : Int) < ((2 ^ k : Nat) : Int) := by rw [e]; simpa using h1
  exact Int.ofNat_lt.mp this⟩
end
section
variable {a b : Rat} {j k : Nat}
instance [ha : Szc a j] [hb : Szc b k] : Szc (a + b) (j + k + 1) := ⟨ha.sz.add hb.sz⟩
instance [ha : Szc a j] [hb : Szc b k] : Szc (a - b) (j + k + 1) := ⟨ha.sz.sub hb.sz⟩
instance [ha : Szc a j] [hb : Szc b k] : Szc (a * b) (j + k) := ⟨ha.sz.mul hb.sz⟩
theorem Sz.pos' (ha : Sz k a) : 0 < k := by
  rcases Nat.eq_zero_or_pos k with h | h
  · subst h
    have := ha.2
    have := a.den_pos
    simp at *
    omega
  · exact h
instance [ha : Szc a j] [hb : Szc b k] : Szc (a / b) (j + k) := ⟨by
  by_cases h : b = 0
  · subst h
    have e : a / 0 = 0 := by rw [Rat.div_def, Rat.inv_zero, Rat.mul_zero]
    rw [e]
    exact Sz.zero.mono (by have := Sz.pos' ha.sz; omega)
  · exact ha.sz.div hb.sz h⟩
instance [ha : Szc a j] : Szc (-a) j := ⟨ha.sz.neg⟩
instance : Szc 0 1 := ⟨Sz.zero⟩
instance : Szc 1 1 := ⟨Sz.one⟩
instance {i : Int} [hi : Bic i k] : Szc (i : Rat) (k + 1) := ⟨Sz.int (Nat.lt_of_lt_of_le hi.lt (two_le_pow (by omega))) (by omega)⟩
end
/-! ### ints in a list -/
theorem ix_ints {row : List Int} {i : Int} (h0 : 0 ≤ i) (h : i.toNat < row.length) : ixD (.lst (row.map D.int)) (.int i) = .ok (.int (row.getD i.toNat 0)) := by
  have := ixD_nat (xs := row.map D.int) (i := i.toNat) (d := .int (row.getD i.toNat 0)) (by simp [h])
  rwa [Int.toNat_of_nonneg h0] at this
end Rf
/-! # N1: fracs.py and points.py, sizes by instances -/
namespace Pg
open PySem Rf
section
variable {a b : Rat} {j k : Nat}
theorem plus_s [ha : Szc a j] [hb : Szc b k] (h : j + k ≤ 8800) : plus_F [fq a, fq b] = .ok (fq (a + b)) := plus_v ha.sz hb.sz h
theorem minus_s [ha : Szc a j] [hb : Szc b k] (h : j + k ≤ 8800) : minus_F [fq a, fq b] = .ok (fq (a - b)) := minus_v ha.sz hb.sz h
theorem times_s [ha : Szc a j] [hb : Szc b k] (h : j + k ≤ 8800) : times_F [fq a, fq b] = .ok (fq (a * b)) := times_v ha.sz hb.sz h
theorem over_s [ha : Szc a j] [hb : Szc b k] (h : j + k ≤ 8800) (h0 : b ≠ 0) : over_F [fq a, fq b] = .ok (fq (a / b)) := over_v ha.sz hb.sz h h0
theorem below_s [ha : Szc a j] [hb : Szc b k] (h : j + k ≤ 8800) : below_F [fq a, fq b] = .ok (.bl (decide (a < b))) := below_v ha.sz hb.sz h
theorem at_most_s [ha : Szc a j] [hb : Szc b k] (h : j + k ≤ 8800) : at_most_F [fq a, fq b] = .ok (.bl (decide (a ≤ b))) := at_most_v ha.sz hb.sz h
end
theorem lowest_s {n d : Int} {j k : Nat} [hn : Bic n j] [hd : Bic d k] (h : 0 < d) (h1 : j ≤ 8900) (h2 : k ≤ 8900) : law_lowest_F [.int n, .int d] = .ok (fq ((n : Rat) / d)) :=
  law_lowest_v n d h (hn.mono h1) (hd.mono h2)
class Spc (p : Pt) (k : outParam Nat) : Prop where sz : SzP k p
instance {p : Pt} {k : Nat} [h : Spc p k] : Szc p.1 k := ⟨h.sz.1⟩
instance {p : Pt} {k : Nat} [h : Spc p k] : Szc p.2 k := ⟨h.sz.2⟩
@[simp] theorem pt_ix0 (p : Pt) : ixD (pt p) (.int 0) = .ok (fq p.1) := ixT0 _ _
@[simp] theorem pt_ix1 (p : Pt) : ixD (pt p) (.int 1) = .ok (fq p.2) := ixT1 _ _ _
theorem pt_mk (a b : Rat) : D.tup [fq a, fq b] = pt (a, b) := rfl
def gapP (p q : Pt) : Pt := (p.1 - q.1, p.2 - q.2)
def addP (p q : Pt) : Pt := (p.1 + q.1, p.2 + q.2)
def ge2 (p q : Pt) : Prop := q.1 ≤ p.1 ∧ q.2 ≤ p.2
instance (p q : Pt) : Decidable (ge2 p q) := by unfold ge2; exact inferInstance
section
variable {p q : Pt} {j k : Nat}
instance [hp : Spc p j] [hq : Spc q k] : Spc (gapP p q) (j + k + 1) := ⟨⟨hp.sz.1.sub hq.sz.1, hp.sz.2.sub hq.sz.2⟩⟩
instance [hp : Spc p j] [hq : Spc q k] : Spc (addP p q) (j + k + 1) := ⟨⟨hp.sz.1.add hq.sz.1, hp.sz.2.add hq.sz.2⟩⟩
theorem gap_s [hp : Spc p j] [hq : Spc q k] (h : j + k ≤ 8800) : gap_F [pt p, pt q] = .ok (pt (gapP p q)) := by
  simp [gap_F, runFn, gap_B, minus_s, h, pt_mk, gapP]
theorem no_worse_s [hp : Spc p j] [hq : Spc q k] (h : j + k ≤ 8800) : no_worse_F [pt p, pt q] = .ok (.bl (decide (ge2 p q))) := by
  have h' : k + j ≤ 8800 := by omega
  by_cases c : q.1 ≤ p.1
  · simp [no_worse_F, runFn, no_worse_B, at_most_s, h', ge2, c]
  · simp [no_worse_F, runFn, no_worse_B, at_most_s, h', ge2, c]
end
end Pg
/-! # M1: bent falling chains: their edges, heights -/
namespace Clip
def Fall : List Pt → Prop
  | a :: b :: r => (a.1 < b.1 ∧ b.2 < a.2) ∧ Fall (b :: r)
  | _ => True
theorem Fall.tail {b : Pt} {r : List Pt} (h : Fall (b :: r)) : Fall r := by
  cases r with
  | nil => trivial
  | cons a r => exact h.2
theorem turn_id (a b c p : Pt) : (c.1 - b.1) * turn a b p = (p.1 - b.1) * turn a b c + (b.1 - a.1) * turn b c p := by unfold turn; grind
theorem nonpos_of {x k : Rat} (hx : 0 < x) (h : x * k ≤ 0) : k ≤ 0 := by
  have := nonneg_of hx (k := -k) (by grind)
  grind
theorem mul_np {x y : Rat} (hx : 0 ≤ x) (hy : y ≤ 0) : x * y ≤ 0 := by
  have := Rat.mul_nonneg hx (show 0 ≤ -y by grind)
  grind
theorem mul_pp {x y : Rat} (hx : 0 ≤ x) (hy : 0 ≤ y) : 0 ≤ x * y := Rat.mul_nonneg hx hy
theorem mul_nn {x y : Rat} (hx : x ≤ 0) (hy : y ≤ 0) : 0 ≤ x * y := by
  have := Rat.mul_nonneg (show 0 ≤ -x by grind) (show 0 ≤ -y by grind)
  grind
/-- what is right of b and below b, c is below a, b -/
theorem turn_back {a b c p : Pt} (ab : a.1 < b.1) (bc : b.1 < c.1) (t : turn a b c < 0) (h1 : b.1 ≤ p.1) (h2 : turn b c p ≤ 0) : turn a b p ≤ 0 := by
  have k := turn_id a b c p
  have p1 := mul_np (show 0 ≤ p.1 - b.1 by grind) (Rat.le_of_lt t)
  have p2 := mul_np (show 0 ≤ b.1 - a.1 by grind) h2
  exact nonpos_of (show 0 < c.1 - b.1 by grind) (by grind)
/-- what is left of b and below a, b is below b, c -/
theorem turn_on {a b c p : Pt} (ab : a.1 < b.1) (bc : b.1 < c.1) (t : turn a b c < 0) (h1 : p.1 ≤ b.1) (h2 : turn a b p ≤ 0) : turn b c p ≤ 0 := by
  have k := turn_id a b c p
  have p1 := mul_nn (show p.1 - b.1 ≤ 0 by grind) (Rat.le_of_lt t)
  have p2 := mul_np (show 0 ≤ c.1 - b.1 by grind) h2
  exact nonpos_of (show 0 < b.1 - a.1 by grind) (by grind)
theorem later : ∀ {r : List Pt} {a b : Pt}, Fall (a :: b :: r) → Bent (a :: b :: r) → ∀ p ∈ r, b.1 < p.1 ∧ p.2 < b.2 ∧ turn a b p ≤ 0
  | [], a, b, _, _, p, hp => nomatch hp
  | c :: r, a, b, hf, hb, p, hp => by
    have f1 := hf.1
    have f2 := hf.2.1
    rcases List.mem_cons.mp hp with y | y
    · subst y
      exact ⟨f2.1, f2.2, Rat.le_of_lt hb.1⟩
    · obtain ⟨i1, i2, i3⟩ := later (a := b) (b := c) hf.2 hb.2 p y
      exact ⟨by grind, by grind, turn_back f1.1 f2.1 hb.1 (by grind) i3⟩
theorem turn_aa (a b : Pt) : turn a b a = 0 := by unfold turn; grind
theorem turn_bb (a b : Pt) : turn a b b = 0 := by unfold turn; grind
theorem edges_self {L : List Pt} : ∀ {t : List Pt}, Fall t → Bent t → (∀ c ∈ t, c ∈ L) → (∀ p ∈ L, p ∈ t ∨ ∀ a b r, t = a :: b :: r → p.1 ≤ b.1 ∧ turn a b p ≤ 0) → Edges L t
  | [], _, _, _, _ => trivial
  | [_], _, _, _, _ => trivial
  | a :: b :: r, hf, hb, hs, h => by
    refine ⟨Edge.self (hs a (by simp)) (hs b (by simp)) hf.1.1 hf.1.2 fun p hp => ?_, edges_self (t := b :: r) hf.2 hb.tail (fun c hc => hs c (List.mem_cons_of_mem _ hc)) fun p hp => ?_⟩
    · rcases h p hp with y | y
      · rcases List.mem_cons.mp y with z | z
        · subst z; rw [turn_aa]; exact Rat.le_refl
        · rcases List.mem_cons.mp z with w | w
          · subst w; rw [turn_bb]; exact Rat.le_refl
          · exact (later hf hb p w).2.2
      · exact (y a b r rfl).2
    · rcases h p hp with y | y
      · rcases List.mem_cons.mp y with z | z
        · subst z
          right
          intro b' c r' e
          cases e
          have f2 := hf.2.1
          exact ⟨by have := hf.1.1; grind, by rw [← turn_cyc b c p, ← turn_cyc c p b]; rw [turn_cyc]; rw [turn_cyc]; rw [turn_cyc p b c]; exact Rat.le_of_lt hb.1⟩
        · exact .inl z
      · right
        intro b' c r' e
        cases e
        obtain ⟨y1, y2⟩ := y a b (c :: r') rfl
        have f2 := hf.2.1
        exact ⟨by grind, turn_on hf.1.1 f2.1 hb.1 y1 y2⟩
theorem fall_all : ∀ {r : List Pt} {a : Pt}, Fall (a :: r) → ∀ p ∈ r, a.1 < p.1 ∧ p.2 < a.2
  | [], a, _, p, hp => nomatch hp
  | b :: r, a, hf, p, hp => by
    have f := hf.1
    rcases List.mem_cons.mp hp with y | y
    · subst y; exact f
    · have := fall_all hf.2 p y
      constructor <;> grind
theorem fall_last : ∀ {t : List Pt} {z : Pt}, Fall t → t.getLast? = some z → ∀ p ∈ t, p = z ∨ (p.1 < z.1 ∧ z.2 < p.2)
  | [], z, _, h, p, hp => nomatch hp
  | [a], z, _, h, p, hp => by
    simp at h hp
    subst h; subst hp
    exact .inl rfl
  | a :: b :: r, z, hf, h, p, hp => by
    rw [List.getLast?_cons_cons] at h
    have ih := fall_last hf.2 h
    rcases List.mem_cons.mp hp with y | y
    · subst y
      have f := hf.1
      rcases ih b (by simp) with w | w
      · subst w; exact .inr ⟨f.1, f.2⟩
      · exact .inr ⟨by grind, by grind⟩
    · exact ih p y
/-- apart is no better than any corner -/
def Base (ap : Pt) (t : List Pt) : Prop := ∀ c ∈ t, ap.1 ≤ c.1 ∧ ap.2 ≤ c.2
theorem turn_base {a b p : Pt} (h1 : a.1 < b.1) (h2 : b.2 < a.2) (k1 : p.1 ≤ a.1) (k2 : p.2 ≤ b.2) : turn a b p ≤ 0 := by
  have p1 := mul_np (show 0 ≤ b.1 - a.1 by grind) (show p.2 - a.2 ≤ 0 by grind)
  have p2 := mul_nn (show b.2 - a.2 ≤ 0 by grind) (show p.1 - a.1 ≤ 0 by grind)
  unfold turn
  grind
theorem conv_edges {ap : Pt} {t : List Pt} (hf : Fall t) (hb : Bent t) (hg : Base ap t) : Edges (ap :: t) t := by
  refine edges_self hf hb (fun c hc => List.mem_cons_of_mem _ hc) fun p hp => ?_
  rcases List.mem_cons.mp hp with y | y
  · subst y
    right
    intro a b r e
    subst e
    have g1 := hg a (by simp)
    have g2 := hg b (by simp)
    exact ⟨g2.1, turn_base hf.1.1 hf.1.2 g1.1 g2.2⟩
  · exact .inl y
theorem conv_ch {ap : Pt} {t : List Pt} (hne : t ≠ []) (hf : Fall t) (hb : Bent t) (hg : Base ap t) : Ch (ap :: t) t := by
  refine ⟨conv_edges hf hb hg, hb, fun c hc => List.mem_cons_of_mem _ hc, ?_⟩
  obtain ⟨z, hz⟩ : ∃ z, t.getLast? = some z := by
    cases h : t.getLast? with
    | none => exact absurd (List.getLast?_eq_none_iff.mp h) hne
    | some z => exact ⟨z, rfl⟩
  refine ⟨z, hz, fun p hp => ?_⟩
  rcases List.mem_cons.mp hp with y | y
  · subst y
    have g := hg z (List.mem_of_getLast? hz)
    rcases lt_or_ge p.1 z.1 with w | w
    · exact .inl w
    · exact .inr ⟨by grind, g.2⟩
  · rcases fall_last hf hz p y with w | w
    · subst w; exact .inr ⟨rfl, Rat.le_refl⟩
    · exact .inl w.1
theorem conv_top {ap a : Pt} {r : List Pt} (hf : Fall (a :: r)) (hg : Base ap (a :: r)) : ∀ p ∈ ap :: a :: r, p.2 ≤ a.2 := by
  intro p hp
  rcases List.mem_cons.mp hp with y | y
  · subst y; exact (hg a (by simp)).2
  · rcases List.mem_cons.mp y with z | z
    · subst z; exact Rat.le_refl
    · exact Rat.le_of_lt (fall_all hf p z).2
theorem cutL_id {l : Rat} {t : List Pt} (h : ∀ a b r, t = a :: b :: r → l ≤ a.1 ∧ l < b.1) : cutL l t = t := by
  match t with
  | [] => rfl
  | [a] => rfl
  | a :: b :: r =>
    obtain ⟨h1, h2⟩ := h a b r rfl
    have e1 : dropL l (a :: b :: r) = a :: b :: r := by
      show (if b.1 ≤ l then dropL l (b :: r) else a :: b :: r) = _
      rw [if_neg (by grind)]
    have e2 : fixL l (a :: b :: r) = a :: b :: r := by
      show (if a.1 < l then (l, yAt a b l) :: b :: r else a :: b :: r) = _
      rw [if_neg (by grind)]
    unfold cutL
    rw [e1, e2]
theorem cut_id {ap : Pt} {t : List Pt} (hf : Fall t) (hb : Bent t) (hg : Base ap t) : cutR ap.2 (cutL ap.1 t) = t := by
  rw [cutL_id (l := ap.1)]
  · unfold cutR
    rw [cutL_id, mir_mir]
    intro a b r e
    have m := (mir_ok (conv_edges hf hb hg) hb).1
    rw [e] at m
    have ha : sw a ∈ t := by
      have : a ∈ mir t := by rw [e]; simp
      unfold mir at this
      rw [List.mem_reverse] at this
      exact mem_sw this
    have g : ap.2 ≤ a.1 := (hg _ ha).2
    exact ⟨g, by have := m.1.1; grind⟩
  · intro a b r e
    subst e
    have g := hg a (by simp)
    exact ⟨g.1, by have := hf.1.1; grind⟩
/-! ### heights -/
def hOn : List Pt → Rat → Rat
  | a :: b :: r, x => if x ≤ a.1 then a.2 else if b.1 < x then hOn (b :: r) x else yAt a b x
  | [a], _ => a.2
  | [], _ => 0
def Turns (p : Pt) : List Pt → Prop
  | a :: b :: r => turn a b p ≤ 0 ∧ Turns p (b :: r)
  | _ => True
theorem turn_mono {a b p q : Pt} (h1 : a.1 < b.1) (h2 : b.2 < a.2) (k1 : p.1 ≤ q.1) (k2 : p.2 ≤ q.2) (h : turn a b q ≤ 0) : turn a b p ≤ 0 := by
  have p1 := mul_np (show 0 ≤ b.1 - a.1 by grind) (show p.2 - q.2 ≤ 0 by grind)
  have p2 := mul_nn (show b.2 - a.2 ≤ 0 by grind) (show p.1 - q.1 ≤ 0 by grind)
  unfold turn at *
  grind
theorem Turns.mono {p q : Pt} (k1 : p.1 ≤ q.1) (k2 : p.2 ≤ q.2) : ∀ {t : List Pt}, Fall t → Turns q t → Turns p t
  | [], _, _ => trivial
  | [_], _, _ => trivial
  | a :: b :: r, hf, h => ⟨turn_mono hf.1.1 hf.1.2 k1 k2 h.1, Turns.mono k1 k2 (t := b :: r) hf.2 h.2⟩
/-- a mixture -/
def mix (p q : Pt) (s : Rat) : Pt := (p.1 + (q.1 - p.1) * s, p.2 + (q.2 - p.2) * s)
theorem turn_mix {a b p q : Pt} {s : Rat} (h0 : 0 ≤ s) (h1 : s ≤ 1) (h : turn a b p ≤ 0) (k : turn a b q ≤ 0) : turn a b (mix p q s) ≤ 0 := by
  have p1 := mul_np (show 0 ≤ 1 - s by grind) h
  have p2 := mul_np h0 k
  unfold turn mix at *
  grind
theorem Turns.mix {p q : Pt} {s : Rat} (h0 : 0 ≤ s) (h1 : s ≤ 1) : ∀ {t : List Pt}, Turns p t → Turns q t → Turns (Clip.mix p q s) t
  | [], _, _ => trivial
  | [_], _, _ => trivial
  | a :: b :: r, h, k => ⟨turn_mix h0 h1 h.1 k.1, Turns.mix h0 h1 (t := b :: r) h.2 k.2⟩
theorem turns_of_edges {L : List Pt} {p : Pt} (hp : p ∈ L) : ∀ {t : List Pt}, Edges L t → Turns p t
  | [], _ => trivial
  | [_], _ => trivial
  | a :: b :: r, h => ⟨h.1.over p hp, turns_of_edges hp (t := b :: r) h.2⟩
/-- each corner is on or below each edge -/
theorem conv_turns {t : List Pt} (hf : Fall t) (hb : Bent t) : ∀ p ∈ t, Turns p t := fun p hp =>
  turns_of_edges (L := t) hp (edges_self hf hb (fun c h => h) fun p hp => .inl hp)
theorem yAt_mix {a b : Pt} {x : Rat} (h : a.1 < b.1) : (x, yAt a b x) = mix a b ((x - a.1) / (b.1 - a.1)) := by
  have : b.1 - a.1 ≠ 0 := by grind
  unfold yAt mix
  refine Prod.ext ?_ rfl
  show x = a.1 + (b.1 - a.1) * ((x - a.1) / (b.1 - a.1))
  grind
theorem share01 {l r x : Rat} (h : l < r) (h1 : l ≤ x) (h2 : x ≤ r) : 0 ≤ (x - l) / (r - l) ∧ (x - l) / (r - l) ≤ 1 := by
  have e : (r - l) * ((x - l) / (r - l)) = x - l := by
    have : r - l ≠ 0 := by grind
    grind
  have p : 0 < r - l := by grind
  constructor
  · exact nonneg_of p (by grind)
  · have := nonneg_of p (k := 1 - (x - l) / (r - l)) (by grind)
    grind
theorem yAt_turn {a b : Pt} {x y : Rat} (h : a.1 < b.1) : y ≤ yAt a b x ↔ turn a b (x, y) ≤ 0 := by
  have e := cut_mul (a := a) (b := b) h x
  have k : turn a b (x, y) = (b.1 - a.1) * (y - yAt a b x) := by
    unfold turn
    grind
  rw [k]
  constructor
  · intro z
    exact mul_np (by grind) (by grind)
  · intro z
    have := nonpos_of (show 0 < b.1 - a.1 by grind) z
    grind
theorem under_turns : ∀ {r : List Pt} {a z : Pt} {x y : Rat}, Fall (a :: r) → Bent (a :: r) → (a :: r).getLast? = some z → x ≤ z.1 → (y ≤ hOn (a :: r) x ↔ y ≤ a.2 ∧ Turns (x, y) (a :: r))
  | [], a, z, x, y, _, _, _, _ => ⟨fun h => ⟨h, trivial⟩, fun h => h.1⟩
  | b :: r, a, z, x, y, hf, hb, hz, hx => by
    have f1 := hf.1
    have ct := conv_turns hf hb
    have e0 : hOn (a :: b :: r) x = if x ≤ a.1 then a.2 else if b.1 < x then hOn (b :: r) x else yAt a b x := rfl
    rw [e0]
    by_cases c1 : x ≤ a.1
    · rw [if_pos c1]
      exact ⟨fun h => ⟨h, Turns.mono (q := a) c1 h hf (ct a (by simp))⟩, fun h => h.1⟩
    · rw [if_neg c1]
      by_cases c2 : b.1 < x
      · rw [if_pos c2]
        rw [List.getLast?_cons_cons] at hz
        have ih := under_turns (y := y) hf.2 hb.tail hz hx
        rw [ih]
        constructor
        · rintro ⟨i1, i2⟩
          refine ⟨by grind, ?_, i2⟩
          cases r with
          | nil => simp at hz; subst hz; grind
          | cons c r => exact turn_back f1.1 hf.2.1.1 hb.1 (by show b.1 ≤ x; grind) i2.1
        · rintro ⟨i1, i2, i3⟩
          refine ⟨?_, i3⟩
          have q := mul_np (show 0 ≤ a.2 - b.2 by grind) (show -(x - b.1) ≤ 0 by grind)
          have k : (b.1 - a.1) * (y - b.2) ≤ 0 := by
            unfold turn at i2
            grind
          have := nonpos_of (show 0 < b.1 - a.1 by grind) k
          grind
      · rw [if_neg c2]
        constructor
        · intro h
          have s := share01 f1.1 (x := x) (by grind) (by grind)
          have m := Turns.mix s.1 s.2 (ct a (by simp)) (ct b (by simp))
          rw [← yAt_mix f1.1] at m
          refine ⟨?_, Turns.mono (p := (x, y)) (q := (x, yAt a b x)) Rat.le_refl h hf m⟩
          have e := cut_mul (a := a) (b := b) f1.1 x
          have q := mul_np (show 0 ≤ x - a.1 by grind) (show b.2 - a.2 ≤ 0 by grind)
          have := nonpos_of (show 0 < b.1 - a.1 by grind) (k := yAt a b x - a.2) (by grind)
          grind
        · rintro ⟨i1, i2, i3⟩
          exact (yAt_turn f1.1).mpr i2
/-! ### units and a shift -/
def aff (v w : Rat) (ap p : Pt) : Pt := (ap.1 + v * p.1, ap.2 + w * p.2)
section
variable {v w : Rat} {ap : Pt}
theorem turn_aff (v w : Rat) (ap a b p : Pt) : turn (aff v w ap a) (aff v w ap b) (aff v w ap p) = v * w * turn a b p := by
  unfold turn aff
  grind
theorem sh_lt (h : 0 < v) {s a b : Rat} : s + v * a < s + v * b ↔ a < b := by
  have := scl_lt h (a := a) (b := b)
  constructor
  · intro z; exact this.mp (by grind)
  · intro z; have := this.mpr z; grind
theorem sh_le (h : 0 < v) {s a b : Rat} : s + v * a ≤ s + v * b ↔ a ≤ b := by
  have := scl_le h (a := a) (b := b)
  constructor
  · intro z; exact this.mp (by grind)
  · intro z; have := this.mpr z; grind
theorem sh_le0 (h : 0 < v) {s b : Rat} : s ≤ s + v * b ↔ 0 ≤ b := by
  have := sh_le h (s := s) (a := 0) (b := b)
  rw [← this]
  constructor <;> intro z <;> grind
theorem turn_aff_lt (hv : 0 < v) (hw : 0 < w) {a b p : Pt} : turn (aff v w ap a) (aff v w ap b) (aff v w ap p) < 0 ↔ turn a b p < 0 := by
  rw [turn_aff]
  have := scl_lt (Rat.mul_pos hv hw) (a := turn a b p) (b := 0)
  rw [← this]
  constructor <;> intro z <;> grind
theorem turn_aff_le (hv : 0 < v) (hw : 0 < w) {a b p : Pt} : turn (aff v w ap a) (aff v w ap b) (aff v w ap p) ≤ 0 ↔ turn a b p ≤ 0 := by
  rw [turn_aff]
  have := scl_le (Rat.mul_pos hv hw) (a := turn a b p) (b := 0)
  rw [← this]
  constructor <;> intro z <;> grind
theorem fall_aff (hv : 0 < v) (hw : 0 < w) : ∀ {t : List Pt}, Fall t → Fall (t.map (aff v w ap))
  | [], _ => trivial
  | [_], _ => trivial
  | a :: b :: r, h => ⟨⟨(sh_lt hv).mpr h.1.1, (sh_lt hw).mpr h.1.2⟩, fall_aff hv hw (t := b :: r) h.2⟩
theorem bent_aff (hv : 0 < v) (hw : 0 < w) : ∀ {t : List Pt}, Bent t → Bent (t.map (aff v w ap))
  | [], _ => trivial
  | [_], _ => trivial
  | [_, _], _ => trivial
  | a :: b :: c :: r, h => ⟨(turn_aff_lt hv hw).mpr h.1, bent_aff hv hw (t := b :: c :: r) h.2⟩
theorem turns_aff (hv : 0 < v) (hw : 0 < w) {p : Pt} : ∀ {t : List Pt}, Turns (aff v w ap p) (t.map (aff v w ap)) ↔ Turns p t
  | [] => Iff.rfl
  | [_] => Iff.rfl
  | a :: b :: r => and_congr (turn_aff_le hv hw) (turns_aff hv hw (t := b :: r))
theorem base_aff (hv : 0 < v) (hw : 0 < w) {t : List Pt} (h : ∀ c ∈ t, 0 ≤ c.1 ∧ 0 ≤ c.2) : Base ap (t.map (aff v w ap)) := by
  intro c hc
  obtain ⟨q, hq, rfl⟩ := List.mem_map.mp hc
  obtain ⟨h1, h2⟩ := h q hq
  exact ⟨(sh_le0 hv).mpr h1, (sh_le0 hw).mpr h2⟩
end
end Clip
/-! # N2: a problem with bent falling corners; height_on, in -/
namespace Pg
open PySem Rf
open Clip (Fall Bent Base hOn Turns lt_or_ge)
theorem front_conv {ap : Pt} {cs : List Pt} (hne : cs ≠ []) (hf : Fall cs) (hb : Bent cs) (hg : Base ap cs) : front ap cs = cs := by
  have hC := upper_ok (ps := ap :: cs) (by simp)
  obtain ⟨c0, r0, h0, ht⟩ := hC.top
  have e : upperPts (ap :: cs) = cs := by
    cases hcs : cs with
    | nil => exact absurd hcs hne
    | cons a r =>
      subst hcs
      have h1 : Clip.Ch (ap :: a :: r) (c0 :: r0) := by
        rw [← h0]; exact ⟨hC.edges, hC.bent, hC.sub, hC.last⟩
      rw [h0]
      exact Clip.uniq h1 ht (Clip.conv_ch (by simp) hf hb hg) (Clip.conv_top hf hg)
  unfold front
  rw [e]
  exact Clip.cut_id hf hb hg
theorem ixD_seq {T : List Pt} {d : D} (hd : d = .lst (T.map pt) ∨ d = .tup (T.map pt)) {k : Nat} {p : Pt} (h : T[k]? = some p) : ixD d (.int (k : Int)) = .ok (pt p) := by
  have h2 : (T.map pt)[k]? = some (pt p) := by rw [List.getElem?_map, h]; rfl
  rcases hd with e | e
  · subst e; exact ixD_nat h2
  · subst e
    have := ixD_nat h2
    simp [ixD] at this ⊢
    exact this
theorem height_loop {K : Nat} {T : List Pt} {d : D} {x : Rat} {z : Pt} (hd : d = .lst (T.map pt) ∨ d = .tup (T.map pt)) (hs : ∀ p ∈ T, SzP K p) (hx : Sz K x) (hK : 8 * K ≤ 8700) : ∀ (r pre : List Pt) (a b : Pt), T = pre ++ a :: b :: r → Fall (a :: b :: r) → (a :: b :: r).getLast? = some z → x ≤ z.1 → a.1 < x →
    ∃ (k : Nat) (a' b' : Pt), ex height_on_T height_on_L1 [some (.v d), some (.v (fq x)), some (.v (.int ((pre.length + 1 : Nat) : Int)))] = .nx [some (.v d), some (.v (fq x)), some (.v (.int ((k + 1 : Nat) : Int)))] ∧ T[k]? = some a' ∧ T[k + 1]? = some b' ∧ b'.1 ≠ a'.1 ∧ hOn (a :: b :: r) x = Clip.yAt a' b' x := by
  intro r
  induction r with
  | nil =>
    intro pre a b hT hf hz hxz hax
    simp at hz
    subst hz
    have i1 := ixD_seq hd (k := pre.length + 1) (p := b) (by rw [hT]; simp)
    have hb := hs b (by rw [hT]; simp)
    have e := below_v hb.1 hx (by omega)
    refine ⟨pre.length, a, b, ?_, by rw [hT]; simp, by rw [hT]; simp, by have := hf.1; grind, ?_⟩
    · rw [height_on_L1, ex_while, whileS_eq]
      have c : ¬ b.1 < x := by grind
      simp [-Int.natCast_add, i1, e, c]
    · show (if x ≤ a.1 then a.2 else if b.1 < x then hOn [b] x else Clip.yAt a b x) = _
      rw [if_neg (by grind), if_neg (by grind)]
  | cons c r ih =>
    intro pre a b hT hf hz hxz hax
    have i1 := ixD_seq hd (k := pre.length + 1) (p := b) (by rw [hT]; simp)
    have hb := hs b (by rw [hT]; simp)
    have e := below_v hb.1 hx (by omega)
    have eh : hOn (a :: b :: c :: r) x = if x ≤ a.1 then a.2 else if b.1 < x then hOn (b :: c :: r) x else Clip.yAt a b x := rfl
    have hc : evT height_on_T (.call 1 (.cons (.ix (.ix (.var 0) (.var 2)) (.int 0)) (.cons (.var 1) .nil))) [some (.v d), some (.v (fq x)), some (.v (.int ((pre.length + 1 : Nat) : Int)))] = .ok (decide (b.1 < x)) := by
      simp [-Int.natCast_add, i1, e]
    rw [eh, if_neg (by grind)]
    by_cases hbx : b.1 < x
    · obtain ⟨k, a', b', k1, k2, k3, k4, k5⟩ := ih (pre ++ [a]) b c (by rw [hT]; simp) hf.2 (by rw [List.getLast?_cons_cons] at hz; exact hz) hxz hbx
      refine ⟨k, a', b', ?_, k2, k3, k4, by rw [if_pos hbx]; exact k5⟩
      rw [height_on_L1, ex_while, whileS_eq, hc]
      have hw : ex height_on_T height_on_W1 [some (.v d), some (.v (fq x)), some (.v (.int ((pre.length + 1 : Nat) : Int)))] = .nx [some (.v d), some (.v (fq x)), some (.v (.int (((pre ++ [a]).length + 1 : Nat) : Int)))] := by
        simp [height_on_W1]
      rw [hw]
      rw [height_on_L1, ex_while] at k1
      simpa [hbx] using k1
    · refine ⟨pre.length, a, b, ?_, by rw [hT]; simp, by rw [hT]; simp, by have := hf.1; grind, by rw [if_neg hbx]⟩
      rw [height_on_L1, ex_while, whileS_eq, hc]
      simp [hbx]
theorem height_on_v {K : Nat} {T : List Pt} {d : D} {x : Rat} {z : Pt} (hd : d = .lst (T.map pt) ∨ d = .tup (T.map pt)) (hs : ∀ p ∈ T, SzP K p) (hx : Sz K x) (hK : 8 * K ≤ 8700) (hf : Fall T) (hz : T.getLast? = some z) (hxz : x ≤ z.1) :
    height_on_F [d, fq x] = .ok (fq (hOn T x)) ∧ Sz (7 * K + 4) (hOn T x) := by
  cases T with
  | nil => cases hz
  | cons a r =>
    have i0 := ixD_seq hd (k := 0) (p := a) (by simp)
    have ha := hs a (by simp)
    have e := at_most_v hx ha.1 (by omega)
    by_cases c : x ≤ a.1
    · have eh : hOn (a :: r) x = a.2 := by
        cases r with
        | nil => rfl
        | cons b r =>
          show (if x ≤ a.1 then a.2 else if b.1 < x then hOn (b :: r) x else Clip.yAt a b x) = _
          rw [if_pos c]
      rw [eh]
      refine ⟨?_, ha.2.mono (by omega)⟩
      simp at i0
      simp [height_on_F, runFn, height_on_B, i0, e, c]
    · cases r with
      | nil => simp at hz; subst hz; exact absurd hxz c
      | cons b r =>
        obtain ⟨k, a', b', k1, k2, k3, k4, k5⟩ := height_loop hd hs hx hK r [] a b rfl hf hz hxz (by grind)
        have i1 := ixD_seq hd k2
        have i2 := ixD_seq hd k3
        have ha' := hs a' (List.mem_of_getElem? k2)
        have hb' := hs b' (List.mem_of_getElem? k3)
        obtain ⟨y1, y2⟩ := y_at_v ha' hb' hx hK k4
        rw [k5]
        refine ⟨?_, y2⟩
        simp at i0 k1 i2
        simp [height_on_F, runFn, height_on_B, i0, e, c, k1, i1, i2, y1]
def lastX (T : List Pt) : Rat := ((T.getLast?).getD (0, 0)).1
def inG (ap : Pt) (T : List Pt) (p : Pt) : Prop := ge2 p ap ∧ p.1 ≤ lastX T ∧ p.2 ≤ hOn T p.1
instance (ap : Pt) (T : List Pt) (p : Pt) : Decidable (inG ap T p) := by unfold inG; exact inferInstance
theorem ixT_last {T : List Pt} {z : Pt} (hz : T.getLast? = some z) : ixD (.tup (T.map pt)) (.int (-1)) = .ok (pt z) := by
  have e : T = T.dropLast ++ [z] := by
    have := List.dropLast_concat_getLast (l := T) (fun e => by rw [e] at hz; cases hz)
    rw [List.getLast?_eq_some_getLast (fun e => by rw [e] at hz; cases hz)] at hz
    have hz := Option.some.inj hz
    rw [← hz]
    exact this.symm
  have h := ixD_last (T.dropLast.map pt) (pt z)
  have e2 : T.map pt = T.dropLast.map pt ++ [pt z] := by
    conv => lhs; rw [e]
    simp
  rw [e2]
  simp [ixD] at h ⊢
  exact h
theorem contains_v {K : Nat} {ap : Pt} {T : List Pt} {p : Pt} (hs : ∀ p ∈ T, SzP K p) (hap : SzP K ap) (hp : SzP K p) (hK : 8 * K ≤ 8700) (hf : Fall T) (hne : T ≠ []) :
    Problem_contains_F [probD ap T, pt p] = .ok (.bl (decide (inG ap T p))) := by
  obtain ⟨z, hz⟩ : ∃ z, T.getLast? = some z := by
    cases h : T.getLast? with
    | none => exact absurd (List.getLast?_eq_none_iff.mp h) hne
    | some z => exact ⟨z, rfl⟩
  have hzm := hs z (List.mem_of_getLast? hz)
  have hlx : lastX T = z.1 := by unfold lastX; rw [hz]; rfl
  haveI : Spc p K := ⟨hp⟩
  haveI : Spc ap K := ⟨hap⟩
  have n := no_worse_s (p := p) (q := ap) (by omega)
  have il := ixT_last hz
  have b := below_v hzm.1 hp.1 (by omega)
  have f0 : fldD Problem_contains_T.at_ "apart" (probD ap T) = .ok (pt ap) := by
    simp [fldD, probD, ofO]
  have f1 : fldD Problem_contains_T.at_ "frontier" (probD ap T) = .ok (.tup (T.map pt)) := by
    simp only [fldD, probD, if_pos Problem_contains_at1]
    rfl
  have eG : inG ap T p ↔ ge2 p ap ∧ p.1 ≤ z.1 ∧ p.2 ≤ hOn T p.1 := by unfold inG; rw [hlx]
  haveI dG : Decidable (ge2 p ap ∧ p.1 ≤ z.1 ∧ p.2 ≤ hOn T p.1) := inferInstance
  rw [show decide (inG ap T p) = decide (ge2 p ap ∧ p.1 ≤ z.1 ∧ p.2 ≤ hOn T p.1) from decide_eq_decide.mpr eG]
  by_cases c1 : ge2 p ap
  · by_cases c2 : z.1 < p.1
    · have c3 : ¬ p.1 ≤ z.1 := by grind
      simp [Problem_contains_F, runFn, Problem_contains_B, f0, f1, n, il, b, c1, c2, c3]
    · have c3 : p.1 ≤ z.1 := by grind
      obtain ⟨h1, h2⟩ := height_on_v (d := .tup (T.map pt)) (.inr rfl) hs hp.1 hK hf hz c3
      have m := at_most_v hp.2 h2 (by omega)
      simp [Problem_contains_F, runFn, Problem_contains_B, f0, f1, n, il, b, c1, c2, c3, h1, m]
  · simp [Problem_contains_F, runFn, Problem_contains_B, f0, f1, n, il, b, c1]
theorem inG_iff {ap a : Pt} {r : List Pt} {p : Pt} (hf : Fall (a :: r)) (hb : Bent (a :: r)) : inG ap (a :: r) p ↔ ge2 p ap ∧ p.1 ≤ lastX (a :: r) ∧ p.2 ≤ a.2 ∧ Turns p (a :: r) := by
  obtain ⟨z, hz⟩ : ∃ z, (a :: r).getLast? = some z := by
    cases h : (a :: r).getLast? with
    | none => exact absurd (List.getLast?_eq_none_iff.mp h) (by simp)
    | some z => exact ⟨z, rfl⟩
  have hlx : lastX (a :: r) = z.1 := by unfold lastX; rw [hz]; rfl
  unfold inG
  rw [hlx]
  constructor
  · rintro ⟨h1, h2, h3⟩
    exact ⟨h1, h2, (Clip.under_turns hf hb hz h2).mp h3⟩
  · rintro ⟨h1, h2, h3⟩
    exact ⟨h1, h2, (Clip.under_turns hf hb hz h2).mpr h3⟩
theorem gain_p {K : Nat} {ap : Pt} {T : List Pt} {p : Pt} (hap : SzP K ap) (hp : SzP K p) (hK : 2 * K ≤ 8700) : Problem_gain_F [probD ap T, pt p] = .ok (pt (gapP p ap)) := by
  haveI : Spc p K := ⟨hp⟩
  haveI : Spc ap K := ⟨hap⟩
  have f0 : fldD Problem_gain_T.at_ "apart" (probD ap T) = .ok (pt ap) := by
    simp [fldD, probD, ofO]
  have g := gap_s (p := p) (q := ap) (by omega)
  simp [Problem_gain_F, runFn, Problem_gain_B, f0, g]
end Pg
/-! # N3: cells, digits -/
namespace Pg
open PySem PySem.Spec L2 Rf
theorem cell_ints (ns : List Int) (k : Nat) : law_cell_F [.lst (ns.map D.int), .int (k : Int)] = .ok (.int (ns.getD k 0)) := by
  by_cases c : k < ns.length
  · have h := ixD_nat (xs := ns.map D.int) (i := k) (d := .int (ns.getD k 0)) (by simp [c])
    have : (k : Int) < (ns.length : Int) := by omega
    simp [law_cell_F, runFn, law_cell_B, h, this]
  · have : ¬ (k : Int) < (ns.length : Int) := by omega
    simp [law_cell_F, runFn, law_cell_B, this, List.getD, List.getElem?_eq_none (Nat.le_of_not_lt c)]
abbrev ilD (l : List Int) : List D := l.map D.int
theorem dig_I (c B : Int) (r : Int) (n : Nat) (x : Option Sl) (h : n ≤ 1000) : evI law_digits_T (.rng1 (.var 2)) [some (.v (.int c)), some (.v (.int B)), some (.v (.int (n : Int))), some (.v (.int r)), some (.o []), x] = .ok ((List.range n).map fun k : Nat => D.int (k : Int)) := evI_rng1_nat (by simp) (by omega)
def digE (c B : Int) (n : Nat) (r : Int) (l : List Int) (x : Option Sl) : Rf.Env := [some (.v (.int c)), some (.v (.int B)), some (.v (.int (n : Int))), some (.v (.int r)), some (.o (l.map D.int)), x]
theorem dig_W1 {c B r : Int} {n : Nat} {l : List Int} (k : Nat) (x : Option Sl) (hBm : B ≠ 0) (hBd : okDiv B = true) (hl : l.length < 16777216) : ex law_digits_T law_digits_W1 (digE c B n r l (some (.v (.int (k : Int))))) = .nx (digE c B n (r.fdiv B) (l ++ [r.fmod B]) (some (.v (.int (k : Int))))) := by
  simp [digE, law_digits_W1, bop_mod hBm, bop_fdiv hBd, hl]
theorem dig_W2 {c B r : Int} {n : Nat} {l : List Int} (k : Nat) (hk : k < 1000) (hBm : B ≠ 0) (hl : l.length < 16777216) (h3 : 0 ≤ r) (h4 : r < 2 ^ 62) : ∃ r2 y, 0 ≤ r2 ∧ r2 < 2 ^ 62 ∧ ex law_digits_T law_digits_W2 (digE c B n r l (some (.v (.int (k : Int))))) = .nx (digE c B n r2 (l ++ [Int.fmod y B]) (some (.v (.int (k : Int))))) := by
  have m1 : okMul r 48271 = true := okMul_of (m := 62) (n := 20) (by omega) (by decide) (by decide)
  have m2 : okMul (k : Int) 69621 = true := okMul_of (m := 10) (n := 20) (by omega) (by decide) (by decide)
  have m4 : okMul 2 (k : Int) = true := okMul_of (m := 10) (n := 10) (by decide) (by omega) (by decide)
  generalize hr1 : Int.fmod (r * 48271 + k * 69621 + 17) 2147483647 = r1
  have b1 : 0 ≤ r1 := by rw [← hr1]; exact Int.fmod_nonneg_of_pos _ (by decide)
  have b2 : r1 < 2147483647 := by rw [← hr1]; exact Int.fmod_lt_of_pos _ (by decide)
  have m3 : okMul r1 16807 = true := okMul_of (m := 62) (n := 20) (by omega) (by decide) (by decide)
  generalize hr2 : Int.fmod (r1 * 16807 + 2 * k + 5) 2147483629 = r2
  have b3 : 0 ≤ r2 := by rw [← hr2]; exact Int.fmod_nonneg_of_pos _ (by decide)
  have b4 : r2 < 2147483629 := by rw [← hr2]; exact Int.fmod_lt_of_pos _ (by decide)
  have d1 : okDiv 64 = true := by decide
  refine ⟨r2, r2.fdiv 64, b3, by omega, ?_⟩
  simp [digE, law_digits_W2, bop_mul m1, bop_mul m2, bop_mul m3, bop_mul m4, bop_mod hBm, bop_mod, bop_fdiv d1, hl, hr1, hr2]
theorem dig_len {l : List Int} {a c : List Nat} {k n : Nat} (hl : List.range n = a ++ k :: c) (h : l.length = a.length) (hn : n ≤ 1000) : l.length < 16777216 ∧ k < 1000 := by
  have h1 : k ∈ List.range n := by rw [hl]; simp
  have h2 := List.mem_range.mp h1
  have h3 := congrArg List.length hl
  rw [List.length_range, List.length_append] at h3
  omega
theorem dig_add {l : List Int} {y B : Int} (hB : 0 < B) (h : ∀ x ∈ l, 0 ≤ x ∧ x < B) : ∀ x ∈ l ++ [Int.fmod y B], 0 ≤ x ∧ x < B := by
  intro z hz
  rcases List.mem_append.mp hz with hz | hz
  · exact h z hz
  · rw [List.mem_singleton.mp hz]
    exact ⟨Int.fmod_nonneg_of_pos _ hB, Int.fmod_lt_of_pos _ hB⟩
theorem dig_L1 (c B r : Int) (n : Nat) (hB : 0 < B) (hB' : B < 2 ^ 200) (hn : n ≤ 1000) : ∃ r' l x, ex law_digits_T law_digits_L1 (digE c B n r [] none) = .nx (digE c B n r' l x) ∧ l.length = n ∧ ∀ x ∈ l, 0 ≤ x ∧ x < B := by
  have hBm : B ≠ 0 := by omega
  have hBd : okDiv B = true := okDiv_of (n := 200) (by omega) hBm (by decide)
  obtain ⟨env', k1, r', l, x, rfl, hl, hx⟩ := ex_for_run (T := law_digits_T) (t := .name 5) (it := .rng1 (.var 2)) (body := law_digits_W1)
      (env := digE c B n r [] none) (fun k : Nat => D.int (k : Int)) (List.range n)
      (fun a env => ∃ r l x, env = digE c B n r l x ∧ l.length = a.length ∧ ∀ x ∈ l, 0 ≤ x ∧ x < B)
      (dig_I c B r n none hn) ⟨r, [], none, rfl, rfl, by simp⟩ (by
        rintro a k c' _ hl ⟨r, l, x, rfl, h1, h2⟩
        exact ⟨_, rfl, _, .inl (dig_W1 k x hBm hBd (dig_len hl h1 hn).1), _, _, _, rfl, by rw [List.length_append, List.length_append, h1]; rfl, dig_add hB h2⟩)
  exact ⟨r', l, x, k1, hl.trans List.length_range, hx⟩
theorem dig_L2 (c B r : Int) (n : Nat) (hB : 0 < B) (hn : n ≤ 1000) (h3 : 0 ≤ r) (h4 : r < 2 ^ 62) : ∃ r' l x, ex law_digits_T law_digits_L2 (digE c B n r [] none) = .nx (digE c B n r' l x) ∧ l.length = n ∧ ∀ x ∈ l, 0 ≤ x ∧ x < B := by
  have hBm : B ≠ 0 := by omega
  obtain ⟨env', k1, r', l, x, rfl, hl, hx, _⟩ := ex_for_run (T := law_digits_T) (t := .name 5) (it := .rng1 (.var 2)) (body := law_digits_W2)
      (env := digE c B n r [] none) (fun k : Nat => D.int (k : Int)) (List.range n)
      (fun a env => ∃ r l x, env = digE c B n r l x ∧ l.length = a.length ∧ (∀ x ∈ l, 0 ≤ x ∧ x < B) ∧ 0 ≤ r ∧ r < 2 ^ 62)
      (dig_I c B r n none hn) ⟨r, [], none, rfl, rfl, by simp, h3, h4⟩ (by
        rintro a k c' _ hl ⟨r, l, x, rfl, h1, h2, h3, h4⟩
        have hh := dig_len hl h1 hn
        obtain ⟨r2, y, q1, q2, q3⟩ := dig_W2 (c := c) (n := n) k hh.2 hBm hh.1 h3 h4
        exact ⟨_, rfl, _, .inl q3, _, _, _, rfl, by rw [List.length_append, List.length_append, h1]; rfl, dig_add hB h2, q1, q2⟩)
  exact ⟨r', l, x, k1, hl.trans List.length_range, hx⟩
theorem ge_true {r b : Int} (h : b ≤ r) : cop .ge (.int r) (.int b) = .ok (.bl true) := by rw [cop_ge, decide_eq_true h]
theorem ge_false {r b : Int} (h : ¬ b ≤ r) : cop .ge (.int r) (.int b) = .ok (.bl false) := by rw [cop_ge, decide_eq_false h]
theorem digits_ok (c B : Int) (n : Nat) (hB : 0 < B) (hB' : B < 2 ^ 200) (hn : n ≤ 1000) : ∃ l : List Int, law_digits_F [.int c, .int B, .int (n : Int)] = .ok (.lst (l.map D.int)) ∧ l.length = n ∧ ∀ x ∈ l, 0 ≤ x ∧ x < B := by
  have hp : bop .pow (.int 10) (.int 18) = .ok (.int 1000000000000000000) := by rw [bop_pow (by decide)]; rfl
  generalize hr : (if c < 0 then -c else c) = r
  have h0 : 0 ≤ r := by rw [← hr]; split <;> omega
  by_cases big : 1000000000000000000 ≤ r
  · obtain ⟨r', l, x, k1, hl, hx⟩ := dig_L1 c B r n hB hB' hn
    refine ⟨l, ?_, hl, hx⟩
    simp only [digE, List.map_nil] at k1
    have hlt : cop .ge (.int r) (.int 1000000000000000000) = .ok (.bl true) := ge_true big
    simp [-cop_ge, law_digits_F, runFn, law_digits_B, okLen_small, hp, hlt, k1, frzE, hr]
  · obtain ⟨r', l, x, k1, hl, hx⟩ := dig_L2 c B r n hB hn h0 (by omega)
    refine ⟨l, ?_, hl, hx⟩
    simp only [digE, List.map_nil] at k1
    have hlt : cop .ge (.int r) (.int 1000000000000000000) = .ok (.bl false) := ge_false big
    simp [-cop_ge, law_digits_F, runFn, law_digits_B, okLen_small, hp, hlt, k1, frzE, hr]

theorem intCast_pos {n : Int} (h : 0 < n) : (0 : Rat) < (n : Rat) := by
  have : ((0 : Int) : Rat) < (n : Rat) := Rat.intCast_lt_intCast.mpr h
  simpa using this
theorem na_lt {n : Int} {k : Nat} (h0 : 0 < n) (h1 : n < 2 ^ k) : n.natAbs < 2 ^ k := by
  have e : ((n.natAbs : Nat) : Int) = n := by omega
  have : ((n.natAbs : Nat) : Int) < ((2 ^ k : Nat) : Int) := by rw [e]; simpa using h1
  exact Int.ofNat_lt.mp this
theorem is_number_v {k : Nat} {q : Rat} (h : Sz k q) (hk : k ≤ 8900) : law_is_number_F [fq q] = .ok (.bl true) := by
  have e := law_lowest_v q.num q.den (den_pos q) (Nat.lt_of_lt_of_le h.1 (Nat.pow_le_pow_right (by decide) hk)) (Nat.lt_of_lt_of_le h.den_na (Nat.pow_le_pow_right (by decide) hk))
  rw [← rat_eq] at e
  have dp := den_pos q
  have t1 : isiB .int (.int q.num) = .ok true := rfl
  have t2 : isiB .bool (.int q.num) = .ok false := rfl
  have t3 : isiB .int (.int (q.den : Int)) = .ok true := rfl
  have t4 : isiB .bool (.int (q.den : Int)) = .ok false := rfl
  have eL : ex law_is_number_T law_is_number_L1 [some (.v (fq q)), none] = .nx [some (.v (fq q)), some (.v (.int (q.den : Int)))] := by
    rw [law_is_number_L1, ex_for]
    have : evI law_is_number_T (.cons (.var 0) .nil) [some (.v (fq q)), none] = .ok [.int q.num, .int (q.den : Int)] := evI_tup (by simp [fq])
    rw [this]
    simp [forL_cons, law_is_number_W1, t1, t2, t3, t4]
  have e3 : ex law_is_number_T law_is_number_B [some (.v (fq q)), none] = .rt (.bl true) := by
    rw [law_is_number_B]
    simp [eL, e, q.den_pos, asB]
  rw [law_is_number_F, runFn_out (np := 1) (nn := 2) rfl rfl e3, outR_rt]

abbrev IP := Int × Int
def ip (z : IP) : D := .tup [.int z.1, .int z.2]
@[simp] theorem ip_ix0 (z : IP) : ixD (ip z) (.int 0) = .ok (.int z.1) := ixT0 _ _
@[simp] theorem ip_ix1 (z : IP) : ixD (ip z) (.int 1) = .ok (.int z.2) := ixT1 _ _ _
theorem ip_mk (a b : Int) : D.tup [.int a, .int b] = ip (a, b) := rfl
/-- a row of digits -/
structure RowOk (row : List Int) (B : Int) (n : Nat) : Prop where
  len : row.length = n
  ge : ∀ k, 0 ≤ row.getD k 0
  lt : ∀ k, row.getD k 0 < B
theorem digits_row (c B : Int) (n : Nat) (hB : 0 < B) (hB' : B < 2 ^ 200) (hn : n ≤ 1000) : ∃ row, law_digits_F [.int c, .int B, .int (n : Int)] = .ok (.lst (row.map D.int)) ∧ RowOk row B n := by
  obtain ⟨l, h1, h2, h3⟩ := digits_ok c B n hB hB' hn
  have key : ∀ k, 0 ≤ l.getD k 0 ∧ l.getD k 0 < B := fun k => by
    rw [List.getD_eq_getElem?_getD]
    cases h : l[k]? with
    | none => simp; exact hB
    | some y => exact h3 y (List.mem_of_getElem? h)
  exact ⟨l, h1, h2, fun k => (key k).1, fun k => (key k).2⟩
theorem RowOk.ix {row : List Int} {B : Int} {n : Nat} (R : RowOk row B n) (k : Nat) (h : k < n) : ixD (.lst (row.map D.int)) (.int (k : Int)) = .ok (.int (row.getD k 0)) := by
  have := ix_ints (row := row) (i := (k : Int)) (by omega) (by rw [R.len]; simpa using h)
  simpa using this
theorem RowOk.ixi {row : List Int} {B : Int} {n : Nat} (R : RowOk row B n) {i : Int} (h0 : 0 ≤ i) (h : i < n) : ixD (.lst (row.map D.int)) (.int i) = .ok (.int (row.getD i.toNat 0)) :=
  ix_ints h0 (by rw [R.len]; omega)
end Pg
/-! # N4: the law's steps -/
namespace Pg
open PySem Rf
def flat (s t : IP) : Prop := s.2 * t.1 < t.2 * s.1
instance (s t : IP) : Decidable (flat s t) := by unfold flat; exact inferInstance
def insS (s : IP) : List IP → List IP
  | [] => [s]
  | t :: r => if flat t s then t :: insS s r else if flat s t then s :: t :: r else t :: r
def posS (s : IP) : List IP → Nat
  | [] => 0
  | t :: r => if flat t s then posS s r + 1 else 0
theorem posS_le (s : IP) : ∀ l : List IP, posS s l ≤ l.length
  | [] => Nat.le_refl _
  | t :: r => by
    unfold posS
    have := posS_le s r
    split
    · simpa using this
    · omega
theorem insS_end (s : IP) : ∀ l : List IP, posS s l = l.length → insS s l = l ++ [s]
  | [], _ => rfl
  | t :: r, h => by
    unfold posS at h
    by_cases c : flat t s
    · rw [if_pos c] at h
      simp only [insS, if_pos c, insS_end s r (by simpa using h), List.cons_append]
    · rw [if_neg c] at h
      simp at h
theorem insS_mid (s : IP) : ∀ l : List IP, posS s l ≠ l.length → ∃ t, l[posS s l]? = some t ∧ insS s l = if flat s t then l.take (posS s l) ++ [s] ++ l.drop (posS s l) else l
  | [], h => absurd rfl h
  | t :: r, h => by
    by_cases c : flat t s
    · have e : posS s (t :: r) = posS s r + 1 := by simp only [posS, if_pos c]
      rw [e] at h ⊢
      obtain ⟨u, h1, h2⟩ := insS_mid s r (by simpa using h)
      refine ⟨u, by simpa using h1, ?_⟩
      simp only [insS, if_pos c, h2]
      by_cases c2 : flat s u
      · simp [c2]
      · simp [c2]
    · have e : posS s (t :: r) = 0 := by simp only [posS, if_neg c]
      rw [e]
      refine ⟨t, rfl, ?_⟩
      simp only [insS, if_neg c]
      by_cases c2 : flat s t
      · simp [c2]
      · simp [c2]
def StepOk (s : IP) : Prop := 1 ≤ s.1 ∧ s.1 ≤ 60 ∧ 1 ≤ s.2 ∧ s.2 ≤ 60
structure StepsOk (l : List IP) : Prop where
  ok : ∀ s ∈ l, StepOk s
  pw : l.Pairwise flat
theorem flat_trans {s t u : IP} (hs : StepOk s) (ht : StepOk t) (hu : StepOk u) (h1 : flat s t) (h2 : flat t u) : flat s u := by
  unfold flat StepOk at *
  have a : s.2 * t.1 * u.1 < t.2 * s.1 * u.1 := Int.mul_lt_mul_of_pos_right h1 (by omega)
  have b : t.2 * u.1 * s.1 < u.2 * t.1 * s.1 := Int.mul_lt_mul_of_pos_right h2 (by omega)
  have c : t.1 * (s.2 * u.1) < t.1 * (u.2 * s.1) := by grind
  exact Int.lt_of_mul_lt_mul_left c (by omega)
theorem insS_mem {s x : IP} : ∀ {l : List IP}, x ∈ insS s l → x = s ∨ x ∈ l
  | [], h => by simp [insS] at h; exact .inl h
  | t :: r, h => by
    unfold insS at h
    split at h
    · rcases List.mem_cons.mp h with y | y
      · subst y; exact .inr (by simp)
      · rcases insS_mem y with z | z
        · exact .inl z
        · exact .inr (List.mem_cons_of_mem _ z)
    · split at h
      · rcases List.mem_cons.mp h with y | y
        · exact .inl y
        · exact .inr y
      · exact .inr h
theorem insS_ok {s : IP} (hs : StepOk s) : ∀ {l : List IP}, StepsOk l → StepsOk (insS s l)
  | [], _ => ⟨by simp [insS]; exact hs, by simp [insS]⟩
  | t :: r, h => by
    have hp := List.pairwise_cons.mp h.pw
    have ht := h.ok t (by simp)
    have hr : StepsOk r := ⟨fun x hx => h.ok x (List.mem_cons_of_mem _ hx), hp.2⟩
    have ih := insS_ok hs hr
    unfold insS
    split
    · rename_i c
      refine ⟨fun x hx => ?_, List.pairwise_cons.mpr ⟨fun x hx => ?_, ih.pw⟩⟩
      · rcases List.mem_cons.mp hx with y | y
        · subst y; exact ht
        · exact ih.ok x y
      · rcases insS_mem hx with y | y
        · subst y; exact c
        · exact hp.1 x y
    · split
      · rename_i c
        refine ⟨fun x hx => ?_, List.pairwise_cons.mpr ⟨fun x hx => ?_, h.pw⟩⟩
        · rcases List.mem_cons.mp hx with y | y
          · subst y; exact hs
          · exact h.ok x y
        · rcases List.mem_cons.mp hx with y | y
          · subst y; exact c
          · exact flat_trans hs ht (hr.ok x y) c (hp.1 x y)
      · exact h
theorem insS_len (s : IP) : ∀ l : List IP, (insS s l).length ≤ l.length + 1
  | [] => by simp [insS]
  | t :: r => by
    have := insS_len s r
    unfold insS
    split
    · simp; omega
    · split
      · simp
      · simp
theorem StepOk.bic {s : IP} (h : StepOk s) : Bic s.1 6 ∧ Bic s.2 6 := by
  unfold StepOk at h
  exact ⟨bic_of (by omega) (by omega), bic_of (by omega) (by omega)⟩
def stE (R M : D) (l : List IP) (k s : Option Sl) (n : Nat) : Rf.Env := [some (.v R), some (.v M), some (.v (.lst (l.map ip))), k, s, some (.v (.int (n : Int)))]
theorem ix_ips {l : List IP} {n : Nat} {t : IP} (h : l[n]? = some t) : ixD (.lst (l.map ip)) (.int (n : Int)) = .ok (ip t) :=
  ixD_nat (by rw [List.getElem?_map, h]; rfl)
theorem steps_L1 (R M : D) (k : Option Sl) {s : IP} (hs : StepOk s) {l : List IP} (hl : ∀ t ∈ l, StepOk t) : ∀ (post pre : List IP), l = pre ++ post → ex law_steps_T law_steps_L1 (stE R M l k (some (.v (ip s))) pre.length) = .nx (stE R M l k (some (.v (ip s))) (pre.length + posS s post))
  | [], pre, e => by
    rw [law_steps_L1, ex_while, whileS_eq]
    subst e
    simp [stE, posS]
  | t :: post, pre, e => by
    have ih := steps_L1 R M k hs hl post (pre ++ [t]) (by rw [e]; simp)
    have i1 := ix_ips (l := l) (n := pre.length) (t := t) (by rw [e]; simp)
    have ht := hl t (by rw [e]; simp)
    obtain ⟨b1, b2⟩ := hs.bic
    obtain ⟨b3, b4⟩ := ht.bic
    have ll : (pre.length : Int) < (l.length : Int) := by
      have := congrArg List.length e
      simp at this
      omega
    rw [law_steps_L1, ex_while, whileS_eq]
    have hc : evT law_steps_T (.and (.cmp .lt (.var 5) (.bi .len (.cons (.var 2) .nil))) (.cmp .lt (.bin .mul (.ix (.ix (.var 2) (.var 5)) (.int 1)) (.ix (.var 4) (.int 0))) (.bin .mul (.ix (.var 4) (.int 1)) (.ix (.ix (.var 2) (.var 5)) (.int 0))))) (stE R M l k (some (.v (ip s))) pre.length) = .ok (decide (flat t s)) := by
      simp [stE, ll, i1, mul_c, flat]
    rw [hc]
    by_cases c : flat t s
    · have hw : ex law_steps_T law_steps_W1 (stE R M l k (some (.v (ip s))) pre.length) = .nx (stE R M l k (some (.v (ip s))) (pre ++ [t]).length) := by
        simp [stE, law_steps_W1]
      rw [hw]
      have e2 : posS s (t :: post) = posS s post + 1 := by simp only [posS, if_pos c]
      rw [e2]
      have e3 : pre.length + (posS s post + 1) = (pre ++ [t]).length + posS s post := by simp; omega
      rw [e3]
      rw [law_steps_L1, ex_while] at ih
      simpa [c] using ih
    · have e2 : posS s (t :: post) = 0 := by simp only [posS, if_neg c]
      rw [e2]
      simp [c]
end Pg
/-! # N5: the law's steps, bounds -/
namespace Pg
open PySem Rf
theorem ifS_v (R M : D) (k : Option Sl) {s : IP} (hs : StepOk s) {l : List IP} (hl : ∀ t ∈ l, StepOk t) (hn : l.length ≤ 1000) :
    ex law_steps_T (.ife (.or (.cmp .eq (.var 5) (.bi .len (.cons (.var 2) .nil))) (.cmp .gt (.bin .mul (.ix (.ix (.var 2) (.var 5)) (.int 1)) (.ix (.var 4) (.int 0))) (.bin .mul (.ix (.var 4) (.int 1)) (.ix (.ix (.var 2) (.var 5)) (.int 0))))) (.cons (.asg (.name 2) (.bin .add (.bin .add (.sl (.var 2) .nil (.cons (.var 5) .nil)) (.lst (.cons (.var 4) .nil))) (.sl (.var 2) (.cons (.var 5) .nil) .nil)))
    .nil) .nil) (stE R M l k (some (.v (ip s))) (posS s l)) = .nx (stE R M (insS s l) k (some (.v (ip s))) (posS s l)) := by
  have s1 := slD_to (l.map ip) (posS s l)
  have s2 := slD_from (l.map ip) (posS s l)
  have hp := posS_le s l
  have c1 : ∀ (xs ys : List D), xs.length ≤ 2000 → ys.length ≤ 2000 → bop .add (.lst xs) (.lst ys) = .ok (.lst (xs ++ ys)) := fun xs ys h1 h2 => bop_cat (by omega)
  by_cases c : posS s l = l.length
  · rw [insS_end s l c]
    rw [c] at s1 s2 ⊢
    rw [List.take_of_length_le (by simp)] at s1
    rw [List.drop_of_length_le (by simp)] at s2
    simp [stE, partD, s1, s2]
    rw [c1 _ _ (by simp; omega) (by simp)]
    simp
    rw [c1 _ _ (by simp; omega) (by simp)]
    simp
  · obtain ⟨t, h1, h2⟩ := insS_mid s l c
    have i1 := ix_ips h1
    obtain ⟨b1, b2⟩ := hs.bic
    obtain ⟨b3, b4⟩ := (hl t (List.mem_of_getElem? h1)).bic
    have c' : ¬ ((posS s l : Nat) : Int) = (l.length : Int) := by omega
    rw [h2]
    by_cases f : flat s t
    · have f' : s.2 * t.1 < t.2 * s.1 := f
      rw [if_pos f]
      simp [stE, partD, s1, s2, c', i1, mul_c, f']
      rw [c1 _ _ (by simp; omega) (by simp)]
      simp
      rw [c1 _ _ (by simp; omega) (by simp; omega)]
      simp
    · have f' : ¬ s.2 * t.1 < t.2 * s.1 := f
      rw [if_neg f]
      simp [stE, partD, s1, s2, c', i1, mul_c, f']
def stE0 (R M : D) (l : List IP) (k s a : Option Sl) : Rf.Env := [some (.v R), some (.v M), some (.v (.lst (l.map ip))), k, s, a]
theorem steps_W2 {row : List Int} (hr : RowOk row 60 54) (M : D) {l : List IP} (hl : ∀ t ∈ l, StepOk t) (hn : l.length ≤ 1000) (k : Nat) (hk : k < 21) (s a : Option Sl) :
    ∃ u n, StepOk u ∧ ex law_steps_T law_steps_W2 (stE0 (.lst (row.map D.int)) M l (some (.v (.int (k : Int)))) s a) = .nx (stE (.lst (row.map D.int)) M (insS u l) (some (.v (.int (k : Int)))) (some (.v (ip u))) n) := by
  have m2 : okMul 2 (k : Int) = true := okMul_of (m := 10) (n := 10) (by decide) (by omega) (by decide)
  have i12 := hr.ixi (i := 12 + 2 * (k : Int)) (by omega) (by omega)
  have i13 := hr.ixi (i := 13 + 2 * (k : Int)) (by omega) (by omega)
  have i2 := hr.ix 2 (by decide)
  have g1 := hr.ge (12 + 2 * (k : Int)).toNat
  have g2 := hr.lt (12 + 2 * (k : Int)).toNat
  have g3 := hr.ge (13 + 2 * (k : Int)).toNat
  have g4 := hr.lt (13 + 2 * (k : Int)).toNat
  generalize row.getD (12 + 2 * (k : Int)).toNat 0 = p at *
  generalize row.getD (13 + 2 * (k : Int)).toNat 0 = q at *
  have f1 := Int.fmod_nonneg_of_pos p (show (0 : Int) < 7 by decide)
  have f2 := Int.fmod_lt_of_pos p (show (0 : Int) < 7 by decide)
  have f3 := Int.fmod_nonneg_of_pos q (show (0 : Int) < 7 by decide)
  have f4 := Int.fmod_lt_of_pos q (show (0 : Int) < 7 by decide)
  have fin : ∀ u : IP, StepOk u → ex law_steps_T (.cons (.asg (.name 5) (.int 0))
    (.cons law_steps_L1
    (.cons (.ife (.or (.cmp .eq (.var 5) (.bi .len (.cons (.var 2) .nil))) (.cmp .gt (.bin .mul (.ix (.ix (.var 2) (.var 5)) (.int 1)) (.ix (.var 4) (.int 0))) (.bin .mul (.ix (.var 4) (.int 1)) (.ix (.ix (.var 2) (.var 5)) (.int 0))))) (.cons (.asg (.name 2) (.bin .add (.bin .add (.sl (.var 2) .nil (.cons (.var 5) .nil)) (.lst (.cons (.var 4) .nil))) (.sl (.var 2) (.cons (.var 5) .nil) .nil)))
    .nil) .nil)
    .nil))) (stE0 (.lst (row.map D.int)) M l (some (.v (.int (k : Int)))) (some (.v (ip u))) a) = .nx (stE (.lst (row.map D.int)) M (insS u l) (some (.v (.int (k : Int)))) (some (.v (ip u))) (posS u l)) := fun u hu => by
    have x1 := steps_L1 (.lst (row.map D.int)) M (some (.v (.int (k : Int)))) hu hl l [] rfl
    have x2 := ifS_v (.lst (row.map D.int)) M (some (.v (.int (k : Int)))) hu hl hn
    have x0 : ex law_steps_T (.asg (.name 5) (.int 0)) (stE0 (.lst (row.map D.int)) M l (some (.v (.int (k : Int)))) (some (.v (ip u))) a) = .nx (stE (.lst (row.map D.int)) M l (some (.v (.int (k : Int)))) (some (.v (ip u))) ([] : List IP).length) := by
      simp [stE, stE0]
    rw [ex_cons, x0, andThen_nx, ex_cons, x1, andThen_nx, ex_cons]
    simp only [List.length_nil, Nat.zero_add]
    rw [x2, andThen_nx, ex_nil]
  have a1 : ∀ y, ex law_steps_T (.asg (.name 4) (.tup (.cons (.bin .add (.int 1) (.ix (.var 0) (.bin .add (.int 12) (.bin .mul (.int 2) (.var 3))))) (.cons (.bin .add (.int 1) (.ix (.var 0) (.bin .add (.int 13) (.bin .mul (.int 2) (.var 3))))) .nil)))) (stE0 (.lst (row.map D.int)) M l (some (.v (.int (k : Int)))) y a) = .nx (stE0 (.lst (row.map D.int)) M l (some (.v (.int (k : Int)))) (some (.v (ip (1 + p, 1 + q)))) a) := fun y => by
    simp [stE0, bop_mul m2, i12, i13, ip]
  have a2 : ∀ y, ex law_steps_T (.asg (.name 4) (.tup (.cons (.bin .add (.int 1) (.bin .mod (.bi .int (.cons (.ix (.var 0) (.bin .add (.int 12) (.bin .mul (.int 2) (.var 3)))) .nil)) (.int 7))) (.cons (.bin .add (.int 1) (.bin .mod (.bi .int (.cons (.ix (.var 0) (.bin .add (.int 13) (.bin .mul (.int 2) (.var 3)))) .nil)) (.int 7))) .nil)))) (stE0 (.lst (row.map D.int)) M l (some (.v (.int (k : Int)))) y a) = .nx (stE0 (.lst (row.map D.int)) M l (some (.v (.int (k : Int)))) (some (.v (ip (1 + p.fmod 7, 1 + q.fmod 7)))) a) := fun y => by
    simp [stE0, bop_mul m2, i12, i13, ip, bop_mod]
  have ht : ∀ y, evT law_steps_T (.cmp .eq (.bin .mod (.bi .int (.cons (.ix (.var 0) (.int 2)) .nil)) (.int 2)) (.int 0)) (stE0 (.lst (row.map D.int)) M l (some (.v (.int (k : Int)))) y a) = .ok (decide ((row.getD 2 0).fmod 2 = 0)) := fun y => by
    have i2' : ixD (.lst (row.map D.int)) (.int 2) = .ok (.int (row.getD 2 0)) := i2
    simp only [evT_cmp, ev_bin, ev_bi, evs_cons, evs_nil, ev_ix, ev_var, ev_int, stE0, getV_zero, R.bind_ok, i2', bi_int, bop_mod (show (2 : Int) ≠ 0 by decide), cop_eq_int, asB]
  rw [law_steps_W2, ex_cons, a1, andThen_nx, ex_cons, ex_ife, ht]
  by_cases c : (row.getD 2 0).fmod 2 = 0
  · refine ⟨(1 + p.fmod 7, 1 + q.fmod 7), posS (1 + p.fmod 7, 1 + q.fmod 7) l, by unfold StepOk; omega, ?_⟩
    rw [decide_eq_true c, Out.of_ok, if_pos rfl, ex_cons, a2, andThen_nx, ex_nil, andThen_nx]
    exact fin _ (by unfold StepOk; omega)
  · refine ⟨(1 + p, 1 + q), posS (1 + p, 1 + q) l, by unfold StepOk; omega, ?_⟩
    rw [decide_eq_false c, Out.of_ok, if_neg (by decide), ex_nil, andThen_nx]
    exact fin _ (by unfold StepOk; omega)
theorem steps_v {row : List Int} (hr : RowOk row 60 54) (many : Nat) (hm : many ≤ 21) : ∃ l : List IP, law_steps_F [.lst (row.map D.int), .int (many : Int)] = .ok (.lst (l.map ip)) ∧ StepsOk l ∧ l.length ≤ many := by
  obtain ⟨env', e1, l, x, y, z, rfl, hl, hn⟩ := ex_for_run (fun k : Nat => D.int (k : Int)) (T := law_steps_T) (t := .name 3) (it := .rng1 (.var 1)) (body := law_steps_W2)
    (env := stE0 (.lst (row.map D.int)) (.int (many : Int)) [] none none none) (List.range many)
    (fun a env => ∃ l x y z, env = stE0 (.lst (row.map D.int)) (.int (many : Int)) l x y z ∧ StepsOk l ∧ l.length ≤ a.length)
    (evI_rng1_nat (by rw [ev_var]; rfl) (by omega)) ⟨[], none, none, none, rfl, ⟨by simp, by simp⟩, by simp⟩ (by
      rintro a k c env hab ⟨l, x, y, z, rfl, hl, hn⟩
      have hk : k < 21 ∧ a.length ≤ 25 := by
        have h1 : k ∈ List.range many := by rw [hab]; simp
        have h2 := List.mem_range.mp h1
        have h3 := congrArg List.length hab
        simp at h3
        omega
      obtain ⟨u, n, hu, e⟩ := steps_W2 hr (.int (many : Int)) hl.ok (by omega) k hk.1 y z
      refine ⟨stE0 (.lst (row.map D.int)) (.int (many : Int)) l (some (.v (.int (k : Int)))) y z, rfl, _, .inl e, insS u l, _, _, _, rfl, insS_ok hu hl, ?_⟩
      have := insS_len u l
      simp
      omega)
  refine ⟨l, ?_, hl, by simpa using hn⟩
  have e2 : ex law_steps_T law_steps_B [some (.v (.lst (row.map D.int))), some (.v (.int (many : Int))), none, none, none, none] = .rt (.lst (l.map ip)) := by
    have a1 : ex law_steps_T (.asg (.name 2) (.lst .nil)) [some (.v (.lst (row.map D.int))), some (.v (.int (many : Int))), none, none, none, none] = .nx (stE0 (.lst (row.map D.int)) (.int (many : Int)) [] none none none) := by
      simp [stE0]
    have a2 : ex law_steps_T law_steps_L2 (stE0 (.lst (row.map D.int)) (.int (many : Int)) [] none none none) = _ := e1
    rw [law_steps_B, ex_cons, a1, andThen_nx, ex_cons, a2, andThen_nx]
    simp [stE0]
  rw [law_steps_F, runFn_out (np := 2) (nn := 6) (T := law_steps_T) (B := law_steps_B) (env := [some (.v (.lst (row.map D.int))), some (.v (.int (many : Int))), none, none, none, none]) rfl (by rfl) e2, outR_rt]
end Pg
/-! # N6: bounds, the walk of the steps -/
namespace Pg
open PySem Rf
abbrev I3 := Int × Int × Int
def b3 (t : I3) : D := .tup [.int t.1, .int t.2.1, .int t.2.2]
def edgeB (p q : IP) : I3 := (p.2 - q.2, q.1 - p.1, (p.2 - q.2) * q.1 + (q.1 - p.1) * q.2)
def at0 (l : List IP) (k : Nat) : IP := l.getD k (0, 0)
def lastI (l : List IP) : IP := at0 l (l.length - 1)
def boundsB (ch : List IP) : List I3 := (1, 0, (lastI ch).1) :: (0, 1, (at0 ch 0).2) :: (List.range' 1 (ch.length - 1)).map fun k => edgeB (at0 ch (k - 1)) (at0 ch k)
theorem at0_of {l : List IP} {k : Nat} (h : k < l.length) : l[k]? = some (at0 l k) := by
  unfold at0
  rw [List.getD_eq_getElem?_getD, List.getElem?_eq_getElem h]
  rfl
theorem at0_mem {l : List IP} {k : Nat} (h : k < l.length) : at0 l k ∈ l := List.mem_of_getElem? (at0_of h)
theorem ix_at0 {l : List IP} {k : Nat} (h : k < l.length) : ixD (.lst (l.map ip)) (.int (k : Int)) = .ok (ip (at0 l k)) := ix_ips (at0_of h)
theorem ix_lastI {l : List IP} (h : l ≠ []) : ixD (.lst (l.map ip)) (.int (-1)) = .ok (ip (lastI l)) := by
  have hl : 0 < l.length := List.length_pos_iff.mpr h
  exact ixD_neg (j := l.length - 1) (k := 1) (by rw [List.getElem?_map, at0_of (by omega)]; rfl) (by simp; omega) (by decide)
def Mid (z : IP) : Prop := 0 ≤ z.1 ∧ z.1 ≤ 2000 ∧ 0 ≤ z.2 ∧ z.2 ≤ 2000
theorem Mid.bic {z : IP} (h : Mid z) : Bic z.1 11 ∧ Bic z.2 11 := by
  unfold Mid at h
  exact ⟨bic_of (by omega) (by omega), bic_of (by omega) (by omega)⟩
theorem bounds_v {ch : List IP} (hne : ch ≠ []) (hm : ∀ c ∈ ch, Mid c) (hl : ch.length ≤ 1000) : law_bounds_F [.lst (ch.map ip)] = .ok (.lst ((boundsB ch).map b3)) := by
  have hl0 : 0 < ch.length := List.length_pos_iff.mpr hne
  have il := ix_lastI hne
  have i0 := ix_at0 (l := ch) (k := 0) hl0
  obtain ⟨env', e1, x, y, z, rfl⟩ := ex_for_run (fun k : Nat => D.int (k : Int)) (T := law_bounds_T) (t := .name 2) (it := .rng2 (.int 1) (.bi .len (.cons (.var 0) .nil))) (body := law_bounds_W1)
    (env := [some (.v (.lst (ch.map ip))), some (.o [b3 (1, 0, (lastI ch).1), b3 (0, 1, (at0 ch 0).2)]), none, none, none]) (List.range' 1 (ch.length - 1))
    (fun a env => ∃ x y z, env = [some (.v (.lst (ch.map ip))), some (.o ([b3 (1, 0, (lastI ch).1), b3 (0, 1, (at0 ch 0).2)] ++ a.map fun k => b3 (edgeB (at0 ch (k - 1)) (at0 ch k)))), x, y, z])
    (evI_rng2_nat (m := 1) (n := ch.length) (by simp) (by simp) (by omega) (by omega)) ⟨none, none, none, by simp⟩ (by
      rintro a k c env hab ⟨x, y, z, rfl⟩
      have hk : 1 ≤ k ∧ k < ch.length ∧ a.length < 1001 := by
        have h1 : k ∈ List.range' 1 (ch.length - 1) := by rw [hab]; simp
        have h2 := List.mem_range'_1.mp h1
        have h3 := congrArg List.length hab
        simp at h3
        omega
      have i1 := ix_at0 (l := ch) (k := k) hk.2.1
      have i2 := ix_at0 (l := ch) (k := k - 1) (by omega)
      have ek : ((k - 1 : Nat) : Int) = (k : Int) - 1 := by omega
      rw [ek] at i2
      obtain ⟨b1, b2⟩ := (hm _ (at0_mem hk.2.1)).bic
      obtain ⟨b4, b5⟩ := (hm _ (at0_mem (k := k - 1) (by omega))).bic
      refine ⟨_, rfl, _, .inl ?_, some (.v (.int (k : Int))), some (.v (.int ((at0 ch (k - 1)).2 - (at0 ch k).2))), some (.v (.int ((at0 ch k).1 - (at0 ch (k - 1)).1))), rfl⟩
      have len : a.length + 1 + 1 < 16777216 := by omega
      simp [law_bounds_W1, i1, i2, mul_c, len, b3, edgeB])
  have e2 : ex law_bounds_T law_bounds_B [some (.v (.lst (ch.map ip))), none, none, none, none] = .rt (.lst ((boundsB ch).map b3)) := by
    have a1 : ex law_bounds_T (.asgO 1 (.lst (.cons (.tup (.cons (.int 1) (.cons (.int 0) (.cons (.ix (.ix (.var 0) (.neg (.int 1))) (.int 0)) .nil)))) (.cons (.tup (.cons (.int 0) (.cons (.int 1) (.cons (.ix (.ix (.var 0) (.int 0)) (.int 1)) .nil)))) .nil)))) [some (.v (.lst (ch.map ip))), none, none, none, none] = .nx [some (.v (.lst (ch.map ip))), some (.o [b3 (1, 0, (lastI ch).1), b3 (0, 1, (at0 ch 0).2)]), none, none, none] := by
      simp at i0
      simp [il, i0, b3]
    have a2 : ex law_bounds_T law_bounds_L1 [some (.v (.lst (ch.map ip))), some (.o [b3 (1, 0, (lastI ch).1), b3 (0, 1, (at0 ch 0).2)]), none, none, none] = _ := e1
    rw [law_bounds_B, ex_cons, a1, andThen_nx, ex_cons, a2, andThen_nx]
    simp [frzE, boundsB]
  rw [law_bounds_F, runFn_out (np := 1) (nn := 5) rfl rfl e2, outR_rt]
/-! ### the walk -/
def walkC : Int → Int → List IP → List IP
  | x, y, [] => [(x, y)]
  | x, y, s :: r => (x, y) :: walkC (x + s.1) (y - s.2) r
def sumX (l : List IP) : Int := (l.map (·.1)).sum
def sumY (l : List IP) : Int := (l.map (·.2)).sum
theorem walkC_snoc : ∀ (l : List IP) (x y : Int) (s : IP), walkC x y (l ++ [s]) = walkC x y l ++ [(x + sumX l + s.1, y - sumY l - s.2)]
  | [], x, y, s => by simp [walkC, sumX, sumY]
  | t :: l, x, y, s => by
    simp only [List.cons_append, walkC, walkC_snoc l, sumX, sumY, List.map_cons, List.sum_cons]
    rw [show x + t.1 + (l.map (·.1)).sum + s.1 = x + (t.1 + (l.map (·.1)).sum) + s.1 by omega, show y - t.2 - (l.map (·.2)).sum - s.2 = y - (t.2 + (l.map (·.2)).sum) - s.2 by omega]
theorem walkC_ne (x y : Int) (l : List IP) : ∃ r, walkC x y l = (x, y) :: r := by
  cases l with
  | nil => exact ⟨[], rfl⟩
  | cons s l => exact ⟨_, rfl⟩
theorem walkC_len : ∀ (l : List IP) (x y : Int), (walkC x y l).length = l.length + 1
  | [], _, _ => rfl
  | s :: l, x, y => by simp [walkC, walkC_len l]
theorem walkC_last : ∀ (l : List IP) (x y : Int), (walkC x y l).getLast? = some (x + sumX l, y - sumY l)
  | [], x, y => by simp [walkC, sumX, sumY]
  | s :: l, x, y => by
    obtain ⟨r, e⟩ := walkC_ne (x + s.1) (y - s.2) l
    have ih := walkC_last l (x + s.1) (y - s.2)
    simp only [walkC]
    rw [e] at ih ⊢
    rw [List.getLast?_cons_cons, ih]
    simp only [sumX, sumY, List.map_cons, List.sum_cons, Option.some.injEq, Prod.mk.injEq]
    omega
def rq (z : IP) : Pt := ((z.1 : Rat), (z.2 : Rat))
theorem rq_fst (z : IP) : (rq z).1 = (z.1 : Rat) := rfl
theorem rq_snd (z : IP) : (rq z).2 = (z.2 : Rat) := rfl
def turnI (a b c : IP) : Int := (b.1 - a.1) * (c.2 - a.2) - (b.2 - a.2) * (c.1 - a.1)
theorem rq_turn (a b c : IP) : ((turnI a b c : Int) : Rat) = Clip.turn (rq a) (rq b) (rq c) := by
  unfold turnI Clip.turn rq
  simp only [Rat.intCast_sub, Rat.intCast_mul]
theorem rq_lt {a b : Int} : (a : Rat) < (b : Rat) ↔ a < b := Rat.intCast_lt_intCast
theorem walk_fall : ∀ (l : List IP) (x y : Int), (∀ s ∈ l, StepOk s) → Clip.Fall ((walkC x y l).map rq)
  | [], _, _, _ => trivial
  | s :: l, x, y, h => by
    have ih := walk_fall l (x + s.1) (y - s.2) fun t ht => h t (List.mem_cons_of_mem _ ht)
    obtain ⟨r, e⟩ := walkC_ne (x + s.1) (y - s.2) l
    have hs := h s (by simp)
    unfold StepOk at hs
    simp only [walkC]
    rw [e] at ih ⊢
    exact ⟨⟨rq_lt.mpr (by show x < x + s.1; omega), rq_lt.mpr (by show y - s.2 < y; omega)⟩, ih⟩
theorem walk_bent : ∀ (l : List IP) (x y : Int), StepsOk l → Clip.Bent ((walkC x y l).map rq)
  | [], _, _, _ => trivial
  | [s], x, y, _ => trivial
  | s :: t :: l, x, y, h => by
    have hp := List.pairwise_cons.mp h.pw
    have ih := walk_bent (t :: l) (x + s.1) (y - s.2) ⟨fun u hu => h.ok u (List.mem_cons_of_mem _ hu), hp.2⟩
    have hf : flat s t := hp.1 t (by simp)
    obtain ⟨r, e⟩ := walkC_ne (x + s.1 + t.1) (y - s.2 - t.2) l
    simp only [walkC] at ih ⊢
    rw [e] at ih ⊢
    refine ⟨?_, ih⟩
    have k : turnI (x, y) (x + s.1, y - s.2) (x + s.1 + t.1, y - s.2 - t.2) < 0 := by
      unfold turnI flat at *
      simp only
      grind
    rw [← rq_turn]
    have := (rq_lt (b := 0)).mpr k
    simpa using this
theorem walk_mem : ∀ (l : List IP) (x y : Int), (∀ s ∈ l, StepOk s) → ∀ c ∈ walkC x y l, x ≤ c.1 ∧ c.1 ≤ x + sumX l ∧ y - sumY l ≤ c.2 ∧ c.2 ≤ y
  | [], x, y, _, c, hc => by
    simp [walkC] at hc
    subst hc
    simp [sumX, sumY]
  | s :: l, x, y, h, c, hc => by
    have hs := h s (by simp)
    have nn : ∀ l : List IP, (∀ s ∈ l, StepOk s) → 0 ≤ sumX l ∧ 0 ≤ sumY l := by
      intro l
      induction l with
      | nil => intro _; simp [sumX, sumY]
      | cons t l ih =>
        intro h
        have := ih fun u hu => h u (List.mem_cons_of_mem _ hu)
        have ht := h t (by simp)
        unfold StepOk at ht
        simp only [sumX, sumY, List.map_cons, List.sum_cons] at *
        omega
    have hl := nn l fun u hu => h u (List.mem_cons_of_mem _ hu)
    unfold StepOk at hs
    have e1 : sumX (s :: l) = s.1 + sumX l := by simp [sumX]
    have e2 : sumY (s :: l) = s.2 + sumY l := by simp [sumY]
    rw [e1, e2]
    rcases List.mem_cons.mp hc with y' | y'
    · subst y'; simp only; omega
    · have := walk_mem l (x + s.1) (y - s.2) (fun u hu => h u (List.mem_cons_of_mem _ hu)) c y'
      omega
theorem sum_le : ∀ l : List IP, (∀ s ∈ l, StepOk s) → (l.length : Int) ≤ sumX l ∧ (l.length : Int) ≤ sumY l ∧ sumX l ≤ 60 * (l.length : Int) ∧ sumY l ≤ 60 * (l.length : Int)
  | [], _ => by simp [sumX, sumY]
  | s :: l, h => by
    have ih := sum_le l fun u hu => h u (List.mem_cons_of_mem _ hu)
    have hs := h s (by simp)
    unfold StepOk at hs
    have e1 : sumX (s :: l) = s.1 + sumX l := by simp [sumX]
    have e2 : sumY (s :: l) = s.2 + sumY l := by simp [sumY]
    rw [e1, e2]
    simp only [List.length_cons]
    omega
end Pg
/-! # N7: the law's world -/
namespace Pg
open PySem Rf
structure Shape (ch : List IP) : Prop where
  fall : Clip.Fall (ch.map rq)
  bent : Clip.Bent (ch.map rq)
  mid : ∀ c ∈ ch, Mid c
  ne : ch ≠ []
  len : ch.length ≤ 22
  lastp : 0 < (lastI ch).1
  topp : 0 < (at0 ch 0).2
structure WD where
  ap : Pt
  u : List Int
  ch : List IP
def worldD (W : WD) : D := .tup [pt W.ap, .lst (W.u.map D.int), .lst (W.ch.map ip), .lst ((boundsB W.ch).map b3)]
structure UnitsOk (u : List Int) (k : Nat) : Prop where
  len : u.length = 4
  pos : ∀ x ∈ u, 0 < x
  lt : ∀ x ∈ u, x < 2 ^ k
structure WOk (W : WD) (k : Nat) : Prop where
  ap : SzP 6 W.ap
  units : UnitsOk W.u k
  shape : Shape W.ch
theorem walk_shape {l : List IP} (h : StepsOk l) (hl : l.length ≤ 21) {x y : Int} (hx : 0 ≤ x) (hx2 : x ≤ 5) (hy : 0 ≤ y) (hy2 : y ≤ 5) (h0 : l = [] → 1 ≤ x ∧ 1 ≤ y) : Shape (walkC x (y + sumY l) l) := by
  have sl := sum_le l h.ok
  obtain ⟨r, e⟩ := walkC_ne x (y + sumY l) l
  have hlast : lastI (walkC x (y + sumY l) l) = (x + sumX l, y) := by
    have h1 := walkC_last l x (y + sumY l)
    have h2 := at0_of (l := walkC x (y + sumY l) l) (k := (walkC x (y + sumY l) l).length - 1) (by rw [walkC_len]; omega)
    rw [List.getLast?_eq_getElem?, h2] at h1
    have h1 := Option.some.inj h1
    unfold lastI
    rw [h1]
    simp
  refine ⟨walk_fall l _ _ h.ok, walk_bent l _ _ h, fun c hc => ?_, by rw [e]; simp, by rw [walkC_len]; omega, ?_, ?_⟩
  · have := walk_mem l x (y + sumY l) h.ok c hc
    unfold Mid
    omega
  · rw [hlast]
    show 0 < x + sumX l
    cases l with
    | nil => have := h0 rfl; simp [sumX]; omega
    | cons s l => simp at sl; omega
  · rw [e]
    show 0 < y + sumY l
    cases l with
    | nil => have := h0 rfl; simp [sumY]; omega
    | cons s l => simp at sl; omega
theorem fm (a : Int) {b : Int} (hb : 0 < b) : 0 ≤ a.fmod b ∧ a.fmod b < b := ⟨Int.fmod_nonneg_of_pos a hb, Int.fmod_lt_of_pos a hb⟩
theorem eq_nil_v (l : List IP) : cop .eq (.lst (l.map ip)) (.lst []) = .ok (.bl (decide (l = []))) := by
  have o1 : okN 2 (.lst (l.map ip)) = true := by
    simp [okN, ip]
  have e := eqD_of (n := 2) o1 (show okN 2 (.lst []) = true by simp [okN]) (by simp [nice])
  rw [cop_eq e]
  simp
theorem maxv (a : Int) : biF .max2 [.int 0, .int a] = .ok (.int (max 0 a)) := by
  rw [bi_max]
  congr 2
  split <;> omega
abbrev wdE (a b c d e f g h i j k l : Option Sl) : Rf.Env := [a, b, c, d, e, f, g, h, i, j, k, l]
theorem world_v (cell : Int) : ∃ W, law_world_F [.int cell] = .ok (worldD W) ∧ WOk W 30 := by
  obtain ⟨row, r1, hr⟩ := digits_row cell 60 54 (by decide) (by decide) (by decide)
  have ix : ∀ k : Nat, k < 54 → ixD (.lst (row.map D.int)) (.int (k : Int)) = .ok (.int (row.getD k 0)) := fun k h => hr.ix k h
  have i0 : ixD (.lst (row.map D.int)) (.int 0) = .ok (.int (row.getD 0 0)) := ix 0 (by decide)
  have i1 : ixD (.lst (row.map D.int)) (.int 1) = .ok (.int (row.getD 1 0)) := ix 1 (by decide)
  have i2 : ixD (.lst (row.map D.int)) (.int 2) = .ok (.int (row.getD 2 0)) := ix 2 (by decide)
  have i3 : ixD (.lst (row.map D.int)) (.int 3) = .ok (.int (row.getD 3 0)) := ix 3 (by decide)
  have i4 : ixD (.lst (row.map D.int)) (.int 4) = .ok (.int (row.getD 4 0)) := ix 4 (by decide)
  have i5 : ixD (.lst (row.map D.int)) (.int 5) = .ok (.int (row.getD 5 0)) := ix 5 (by decide)
  have i6 : ixD (.lst (row.map D.int)) (.int 6) = .ok (.int (row.getD 6 0)) := ix 6 (by decide)
  have i7 : ixD (.lst (row.map D.int)) (.int 7) = .ok (.int (row.getD 7 0)) := ix 7 (by decide)
  have i8 : ixD (.lst (row.map D.int)) (.int 8) = .ok (.int (row.getD 8 0)) := ix 8 (by decide)
  have i9 : ixD (.lst (row.map D.int)) (.int 9) = .ok (.int (row.getD 9 0)) := ix 9 (by decide)
  have i10 : ixD (.lst (row.map D.int)) (.int 10) = .ok (.int (row.getD 10 0)) := ix 10 (by decide)
  have i11 : ixD (.lst (row.map D.int)) (.int 11) = .ok (.int (row.getD 11 0)) := ix 11 (by decide)
  have hg := hr.ge
  have ht := hr.lt
  -- how many steps
  generalize hmv : (if 54 ≤ row.getD 0 0 then 6 + (row.getD 1 0).fmod 16 else (row.getD 0 0).fmod 6) = mv
  have hm0 : 0 ≤ mv ∧ mv ≤ 21 := by
    have a := fm (row.getD 1 0) (show (0 : Int) < 16 by decide)
    have b := fm (row.getD 0 0) (show (0 : Int) < 6 by decide)
    rw [← hmv]
    split <;> omega
  obtain ⟨many, rfl⟩ : ∃ many : Nat, mv = (many : Int) := ⟨mv.toNat, by omega⟩
  obtain ⟨l, s1, hl, hll⟩ := steps_v hr many (by omega)
  -- x and y
  generalize hx0 : max 0 ((row.getD 3 0).fmod 8 - 3) = x0
  generalize hy0 : max 0 ((row.getD 4 0).fmod 8 - 3) = y0
  have bx : 0 ≤ x0 ∧ x0 ≤ 4 ∧ 0 ≤ y0 ∧ y0 ≤ 4 := by
    have a := fm (row.getD 3 0) (show (0 : Int) < 8 by decide)
    have b := fm (row.getD 4 0) (show (0 : Int) < 8 by decide)
    omega
  generalize hx1 : (if l = [] then x0 + 1 else x0) = x1
  generalize hy1 : (if l = [] then y0 + 1 else y0) = y1
  have bx1 : 0 ≤ x1 ∧ x1 ≤ 5 ∧ 0 ≤ y1 ∧ y1 ≤ 5 ∧ (l = [] → 1 ≤ x1 ∧ 1 ≤ y1) := by
    rw [← hx1, ← hy1]
    by_cases c : l = []
    · rw [if_pos c, if_pos c]; exact ⟨by omega, by omega, by omega, by omega, fun _ => by omega⟩
    · rw [if_neg c, if_neg c]; exact ⟨by omega, by omega, by omega, by omega, fun h => absurd h c⟩
  have hsh := walk_shape hl (by omega) bx1.1 bx1.2.1 bx1.2.2.1 bx1.2.2.2.1 bx1.2.2.2.2
  -- units
  have un : ∀ k, 1 ≤ 1 + (row.getD k 0).fmod 6 ∧ 1 + (row.getD k 0).fmod 6 ≤ 6 := fun k => by
    have := fm (row.getD k 0) (show (0 : Int) < 6 by decide)
    omega
  generalize hu0 : [1 + (row.getD 5 0).fmod 6, 1 + (row.getD 6 0).fmod 6, 1 + (row.getD 7 0).fmod 6, 1 + (row.getD 8 0).fmod 6] = u0
  have hu0' : ∀ x ∈ u0, 1 ≤ x ∧ x ≤ 6 := by
    rw [← hu0]
    intro x hx
    simp only [List.mem_cons, List.not_mem_nil, or_false] at hx
    rcases hx with h | h | h | h <;> subst h <;> exact un _
  have lu0 : u0.length = 4 := by rw [← hu0]; rfl
  generalize hu1 : (if (row.getD 2 0).fmod 5 = 4 then u0.map (fun x => x * 100000 + row.getD 9 0) else u0) = u1
  have U : UnitsOk u1 30 := by
    have g9 := hg 9
    have t9 := ht 9
    rw [← hu1]
    split
    · refine ⟨by simpa using lu0, fun x hx => ?_, fun x hx => ?_⟩
      · obtain ⟨z, hz, rfl⟩ := List.mem_map.mp hx
        have := hu0' z hz
        omega
      · obtain ⟨z, hz, rfl⟩ := List.mem_map.mp hx
        have := hu0' z hz
        omega
    · refine ⟨lu0, fun x hx => ?_, fun x hx => ?_⟩
      · have := hu0' x hx; omega
      · have := hu0' x hx; omega
  -- the apart point
  have lf : ∀ a b : Nat, law_lowest_F [.int (row.getD a 0 - 30), .int (1 + (row.getD b 0).fmod 6)] = .ok (fq (((row.getD a 0 - 30 : Int) : Rat) / ((1 + (row.getD b 0).fmod 6 : Int) : Rat))) ∧ Sz 6 (((row.getD a 0 - 30 : Int) : Rat) / ((1 + (row.getD b 0).fmod 6 : Int) : Rat)) := fun a b => by
    have ub := un b
    have ga := hg a
    have ta := ht a
    refine ⟨law_lowest_v _ _ (by omega) (Nat.lt_of_lt_of_le (show _ < 2 ^ 6 by omega) (two_le_pow (by decide))) (Nat.lt_of_lt_of_le (show _ < 2 ^ 6 by omega) (two_le_pow (by decide))), Sz.div_int (by omega) (by omega) (by omega)⟩
  obtain ⟨l1, l2⟩ := lf 10 9
  obtain ⟨l3, l4⟩ := lf 11 8
  generalize (((row.getD 10 0 - 30 : Int) : Rat) / ((1 + (row.getD 9 0).fmod 6 : Int) : Rat)) = left at *
  generalize (((row.getD 11 0 - 30 : Int) : Rat) / ((1 + (row.getD 8 0).fmod 6 : Int) : Rat)) = low at *
  generalize hch : walkC x1 (y1 + sumY l) l = ch at *
  have bv := bounds_v hsh.ne hsh.mid (by have := hsh.len; omega)
  refine ⟨⟨(left, low), u1, ch⟩, ?_, ⟨⟨l2, l4⟩, U, hsh⟩⟩
  -- the walk
  generalize hR : D.lst (row.map D.int) = R at *
  generalize hL : D.lst (l.map ip) = L at *
  have n : ∀ {s env e}, ex law_world_T s env = .nx e → ∀ r, ex law_world_T (.cons s r) env = ex law_world_T r e := fun h r => by rw [ex_cons, h, andThen_nx]
  have t1 : ex law_world_T (.asg (.name 1) (.call 0 (.cons (.var 0) (.cons (.int 60) (.cons (.int 54) .nil))))) (wdE (some (.v (.int cell))) none none none none none none none none none none none) = .nx (wdE (some (.v (.int cell))) (some (.v R)) none none none none none none none none none none) := by
    simp at r1
    simp [r1]
  have t2 : ex law_world_T (.asg (.name 2) (.bin .mod (.bi .int (.cons (.ix (.var 1) (.int 0)) .nil)) (.int 6))) (wdE (some (.v (.int cell))) (some (.v R)) none none none none none none none none none none) = .nx (wdE (some (.v (.int cell))) (some (.v R)) (some (.v (.int ((row.getD 0 0).fmod 6)))) none none none none none none none none none) := by
    simp [i0, bop_mod]
  have t3 : ex law_world_T (.ife (.cmp .ge (.ix (.var 1) (.int 0)) (.int 54)) (.cons (.asg (.name 2) (.bin .add (.int 6) (.bin .mod (.bi .int (.cons (.ix (.var 1) (.int 1)) .nil)) (.int 16)))) .nil) .nil) (wdE (some (.v (.int cell))) (some (.v R)) (some (.v (.int ((row.getD 0 0).fmod 6)))) none none none none none none none none none) = .nx (wdE (some (.v (.int cell))) (some (.v R)) (some (.v (.int (many : Int)))) none none none none none none none none none) := by
    rw [← hmv]
    by_cases c : 54 ≤ row.getD 0 0
    · rw [if_pos c]
      generalize row.getD 0 0 = q at *
      simp [i0, i1, bop_mod, c]
    · rw [if_neg c]
      generalize row.getD 0 0 = q at *
      simp [i0, i1, bop_mod, c]
  have t4 : ex law_world_T (.asg (.name 3) (.call 1 (.cons (.var 1) (.cons (.var 2) .nil)))) (wdE (some (.v (.int cell))) (some (.v R)) (some (.v (.int (many : Int)))) none none none none none none none none none) = .nx (wdE (some (.v (.int cell))) (some (.v R)) (some (.v (.int (many : Int)))) (some (.v L)) none none none none none none none none) := by
    simp [s1]
  have t5 : ex law_world_T (.asg (.name 4) (.bi .max2 (.cons (.int 0) (.cons (.bin .sub (.bin .mod (.bi .int (.cons (.ix (.var 1) (.int 3)) .nil)) (.int 8)) (.int 3)) .nil)))) (wdE (some (.v (.int cell))) (some (.v R)) (some (.v (.int (many : Int)))) (some (.v L)) none none none none none none none none) = .nx (wdE (some (.v (.int cell))) (some (.v R)) (some (.v (.int (many : Int)))) (some (.v L)) (some (.v (.int x0))) none none none none none none none) := by
    rw [← hx0]
    simp [i3, bop_mod, maxv, -bi_max]
  have t6 : ex law_world_T (.asg (.name 5) (.bi .max2 (.cons (.int 0) (.cons (.bin .sub (.bin .mod (.bi .int (.cons (.ix (.var 1) (.int 4)) .nil)) (.int 8)) (.int 3)) .nil)))) (wdE (some (.v (.int cell))) (some (.v R)) (some (.v (.int (many : Int)))) (some (.v L)) (some (.v (.int x0))) none none none none none none none) = .nx (wdE (some (.v (.int cell))) (some (.v R)) (some (.v (.int (many : Int)))) (some (.v L)) (some (.v (.int x0))) (some (.v (.int y0))) none none none none none none) := by
    rw [← hy0]
    simp [i4, bop_mod, maxv, -bi_max]
  have t7 : ex law_world_T (.ife (.cmp .eq (.var 3) (.lst .nil)) (.cons (.asg (.name 4) (.bin .add (.var 4) (.int 1))) (.cons (.asg (.name 5) (.bin .add (.var 5) (.int 1))) .nil)) .nil) (wdE (some (.v (.int cell))) (some (.v R)) (some (.v (.int (many : Int)))) (some (.v L)) (some (.v (.int x0))) (some (.v (.int y0))) none none none none none none) = .nx (wdE (some (.v (.int cell))) (some (.v R)) (some (.v (.int (many : Int)))) (some (.v L)) (some (.v (.int x1))) (some (.v (.int y1))) none none none none none none) := by
    rw [← hx1, ← hy1, ← hL]
    have e := eq_nil_v l
    by_cases c : l = []
    · subst c
      simp at e
      simp [e]
    · simp [e, c]
  have t8 : ∃ z, ex law_world_T law_world_L1 (wdE (some (.v (.int cell))) (some (.v R)) (some (.v (.int (many : Int)))) (some (.v L)) (some (.v (.int x1))) (some (.v (.int y1))) none none none none none none) = .nx (wdE (some (.v (.int cell))) (some (.v R)) (some (.v (.int (many : Int)))) (some (.v L)) (some (.v (.int x1))) (some (.v (.int (y1 + sumY l)))) z none none none none none) := by
    obtain ⟨env', e1, z, rfl⟩ := ex_for_run ip (T := law_world_T) (t := .name 6) (it := .cons (.var 3) .nil) (body := law_world_W1)
      (env := wdE (some (.v (.int cell))) (some (.v R)) (some (.v (.int (many : Int)))) (some (.v L)) (some (.v (.int x1))) (some (.v (.int y1))) none none none none none none) l
      (fun a env => ∃ z, env = wdE (some (.v (.int cell))) (some (.v R)) (some (.v (.int (many : Int)))) (some (.v L)) (some (.v (.int x1))) (some (.v (.int (y1 + sumY a)))) z none none none none none)
      (evI_lst (by rw [← hL]; simp)) ⟨none, by simp [sumY]⟩ (by
        rintro a b c env hab ⟨z, rfl⟩
        refine ⟨_, rfl, _, .inl ?_, some (.v (ip b)), rfl⟩
        simp [law_world_W1, sumY, Int.add_assoc])
    exact ⟨z, e1⟩
  obtain ⟨z8, t8⟩ := t8
  have t9 : ex law_world_T (.asgO 7 (.lst (.cons (.tup (.cons (.var 4) (.cons (.var 5) .nil))) .nil))) (wdE (some (.v (.int cell))) (some (.v R)) (some (.v (.int (many : Int)))) (some (.v L)) (some (.v (.int x1))) (some (.v (.int (y1 + sumY l)))) z8 none none none none none) = .nx (wdE (some (.v (.int cell))) (some (.v R)) (some (.v (.int (many : Int)))) (some (.v L)) (some (.v (.int x1))) (some (.v (.int (y1 + sumY l)))) z8 (some (.o [ip (x1, y1 + sumY l)])) none none none none) := by
    simp [ip]
  have t10 : ∃ x y z, ex law_world_T law_world_L2 (wdE (some (.v (.int cell))) (some (.v R)) (some (.v (.int (many : Int)))) (some (.v L)) (some (.v (.int x1))) (some (.v (.int (y1 + sumY l)))) z8 (some (.o [ip (x1, y1 + sumY l)])) none none none none) = .nx (wdE (some (.v (.int cell))) (some (.v R)) (some (.v (.int (many : Int)))) (some (.v L)) x y z (some (.o (ch.map ip))) none none none none) := by
    obtain ⟨env', e1, z, rfl⟩ := ex_for_run ip (T := law_world_T) (t := .name 6) (it := .cons (.var 3) .nil) (body := law_world_W2)
      (env := wdE (some (.v (.int cell))) (some (.v R)) (some (.v (.int (many : Int)))) (some (.v L)) (some (.v (.int x1))) (some (.v (.int (y1 + sumY l)))) z8 (some (.o [ip (x1, y1 + sumY l)])) none none none none) l
      (fun a env => ∃ z, env = wdE (some (.v (.int cell))) (some (.v R)) (some (.v (.int (many : Int)))) (some (.v L)) (some (.v (.int (x1 + sumX a)))) (some (.v (.int (y1 + sumY l - sumY a)))) z (some (.o ((walkC x1 (y1 + sumY l) a).map ip))) none none none none)
      (evI_lst (by rw [← hL]; simp)) ⟨z8, by simp [sumX, sumY, walkC]⟩ (by
        rintro a b c env hab ⟨z, rfl⟩
        refine ⟨_, rfl, _, .inl ?_, some (.v (ip b)), rfl⟩
        have len : (walkC x1 (y1 + sumY l) a).length < 16777216 := by
          have := congrArg List.length hab
          simp at this
          rw [walkC_len]; omega
        rw [walkC_snoc]
        have q1 : sumX (a ++ [b]) = sumX a + b.1 := by simp [sumX]
        have q2 : sumY (a ++ [b]) = sumY a + b.2 := by simp [sumY]
        rw [q1, q2, ← Int.sub_sub, ← Int.add_assoc]
        simp [law_world_W2, len, ip_mk])
    exact ⟨_, _, _, by rw [← hch]; exact e1⟩
  obtain ⟨x10, y10, z10, t10⟩ := t10
  have t11 : ex law_world_T (.asg (.name 8) (.lst (.cons (.bin .add (.int 1) (.bin .mod (.bi .int (.cons (.ix (.var 1) (.int 5)) .nil)) (.int 6))) (.cons (.bin .add (.int 1) (.bin .mod (.bi .int (.cons (.ix (.var 1) (.int 6)) .nil)) (.int 6))) (.cons (.bin .add (.int 1) (.bin .mod (.bi .int (.cons (.ix (.var 1) (.int 7)) .nil)) (.int 6))) (.cons (.bin .add (.int 1) (.bin .mod (.bi .int (.cons (.ix (.var 1) (.int 8)) .nil)) (.int 6))) .nil)))))) (wdE (some (.v (.int cell))) (some (.v R)) (some (.v (.int (many : Int)))) (some (.v L)) x10 y10 z10 (some (.o (ch.map ip))) none none none none) = .nx (wdE (some (.v (.int cell))) (some (.v R)) (some (.v (.int (many : Int)))) (some (.v L)) x10 y10 z10 (some (.o (ch.map ip))) (some (.v (.lst (u0.map D.int)))) none none none) := by
    rw [← hu0]
    simp [i5, i6, i7, i8, bop_mod]
  have t12 : ex law_world_T (.ife (.cmp .eq (.bin .mod (.bi .int (.cons (.ix (.var 1) (.int 2)) .nil)) (.int 5)) (.int 4)) (.cons (.asg (.name 8) law_world_C1) .nil) .nil) (wdE (some (.v (.int cell))) (some (.v R)) (some (.v (.int (many : Int)))) (some (.v L)) x10 y10 z10 (some (.o (ch.map ip))) (some (.v (.lst (u0.map D.int)))) none none none) = .nx (wdE (some (.v (.int cell))) (some (.v R)) (some (.v (.int (many : Int)))) (some (.v L)) x10 y10 z10 (some (.o (ch.map ip))) (some (.v (.lst (u1.map D.int)))) none none none) := by
    have ec : ev law_world_T law_world_C1 (wdE (some (.v (.int cell))) (some (.v R)) (some (.v (.int (many : Int)))) (some (.v L)) x10 y10 z10 (some (.o (ch.map ip))) (some (.v (.lst (u0.map D.int)))) none none none) = .ok (.lst ((u0.map (fun x => x * 100000 + row.getD 9 0)).map D.int)) := by
      have := ev_comp_map D.int (T := law_world_T) (elt := .bin .add (.bin .mul (.var 11) (.bin .pow (.int 10) (.int 5))) (.ix (.var 1) (.int 9))) (it := .cons (.var 8) .nil) (cond := .nil) (tg := .name 11) (own := [11])
        (env := wdE (some (.v (.int cell))) (some (.v R)) (some (.v (.int (many : Int)))) (some (.v L)) x10 y10 z10 (some (.o (ch.map ip))) (some (.v (.lst (u0.map D.int)))) none none none) u0 (fun _ => true) (fun x => .int (x * 100000 + row.getD 9 0)) (evI_lst (by simp)) (by
          intro x hx
          refine ⟨_, rfl, by simp, fun _ => ?_⟩
          have bx := hu0' x hx
          haveI : Bic x 4 := bic_of (by omega) (by omega)
          have hp : bop .pow (.int 10) (.int 5) = .ok (.int 100000) := by rw [bop_pow (by decide)]; rfl
          simp [hideO, wipeE, hp, mul_c, i9]) (by omega)
      rw [List.filter_eq_self.mpr (by simp)] at this
      rw [law_world_C1, this, List.map_map]
      rfl
    rw [← hu1]
    by_cases c : (row.getD 2 0).fmod 5 = 4
    · rw [if_pos c]
      generalize row.getD 2 0 = q at *
      simp [i2, bop_mod, c]
      rw [ec]
      simp
    · rw [if_neg c]
      generalize row.getD 2 0 = q at *
      simp [i2, bop_mod, c]
  have t13 : ex law_world_T (.asg (.name 9) (.call 2 (.cons (.bin .sub (.ix (.var 1) (.int 10)) (.int 30)) (.cons (.bin .add (.int 1) (.bin .mod (.bi .int (.cons (.ix (.var 1) (.int 9)) .nil)) (.int 6))) .nil)))) (wdE (some (.v (.int cell))) (some (.v R)) (some (.v (.int (many : Int)))) (some (.v L)) x10 y10 z10 (some (.o (ch.map ip))) (some (.v (.lst (u1.map D.int)))) none none none) = .nx (wdE (some (.v (.int cell))) (some (.v R)) (some (.v (.int (many : Int)))) (some (.v L)) x10 y10 z10 (some (.o (ch.map ip))) (some (.v (.lst (u1.map D.int)))) (some (.v (fq left))) none none) := by
    simp [i10, i9, bop_mod, -ev_call]
    rw [ev_call]
    simp [i10, i9, bop_mod]
    simp at l1
    rw [l1]
    simp
  have t14 : ex law_world_T (.asg (.name 10) (.call 2 (.cons (.bin .sub (.ix (.var 1) (.int 11)) (.int 30)) (.cons (.bin .add (.int 1) (.bin .mod (.bi .int (.cons (.ix (.var 1) (.int 8)) .nil)) (.int 6))) .nil)))) (wdE (some (.v (.int cell))) (some (.v R)) (some (.v (.int (many : Int)))) (some (.v L)) x10 y10 z10 (some (.o (ch.map ip))) (some (.v (.lst (u1.map D.int)))) (some (.v (fq left))) none none) = .nx (wdE (some (.v (.int cell))) (some (.v R)) (some (.v (.int (many : Int)))) (some (.v L)) x10 y10 z10 (some (.o (ch.map ip))) (some (.v (.lst (u1.map D.int)))) (some (.v (fq left))) (some (.v (fq low))) none) := by
    simp [i11, i8, bop_mod, -ev_call]
    rw [ev_call]
    simp [i11, i8, bop_mod]
    simp at l3
    rw [l3]
    simp
  have eB : ex law_world_T law_world_B (wdE (some (.v (.int cell))) none none none none none none none none none none none) = .rt (worldD ⟨(left, low), u1, ch⟩) := by
    rw [law_world_B, n t1, n t2, n t3, n t4, n t5, n t6, n t7, n t8, n t9, n t10, n t11, n t12, n t13, n t14]
    simp [frzE, bv, worldD, pt]
  rw [law_world_F, runFn_out (np := 1) (nn := 12) rfl rfl eB, outR_rt]
end Pg
/-! # N8: points of the world -/
namespace Pg
open PySem Rf
def vU (W : WD) : Rat := ((W.u.getD 0 0 : Int) : Rat) / ((W.u.getD 1 0 : Int) : Rat)
def wU (W : WD) : Rat := ((W.u.getD 2 0 : Int) : Rat) / ((W.u.getD 3 0 : Int) : Rat)
def quo (x : IP) : Rat := (x.1 : Rat) / (x.2 : Rat)
def qpt (x y : IP) : Pt := (quo x, quo y)
def atW (W : WD) (p : Pt) : Pt := Clip.aff (vU W) (wU W) W.ap p
/-- a fraction of ints, its second part above zero -/
def Fr (k : Nat) (x : IP) : Prop := x.1.natAbs < 2 ^ k ∧ 0 < x.2 ∧ x.2 < 2 ^ k
theorem ne_of_pos {n : Int} (h : 0 < n) : (n : Rat) ≠ 0 := by
  have := intCast_pos h
  grind
theorem div_pos {a b : Rat} (ha : 0 < a) (hb : 0 < b) : 0 < a / b := by
  have e : b * (a / b) = a := by
    have : b ≠ 0 := by grind
    grind
  exact Clip.pos_of hb (by grind)
theorem div_nonneg {a b : Rat} (ha : 0 ≤ a) (hb : 0 < b) : 0 ≤ a / b := by
  have e : b * (a / b) = a := by
    have : b ≠ 0 := by grind
    grind
  exact Clip.nonneg_of hb (by grind)
theorem UnitsOk.get {u : List Int} {k : Nat} (h : UnitsOk u k) (i : Nat) (hi : i < 4) : 0 < u.getD i 0 ∧ u.getD i 0 < 2 ^ k := by
  have : u[i]? = some (u.getD i 0) := by
    rw [List.getD_eq_getElem?_getD, List.getElem?_eq_getElem (by rw [h.len]; exact hi)]
    rfl
  exact ⟨h.pos _ (List.mem_of_getElem? this), h.lt _ (List.mem_of_getElem? this)⟩
theorem vU_pos {W : WD} {k : Nat} (h : WOk W k) : 0 < vU W := div_pos (intCast_pos (h.units.get 0 (by decide)).1) (intCast_pos (h.units.get 1 (by decide)).1)
theorem wU_pos {W : WD} {k : Nat} (h : WOk W k) : 0 < wU W := div_pos (intCast_pos (h.units.get 2 (by decide)).1) (intCast_pos (h.units.get 3 (by decide)).1)
theorem at1 {l : Rat} {u t : Int} {x : IP} {k n : Nat} (hl : Sz 6 l) (hu : 0 < u ∧ u < 2 ^ k) (ht : 0 < t ∧ t < 2 ^ k) (hx : Fr n x) (hk : k + n ≤ 1000) :
    okMul l.num t = true ∧ okMul (l.num * t) x.2 = true ∧ okMul (l.den : Int) u = true ∧ okMul ((l.den : Int) * u) x.1 = true ∧ okMul (l.den : Int) t = true ∧ okMul ((l.den : Int) * t) x.2 = true ∧
    law_lowest_F [.int (l.num * t * x.2 + (l.den : Int) * u * x.1), .int ((l.den : Int) * t * x.2)] = .ok (fq (l + ((u : Rat) / (t : Rat)) * quo x)) ∧ Sz (6 + k + n + 1) (l + ((u : Rat) / (t : Rat)) * quo x) := by
  haveI b1 : Bic l.num 6 := ⟨hl.1⟩
  haveI b2 : Bic (l.den : Int) 6 := ⟨hl.den_na⟩
  haveI b3 : Bic u k := bic_of (Int.le_of_lt hu.1) hu.2
  haveI b4 : Bic t k := bic_of (Int.le_of_lt ht.1) ht.2
  haveI b5 : Bic x.1 n := ⟨hx.1⟩
  haveI b6 : Bic x.2 n := bic_of (Int.le_of_lt hx.2.1) hx.2.2
  have e : ((l.num * t * x.2 + (l.den : Int) * u * x.1 : Int) : Rat) / (((l.den : Int) * t * x.2 : Int) : Rat) = l + ((u : Rat) / (t : Rat)) * quo x := by
    have h1 := rat_eq l
    have h2 : ((l.den : Int) : Rat) ≠ 0 := ne_of_pos (den_pos l)
    have h3 := ne_of_pos ht.1
    have h4 := ne_of_pos hx.2.1
    simp only [Rat.intCast_add, Rat.intCast_mul, quo]
    conv => rhs; rw [h1]
    generalize ((l.num : Int) : Rat) = N at *
    generalize ((l.den : Int) : Rat) = D at *
    generalize (u : Rat) = U at *
    generalize (t : Rat) = T at *
    generalize (x.1 : Rat) = X at *
    generalize (x.2 : Rat) = Y at *
    have h5 : D * T * Y ≠ 0 := by
      intro z
      rcases Rat.mul_eq_zero.mp z with z | z
      · rcases Rat.mul_eq_zero.mp z with z | z
        · exact h2 z
        · exact h3 z
      · exact h4 z
    grind
  have dp : 0 < (l.den : Int) * t * x.2 := Int.mul_pos (Int.mul_pos (den_pos l) ht.1) hx.2.1
  have z1 : (l.num * t * x.2 + (l.den : Int) * u * x.1).natAbs < 2 ^ (6 + k + n + 1) := by
    have := sum_lt (k := 6 + k + n) (mul_na (mul_na b1.lt b4.lt) b6.lt) (mul_na (mul_na b2.lt b3.lt) b5.lt)
    exact this.1
  have z2 : ((l.den : Int) * t * x.2).natAbs < 2 ^ (6 + k + n) := mul_na (mul_na b2.lt b4.lt) b6.lt
  refine ⟨okMul_c b1 b4 (by omega), okMul_c inferInstance b6 (by omega), okMul_c b2 b3 (by omega), okMul_c inferInstance b5 (by omega), okMul_c b2 b4 (by omega), okMul_c inferInstance b6 (by omega), ?_, ?_⟩
  · rw [law_lowest_v _ _ dp (Nat.lt_of_lt_of_le z1 (two_le_pow (by omega))) (Nat.lt_of_lt_of_le z2 (two_le_pow (by omega))), e]
  · rw [← e]
    exact Sz.div_int z1 (Nat.lt_of_lt_of_le z2 (two_le_pow (by omega))) (by omega)
theorem at_v {W : WD} {k n : Nat} (h : WOk W k) {x y : IP} (hx : Fr n x) (hy : Fr n y) (hk : k + n ≤ 1000) : law_at_F [worldD W, ip x, ip y] = .ok (pt (atW W (qpt x y))) ∧ SzP (6 + k + n + 1) (atW W (qpt x y)) := by
  obtain ⟨a1, a2, a3, a4, a5, a6, a7, a8⟩ := at1 h.ap.1 (h.units.get 0 (by decide)) (h.units.get 1 (by decide)) hx hk
  obtain ⟨c1, c2, c3, c4, c5, c6, c7, c8⟩ := at1 h.ap.2 (h.units.get 2 (by decide)) (h.units.get 3 (by decide)) hy hk
  refine ⟨?_, a8, c8⟩
  have ix : ∀ i : Nat, i < 4 → ixD (.lst (W.u.map D.int)) (.int (i : Int)) = .ok (.int (W.u.getD i 0)) := fun i hi => by
    have := ix_ints (row := W.u) (i := (i : Int)) (by omega) (by rw [h.units.len]; simpa using hi)
    simpa using this
  have i0 : ixD (.lst (W.u.map D.int)) (.int 0) = .ok (.int (W.u.getD 0 0)) := ix 0 (by decide)
  have i1 : ixD (.lst (W.u.map D.int)) (.int 1) = .ok (.int (W.u.getD 1 0)) := ix 1 (by decide)
  have i2 : ixD (.lst (W.u.map D.int)) (.int 2) = .ok (.int (W.u.getD 2 0)) := ix 2 (by decide)
  have i3 : ixD (.lst (W.u.map D.int)) (.int 3) = .ok (.int (W.u.getD 3 0)) := ix 3 (by decide)
  have d0 : ixD (worldD W) (.int 0) = .ok (pt W.ap) := ixT0 _ _
  have d1 : ixD (worldD W) (.int 1) = .ok (.lst (W.u.map D.int)) := ixT1 _ _ _
  unfold atW Clip.aff vU wU qpt
  generalize W.u.getD 0 0 = u0 at *
  generalize W.u.getD 1 0 = u1 at *
  generalize W.u.getD 2 0 = u2 at *
  generalize W.u.getD 3 0 = u3 at *
  simp [law_at_F, runFn, law_at_B, d0, d1, i0, i1, i2, i3, bop_mul, a1, a2, a3, a4, a5, a6, a7, c1, c2, c3, c4, c5, c6, c7, pt]
theorem large_v {W : WD} {k : Nat} (h : WOk W k) (cell : Int) : ∃ u, law_large_F [worldD W, .int cell] = .ok (worldD ⟨W.ap, u, W.ch⟩) ∧ WOk ⟨W.ap, u, W.ch⟩ 94 := by
  obtain ⟨row, r1, hr⟩ := digits_row cell 10000000000000000000000000000 4 (by decide) (by decide) (by decide)
  have hp : bop .pow (.int 10) (.int 28) = .ok (.int 10000000000000000000000000000) := by rw [bop_pow (by decide)]; rfl
  have hrow : ∀ x ∈ row, 0 ≤ x ∧ x < 10000000000000000000000000000 := fun x hx => by
    obtain ⟨i, hi⟩ := List.mem_iff_getElem?.mp hx
    have e : row.getD i 0 = x := by rw [List.getD_eq_getElem?_getD, hi]; rfl
    rw [← e]
    exact ⟨hr.ge i, hr.lt i⟩
  refine ⟨row.map fun x => 1 + x, ?_, h.ap, ⟨by simpa using hr.len, fun x hx => ?_, fun x hx => ?_⟩, h.shape⟩
  · have ec : ev law_large_T law_large_C1 [some (.v (worldD W)), some (.v (.int cell)), some (.v (.lst (row.map D.int))), none] = .ok (.lst ((row.map fun x => 1 + x).map D.int)) := by
      have := ev_comp_map D.int (T := law_large_T) (elt := .bin .add (.int 1) (.var 3)) (it := .cons (.var 2) .nil) (cond := .nil) (tg := .name 3) (own := [3])
        (env := [some (.v (worldD W)), some (.v (.int cell)), some (.v (.lst (row.map D.int))), none]) row (fun _ => true) (fun x => .int (1 + x)) (evI_lst (by simp)) (by
          intro x hx
          exact ⟨_, rfl, by simp, fun _ => by simp [hideO, wipeE]⟩) (by rw [hr.len]; decide)
      rw [List.filter_eq_self.mpr (by simp)] at this
      rw [law_large_C1, this, List.map_map]
      rfl
    have d0 : ixD (worldD W) (.int 0) = .ok (pt W.ap) := ixT0 _ _
    have d2 : ixD (worldD W) (.int 2) = .ok (.lst (W.ch.map ip)) := id rfl
    have d3 : ixD (worldD W) (.int 3) = .ok (.lst ((boundsB W.ch).map b3)) := id rfl
    simp at r1
    simp [law_large_F, runFn, law_large_B, hp, r1]
    rw [ec]
    simp [d0, d2, d3, worldD]
  · obtain ⟨z, hz, rfl⟩ := List.mem_map.mp hx
    have := hrow z hz
    omega
  · obtain ⟨z, hz, rfl⟩ := List.mem_map.mp hx
    have := hrow z hz
    have : (2 : Int) ^ 94 = 19807040628566084398385987584 := by decide
    rw [this]
    omega
end Pg
/-! # K75a: what lies in the gain set of the world -/
namespace Pg
open PySem Rf
structure In0 (ch : List IP) (q : Pt) : Prop where
  x0 : 0 ≤ q.1
  y0 : 0 ≤ q.2
  x1 : q.1 ≤ ((lastI ch).1 : Rat)
  y1 : q.2 ≤ ((at0 ch 0).2 : Rat)
  tu : Clip.Turns q (ch.map rq)
theorem rle {a b : Int} : (a : Rat) ≤ (b : Rat) ↔ a ≤ b := Rat.intCast_le_intCast
theorem shape_last {ch : List IP} (h : Shape ch) : ch.getLast? = some (lastI ch) ∧ (ch.map rq).getLast? = some (rq (lastI ch)) := by
  have hl : 0 < ch.length := List.length_pos_iff.mpr h.ne
  have e : ch.getLast? = some (lastI ch) := by
    rw [List.getLast?_eq_getElem?, at0_of (by omega)]
    rfl
  exact ⟨e, by rw [List.getLast?_map, e]; rfl⟩
theorem shape_head {ch : List IP} (h : Shape ch) : ∃ r, ch = at0 ch 0 :: r := by
  cases ch with
  | nil => exact absurd rfl h.ne
  | cons a r => exact ⟨r, rfl⟩
theorem in0_corner {ch : List IP} (h : Shape ch) {c : IP} (hc : c ∈ ch) : In0 ch (rq c) := by
  have hm := h.mid c hc
  unfold Mid at hm
  have hcr : rq c ∈ ch.map rq := List.mem_map_of_mem hc
  refine ⟨rle.mpr hm.1, rle.mpr hm.2.2.1, ?_, ?_, Clip.conv_turns h.fall h.bent _ hcr⟩
  · rcases Clip.fall_last h.fall (shape_last h).2 _ hcr with e | e
    · rw [e]; exact Rat.le_refl
    · exact Rat.le_of_lt e.1
  · obtain ⟨r, e⟩ := shape_head h
    have hf := h.fall
    rw [e] at hf hc
    rcases List.mem_cons.mp hc with y | y
    · rw [y]; exact Rat.le_refl
    · exact Rat.le_of_lt (Clip.fall_all hf (rq c) (List.mem_map_of_mem y)).2
theorem in0_mix {ch : List IP} {p q : Pt} {s : Rat} (hp : In0 ch p) (hq : In0 ch q) (h0 : 0 ≤ s) (h1 : s ≤ 1) : In0 ch (Clip.mix p q s) := by
  have m : ∀ {a b l : Rat}, a ≤ l → b ≤ l → a + (b - a) * s ≤ l := fun {a b l} ha hb => by
    have q1 := Rat.mul_nonneg h0 (show 0 ≤ l - b by grind)
    have q2 := Rat.mul_nonneg (show 0 ≤ 1 - s by grind) (show 0 ≤ l - a by grind)
    grind
  have m' : ∀ {a b l : Rat}, l ≤ a → l ≤ b → l ≤ a + (b - a) * s := fun {a b l} ha hb => by
    have q1 := Rat.mul_nonneg h0 (show 0 ≤ b - l by grind)
    have q2 := Rat.mul_nonneg (show 0 ≤ 1 - s by grind) (show 0 ≤ a - l by grind)
    grind
  exact ⟨m' hp.x0 hq.x0, m' hp.y0 hq.y0, m hp.x1 hq.x1, m hp.y1 hq.y1, Clip.Turns.mix h0 h1 hp.tu hq.tu⟩
theorem in0_down {ch : List IP} (h : Shape ch) {p q : Pt} (hq : In0 ch q) (a : 0 ≤ p.1) (b : p.1 ≤ q.1) (c : 0 ≤ p.2) (d : p.2 ≤ q.2) : In0 ch p :=
  ⟨a, c, Rat.le_trans b hq.x1, Rat.le_trans d hq.y1, Clip.Turns.mono b d h.fall hq.tu⟩
theorem quo_le {x y : IP} (hx : 0 < x.2) (hy : 0 < y.2) : quo x ≤ quo y ↔ x.1 * y.2 ≤ y.1 * x.2 := by
  have h1 := intCast_pos hx
  have h2 := intCast_pos hy
  have n1 := ne_of_pos hx
  have n2 := ne_of_pos hy
  have e1 : quo x * (x.2 : Rat) = (x.1 : Rat) := by unfold quo; grind
  have e2 : quo y * (y.2 : Rat) = (y.1 : Rat) := by unfold quo; grind
  have e3 : ((x.1 * y.2 : Int) : Rat) = quo x * ((x.2 : Rat) * (y.2 : Rat)) := by rw [Rat.intCast_mul, ← e1]; grind
  have e4 : ((y.1 * x.2 : Int) : Rat) = quo y * ((x.2 : Rat) * (y.2 : Rat)) := by rw [Rat.intCast_mul, ← e2]; grind
  rw [← rle, e3, e4]
  exact (mul_cancel_le (Rat.mul_pos h1 h2)).symm
theorem quo_nonneg {x : IP} (hx : 0 < x.2) (h : 0 ≤ x.1) : 0 ≤ quo x := div_nonneg (by have := rle.mpr h; simpa using this) (intCast_pos hx)
theorem quo_one (a : Int) : quo (a, 1) = (a : Rat) := by
  unfold quo
  simp only
  have : ((1 : Int) : Rat) = 1 := rfl
  rw [this]
  grind
theorem quo_mix {a b : Int} {i n : Int} (hn : 0 < n) : quo (a * (n - i) + b * i, n) = (a : Rat) + ((b : Rat) - (a : Rat)) * ((i : Rat) / (n : Rat)) := by
  have := ne_of_pos hn
  unfold quo
  simp only [Rat.intCast_add, Rat.intCast_mul, Rat.intCast_sub]
  grind
/-- a spot: a fraction of ints for each person -/
def sp (x y : IP) : D := .tup [ip x, ip y]
theorem in0_edge {ch : List IP} (h : Shape ch) {a b : IP} (ha : a ∈ ch) (hb : b ∈ ch) {i n : Int} (hn : 0 < n) (h0 : 0 ≤ i) (h1 : i ≤ n) : In0 ch (qpt (a.1 * (n - i) + b.1 * i, n) (a.2 * (n - i) + b.2 * i, n)) := by
  have e : qpt (a.1 * (n - i) + b.1 * i, n) (a.2 * (n - i) + b.2 * i, n) = Clip.mix (rq a) (rq b) ((i : Rat) / (n : Rat)) := by
    unfold qpt
    rw [quo_mix hn, quo_mix hn]
    rfl
  rw [e]
  refine in0_mix (in0_corner h ha) (in0_corner h hb) (div_nonneg (by have := rle.mpr h0; simpa using this) (intCast_pos hn)) ?_
  have := (quo_le (x := (i, n)) (y := (1, 1)) hn (by decide)).mpr (by simp; exact h1)
  rw [quo_one] at this
  simpa [quo] using this
end Pg
/-! # K75b: spot, box -/
namespace Pg
open PySem Rf
theorem fmod_nat (a : Int) {n : Nat} (hn : 0 < n) : ∃ k : Nat, k < n ∧ a.fmod (n : Int) = (k : Int) := by
  have := fm a (show (0 : Int) < (n : Int) by omega)
  exact ⟨(a.fmod n).toNat, by omega, by omega⟩
theorem mid_at {ch : List IP} (h : Shape ch) {k : Nat} (hk : k < ch.length) : Mid (at0 ch k) := h.mid _ (at0_mem hk)
theorem max_pred (k : Nat) : biF .max2 [.int ((k : Int) - 1), .int 0] = .ok (.int ((k - 1 : Nat) : Int)) := by
  rw [bi_max]
  congr 2
  split <;> omega
theorem prod_le {a b c d : Int} (ha : 0 ≤ a) (hb : 0 ≤ b) (h1 : a ≤ c) (h2 : b ≤ d) : 0 ≤ a * b ∧ a * b ≤ c * d := ⟨Int.mul_nonneg ha hb, Int.mul_le_mul h1 h2 hb (by omega)⟩
/-- a point of the gain set, in fractions of small parts -/
structure SpOk (ch : List IP) (x y : IP) : Prop where
  fx : Fr 29 x
  fy : Fr 29 y
  gain : In0 ch (qpt x y)
theorem fr_of {x : IP} (h0 : 0 ≤ x.1) (h1 : x.1 < 2 ^ 29) (h2 : 0 < x.2) (h3 : x.2 < 2 ^ 29) : Fr 29 x := ⟨by omega, h2, h3⟩
theorem spot_v {ch : List IP} (h : Shape ch) {row : List Int} (hr : RowOk row 60 5) : ∃ x y, law_spot_F [.lst (ch.map ip), .lst (row.map D.int)] = .ok (sp x y) ∧ SpOk ch x y := by
  have hl : 0 < ch.length := List.length_pos_iff.mpr h.ne
  have i0 : ixD (.lst (row.map D.int)) (.int 0) = .ok (.int (row.getD 0 0)) := hr.ix 0 (by decide)
  have i1 : ixD (.lst (row.map D.int)) (.int 1) = .ok (.int (row.getD 1 0)) := hr.ix 1 (by decide)
  have i2 : ixD (.lst (row.map D.int)) (.int 2) = .ok (.int (row.getD 2 0)) := hr.ix 2 (by decide)
  have i3 : ixD (.lst (row.map D.int)) (.int 3) = .ok (.int (row.getD 3 0)) := hr.ix 3 (by decide)
  have i4 : ixD (.lst (row.map D.int)) (.int 4) = .ok (.int (row.getD 4 0)) := hr.ix 4 (by decide)
  generalize row.getD 0 0 = r0 at *
  generalize row.getD 1 0 = r1 at *
  generalize row.getD 2 0 = r2 at *
  generalize row.getD 3 0 = r3 at *
  generalize row.getD 4 0 = r4 at *
  obtain ⟨k, hk, ek⟩ := fmod_nat r1 hl
  have hk' : k - 1 < ch.length := by omega
  have c1 := ix_at0 hk
  have c2 := ix_at0 hk'
  have c0 : ixD (.lst (ch.map ip)) (.int 0) = .ok (ip (at0 ch 0)) := ix_at0 hl
  have cl := ix_lastI h.ne
  have m1 := mid_at h hk
  have m2 := mid_at h hk'
  have m0 := mid_at h hl
  have hlast : lastI ch ∈ ch := at0_mem (by omega)
  have ml := h.mid _ hlast
  have q1 : at0 ch k ∈ ch := at0_mem hk
  have q2 : at0 ch (k - 1) ∈ ch := at0_mem hk'
  have q0 : at0 ch 0 ∈ ch := at0_mem hl
  have mx := max_pred k
  have e0 := in0_corner h q0
  have eL := in0_corner h hlast
  have y1 := eL.y1
  have fi := fm r2 (show (0 : Int) < 13 by decide)
  generalize hi : r2.fmod 13 = i at *
  have f3 := fm r3 (show (0 : Int) < 13 by decide)
  have f4 := fm r4 (show (0 : Int) < 13 by decide)
  generalize hp : r3.fmod 13 = p at *
  generalize hq : r4.fmod 13 = q at *
  have E := in0_edge h q2 q1 (i := i) (n := 12) (by decide) fi.1 (by omega)
  have md : bop .mod (.int r1) (.int (ch.length : Int)) = .ok (.int (k : Int)) := by rw [bop_mod (by omega), ek]
  generalize at0 ch k = C at *
  generalize at0 ch (k - 1) = A at *
  generalize hB : at0 ch 0 = B at *
  generalize hZ : lastI ch = Z at *
  unfold Mid at m0 m1 m2 ml
  have xa := prod_le (a := A.1) (b := 12 - i) (c := 2000) (d := 12) (by omega) (by omega) (by omega) (by omega)
  have xb := prod_le (a := C.1) (b := i) (c := 2000) (d := 12) (by omega) (by omega) (by omega) (by omega)
  have ya := prod_le (a := A.2) (b := 12 - i) (c := 2000) (d := 12) (by omega) (by omega) (by omega) (by omega)
  have yb := prod_le (a := C.2) (b := i) (c := 2000) (d := 12) (by omega) (by omega) (by omega) (by omega)
  haveI bi : Bic i 4 := bic_of fi.1 (by omega)
  haveI bp : Bic p 4 := bic_of f3.1 (by omega)
  haveI bq : Bic q 4 := bic_of f4.1 (by omega)
  haveI b1 : Bic A.1 11 := bic_of (by omega) (by omega)
  haveI b2 : Bic A.2 11 := bic_of (by omega) (by omega)
  haveI b3' : Bic C.1 11 := bic_of (by omega) (by omega)
  haveI b4 : Bic C.2 11 := bic_of (by omega) (by omega)
  haveI b5 : Bic B.1 11 := bic_of (by omega) (by omega)
  haveI b6 : Bic Z.2 11 := bic_of (by omega) (by omega)
  by_cases d1 : r0.fmod 5 < 2
  · refine ⟨(A.1 * (12 - i) + C.1 * i, 12), (A.2 * (12 - i) + C.2 * i, 12), ?_, fr_of (by simp only; omega) (by simp only; omega) (by simp) (by simp), fr_of (by simp only; omega) (by simp only; omega) (by simp) (by simp), E⟩
    simp [law_spot_F, runFn, law_spot_B, i0, i1, i2, bop_mod, md, c1, c2, mx, -bi_max, hi, mul_c, d1, sp, ip]
  · by_cases d2 : r0.fmod 5 = 2
    · have w := prod_le (a := B.1) (b := i) (c := B.1) (d := 12) (by omega) (by omega) (by omega) (by omega)
      refine ⟨(B.1 * i, 12), (B.2, 1), ?_, fr_of (by simp only; omega) (by simp only; omega) (by simp) (by simp), fr_of (by simp only; omega) (by simp only; omega) (by simp) (by simp), in0_down h e0 ?_ ?_ ?_ ?_⟩
      · simp [law_spot_F, runFn, law_spot_B, i0, i1, i2, bop_mod, md, c1, c2, c0, mx, -bi_max, hi, mul_c, d1, d2, sp, ip]
      · exact quo_nonneg (by simp) w.1
      · show quo _ ≤ (B.1 : Rat)
        rw [← quo_one, quo_le (by simp) (by simp)]
        simp only; omega
      · exact quo_nonneg (by simp) (by simp only; omega)
      · show quo _ ≤ (B.2 : Rat)
        rw [quo_one]; exact Rat.le_refl
    · by_cases d3 : r0.fmod 5 = 3
      · have w := prod_le (a := Z.2) (b := i) (c := Z.2) (d := 12) (by omega) (by omega) (by omega) (by omega)
        refine ⟨(Z.1, 1), (Z.2 * i, 12), ?_, fr_of (by simp only; omega) (by simp only; omega) (by simp) (by simp), fr_of (by simp only; omega) (by simp only; omega) (by simp) (by simp), in0_down h eL ?_ ?_ ?_ ?_⟩
        · simp [law_spot_F, runFn, law_spot_B, i0, i1, i2, bop_mod, md, c1, c2, c0, cl, mx, -bi_max, hi, mul_c, d1, d2, d3, sp, ip]
        · exact quo_nonneg (by simp) (by simp only; omega)
        · show quo _ ≤ (Z.1 : Rat)
          rw [quo_one]; exact Rat.le_refl
        · exact quo_nonneg (by simp) w.1
        · show quo _ ≤ (Z.2 : Rat)
          rw [← quo_one, quo_le (by simp) (by simp)]
          simp only; omega
      · generalize hX : A.1 * (12 - i) + C.1 * i = X at *
        generalize hY : A.2 * (12 - i) + C.2 * i = Y at *
        have w1 := prod_le (a := X) (b := p) (c := X) (d := 12) (by omega) (by omega) (by omega) (by omega)
        have w2 := prod_le (a := Y) (b := q) (c := Y) (d := 12) (by omega) (by omega) (by omega) (by omega)
        haveI bX : Bic X 16 := bic_of (by omega) (by omega)
        haveI bY : Bic Y 16 := bic_of (by omega) (by omega)
        refine ⟨(X * p, 144), (Y * q, 144), ?_, fr_of (by simp only; omega) (by simp only; omega) (by simp) (by simp), fr_of (by simp only; omega) (by simp only; omega) (by simp) (by simp), in0_down h E ?_ ?_ ?_ ?_⟩
        · simp [law_spot_F, runFn, law_spot_B, i0, i1, i2, i3, i4, bop_mod, md, c1, c2, c0, cl, mx, -bi_max, hi, hp, hq, hX, hY, mul_c, d1, d2, d3, sp, ip]
        · exact quo_nonneg (by simp) w1.1
        · show quo _ ≤ quo _
          rw [quo_le (by simp) (by simp)]
          simp only; omega
        · exact quo_nonneg (by simp) w2.1
        · show quo _ ≤ quo _
          rw [quo_le (by simp) (by simp)]
          simp only; omega
/-- the midpoint of an inner edge, or the one corner -/
theorem box_v {ch : List IP} (h : Shape ch) : ∃ x y : IP, law_box_F [.lst (ch.map ip)] = .ok (sp x y) ∧ 0 ≤ x.1 ∧ x.1 ≤ 4000 ∧ 0 ≤ y.1 ∧ y.1 ≤ 4000 ∧ (x.2 = 1 ∨ x.2 = 2) ∧ (y.2 = 1 ∨ y.2 = 2) ∧ In0 ch (qpt x y) := by
  have hl : 0 < ch.length := List.length_pos_iff.mpr h.ne
  by_cases c : ch.length = 1
  · have c0 : ixD (.lst (ch.map ip)) (.int 0) = .ok (ip (at0 ch 0)) := ix_at0 hl
    have m0 := mid_at h hl
    unfold Mid at m0
    refine ⟨((at0 ch 0).1, 1), ((at0 ch 0).2, 1), ?_, by simp only; omega, by simp only; omega, by simp only; omega, by simp only; omega, .inl rfl, .inl rfl, ?_⟩
    · simp [law_box_F, runFn, law_box_B, c, c0, sp, ip]
    · have e : qpt ((at0 ch 0).1, 1) ((at0 ch 0).2, 1) = rq (at0 ch 0) := by unfold qpt; rw [quo_one, quo_one]; rfl
      rw [e]
      exact in0_corner h (at0_mem hl)
  · obtain ⟨k, hk, ek⟩ : ∃ k : Nat, k + 1 < ch.length ∧ (ch.length : Int).fdiv 2 = ((k + 1 : Nat) : Int) := by
      refine ⟨ch.length / 2 - 1, by omega, ?_⟩
      rw [Int.fdiv_eq_ediv_of_nonneg _ (by omega)]
      omega
    have c1 := ix_at0 hk
    have c2 := ix_at0 (l := ch) (k := k) (by omega)
    have m1 := mid_at h hk
    have m2 := mid_at h (k := k) (by omega)
    have E := in0_edge h (at0_mem (k := k) (by omega)) (at0_mem hk) (i := 1) (n := 2) (by decide) (by decide) (by decide)
    unfold Mid at m1 m2
    have ec : ((k + 1 : Nat) : Int) - 1 = (k : Int) := by omega
    have c' : ¬ ((ch.length : Nat) : Int) = 1 := by omega
    generalize at0 ch (k + 1) = C at *
    generalize at0 ch k = A at *
    refine ⟨(A.1 + C.1, 2), (A.2 + C.2, 2), ?_, by simp only; omega, by simp only; omega, by simp only; omega, by simp only; omega, .inr rfl, .inr rfl, ?_⟩
    · simp [law_box_F, runFn, law_box_B, c', ek, bop_fdiv (show okDiv 2 = true by decide), c1, c2, ec, sp, ip, -Int.natCast_add]
    · simpa using E
end Pg
/-! # K75c: the pair, what is beyond -/
namespace Pg
open PySem Rf
theorem RowOk.sub {row : List Int} {B : Int} {n : Nat} (R : RowOk row B n) (a b : Nat) (h : a + b ≤ n) (hB : 0 < B) : RowOk ((row.drop a).take b) B b := by
  have key : ∀ k, 0 ≤ ((row.drop a).take b).getD k 0 ∧ ((row.drop a).take b).getD k 0 < B := fun k => by
    rw [List.getD_eq_getElem?_getD, List.getElem?_take]
    split
    · rw [List.getElem?_drop, ← List.getD_eq_getElem?_getD]
      exact ⟨R.ge _, R.lt _⟩
    · simp; exact hB
  refine ⟨?_, fun k => (key k).1, fun k => (key k).2⟩
  rw [List.length_take, List.length_drop, R.len]
  omega
theorem scaled_ok {ch : List IP} (h : Shape ch) {x y : IP} (hx : 0 ≤ x.1 ∧ x.1 ≤ 4000) (hy : 0 ≤ y.1 ∧ y.1 ≤ 4000) (hx2 : x.2 = 1 ∨ x.2 = 2) (hy2 : y.2 = 1 ∨ y.2 = 2) (hb : In0 ch (qpt x y)) {a b : Int} (ha : 0 ≤ a ∧ a ≤ 64000) (hb' : 0 ≤ b ∧ b ≤ 64000) :
    SpOk ch (x.1 * a, 64000 * x.2) (y.1 * b, 64000 * y.2) := by
  have w1 := prod_le hx.1 ha.1 hx.2 ha.2
  have w2 := prod_le hy.1 hb'.1 hy.2 hb'.2
  have u1 : x.1 * a ≤ x.1 * 64000 := Int.mul_le_mul_of_nonneg_left ha.2 hx.1
  have u2 : y.1 * b ≤ y.1 * 64000 := Int.mul_le_mul_of_nonneg_left hb'.2 hy.1
  have px : 0 < x.2 := by omega
  have py : 0 < y.2 := by omega
  refine ⟨fr_of w1.1 (by simp only; omega) (by simp only; omega) (by simp only; omega), fr_of w2.1 (by simp only; omega) (by simp only; omega) (by simp only; omega), in0_down h hb ?_ ?_ ?_ ?_⟩
  · exact quo_nonneg (by simp only; omega) w1.1
  · show quo _ ≤ quo _
    rw [quo_le (by simp only; omega) px]
    simp only
    rcases hx2 with e | e <;> rw [e] <;> omega
  · exact quo_nonneg (by simp only; omega) w2.1
  · show quo _ ≤ quo _
    rw [quo_le (by simp only; omega) py]
    simp only
    rcases hy2 with e | e <;> rw [e] <;> omega
abbrev prE (a b c d e f g h i j k l : Option Sl) : Rf.Env := [a, b, c, d, e, f, g, h, i, j, k, l]
theorem pair_v {ch : List IP} (h : Shape ch) {row : List Int} (hr : RowOk row 60 11) : ∃ x1 y1 x2 y2, law_pair_F [.lst (ch.map ip), .lst (row.map D.int)] = .ok (.tup [sp x1 y1, sp x2 y2]) ∧ SpOk ch x1 y1 ∧ SpOk ch x2 y2 := by
  have i0 : ixD (.lst (row.map D.int)) (.int 0) = .ok (.int (row.getD 0 0)) := hr.ix 0 (by decide)
  have i1 : ixD (.lst (row.map D.int)) (.int 1) = .ok (.int (row.getD 1 0)) := hr.ix 1 (by decide)
  have i2 : ixD (.lst (row.map D.int)) (.int 2) = .ok (.int (row.getD 2 0)) := hr.ix 2 (by decide)
  have i3 : ixD (.lst (row.map D.int)) (.int 3) = .ok (.int (row.getD 3 0)) := hr.ix 3 (by decide)
  have i4 : ixD (.lst (row.map D.int)) (.int 4) = .ok (.int (row.getD 4 0)) := hr.ix 4 (by decide)
  have i5 : ixD (.lst (row.map D.int)) (.int 5) = .ok (.int (row.getD 5 0)) := hr.ix 5 (by decide)
  have i6 : ixD (.lst (row.map D.int)) (.int 6) = .ok (.int (row.getD 6 0)) := hr.ix 6 (by decide)
  have s1 : slD (.lst (row.map D.int)) (some 1) (some 6) = .ok (.lst (((row.drop 1).take 5).map D.int)) := by
    have := slD_mid (row.map D.int) 1 6
    rw [← List.map_drop, ← List.map_take] at this
    exact this
  have s2 : slD (.lst (row.map D.int)) (some 6) (some 11) = .ok (.lst (((row.drop 6).take 5).map D.int)) := by
    have := slD_mid (row.map D.int) 6 11
    rw [← List.map_drop, ← List.map_take] at this
    exact this
  obtain ⟨x1, y1, p1, o1⟩ := spot_v h (hr.sub 1 5 (by decide) (by decide))
  obtain ⟨x2, y2, p2, o2⟩ := spot_v h (hr.sub 6 5 (by decide) (by decide))
  generalize D.lst (((row.drop 1).take 5).map D.int) = A1 at s1 p1
  generalize D.lst (((row.drop 6).take 5).map D.int) = A2 at s2 p2
  obtain ⟨bx, by_, pb, u1, u2, u3, u4, u5, u6, u7⟩ := box_v h
  generalize row.getD 0 0 = r0 at *
  generalize row.getD 1 0 = r1 at *
  generalize row.getD 2 0 = r2 at *
  generalize row.getD 3 0 = r3 at *
  generalize row.getD 4 0 = r4 at *
  generalize row.getD 5 0 = r5 at *
  generalize row.getD 6 0 = r6 at *
  by_cases c0 : r0.fmod 2 = 1
  · refine ⟨x1, y1, x2, y2, ?_, o1, o2⟩
    simp [law_pair_F, runFn, law_pair_B, i0, bop_mod, c0, partD, s1, s2, p1, p2]
  · have m8 : ∀ r : Int, 1 ≤ 1 + r.fmod 8 ∧ 1 + r.fmod 8 ≤ 8 := fun r => by
      have := fm r (show (0 : Int) < 8 by decide)
      omega
    have k1 := m8 r1
    have k2 := m8 r2
    have k3 := m8 r3
    have k4 := m8 r4
    generalize hp : 1 + r1.fmod 8 = p at *
    generalize hq : 1 + r2.fmod 8 = q at *
    generalize hr' : 1 + r3.fmod 8 = r at *
    generalize hs : 1 + r4.fmod 8 = s at *
    have pb8 : ∀ {a b : Int}, 1 ≤ a ∧ a ≤ 8 → 1 ≤ b ∧ b ≤ 8 → 1 ≤ a * b ∧ a * b ≤ 64 := fun {a b} h1 h2 => by
      have e1 := Int.mul_le_mul h1.1 h2.1 (by decide) (by omega)
      have e2 := Int.mul_le_mul h1.2 h2.2 (by omega) (by decide)
      omega
    have pk : ∀ {a b : Int}, 1 ≤ a ∧ a ≤ 8 → 1 ≤ b ∧ b ≤ 8 → 1000 ≤ 1000 * a * b ∧ 1000 * a * b ≤ 64000 := fun {a b} h1 h2 => by
      have := pb8 h1 h2
      rw [Int.mul_assoc]
      omega
    have w1 := pk k1 k2
    have w2 := pk k3 k4
    have w3 := pk k1 k3
    have w4 := pk k2 k4
    haveI : Bic p 4 := bic_of (by omega) (by omega)
    haveI : Bic q 4 := bic_of (by omega) (by omega)
    haveI : Bic r 4 := bic_of (by omega) (by omega)
    haveI : Bic s 4 := bic_of (by omega) (by omega)
    -- the two lists
    have h2 := fm r6 (show (0 : Int) < 2 by decide)
    have E1 : ∀ e : Rf.Env, e = prE (some (.v (.lst (ch.map ip)))) (some (.v (.lst (row.map D.int)))) none none none none none none none none none none → ex law_pair_T (.ife (.cmp .eq (.bin .mod (.bi .int (.cons (.ix (.var 1) (.int 0)) .nil)) (.int 2)) (.int 1)) (.cons (.ret (.tup (.cons (.call 0 (.cons (.var 0) (.cons (.sl (.var 1) (.cons (.int 1) .nil) (.cons (.int 6) .nil)) .nil))) (.cons (.call 0 (.cons (.var 0) (.cons (.sl (.var 1) (.cons (.int 6) .nil) (.cons (.int 11) .nil)) .nil))) .nil)))) .nil) .nil) e = .nx e := by
      rintro _ rfl
      simp [i0, bop_mod, c0]
    obtain ⟨a, b, ha, hb, A1⟩ : ∃ a b : Int, (0 ≤ a ∧ a ≤ 64000) ∧ (0 ≤ b ∧ b ≤ 64000) ∧ ∀ (X2 X3 X4 X5 X6 X8 : Option Sl), ex law_pair_T (.ife (.cmp .eq (.bin .mod (.bi .int (.cons (.ix (.var 1) (.int 5)) .nil)) (.int 4)) (.int 2)) (.cons (.asgIx 7 (.bin .mod (.bi .int (.cons (.ix (.var 1) (.int 6)) .nil)) (.int 2)) (.bin .sub (.oix 7 (.bin .mod (.bi .int (.cons (.ix (.var 1) (.int 6)) .nil)) (.int 2))) (.int 1))) .nil) .nil)
        (prE (some (.v (.lst (ch.map ip)))) (some (.v (.lst (row.map D.int)))) X2 X3 X4 X5 X6 (some (.o [.int (1000 * p * q), .int (1000 * r * s)])) X8 none none none) = .nx (prE (some (.v (.lst (ch.map ip)))) (some (.v (.lst (row.map D.int)))) X2 X3 X4 X5 X6 (some (.o [.int a, .int b])) X8 none none none) := by
      by_cases c5 : r5.fmod 4 = 2
      · by_cases c6 : r6.fmod 2 = 0
        · refine ⟨1000 * p * q - 1, 1000 * r * s, by omega, by omega, fun X2 X3 X4 X5 X6 X8 => ?_⟩
          simp [i5, i6, bop_mod, c5, c6, setD_0]
        · have c6' : r6.fmod 2 = 1 := by omega
          have sd : setD [D.int (1000 * p * q), D.int (1000 * r * s)] (.int 1) (.int (1000 * r * s - 1)) = .ok [.int (1000 * p * q), .int (1000 * r * s - 1)] := rfl
          refine ⟨1000 * p * q, 1000 * r * s - 1, by omega, by omega, fun X2 X3 X4 X5 X6 X8 => ?_⟩
          simp [i5, i6, bop_mod, c5, c6', sd]
      · refine ⟨1000 * p * q, 1000 * r * s, by omega, by omega, fun X2 X3 X4 X5 X6 X8 => ?_⟩
        simp [i5, bop_mod, c5]
    obtain ⟨c, d, hc, hd, A2⟩ : ∃ c d : Int, (0 ≤ c ∧ c ≤ 64000) ∧ (0 ≤ d ∧ d ≤ 64000) ∧ ∀ (X2 X3 X4 X5 X6 X7 : Option Sl), ex law_pair_T (.ife (.cmp .eq (.bin .mod (.bi .int (.cons (.ix (.var 1) (.int 5)) .nil)) (.int 4)) (.int 3)) (.cons (.asgIx 8 (.bin .mod (.bi .int (.cons (.ix (.var 1) (.int 6)) .nil)) (.int 2)) (.bin .sub (.oix 8 (.bin .mod (.bi .int (.cons (.ix (.var 1) (.int 6)) .nil)) (.int 2))) (.int 1))) .nil) .nil)
        (prE (some (.v (.lst (ch.map ip)))) (some (.v (.lst (row.map D.int)))) X2 X3 X4 X5 X6 X7 (some (.o [.int (1000 * p * r), .int (1000 * q * s)])) none none none) = .nx (prE (some (.v (.lst (ch.map ip)))) (some (.v (.lst (row.map D.int)))) X2 X3 X4 X5 X6 X7 (some (.o [.int c, .int d])) none none none) := by
      by_cases c5 : r5.fmod 4 = 3
      · by_cases c6 : r6.fmod 2 = 0
        · refine ⟨1000 * p * r - 1, 1000 * q * s, by omega, by omega, fun X2 X3 X4 X5 X6 X8 => ?_⟩
          simp [i5, i6, bop_mod, c5, c6, setD_0]
        · have c6' : r6.fmod 2 = 1 := by omega
          have sd : setD [D.int (1000 * p * r), D.int (1000 * q * s)] (.int 1) (.int (1000 * q * s - 1)) = .ok [.int (1000 * p * r), .int (1000 * q * s - 1)] := rfl
          refine ⟨1000 * p * r, 1000 * q * s - 1, by omega, by omega, fun X2 X3 X4 X5 X6 X8 => ?_⟩
          simp [i5, i6, bop_mod, c5, c6', sd]
      · refine ⟨1000 * p * r, 1000 * q * s, by omega, by omega, fun X2 X3 X4 X5 X6 X8 => ?_⟩
        simp [i5, bop_mod, c5]
    have b1 := scaled_ok h ⟨u1, u2⟩ ⟨u3, u4⟩ u5 u6 u7 ha hb
    have b2 := scaled_ok h ⟨u1, u2⟩ ⟨u3, u4⟩ u5 u6 u7 hc hd
    refine ⟨_, _, _, _, ?_, b1, b2⟩
    haveI : Bic a 16 := bic_of (by omega) (by omega)
    haveI : Bic b 16 := bic_of (by omega) (by omega)
    haveI : Bic c 16 := bic_of (by omega) (by omega)
    haveI : Bic d 16 := bic_of (by omega) (by omega)
    haveI : Bic bx.1 12 := bic_of (by omega) (by omega)
    haveI : Bic by_.1 12 := bic_of (by omega) (by omega)
    haveI : Bic bx.2 2 := bic_of (by omega) (by omega)
    haveI : Bic by_.2 2 := bic_of (by omega) (by omega)
    have q0 : ixD (sp bx by_) (.int 0) = .ok (ip bx) := ixT0 _ _
    have q1 : ixD (sp bx by_) (.int 1) = .ok (ip by_) := ixT1 _ _ _
    have n : ∀ {s env e}, ex law_pair_T s env = .nx e → ∀ r, ex law_pair_T (.cons s r) env = ex law_pair_T r e := fun h r => by rw [ex_cons, h, andThen_nx]
    have eB : ex law_pair_T law_pair_B (prE (some (.v (.lst (ch.map ip)))) (some (.v (.lst (row.map D.int)))) none none none none none none none none none none) = .rt (.tup [sp (bx.1 * a, 64000 * bx.2) (by_.1 * b, 64000 * by_.2), sp (bx.1 * c, 64000 * bx.2) (by_.1 * d, 64000 * by_.2)]) := by
      have T1 : ∀ rest, ex law_pair_T (.cons (.asg (.name 2) (.call 1 (.cons (.var 0) .nil)))
    (.cons (.asg (.name 3) (.bin .add (.int 1) (.bin .mod (.bi .int (.cons (.ix (.var 1) (.int 1)) .nil)) (.int 8))))
    (.cons (.asg (.name 4) (.bin .add (.int 1) (.bin .mod (.bi .int (.cons (.ix (.var 1) (.int 2)) .nil)) (.int 8))))
    (.cons (.asg (.name 5) (.bin .add (.int 1) (.bin .mod (.bi .int (.cons (.ix (.var 1) (.int 3)) .nil)) (.int 8))))
    (.cons (.asg (.name 6) (.bin .add (.int 1) (.bin .mod (.bi .int (.cons (.ix (.var 1) (.int 4)) .nil)) (.int 8))))
    (.cons (.asgO 7 (.lst (.cons (.bin .mul (.bin .mul (.int 1000) (.var 3)) (.var 4)) (.cons (.bin .mul (.bin .mul (.int 1000) (.var 5)) (.var 6)) .nil))))
    (.cons (.asgO 8 (.lst (.cons (.bin .mul (.bin .mul (.int 1000) (.var 3)) (.var 5)) (.cons (.bin .mul (.bin .mul (.int 1000) (.var 4)) (.var 6)) .nil)))) rest))))))) (prE (some (.v (.lst (ch.map ip)))) (some (.v (.lst (row.map D.int)))) none none none none none none none none none none) =
        ex law_pair_T rest (prE (some (.v (.lst (ch.map ip)))) (some (.v (.lst (row.map D.int)))) (some (.v (sp bx by_))) (some (.v (.int p))) (some (.v (.int q))) (some (.v (.int r))) (some (.v (.int s))) (some (.o [.int (1000 * p * q), .int (1000 * r * s)])) (some (.o [.int (1000 * p * r), .int (1000 * q * s)])) none none none) := fun rest => by
        simp [pb, i1, i2, i3, i4, bop_mod, hp, hq, hr', hs, mul_c]
      rw [law_pair_B, n (E1 _ rfl), T1, n (A1 _ _ _ _ _ _), n (A2 _ _ _ _ _ _)]
      simp [q0, q1, mul_c, sp, ip]
    rw [law_pair_F, runFn_out (np := 2) (nn := 12) rfl rfl eB, outR_rt]
/-! ### beyond -/
theorem turns_right {p : Pt} : ∀ {t : List Pt} {a : Pt}, Clip.Fall t → Clip.Turns p t → a ∈ t → t.getLast? = some a ∨ ∃ b, b.2 < a.2 ∧ a.1 < b.1 ∧ Clip.turn a b p ≤ 0
  | [], a, _, _, h => nomatch h
  | [b], a, _, _, h => by simp at h; subst h; exact .inl rfl
  | b :: c :: r, a, hf, ht, h => by
    rcases List.mem_cons.mp h with y | y
    · subst y
      exact .inr ⟨c, hf.1.2, hf.1.1, ht.1⟩
    · rw [List.getLast?_cons_cons]
      exact turns_right hf.2 ht.2 y
theorem turns_left {p : Pt} : ∀ {t : List Pt} {a : Pt}, Clip.Fall t → Clip.Turns p t → a ∈ t → t.head? = some a ∨ ∃ b, b.1 < a.1 ∧ a.2 < b.2 ∧ Clip.turn b a p ≤ 0
  | [], a, _, _, h => nomatch h
  | [b], a, _, _, h => by simp at h; subst h; exact .inl rfl
  | b :: c :: r, a, hf, ht, h => by
    rcases List.mem_cons.mp h with y | y
    · subst y; exact .inl rfl
    · rcases turns_left hf.2 ht.2 y with z | z
      · simp at z
        subst z
        exact .inr ⟨b, hf.1.1, hf.1.2, ht.1⟩
      · exact .inr z
theorem beyond_v {ch : List IP} (h : Shape ch) {c : IP} (hc : c ∈ ch) (pick : Int) : ∃ x y, law_beyond_F [ip c, .int pick] = .ok (sp x y) ∧ Fr 29 x ∧ Fr 29 y ∧ ¬ In0 ch (qpt x y) := by
  have hm := h.mid c hc
  have hcr : rq c ∈ ch.map rq := List.mem_map_of_mem hc
  obtain ⟨b1, b2⟩ := hm.bic
  unfold Mid at hm
  have sm : (c.1 : Rat) < quo (97 * c.1 + 1, 97) ∧ (c.2 : Rat) < quo (97 * c.2 + 1, 97) := by
    have k : ∀ a : Int, (a : Rat) < quo (97 * a + 1, 97) := fun a => by
      have := (not_congr (quo_le (x := (97 * a + 1, 97)) (y := (a, 1)) (by simp) (by simp))).mpr (by simp only; omega)
      rw [quo_one] at this
      grind
    exact ⟨k _, k _⟩
  have ng : ¬ 0 ≤ quo (-1, 97) := by
    have := (not_congr (quo_le (x := (0, 1)) (y := (-1, 97)) (by simp) (by simp))).mpr (by simp)
    rw [quo_one] at this
    simpa using this
  by_cases c0 : pick.fmod 4 = 0
  · refine ⟨(97 * c.1 + 1, 97), (c.2, 1), ?_, fr_of (by simp only; omega) (by simp only; omega) (by simp) (by simp), fr_of (by simp only; omega) (by simp only; omega) (by simp) (by simp), fun I => ?_⟩
    · simp [law_beyond_F, runFn, law_beyond_B, bop_mod, c0, mul_c, sp, ip]
    · rcases turns_right h.fall I.tu hcr with y | ⟨b, y1, y2, y3⟩
      · rw [(shape_last h).2] at y
        have y := Option.some.inj y
        have x1 := I.x1
        have e : ((lastI ch).1 : Rat) = (c.1 : Rat) := congrArg Prod.fst y
        rw [e] at x1
        have := sm.1
        unfold qpt at x1
        simp only at x1
        grind
      · have s1 := sm.1
        have y3 : (b.1 - (c.1 : Rat)) * ((c.2 : Rat) - (c.2 : Rat)) - (b.2 - (c.2 : Rat)) * (quo (97 * c.1 + 1, 97) - (c.1 : Rat)) ≤ 0 := by
          have t := y3
          unfold Clip.turn qpt at t
          simp only [quo_one] at t
          exact t
        have y1 : b.2 < (c.2 : Rat) := y1
        generalize quo (97 * c.1 + 1, 97) = X at *
        have := Rat.mul_pos (show 0 < (c.2 : Rat) - b.2 by grind) (show 0 < X - (c.1 : Rat) by grind)
        grind
  · by_cases c1 : pick.fmod 4 = 1
    · refine ⟨(c.1, 1), (97 * c.2 + 1, 97), ?_, fr_of (by simp only; omega) (by simp only; omega) (by simp) (by simp), fr_of (by simp only; omega) (by simp only; omega) (by simp) (by simp), fun I => ?_⟩
      · simp [law_beyond_F, runFn, law_beyond_B, bop_mod, c0, c1, mul_c, sp, ip]
      · rcases turns_left h.fall I.tu hcr with y | ⟨b, y1, y2, y3⟩
        · have y1 := I.y1
          obtain ⟨r, e⟩ := shape_head h
          rw [e] at y
          simp at y
          have e2 : ((at0 ch 0).2 : Rat) = (c.2 : Rat) := congrArg Prod.snd y
          rw [e2] at y1
          have := sm.2
          unfold qpt at y1
          simp only at y1
          grind
        · have s2 := sm.2
          have y3 : ((c.1 : Rat) - b.1) * (quo (97 * c.2 + 1, 97) - b.2) - ((c.2 : Rat) - b.2) * ((c.1 : Rat) - b.1) ≤ 0 := by
            have t := y3
            unfold Clip.turn qpt at t
            simp only [quo_one] at t
            exact t
          have y1 : b.1 < (c.1 : Rat) := y1
          generalize quo (97 * c.2 + 1, 97) = X at *
          have := Rat.mul_pos (show 0 < (c.1 : Rat) - b.1 by grind) (show 0 < X - (c.2 : Rat) by grind)
          grind
    · by_cases c2 : pick.fmod 4 = 2
      · refine ⟨(-1, 97), (c.2, 1), ?_, ⟨by decide, by decide, by decide⟩, fr_of (by simp only; omega) (by simp only; omega) (by simp) (by simp), fun I => ng I.x0⟩
        simp [law_beyond_F, runFn, law_beyond_B, bop_mod, c0, c1, c2, sp, ip]
      · refine ⟨(c.1, 1), (-1, 97), ?_, fr_of (by simp only; omega) (by simp only; omega) (by simp) (by simp), ⟨by decide, by decide, by decide⟩, fun I => ng I.y0⟩
        simp [law_beyond_F, runFn, law_beyond_B, bop_mod, c0, c1, c2, sp, ip]
end Pg
/-! # K75d: the problem of the world; risks -/
namespace Pg
open PySem Rf
def frontW (W : WD) : List Pt := (W.ch.map rq).map (atW W)
def probW (W : WD) : D := probD W.ap (frontW W)
section
variable {W : WD} {k : Nat}
theorem frontW_eq (W : WD) : frontW W = (W.ch.map rq).map (Clip.aff (vU W) (wU W) W.ap) := rfl
theorem front_fall (h : WOk W k) : Clip.Fall (frontW W) := Clip.fall_aff (vU_pos h) (wU_pos h) h.shape.fall
theorem front_bent (h : WOk W k) : Clip.Bent (frontW W) := Clip.bent_aff (vU_pos h) (wU_pos h) h.shape.bent
theorem front_base (h : WOk W k) : Clip.Base W.ap (frontW W) := Clip.base_aff (vU_pos h) (wU_pos h) (by
  intro c hc
  obtain ⟨z, hz, rfl⟩ := List.mem_map.mp hc
  have := h.shape.mid z hz
  unfold Mid at this
  exact ⟨rle.mpr (show (0 : Int) ≤ z.1 by omega), rle.mpr (show (0 : Int) ≤ z.2 by omega)⟩)
theorem front_ne (h : WOk W k) : frontW W ≠ [] := by
  unfold frontW
  simp [h.shape.ne]
theorem front_front (h : WOk W k) : front W.ap (frontW W) = frontW W := front_conv (front_ne h) (front_fall h) (front_bent h) (front_base h)
theorem corner_at (h : WOk W k) (hk : k ≤ 94) {c : IP} (hc : c ∈ W.ch) : law_at_F [worldD W, ip (c.1, 1), ip (c.2, 1)] = .ok (pt (atW W (rq c))) ∧ SzP 112 (atW W (rq c)) := by
  have hm := h.shape.mid c hc
  unfold Mid at hm
  obtain ⟨e1, e2⟩ := at_v (n := 11) h (x := (c.1, 1)) (y := (c.2, 1)) ⟨by simp only; omega, by simp, by simp⟩ ⟨by simp only; omega, by simp, by simp⟩ (by omega)
  have e : qpt (c.1, 1) (c.2, 1) = rq c := by unfold qpt; rw [quo_one, quo_one]; rfl
  rw [e] at e1 e2
  exact ⟨e1, e2.1.mono (by omega), e2.2.mono (by omega)⟩
theorem front_sz (h : WOk W k) (hk : k ≤ 94) : ∀ p ∈ frontW W, SzP 112 p := by
  intro p hp
  obtain ⟨q, hq, rfl⟩ := List.mem_map.mp hp
  obtain ⟨c, hc, rfl⟩ := List.mem_map.mp hq
  exact (corner_at h hk hc).2
theorem prob_v (h : WOk W k) (hk : k ≤ 94) : Problem_init_F [pt W.ap, .lst ((frontW W).map pt)] = .ok (probW W) := by
  have hs : ∀ p ∈ W.ap :: frontW W, SzP 112 p := fun p hp => by
    rcases List.mem_cons.mp hp with y | y
    · subst y; exact ⟨h.ap.1.mono (by decide), h.ap.2.mono (by decide)⟩
    · exact front_sz h hk p y
  have hl : (frontW W).length ≤ 60 := by
    have := h.shape.len
    unfold frontW
    simp
    omega
  rw [init_v (.inl rfl) hs (by decide) hl, front_front h, if_neg]
  · rfl
  · rintro ⟨a, e, ha⟩
    obtain ⟨r, er⟩ := shape_head h.shape
    have hc : W.ch = [at0 W.ch 0] := by
      have l1 := congrArg List.length e
      unfold frontW at l1
      simp at l1
      rw [er] at l1 ⊢
      simp at l1
      subst l1
      rfl
    have e2 : frontW W = [atW W (rq (at0 W.ch 0))] := by
      unfold frontW
      rw [hc]
      rfl
    rw [e2] at e
    have e3 : atW W (rq (at0 W.ch 0)) = a := by simpa using e
    have lx : lastI W.ch = at0 W.ch 0 := by
      unfold lastI
      rw [hc]
      rfl
    have p1 := h.shape.lastp
    rw [lx] at p1
    have p2 := h.shape.topp
    have q1 := Rat.mul_pos (vU_pos h) (intCast_pos p1)
    have q2 := Rat.mul_pos (wU_pos h) (intCast_pos p2)
    rw [← e3] at ha
    rcases ha with z | z
    · have : W.ap.1 + vU W * ((at0 W.ch 0).1 : Rat) = W.ap.1 := z
      grind
    · have : W.ap.2 + wU W * ((at0 W.ch 0).2 : Rat) = W.ap.2 := z
      grind
theorem inG_world (h : WOk W k) (q : Pt) : inG W.ap (frontW W) (atW W q) ↔ In0 W.ch q := by
  obtain ⟨r, er⟩ := shape_head h.shape
  have ef : frontW W = atW W (rq (at0 W.ch 0)) :: (r.map rq).map (atW W) := by
    unfold frontW
    conv => lhs; rw [er]
    rfl
  have hv := vU_pos h
  have hw := wU_pos h
  have lx : lastX (frontW W) = W.ap.1 + vU W * ((lastI W.ch).1 : Rat) := by
    unfold lastX frontW
    rw [List.getLast?_map, (shape_last h.shape).2]
    rfl
  have tu : Clip.Turns (atW W q) (frontW W) ↔ Clip.Turns q (W.ch.map rq) := Clip.turns_aff hv hw
  have hf := front_fall h
  have hb := front_bent h
  have key : inG W.ap (frontW W) (atW W q) ↔ ge2 (atW W q) W.ap ∧ (atW W q).1 ≤ lastX (frontW W) ∧ (atW W q).2 ≤ (atW W (rq (at0 W.ch 0))).2 ∧ Clip.Turns (atW W q) (frontW W) := by
    rw [ef] at hf hb ⊢
    exact inG_iff hf hb
  rw [key, lx, tu]
  unfold ge2
  constructor
  · rintro ⟨⟨a, b⟩, c, d, e⟩
    exact ⟨(Clip.sh_le0 hv).mp a, (Clip.sh_le0 hw).mp b, (Clip.sh_le hv).mp c, (Clip.sh_le hw).mp d, e⟩
  · rintro ⟨a, b, c, d, e⟩
    exact ⟨⟨(Clip.sh_le0 hv).mpr a, (Clip.sh_le0 hw).mpr b⟩, (Clip.sh_le hv).mpr c, (Clip.sh_le hw).mpr d, e⟩
open Classical in
theorem contains_w (h : WOk W k) (hk : k ≤ 94) {q : Pt} (hq : SzP 130 (atW W q)) : Problem_contains_F [probW W, pt (atW W q)] = .ok (.bl (decide (In0 W.ch q))) := by
  have := contains_v (K := 130) (ap := W.ap) (T := frontW W) (p := atW W q) (fun p hp => ⟨(front_sz h hk p hp).1.mono (by decide), (front_sz h hk p hp).2.mono (by decide)⟩) ⟨h.ap.1.mono (by decide), h.ap.2.mono (by decide)⟩ hq (by decide) (front_fall h) (front_ne h)
  rw [show decide (In0 W.ch q) = decide (inG W.ap (frontW W) (atW W q)) from decide_eq_decide.mpr (inG_world h q).symm]
  exact this
def gainW (W : WD) (q : Pt) : Pt := (vU W * q.1, wU W * q.2)
theorem gap_w (W : WD) (q : Pt) : gapP (atW W q) W.ap = gainW W q := by
  unfold gapP atW Clip.aff gainW
  refine Prod.ext ?_ ?_ <;> (simp only; grind)
theorem gain_w (h : WOk W k) {q : Pt} (hq : SzP 130 (atW W q)) : Problem_gain_F [probW W, pt (atW W q)] = .ok (pt (gainW W q)) ∧ SzP 137 (gainW W q) := by
  have e := gain_p (K := 130) (T := frontW W) ⟨h.ap.1.mono (by decide), h.ap.2.mono (by decide)⟩ hq (by decide)
  haveI : Spc (atW W q) 130 := ⟨hq⟩
  haveI : Spc W.ap 6 := ⟨h.ap⟩
  have s : Spc (gapP (atW W q) W.ap) (130 + 6 + 1) := inferInstance
  rw [gap_w] at e s
  exact ⟨e, s.sz⟩
end
theorem spec_prob {mt : List (Str × Str × Fn)} {j : Nat} {m : Str} {F : Fn} (h : mt[j]? = some (("Problem" : Str), m, F)) (ap : Pt) (T : List Pt) (ds : List D) : specD mt j (probD ap T) ds = F (probD ap T :: ds) := by
  unfold specD probD
  rw [h]
  simp
theorem meth_prob {mt : List (Str × Str × Fn)} {j : Nat} {m : Str} {F : Fn} (h : mt[j]? = some (("Problem" : Str), m, F)) (h1 : m ≠ "apart") (h2 : m ≠ "frontier") (ap : Pt) (T : List Pt) (ds : List D) : methD mt j (probD ap T) (.ok ds) = F (probD ap T :: ds) := by
  unfold methD probD
  rw [h]
  have : List.lookup m [(("apart" : Str), pt ap), (("frontier" : Str), D.tup (T.map pt))] = none := by
    have a1 : (m == ("apart" : Str)) = false := beq_eq_false_iff_ne.mpr h1
    have a2 : (m == ("frontier" : Str)) = false := beq_eq_false_iff_ne.mpr h2
    simp only [List.lookup, a1, a2]
  simp [this]
def cmp2 (q : Pt) (person : Nat) : Rat := if person = 0 then q.1 else q.2
theorem ix_cmp (q : Pt) {person : Nat} (h : person < 2) : ixD (pt q) (.int (person : Int)) = .ok (fq (cmp2 q person)) := by
  match person, h with
  | 0, _ => exact pt_ix0 q
  | 1, _ => exact pt_ix1 q
def exO : Exn := ⟨"Outside", []⟩
def exN : Exn := ⟨"BadNumber", []⟩
open Classical in
noncomputable def riskR (ch : List IP) (p q : Pt) (i : Nat) : Rf.R D :=
  if In0 ch p ∧ In0 ch q then (if cmp2 p i = 0 then .err exN else .ok (fq ((cmp2 p i - cmp2 q i) / cmp2 p i))) else .err exO
section
variable {W : WD} {k : Nat}
theorem cmp_gain (h : WOk W k) (q : Pt) (i : Nat) : ∃ u : Rat, 0 < u ∧ ∀ q, cmp2 (gainW W q) i = u * cmp2 q i := by
  by_cases c : i = 0
  · exact ⟨vU W, vU_pos h, fun q => by simp [cmp2, c, gainW]⟩
  · exact ⟨wU W, wU_pos h, fun q => by simp [cmp2, c, gainW]⟩
theorem risk_v (h : WOk W k) (hk : k ≤ 94) {p q : Pt} (hp : SzP 130 (atW W p)) (hq : SzP 130 (atW W q)) {i : Nat} (hi : i < 2) : risk_F [probW W, pt (atW W p), pt (atW W q), .int (i : Int)] = riskR W.ch p q i ∧ ∀ x, riskR W.ch p q i = .ok (fq x) → Sz 500 x := by
  classical
  have c1 := contains_w h hk hp
  have c2 := contains_w h hk hq
  obtain ⟨g1, s1⟩ := gain_w h hp
  obtain ⟨g2, s2⟩ := gain_w h hq
  have sp1 : ∀ ds, specD risk_T.mt 0 (probW W) ds = Problem_contains_F (probW W :: ds) := spec_prob risk_mt0 _ _
  have mp1 : ∀ ds, methD risk_T.mt 1 (probW W) (.ok ds) = Problem_gain_F (probW W :: ds) := meth_prob risk_mt1 (by decide) (by decide) _ _
  obtain ⟨u, hu, hc⟩ := cmp_gain h p i
  have x1 := ix_cmp (gainW W p) hi
  have x2 := ix_cmp (gainW W q) hi
  have sz : ∀ q, SzP 137 (gainW W q) → Sz 137 (cmp2 (gainW W q) i) := fun q h => by
    unfold cmp2
    split
    · exact h.1
    · exact h.2
  haveI z1 : Szc (cmp2 (gainW W p) i) 137 := ⟨sz p s1⟩
  haveI z2 : Szc (cmp2 (gainW W q) i) 137 := ⟨sz q s2⟩
  have quot : cmp2 p i ≠ 0 → (cmp2 (gainW W p) i - cmp2 (gainW W q) i) / cmp2 (gainW W p) i = (cmp2 p i - cmp2 q i) / cmp2 p i := fun h0 => by
    rw [hc p, hc q]
    have : u ≠ 0 := by grind
    have n : u * cmp2 p i ≠ 0 := fun z => by
      rcases Rat.mul_eq_zero.mp z with y | y
      · exact this y
      · exact h0 y
    grind
  unfold riskR
  by_cases k1 : In0 W.ch p
  · by_cases k2 : In0 W.ch q
    · by_cases h0 : cmp2 p i = 0
      · have z0 : cmp2 (gainW W p) i = 0 := by rw [hc p, h0, Rat.mul_zero]
        refine ⟨?_, fun x e => ?_⟩
        · have ov := over_e (cmp2 (gainW W p) i - cmp2 (gainW W q) i)
          rw [z0] at ov
          have mn := minus_s (a := cmp2 (gainW W p) i) (b := cmp2 (gainW W q) i) (by decide)
          rw [z0] at mn x1
          simp [risk_F, runFn, risk_B, sp1, c1, c2, k1, k2, mp1, g1, g2, x1, x2, h0, exN, mn, ov]
        · simp [k1, k2, h0] at e
      · have n0 : cmp2 (gainW W p) i ≠ 0 := fun z => by
          rw [hc p] at z
          rcases Rat.mul_eq_zero.mp z with y | y
          · grind
          · exact h0 y
        have ov := over_s (a := cmp2 (gainW W p) i - cmp2 (gainW W q) i) (b := cmp2 (gainW W p) i) (by decide) n0
        have mn := minus_s (a := cmp2 (gainW W p) i) (b := cmp2 (gainW W q) i) (by decide)
        have zz : Szc ((cmp2 (gainW W p) i - cmp2 (gainW W q) i) / cmp2 (gainW W p) i) (137 + 137 + 1 + 137) := inferInstance
        rw [quot h0] at ov zz
        refine ⟨?_, fun x e => ?_⟩
        · simp [risk_F, runFn, risk_B, sp1, c1, c2, k1, k2, mp1, g1, g2, x1, x2, h0, mn, ov]
        · simp [k1, k2, h0] at e
          rw [← e]
          exact zz.sz.mono (by decide)
    · refine ⟨?_, fun x e => ?_⟩
      · simp [risk_F, runFn, risk_B, sp1, c1, c2, k1, k2, exO]
      · simp [k1, k2] at e
  · refine ⟨?_, fun x e => ?_⟩
    · simp [risk_F, runFn, risk_B, sp1, c1, k1, exO]
    · simp [k1] at e
end
end Pg
/-! # K75e: the law's words; due risks and ways -/
namespace Pg
open PySem Rf
def outT (s : Str) (d : D) : D := .tup [.str s, d]
theorem str_ON : ((("Outside" : Str) == ("BadNumber" : Str)) = false) := by decide
theorem str_OO : ((("Outside" : Str) == ("Outside" : Str)) = true) := by decide
theorem str_NN : ((("BadNumber" : Str) == ("BadNumber" : Str)) = true) := by decide
theorem str_NO : ((("BadNumber" : Str) == ("Outside" : Str)) = false) := by decide
theorem word_O : law_wordH_F [.exc "Outside" []] = .ok (.str "outside") := by
  simp [law_wordH_F, runFn, law_wordH_B, isxD, List.lookup, str_ON, str_OO, str_NN, str_NO]
theorem word_N : law_wordH_F [.exc "BadNumber" []] = .ok (.str "number") := by
  simp [law_wordH_F, runFn, law_wordH_B, isxD, List.lookup, str_ON, str_OO, str_NN, str_NO]
open Classical in
noncomputable def wayR (ch : List IP) (p q : Pt) : Rf.R D :=
  if In0 ch p ∧ In0 ch q then (if p.1 = 0 ∨ q.2 = 0 then .err exN else .ok (.int (if q.1 * q.2 < p.1 * p.2 then 1 else 0))) else .err exO
open Classical in
noncomputable def riskT (ch : List IP) (p q : Pt) (i : Nat) : D :=
  if In0 ch p ∧ In0 ch q then (if cmp2 p i = 0 then outT "number" .non else outT "kept" (fq ((cmp2 p i - cmp2 q i) / cmp2 p i))) else outT "outside" .non
open Classical in
noncomputable def wayT (ch : List IP) (p q : Pt) : D :=
  if In0 ch p ∧ In0 ch q then (if p.1 = 0 ∨ q.2 = 0 then outT "number" .non else outT "kept" (.int (if q.1 * q.2 < p.1 * p.2 then 1 else 0))) else outT "outside" .non
theorem ratio_le {a b c d : Rat} (ha : 0 < a) (hd : 0 < d) : (a - b) / a ≤ (d - c) / d ↔ a * c ≤ b * d := by
  have n1 : a ≠ 0 := by grind
  have n2 : d ≠ 0 := by grind
  have e1 : (a - b) / a * (a * d) = (a - b) * d := by grind
  have e2 : (d - c) / d * (a * d) = (d - c) * a := by grind
  rw [← mul_cancel_le (Rat.mul_pos ha hd), e1, e2]
  constructor <;> intro h <;> grind
section
variable {W : WD} {k : Nat}
theorem way_v (h : WOk W k) (hk : k ≤ 94) {p q : Pt} (hp : SzP 130 (atW W p)) (hq : SzP 130 (atW W q)) : gives_way_F [probW W, pt (atW W p), pt (atW W q)] = wayR W.ch p q := by
  classical
  obtain ⟨r1, z1⟩ := risk_v h hk hp hq (i := 0) (by decide)
  obtain ⟨r2, z2⟩ := risk_v h hk hq hp (i := 1) (by decide)
  have r1' : risk_F [probW W, pt (atW W p), pt (atW W q), .int 0] = riskR W.ch p q 0 := r1
  have r2' : risk_F [probW W, pt (atW W q), pt (atW W p), .int 1] = riskR W.ch q p 1 := r2
  unfold riskR at r1' r2' z1 z2
  unfold wayR
  by_cases c : In0 W.ch p ∧ In0 W.ch q
  · have c' : In0 W.ch q ∧ In0 W.ch p := ⟨c.2, c.1⟩
    rw [if_pos c] at r1' z1 ⊢
    rw [if_pos c'] at r2' z2
    have e1 : cmp2 p 0 = p.1 := rfl
    have e2 : cmp2 q 0 = q.1 := rfl
    have e3 : cmp2 q 1 = q.2 := rfl
    have e4 : cmp2 p 1 = p.2 := rfl
    rw [e1, e2] at r1' z1
    rw [e3, e4] at r2' z2
    by_cases d1 : p.1 = 0
    · rw [if_pos d1] at r1'
      rw [if_pos (.inl d1)]
      simp [gives_way_F, runFn, gives_way_B, r1']
    · rw [if_neg d1] at r1' z1
      by_cases d2 : q.2 = 0
      · rw [if_pos d2] at r2'
        rw [if_pos (.inr d2)]
        simp [gives_way_F, runFn, gives_way_B, r1', r2']
      · rw [if_neg d2] at r2' z2
        rw [if_neg (by rintro (y | y); exact d1 y; exact d2 y)]
        haveI : Szc ((p.1 - q.1) / p.1) 500 := ⟨z1 _ rfl⟩
        haveI : Szc ((q.2 - p.2) / q.2) 500 := ⟨z2 _ rfl⟩
        have am := at_most_s (a := (p.1 - q.1) / p.1) (b := (q.2 - p.2) / q.2) (by decide)
        have p1 : 0 < p.1 := by have := c.1.x0; grind
        have p2 : 0 < q.2 := by have := c.2.y0; grind
        have rl := ratio_le (b := q.1) (c := p.2) p1 p2
        by_cases d : q.1 * q.2 < p.1 * p.2
        · have : ¬ (p.1 - q.1) / p.1 ≤ (q.2 - p.2) / q.2 := by rw [rl]; grind
          simp [gives_way_F, runFn, gives_way_B, r1', r2', am, this, d, truD]
        · have : (p.1 - q.1) / p.1 ≤ (q.2 - p.2) / q.2 := by rw [rl]; grind
          simp [gives_way_F, runFn, gives_way_B, r1', r2', am, this, d, truD]
  · rw [if_neg c] at r1' ⊢
    simp [gives_way_F, runFn, gives_way_B, r1']
theorem risk_t (h : WOk W k) (hk : k ≤ 94) {p q : Pt} (hp : SzP 130 (atW W p)) (hq : SzP 130 (atW W q)) {i : Nat} (hi : i < 2) : law_risk_F [probW W, pt (atW W p), pt (atW W q), .int (i : Int)] = .ok (riskT W.ch p q i) := by
  classical
  obtain ⟨r1, _⟩ := risk_v h hk hp hq hi
  unfold riskR at r1
  unfold riskT
  have wO := word_O
  have wN := word_N
  by_cases c : In0 W.ch p ∧ In0 W.ch q
  · rw [if_pos c] at r1 ⊢
    by_cases d : cmp2 p i = 0
    · rw [if_pos d] at r1 ⊢
      simp [law_risk_F, runFn, law_risk_B, r1, exN, capt, List.lookup, str_ON, str_OO, str_NN, str_NO, noX, noXs, wN, afterS, outT]
    · rw [if_neg d] at r1 ⊢
      simp [law_risk_F, runFn, law_risk_B, r1, outT]
  · rw [if_neg c] at r1 ⊢
    simp [law_risk_F, runFn, law_risk_B, r1, exO, capt, List.lookup, str_ON, str_OO, str_NN, str_NO, noX, noXs, wO, afterS, outT]
theorem way_t (h : WOk W k) (hk : k ≤ 94) {p q : Pt} (hp : SzP 130 (atW W p)) (hq : SzP 130 (atW W q)) : law_way_F [probW W, pt (atW W p), pt (atW W q)] = .ok (wayT W.ch p q) := by
  classical
  have r1 := way_v h hk hp hq
  unfold wayR at r1
  unfold wayT
  have wO := word_O
  have wN := word_N
  by_cases c : In0 W.ch p ∧ In0 W.ch q
  · rw [if_pos c] at r1 ⊢
    by_cases d : p.1 = 0 ∨ q.2 = 0
    · rw [if_pos d] at r1 ⊢
      simp [law_way_F, runFn, law_way_B, r1, exN, capt, List.lookup, str_ON, str_OO, str_NN, str_NO, noX, noXs, wN, afterS, outT]
    · rw [if_neg d] at r1 ⊢
      simp [law_way_F, runFn, law_way_B, r1, outT]
  · rw [if_neg c] at r1 ⊢
    simp [law_way_F, runFn, law_way_B, r1, exO, capt, List.lookup, str_ON, str_OO, str_NN, str_NO, noX, noXs, wO, afterS, outT]
end
/-! ### what is due -/
theorem quo_mul (x y : IP) : quo x * quo y = quo (x.1 * y.1, x.2 * y.2) := by
  unfold quo
  simp only [Rat.intCast_mul]
  rw [Rat.div_def, Rat.div_def, Rat.div_def, Rat.inv_mul_rev]
  grind
theorem quo_zero {x : IP} (hx : 0 < x.2) : quo x = 0 ↔ x.1 = 0 := by
  have n := ne_of_pos hx
  have e : quo x * (x.2 : Rat) = (x.1 : Rat) := by unfold quo; grind
  constructor
  · intro z
    rw [z, Rat.zero_mul] at e
    have : (x.1 : Rat) = ((0 : Int) : Rat) := e.symm
    exact Rat.intCast_inj.mp this
  · intro z
    rw [z] at e
    have : quo x * (x.2 : Rat) = 0 := e
    rcases Rat.mul_eq_zero.mp this with y | y
    · exact y
    · exact absurd y n
theorem quo_num_nonneg {x : IP} (hx : 0 < x.2) (h : 0 ≤ quo x) : 0 ≤ x.1 := by
  have := (quo_le (x := (0, 1)) (y := x) (by simp) hx).mp (by rw [quo_one]; exact h)
  simpa using this
theorem quo_ratio {g h : IP} (hg : 0 < g.1) (hg2 : 0 < g.2) (hh2 : 0 < h.2) : ((g.1 * h.2 - h.1 * g.2 : Int) : Rat) / ((g.1 * h.2 : Int) : Rat) = (quo g - quo h) / quo g := by
  have n1 := ne_of_pos hg
  have n2 := ne_of_pos hg2
  have n3 := ne_of_pos hh2
  unfold quo
  simp only [Rat.intCast_sub, Rat.intCast_mul]
  generalize (g.1 : Rat) = a at *
  generalize (g.2 : Rat) = b at *
  generalize (h.1 : Rat) = c at *
  generalize (h.2 : Rat) = d at *
  have n4 : a / b ≠ 0 := by
    intro z
    have : a / b * b = a := by grind
    rw [z, Rat.zero_mul] at this
    exact n1 this.symm
  have n5 : a * d ≠ 0 := fun z => by
    rcases Rat.mul_eq_zero.mp z with y | y
    · exact n1 y
    · exact n3 y
  have e1 : (a * d - c * b) / (a * d) = 1 - (c * b) / (a * d) := by grind
  have e2 : (a / b - c / d) / (a / b) = 1 - (c / d) / (a / b) := by grind
  rw [e1, e2]
  have e3 : (c * b) / (a * d) = (c / d) / (a / b) := by
    have e4 : (c * b) / (a * d) * (a * d) = c * b := by grind
    have e5 : (c / d) / (a / b) * (a * d) = c * b := by grind
    have := Rat.mul_eq_zero.mp (show ((c * b) / (a * d) - (c / d) / (a / b)) * (a * d) = 0 by grind)
    rcases this with y | y
    · grind
    · exact absurd y n5
  rw [e3]
def spS (s : IP × IP) : D := sp s.1 s.2
def qp (s : IP × IP) : Pt := qpt s.1 s.2
def FrS (s : IP × IP) : Prop := Fr 29 s.1 ∧ Fr 29 s.2
def cmpI (s : IP × IP) (i : Nat) : IP := if i = 0 then s.1 else s.2
theorem cmp_qp (s : IP × IP) (i : Nat) : cmp2 (qp s) i = quo (cmpI s i) := by
  unfold cmp2 cmpI qp qpt
  split <;> rfl
theorem ix_spS (s : IP × IP) {i : Nat} (hi : i < 2) : ixD (spS s) (.int (i : Int)) = .ok (ip (cmpI s i)) := by
  match i, hi with
  | 0, _ => exact ixT0 _ _
  | 1, _ => exact ixT1 _ _ _
theorem due_risk_v {ch : List IP} {s t : IP × IP} (hs : FrS s) (ht : FrS t) {i : Nat} (hi : i < 2) {b : Bool} (hb : b = true ↔ In0 ch (qp s) ∧ In0 ch (qp t)) : law_due_risk_F [spS s, spS t, .int (i : Int), .bl b] = .ok (riskT ch (qp s) (qp t) i) := by
  classical
  unfold riskT
  have x1 := ix_spS s hi
  have x2 := ix_spS t hi
  rw [cmp_qp, cmp_qp]
  have fs : Fr 29 (cmpI s i) := by unfold cmpI; split; exact hs.1; exact hs.2
  have ft : Fr 29 (cmpI t i) := by unfold cmpI; split; exact ht.1; exact ht.2
  by_cases c : In0 ch (qp s) ∧ In0 ch (qp t)
  · have e := hb.mpr c
    subst e
    rw [if_pos c]
    have nn : 0 ≤ quo (cmpI s i) := by
      rw [← cmp_qp]
      unfold cmp2
      split
      · exact c.1.x0
      · exact c.1.y0
    generalize cmpI s i = g at *
    generalize cmpI t i = h at *
    have gz := quo_zero fs.2.1
    by_cases d : quo g = 0
    · rw [if_pos d]
      have d' := gz.mp d
      simp [law_due_risk_F, runFn, law_due_risk_B, x1, x2, d', outT]
    · rw [if_neg d]
      have d' : ¬ g.1 = 0 := fun z => d (gz.mpr z)
      have gp : 0 < g.1 := by have := quo_num_nonneg fs.2.1 nn; omega
      haveI : Bic g.1 29 := ⟨fs.1⟩
      haveI : Bic g.2 29 := bic_of (by have := fs.2.1; omega) fs.2.2
      haveI : Bic h.1 29 := ⟨ft.1⟩
      haveI : Bic h.2 29 := bic_of (by have := ft.2.1; omega) ft.2.2
      have lw := lowest_s (n := g.1 * h.2 - h.1 * g.2) (d := g.1 * h.2) (Int.mul_pos gp ft.2.1) (by decide) (by decide)
      rw [quo_ratio gp fs.2.1 ft.2.1] at lw
      simp [law_due_risk_F, runFn, law_due_risk_B, x1, x2, d', mul_c, lw, outT]
  · have e : b = false := by
      cases b with
      | false => rfl
      | true => exact absurd (hb.mp rfl) c
    subst e
    rw [if_neg c]
    simp [law_due_risk_F, runFn, law_due_risk_B, outT]
theorem due_way_v {ch : List IP} {s t : IP × IP} (hs : FrS s) (ht : FrS t) {b : Bool} (hb : b = true ↔ In0 ch (qp s) ∧ In0 ch (qp t)) : law_due_way_F [spS s, spS t, .bl b] = .ok (wayT ch (qp s) (qp t)) := by
  classical
  unfold wayT
  have x1 : ixD (spS s) (.int 0) = .ok (ip s.1) := ixT0 _ _
  have x2 : ixD (spS s) (.int 1) = .ok (ip s.2) := ixT1 _ _ _
  have x3 : ixD (spS t) (.int 0) = .ok (ip t.1) := ixT0 _ _
  have x4 : ixD (spS t) (.int 1) = .ok (ip t.2) := ixT1 _ _ _
  by_cases c : In0 ch (qp s) ∧ In0 ch (qp t)
  · have e := hb.mpr c
    subst e
    rw [if_pos c]
    have z1 : (qp s).1 = 0 ↔ s.1.1 = 0 := quo_zero hs.1.2.1
    have z2 : (qp t).2 = 0 ↔ t.2.1 = 0 := quo_zero ht.2.2.1
    have dd : (qp t).1 * (qp t).2 < (qp s).1 * (qp s).2 ↔ t.1.1 * t.2.1 * s.1.2 * s.2.2 < s.1.1 * s.2.1 * t.1.2 * t.2.2 := by
      have e1 : (qp t).1 * (qp t).2 = quo (t.1.1 * t.2.1, t.1.2 * t.2.2) := quo_mul _ _
      have e2 : (qp s).1 * (qp s).2 = quo (s.1.1 * s.2.1, s.1.2 * s.2.2) := quo_mul _ _
      rw [e1, e2]
      have q := not_congr (quo_le (x := (s.1.1 * s.2.1, s.1.2 * s.2.2)) (y := (t.1.1 * t.2.1, t.1.2 * t.2.2)) (Int.mul_pos hs.1.2.1 hs.2.2.1) (Int.mul_pos ht.1.2.1 ht.2.2.1))
      simp only at q
      rw [Int.mul_assoc (t.1.1 * t.2.1), Int.mul_assoc (s.1.1 * s.2.1)]
      constructor
      · intro z
        have := q.mp (by grind)
        omega
      · intro z
        have := q.mpr (by omega)
        grind
    haveI : Bic s.1.1 29 := ⟨hs.1.1⟩
    haveI : Bic s.2.1 29 := ⟨hs.2.1⟩
    haveI : Bic t.1.1 29 := ⟨ht.1.1⟩
    haveI : Bic t.2.1 29 := ⟨ht.2.1⟩
    haveI : Bic s.1.2 29 := bic_of (by have := hs.1.2.1; omega) hs.1.2.2
    haveI : Bic s.2.2 29 := bic_of (by have := hs.2.2.1; omega) hs.2.2.2
    haveI : Bic t.1.2 29 := bic_of (by have := ht.1.2.1; omega) ht.1.2.2
    haveI : Bic t.2.2 29 := bic_of (by have := ht.2.2.1; omega) ht.2.2.2
    by_cases d1 : s.1.1 = 0
    · rw [if_pos (.inl (z1.mpr d1))]
      simp [law_due_way_F, runFn, law_due_way_B, x1, x2, x3, x4, d1, outT]
    · by_cases d2 : t.2.1 = 0
      · rw [if_pos (.inr (z2.mpr d2))]
        simp [law_due_way_F, runFn, law_due_way_B, x1, x2, x3, x4, d1, d2, outT]
      · rw [if_neg (by rintro (y | y); exact d1 (z1.mp y); exact d2 (z2.mp y))]
        have bi : ∀ b : Bool, biF .int [.bl b] = .ok (.int (if b then 1 else 0)) := fun b => rfl
        by_cases d : (qp t).1 * (qp t).2 < (qp s).1 * (qp s).2
        · have d' := dd.mp d
          simp [law_due_way_F, runFn, law_due_way_B, x1, x2, x3, x4, d1, d2, mul_c, bi, d, d', outT]
        · have d' : ¬ (t.1.1 * t.2.1 * s.1.2 * s.2.2 < s.1.1 * s.2.1 * t.1.2 * t.2.2) := fun z => d (dd.mpr z)
          have d'' := Int.not_lt.mp d'
          simp [law_due_way_F, runFn, law_due_way_B, x1, x2, x3, x4, d1, d2, mul_c, bi, d, d'', outT]
  · have e : b = false := by
      cases b with
      | false => rfl
      | true => exact absurd (hb.mp rfl) c
    subst e
    rw [if_neg c]
    simp [law_due_way_F, runFn, law_due_way_B, outT]
end Pg
/-! # K75f: the judge -/
namespace Pg
open PySem Rf
/-- the five spots -/
structure FiveOk (ch : List IP) (S : List (IP × IP)) : Prop where
  len : S.length = 5
  fr : ∀ s ∈ S, FrS s
  ins : ∀ i s, S[i]? = some s → (i < 4 ↔ In0 ch (qp s))
theorem eq_str {s t : Str} (hs : PyData.strOk s = true) (ht : PyData.strOk t = true) : eqD (.str s) (.str t) = .ok (decide (s = t)) := by
  rw [eqD_of (d := .str s) (e := .str t) (n := 0) (by simpa [okN] using hs) (by simpa [okN] using ht) (by simp [nice])]
  simp
theorem okO : PyData.strOk "outside" = true := by decide +kernel
theorem okNu : PyData.strOk "number" = true := by decide +kernel
theorem okK : PyData.strOk "kept" = true := by decide +kernel
theorem ne_same (s : Str) (hs : PyData.strOk s = true) : cop .ne (.str s) (.str s) = .ok (.bl false) := by
  rw [cop_ne' (eq_str hs hs)]
  simp
def ptsW (W : WD) (S : List (IP × IP)) : List D := S.map fun s => pt (atW W (qp s))
section
variable {W : WD} {k : Nat} {S : List (IP × IP)}
theorem spot_sz (h : WOk W k) (hk : k ≤ 94) {s : IP × IP} (hs : FrS s) : law_at_F [worldD W, ip s.1, ip s.2] = .ok (pt (atW W (qp s))) ∧ SzP 130 (atW W (qp s)) := by
  obtain ⟨e1, e2⟩ := at_v (n := 29) h hs.1 hs.2 (by omega)
  exact ⟨e1, e2.1.mono (by omega), e2.2.mono (by omega)⟩
theorem riskT_cases (ch : List IP) (p q : Pt) (i : Nat) : riskT ch p q i = outT "outside" .non ∨ riskT ch p q i = outT "number" .non ∨ (In0 ch p ∧ In0 ch q ∧ cmp2 p i ≠ 0 ∧ riskT ch p q i = outT "kept" (fq ((cmp2 p i - cmp2 q i) / cmp2 p i))) := by
  classical
  unfold riskT
  by_cases c : In0 ch p ∧ In0 ch q
  · rw [if_pos c]
    by_cases d : cmp2 p i = 0
    · rw [if_pos d]; exact .inr (.inl rfl)
    · rw [if_neg d]; exact .inr (.inr ⟨c.1, c.2, d, rfl⟩)
  · rw [if_neg c]; exact .inl rfl
theorem wayT_cases (ch : List IP) (p q : Pt) : wayT ch p q = outT "outside" .non ∨ wayT ch p q = outT "number" .non ∨ ∃ i : Int, wayT ch p q = outT "kept" (.int i) := by
  classical
  unfold wayT
  by_cases c : In0 ch p ∧ In0 ch q
  · rw [if_pos c]
    by_cases d : p.1 = 0 ∨ q.2 = 0
    · rw [if_pos d]; exact .inr (.inl rfl)
    · rw [if_neg d]; exact .inr (.inr ⟨_, rfl⟩)
  · rw [if_neg c]; exact .inl rfl
theorem out0 (s : Str) (d : D) : ixD (outT s d) (.int 0) = .ok (.str s) := ixT0 _ _
theorem out1 (s : Str) (d : D) : ixD (outT s d) (.int 1) = .ok d := ixT1 _ _ _
abbrev jgE (a b c d e f g h i : Option Sl) : Rf.Env := [a, b, c, d, e, f, g, h, i]
theorem kept_ne : eqD (.str "outside") (.str "kept") = .ok false ∧ eqD (.str "number") (.str "kept") = .ok false ∧ eqD (.str "kept") (.str "kept") = .ok true := by
  refine ⟨?_, ?_, ?_⟩
  · rw [eq_str okO okK]; simp; decide
  · rw [eq_str okNu okK]; simp; decide
  · rw [eq_str okK okK]; simp
theorem judged_v (h : WOk W k) (hk : k ≤ 94) (hS : FiveOk W.ch S) {i j : Nat} (hi : i < 5) (hj : j < 5) : law_judged_F [probW W, .lst (ptsW W S), .lst (S.map spS), .int (i : Int), .int (j : Int)] = .ok (.bl true) := by
  classical
  obtain ⟨s, es⟩ : ∃ s, S[i]? = some s := ⟨S[i]'(by rw [hS.len]; exact hi), List.getElem?_eq_getElem _⟩
  obtain ⟨t, et⟩ : ∃ t, S[j]? = some t := ⟨S[j]'(by rw [hS.len]; exact hj), List.getElem?_eq_getElem _⟩
  have fs := hS.fr s (List.mem_of_getElem? es)
  have ft := hS.fr t (List.mem_of_getElem? et)
  have x1 : ixD (.lst (S.map spS)) (.int (i : Int)) = .ok (spS s) := ixD_nat (by rw [List.getElem?_map, es]; rfl)
  have x2 : ixD (.lst (S.map spS)) (.int (j : Int)) = .ok (spS t) := ixD_nat (by rw [List.getElem?_map, et]; rfl)
  have x3 : ixD (.lst (ptsW W S)) (.int (i : Int)) = .ok (pt (atW W (qp s))) := ixD_nat (by unfold ptsW; rw [List.getElem?_map, es]; rfl)
  have x4 : ixD (.lst (ptsW W S)) (.int (j : Int)) = .ok (pt (atW W (qp t))) := ixD_nat (by unfold ptsW; rw [List.getElem?_map, et]; rfl)
  have zs := (spot_sz h hk fs).2
  have zt := (spot_sz h hk ft).2
  have hb : (decide (i < 4) && decide (j < 4)) = true ↔ In0 W.ch (qp s) ∧ In0 W.ch (qp t) := by
    rw [← hS.ins i s es, ← hS.ins j t et]
    simp
  generalize hB : (decide (i < 4) && decide (j < 4)) = b at hb
  have w1 := due_way_v fs ft hb
  have w2 := way_t h hk zs zt
  generalize hP : D.lst (ptsW W S) = P at *
  generalize hQ : D.lst (S.map spS) = Q at *
  generalize hPr : probW W = Pr at *
  have step : ∀ (n : Nat) (hn : n < 2) (X6 X7 X8 : Option Sl), ∃ Y7 Y8, ex law_judged_T law_judged_W1 (jgE (some (.v Pr)) (some (.v P)) (some (.v Q)) (some (.v (.int (i : Int)))) (some (.v (.int (j : Int)))) (some (.v (.bl b))) (some (.v (.int (n : Int)))) X7 X8) = .nx (jgE (some (.v Pr)) (some (.v P)) (some (.v Q)) (some (.v (.int (i : Int)))) (some (.v (.int (j : Int)))) (some (.v (.bl b))) (some (.v (.int (n : Int)))) Y7 Y8) := by
    intro n hn X6 X7 X8
    have r1 := due_risk_v fs ft hn hb
    have r2 := risk_t h hk zs zt hn
    rw [hPr] at r2
    have o0 := out0
    refine ⟨some (.v (riskT W.ch (qp s) (qp t) n)), some (.v (riskT W.ch (qp s) (qp t) n)), ?_⟩
    rcases riskT_cases W.ch (qp s) (qp t) n with e | e | ⟨k1, k2, k3, e⟩
    · rw [e] at r1 r2 ⊢
      simp [law_judged_W1, x1, x2, x3, x4, r1, r2, out0, out1, eq_str okO okO, cop, kept_ne.1]
    · rw [e] at r1 r2 ⊢
      simp [law_judged_W1, x1, x2, x3, x4, r1, r2, out0, out1, eq_str okNu okNu, cop, kept_ne.2.1]
    · have sz : Sz 500 ((cmp2 (qp s) n - cmp2 (qp t) n) / cmp2 (qp s) n) := (risk_v h hk zs zt hn).2 _ (by unfold riskR; rw [if_pos ⟨k1, k2⟩, if_neg k3])
      have nu := is_number_v sz (by decide)
      rw [e] at r1 r2 ⊢
      simp [law_judged_W1, x1, x2, x3, x4, r1, r2, out0, out1, eq_str okK okK, cop, kept_ne.2.2, nu]
  have loop : ∃ Y6 Y7 Y8, ex law_judged_T law_judged_L1 (jgE (some (.v Pr)) (some (.v P)) (some (.v Q)) (some (.v (.int (i : Int)))) (some (.v (.int (j : Int)))) (some (.v (.bl b))) none none none) = .nx (jgE (some (.v Pr)) (some (.v P)) (some (.v Q)) (some (.v (.int (i : Int)))) (some (.v (.int (j : Int)))) (some (.v (.bl b))) Y6 Y7 Y8) := by
    obtain ⟨a7, a8, s1⟩ := step 0 (by decide) none none none
    obtain ⟨b7, b8, s2⟩ := step 1 (by decide) none a7 a8
    refine ⟨some (.v (.int 1)), b7, b8, ?_⟩
    have s1' : ex law_judged_T law_judged_W1 (jgE (some (.v Pr)) (some (.v P)) (some (.v Q)) (some (.v (.int (i : Int)))) (some (.v (.int (j : Int)))) (some (.v (.bl b))) (some (.v (.int 0))) none none) = _ := s1
    have s2' : ex law_judged_T law_judged_W1 (jgE (some (.v Pr)) (some (.v P)) (some (.v Q)) (some (.v (.int (i : Int)))) (some (.v (.int (j : Int)))) (some (.v (.bl b))) (some (.v (.int 1))) a7 a8) = _ := s2
    rw [law_judged_L1, ex_for]
    simp [forL_cons, s1', s2']
  obtain ⟨Y6, Y7, Y8, loop⟩ := loop
  have t1 : ex law_judged_T (.asg (.name 5) (.and (.cmp .lt (.var 3) (.int 4)) (.cmp .lt (.var 4) (.int 4)))) (jgE (some (.v Pr)) (some (.v P)) (some (.v Q)) (some (.v (.int (i : Int)))) (some (.v (.int (j : Int)))) none none none none) = .nx (jgE (some (.v Pr)) (some (.v P)) (some (.v Q)) (some (.v (.int (i : Int)))) (some (.v (.int (j : Int)))) (some (.v (.bl b))) none none none) := by
    rw [← hB]
    have e1 : ((i : Int) < 4) ↔ i < 4 := by omega
    have e2 : ((j : Int) < 4) ↔ j < 4 := by omega
    by_cases c : i < 4
    · simp [e1, e2, c]
    · simp [e1, e2, c]
  have eB : ex law_judged_T law_judged_B (jgE (some (.v Pr)) (some (.v P)) (some (.v Q)) (some (.v (.int (i : Int)))) (some (.v (.int (j : Int)))) none none none none) = .rt (.bl true) := by
    rw [law_judged_B, ex_cons, t1, andThen_nx, ex_cons, loop, andThen_nx]
    rcases wayT_cases W.ch (qp s) (qp t) with e | e | ⟨z, e⟩
    · rw [e] at w1 w2
      simp [x1, x2, x3, x4, w1, w2, out0, out1, eq_str okO okO, cop, kept_ne.1]
    · rw [e] at w1 w2
      simp [x1, x2, x3, x4, w1, w2, out0, out1, eq_str okNu okNu, cop, kept_ne.2.1]
    · rw [e] at w1 w2
      have i1 : isiB .int (.int z) = .ok true := rfl
      have i2 : isiB .bool (.int z) = .ok false := rfl
      simp [x1, x2, x3, x4, w1, w2, out0, out1, eq_str okK okK, cop, kept_ne.2.2, i1, i2]
  rw [law_judged_F, runFn_out (np := 5) (nn := 9) rfl rfl eB, outR_rt]
end
end Pg
/-! # K75g: law_true -/
namespace Pg
open PySem Rf
section
variable {W : WD} {k : Nat}
theorem gain_product_v (h : WOk W k) {q : Pt} (hq : SzP 130 (atW W q)) : gain_product_F [probW W, pt (atW W q)] = .ok (fq (vU W * q.1 * (wU W * q.2))) ∧ Sz 300 (vU W * q.1 * (wU W * q.2)) := by
  obtain ⟨g1, s1⟩ := gain_w h hq
  haveI z1 : Szc (vU W * q.1) 137 := ⟨s1.1⟩
  haveI z2 : Szc (wU W * q.2) 137 := ⟨s1.2⟩
  have t := times_s (a := vU W * q.1) (b := wU W * q.2) (by decide)
  have mp1 : ∀ ds, methD gain_product_T.mt 0 (probW W) (.ok ds) = Problem_gain_F (probW W :: ds) := meth_prob gain_product_mt0 (by decide) (by decide) _ _
  have zz : Szc (vU W * q.1 * (wU W * q.2)) (137 + 137) := inferInstance
  refine ⟨?_, zz.sz.mono (by decide)⟩
  have st : ∀ e, setT (.tup (.cons (.name 2) (.cons (.name 3) .nil))) (pt (gainW W q)) e = some ((e.set 2 (some (.v (fq (vU W * q.1))))).set 3 (some (.v (fq (wU W * q.2))))) := fun e => by
    simp [pt, gainW]
  simp [gain_product_F, runFn, gain_product_B, mp1, g1, st, t]
theorem law_product_v (h : WOk W k) (hk : k ≤ 94) {s : IP × IP} (hs : FrS s) : law_product_F [worldD W, spS s] = .ok (fq (vU W * (qp s).1 * (wU W * (qp s).2))) := by
  have ix : ∀ i : Nat, i < 4 → ixD (.lst (W.u.map D.int)) (.int (i : Int)) = .ok (.int (W.u.getD i 0)) := fun i hi => by
    have := ix_ints (row := W.u) (i := (i : Int)) (by omega) (by rw [h.units.len]; simpa using hi)
    simpa using this
  have i0 : ixD (.lst (W.u.map D.int)) (.int 0) = .ok (.int (W.u.getD 0 0)) := ix 0 (by decide)
  have i1 : ixD (.lst (W.u.map D.int)) (.int 1) = .ok (.int (W.u.getD 1 0)) := ix 1 (by decide)
  have i2 : ixD (.lst (W.u.map D.int)) (.int 2) = .ok (.int (W.u.getD 2 0)) := ix 2 (by decide)
  have i3 : ixD (.lst (W.u.map D.int)) (.int 3) = .ok (.int (W.u.getD 3 0)) := ix 3 (by decide)
  have d1 : ixD (worldD W) (.int 1) = .ok (.lst (W.u.map D.int)) := ixT1 _ _ _
  have x1 : ixD (spS s) (.int 0) = .ok (ip s.1) := ixT0 _ _
  have x2 : ixD (spS s) (.int 1) = .ok (ip s.2) := ixT1 _ _ _
  have u0 := h.units.get 0 (by decide)
  have u1 := h.units.get 1 (by decide)
  have u2 := h.units.get 2 (by decide)
  have u3 := h.units.get 3 (by decide)
  have e : vU W * (qp s).1 * (wU W * (qp s).2) = quo (s.1.1 * s.2.1 * W.u.getD 0 0 * W.u.getD 2 0, s.1.2 * s.2.2 * W.u.getD 1 0 * W.u.getD 3 0) := by
    have e1 : vU W = quo (W.u.getD 0 0, W.u.getD 1 0) := rfl
    have e2 : wU W = quo (W.u.getD 2 0, W.u.getD 3 0) := rfl
    have e3 : (qp s).1 = quo s.1 := rfl
    have e4 : (qp s).2 = quo s.2 := rfl
    rw [e1, e2, e3, e4, quo_mul, quo_mul, quo_mul]
    simp only
    congr 2 <;> grind
  rw [e]
  generalize W.u.getD 0 0 = a at *
  generalize W.u.getD 1 0 = b at *
  generalize W.u.getD 2 0 = c at *
  generalize W.u.getD 3 0 = d at *
  have p94 : (2 : Int) ^ k ≤ 2 ^ 94 := by have := two_le_pow hk; exact_mod_cast this
  haveI : Bic a 94 := bic_of (by omega) (by omega)
  haveI : Bic b 94 := bic_of (by omega) (by omega)
  haveI : Bic c 94 := bic_of (by omega) (by omega)
  haveI : Bic d 94 := bic_of (by omega) (by omega)
  haveI : Bic s.1.1 29 := ⟨hs.1.1⟩
  haveI : Bic s.2.1 29 := ⟨hs.2.1⟩
  haveI : Bic s.1.2 29 := bic_of (by have := hs.1.2.1; omega) hs.1.2.2
  haveI : Bic s.2.2 29 := bic_of (by have := hs.2.2.1; omega) hs.2.2.2
  have lw := lowest_s (n := s.1.1 * s.2.1 * a * c) (d := s.1.2 * s.2.2 * b * d) (Int.mul_pos (Int.mul_pos (Int.mul_pos hs.1.2.1 hs.2.2.1) u1.1) u3.1) (by decide) (by decide)
  simp [law_product_F, runFn, law_product_B, d1, i0, i1, i2, i3, x1, x2, mul_c, lw, quo]
end
abbrev lwE (a b c d e f g h i j k l m : Option Sl) : Rf.Env := [a, b, c, d, e, f, g, h, i, j, k, l, m]
theorem law_true (ns : List Int) (_ : ns.length ≤ 63) : law_F [.lst (ns.map D.int)] = .ok (.bl true) := by
  obtain ⟨W0, w1, hW0⟩ := world_v (ns.getD 0 0)
  have c0 := cell_ints ns 0
  have c1 := cell_ints ns 1
  have c2 := cell_ints ns 2
  have c3 := cell_ints ns 3
  have c0' : law_cell_F [.lst (ns.map D.int), .int 0] = .ok (.int (ns.getD 0 0)) := c0
  have c1' : law_cell_F [.lst (ns.map D.int), .int 1] = .ok (.int (ns.getD 1 0)) := c1
  have c2' : law_cell_F [.lst (ns.map D.int), .int 2] = .ok (.int (ns.getD 2 0)) := c2
  have c3' : law_cell_F [.lst (ns.map D.int), .int 3] = .ok (.int (ns.getD 3 0)) := c3
  generalize ns.getD 0 0 = n0 at *
  generalize ns.getD 1 0 = n1 at *
  generalize ns.getD 2 0 = n2 at *
  generalize ns.getD 3 0 = n3 at *
  generalize hN : D.lst (ns.map D.int) = N at *
  -- the world
  obtain ⟨W, hW, A2⟩ : ∃ W, WOk W 94 ∧ ∀ X2 X3 X4 X5 X6 X7 X8 X9 X10 X11 X12, ex law_T (.ife (.cmp .eq (.bin .mod (.bi .int (.cons (.call 0 (.cons (.var 0) (.cons (.int 3) .nil))) .nil)) (.int 4)) (.int 3)) (.cons (.asg (.name 1) (.call 2 (.cons (.var 1) (.cons (.bin .fdiv (.call 0 (.cons (.var 0) (.cons (.int 3) .nil))) (.int 4)) .nil)))) .nil) .nil) (lwE (some (.v N)) (some (.v (worldD W0))) X2 X3 X4 X5 X6 X7 X8 X9 X10 X11 X12) = .nx (lwE (some (.v N)) (some (.v (worldD W))) X2 X3 X4 X5 X6 X7 X8 X9 X10 X11 X12) := by
    by_cases c : n3.fmod 4 = 3
    · obtain ⟨u, e1, e2⟩ := large_v hW0 (n3.fdiv 4)
      refine ⟨_, e2, fun X2 X3 X4 X5 X6 X7 X8 X9 X10 X11 X12 => ?_⟩
      simp [c3', bop_mod, c, bop_fdiv (show okDiv 4 = true by decide), e1]
    · refine ⟨W0, ⟨hW0.ap, ⟨hW0.units.len, hW0.units.pos, fun x hx => ?_⟩, hW0.shape⟩, fun X2 X3 X4 X5 X6 X7 X8 X9 X10 X11 X12 => ?_⟩
      · have := hW0.units.lt x hx
        have : (2 : Int) ^ 30 ≤ 2 ^ 94 := by decide
        omega
      · simp [c3', bop_mod, c]
  have hsh := hW.shape
  have hl : 0 < W.ch.length := List.length_pos_iff.mpr hsh.ne
  obtain ⟨row1, r1, hr1⟩ := digits_row n1 60 11 (by decide) (by decide) (by decide)
  obtain ⟨row2, r2, hr2⟩ := digits_row n2 60 2 (by decide) (by decide) (by decide)
  obtain ⟨x1, y1, x2, y2, pv, o1, o2⟩ := pair_v hsh hr1
  have j0 : ixD (.lst (row2.map D.int)) (.int 0) = .ok (.int (row2.getD 0 0)) := hr2.ix 0 (by decide)
  have j1 : ixD (.lst (row2.map D.int)) (.int 1) = .ok (.int (row2.getD 1 0)) := hr2.ix 1 (by decide)
  generalize row2.getD 0 0 = q0 at *
  generalize row2.getD 1 0 = q1 at *
  obtain ⟨m, hm, em⟩ := fmod_nat q0 hl
  have md : bop .mod (.int q0) (.int (W.ch.length : Int)) = .ok (.int (m : Int)) := by rw [bop_mod (by omega), em]
  have ic := ix_at0 hm
  obtain ⟨x5, y5, bv, f5, g5, n5⟩ := beyond_v hsh (at0_mem hm) q1
  have i0 : ixD (.lst (W.ch.map ip)) (.int 0) = .ok (ip (at0 W.ch 0)) := ix_at0 hl
  have il := ix_lastI hsh.ne
  have hlast : lastI W.ch ∈ W.ch := at0_mem (by omega)
  have m0 := mid_at hsh hl
  have ml := hsh.mid _ hlast
  unfold Mid at m0 ml
  -- the five spots
  generalize hS : [(x1, y1), (x2, y2), (((0, 1) : IP), (((at0 W.ch 0).2, 1) : IP)), ((((lastI W.ch).1, 1) : IP), ((0, 1) : IP)), (x5, y5)] = S
  have fr01 : Fr 29 (0, 1) := ⟨by decide, by decide, by decide⟩
  have ft : Fr 29 ((at0 W.ch 0).2, 1) := fr_of (by simp only; omega) (by simp only; omega) (by simp) (by simp)
  have fl : Fr 29 ((lastI W.ch).1, 1) := fr_of (by simp only; omega) (by simp only; omega) (by simp) (by simp)
  have z0 : quo (0, 1) = 0 := quo_one 0
  have in2 : In0 W.ch (qp (((0, 1) : IP), (((at0 W.ch 0).2, 1) : IP))) := by
    have ic0 := in0_corner hsh (at0_mem hl)
    refine in0_down hsh ic0 ?_ ?_ ?_ ?_
    · exact quo_nonneg (by simp) (by simp)
    · show quo (0, 1) ≤ _
      rw [z0]; exact ic0.x0
    · exact quo_nonneg (by simp) (by simp only; omega)
    · show quo _ ≤ _
      rw [quo_one]; exact Rat.le_refl
  have in3 : In0 W.ch (qp ((((lastI W.ch).1, 1) : IP), ((0, 1) : IP))) := by
    have ic0 := in0_corner hsh hlast
    refine in0_down hsh ic0 ?_ ?_ ?_ ?_
    · exact quo_nonneg (by simp) (by simp only; omega)
    · show quo _ ≤ _
      rw [quo_one]; exact Rat.le_refl
    · exact quo_nonneg (by simp) (by simp)
    · show quo (0, 1) ≤ _
      rw [z0]; exact ic0.y0
  have five : FiveOk W.ch S := by
    rw [← hS]
    refine ⟨rfl, ?_, ?_⟩
    · intro s hs
      simp only [List.mem_cons, List.not_mem_nil, or_false] at hs
      rcases hs with e | e | e | e | e <;> subst e
      · exact ⟨o1.fx, o1.fy⟩
      · exact ⟨o2.fx, o2.fy⟩
      · exact ⟨fr01, ft⟩
      · exact ⟨fl, fr01⟩
      · exact ⟨f5, g5⟩
    · intro i s hs
      match i with
      | 0 => simp at hs; subst hs; exact ⟨fun _ => o1.gain, fun _ => by decide⟩
      | 1 => simp at hs; subst hs; exact ⟨fun _ => o2.gain, fun _ => by decide⟩
      | 2 => simp at hs; subst hs; exact ⟨fun _ => in2, fun _ => by decide⟩
      | 3 => simp at hs; subst hs; exact ⟨fun _ => in3, fun _ => by decide⟩
      | 4 => simp at hs; subst hs; exact ⟨fun h => absurd h (by decide), fun h => absurd h n5⟩
      | (j + 5) => simp at hs
  have spots : [sp x1 y1, sp x2 y2, D.tup [.tup [.int 0, .int 1], .tup [.int (at0 W.ch 0).2, .int 1]], D.tup [.tup [.int (lastI W.ch).1, .int 1], .tup [.int 0, .int 1]]] ++ [sp x5 y5] = S.map spS := by
    rw [← hS]; rfl
  have d0 : ixD (worldD W) (.int 0) = .ok (pt W.ap) := ixT0 _ _
  have d2 : ixD (worldD W) (.int 2) = .ok (.lst (W.ch.map ip)) := id rfl
  have t0 : ixD (.tup [sp x1 y1, sp x2 y2]) (.int 0) = .ok (sp x1 y1) := ixT0 _ _
  have t1 : ixD (.tup [sp x1 y1, sp x2 y2]) (.int 1) = .ok (sp x2 y2) := ixT1 _ _ _
  have n : ∀ {s env e}, ex law_T s env = .nx e → ∀ r, ex law_T (.cons s r) env = ex law_T r e := fun h r => by rw [ex_cons, h, andThen_nx]
  have A1 : ex law_T (.asg (.name 1) (.call 1 (.cons (.call 0 (.cons (.var 0) (.cons (.int 0) .nil))) .nil))) (lwE (some (.v N)) none none none none none none none none none none none none) = .nx (lwE (some (.v N)) (some (.v (worldD W0))) none none none none none none none none none none none) := by
    simp [c0', w1]
  generalize hC : D.lst (W.ch.map ip) = C at *
  have A3 : ex law_T (.asg (.name 2) (.ix (.var 1) (.int 2))) (lwE (some (.v N)) (some (.v (worldD W))) none none none none none none none none none none none) = .nx (lwE (some (.v N)) (some (.v (worldD W))) (some (.v C)) none none none none none none none none none none) := by
    simp [d2]
  generalize hR1 : D.lst (row1.map D.int) = R1 at *
  generalize hR2 : D.lst (row2.map D.int) = R2 at *
  have r1' : law_digits_F [.int n1, .int 60, .int 11] = .ok R1 := r1
  have r2' : law_digits_F [.int n2, .int 60, .int 2] = .ok R2 := r2
  have A4 : ex law_T (.asg (.name 3) (.call 4 (.cons (.var 2) (.cons (.call 3 (.cons (.call 0 (.cons (.var 0) (.cons (.int 1) .nil))) (.cons (.int 60) (.cons (.int 11) .nil)))) .nil)))) (lwE (some (.v N)) (some (.v (worldD W))) (some (.v C)) none none none none none none none none none none) = .nx (lwE (some (.v N)) (some (.v (worldD W))) (some (.v C)) (some (.v (.tup [sp x1 y1, sp x2 y2]))) none none none none none none none none none) := by
    simp [c1', r1', pv]
  have A5 : ex law_T (.asg (.name 4) (.call 3 (.cons (.call 0 (.cons (.var 0) (.cons (.int 2) .nil))) (.cons (.int 60) (.cons (.int 2) .nil))))) (lwE (some (.v N)) (some (.v (worldD W))) (some (.v C)) (some (.v (.tup [sp x1 y1, sp x2 y2]))) none none none none none none none none none) = .nx (lwE (some (.v N)) (some (.v (worldD W))) (some (.v C)) (some (.v (.tup [sp x1 y1, sp x2 y2]))) (some (.v R2)) none none none none none none none none) := by
    simp [c2', r2']
  have A6 : ex law_T (.asgO 5 (.lst (.cons (.ix (.var 3) (.int 0)) (.cons (.ix (.var 3) (.int 1)) (.cons (.tup (.cons (.tup (.cons (.int 0) (.cons (.int 1) .nil))) (.cons (.tup (.cons (.ix (.ix (.var 2) (.int 0)) (.int 1)) (.cons (.int 1) .nil))) .nil))) (.cons (.tup (.cons (.tup (.cons (.ix (.ix (.var 2) (.neg (.int 1))) (.int 0)) (.cons (.int 1) .nil))) (.cons (.tup (.cons (.int 0) (.cons (.int 1) .nil))) .nil))) .nil)))))) (lwE (some (.v N)) (some (.v (worldD W))) (some (.v C)) (some (.v (.tup [sp x1 y1, sp x2 y2]))) (some (.v R2)) none none none none none none none none) = .nx (lwE (some (.v N)) (some (.v (worldD W))) (some (.v C)) (some (.v (.tup [sp x1 y1, sp x2 y2]))) (some (.v R2)) (some (.o [sp x1 y1, sp x2 y2, D.tup [.tup [.int 0, .int 1], .tup [.int (at0 W.ch 0).2, .int 1]], D.tup [.tup [.int (lastI W.ch).1, .int 1], .tup [.int 0, .int 1]]])) none none none none none none none) := by
    simp [t0, t1, i0, il, -fq_zero, -fq_one]
  have A7 : ex law_T (.app 5 (.call 5 (.cons (.ix (.var 2) (.bin .mod (.bi .int (.cons (.ix (.var 4) (.int 0)) .nil)) (.bi .len (.cons (.var 2) .nil)))) (.cons (.ix (.var 4) (.int 1)) .nil)))) (lwE (some (.v N)) (some (.v (worldD W))) (some (.v C)) (some (.v (.tup [sp x1 y1, sp x2 y2]))) (some (.v R2)) (some (.o [sp x1 y1, sp x2 y2, D.tup [.tup [.int 0, .int 1], .tup [.int (at0 W.ch 0).2, .int 1]], D.tup [.tup [.int (lastI W.ch).1, .int 1], .tup [.int 0, .int 1]]])) none none none none none none none) = .nx (lwE (some (.v N)) (some (.v (worldD W))) (some (.v C)) (some (.v (.tup [sp x1 y1, sp x2 y2]))) (some (.v R2)) (some (.o (S.map spS))) none none none none none none none) := by
    rw [← spots]
    have lc : biF .len [C] = .ok (.int (W.ch.length : Int)) := by rw [← hC]; simp
    simp [j0, j1, lc, md, ic, bv, -fq_zero, -fq_one]
  have A8 : ex law_T (.frz [5] (.asg (.name 6) law_C1)) (lwE (some (.v N)) (some (.v (worldD W))) (some (.v C)) (some (.v (.tup [sp x1 y1, sp x2 y2]))) (some (.v R2)) (some (.o (S.map spS))) none none none none none none none) = .nx (lwE (some (.v N)) (some (.v (worldD W))) (some (.v C)) (some (.v (.tup [sp x1 y1, sp x2 y2]))) (some (.v R2)) (some (.v (.lst (S.map spS)))) (some (.v (.lst (ptsW W S)))) none none none none none none) := by
    have ec : ev law_T law_C1 (lwE (some (.v N)) (some (.v (worldD W))) (some (.v C)) (some (.v (.tup [sp x1 y1, sp x2 y2]))) (some (.v R2)) (some (.v (.lst (S.map spS)))) none none none none none none none) = .ok (.lst (ptsW W S)) := by
      have := ev_comp_map spS (T := law_T) (elt := .call 6 (.cons (.var 1) (.cons (.ix (.var 11) (.int 0)) (.cons (.ix (.var 11) (.int 1)) .nil)))) (it := .cons (.var 5) .nil) (cond := .nil) (tg := .name 11) (own := [11])
        (env := lwE (some (.v N)) (some (.v (worldD W))) (some (.v C)) (some (.v (.tup [sp x1 y1, sp x2 y2]))) (some (.v R2)) (some (.v (.lst (S.map spS)))) none none none none none none none) S (fun _ => true) (fun s => pt (atW W (qp s))) (evI_lst (by simp)) (by
          intro s hs
          have e := (spot_sz hW (by decide) (five.fr s hs)).1
          have v1 : ixD (spS s) (.int 0) = .ok (ip s.1) := ixT0 _ _
          have v2 : ixD (spS s) (.int 1) = .ok (ip s.2) := ixT1 _ _ _
          exact ⟨_, rfl, by simp, fun _ => by simp [hideO, wipeE, v1, v2, e]⟩) (by rw [five.len]; decide)
      rw [List.filter_eq_self.mpr (by simp)] at this
      rw [law_C1, this]
      rfl
    simp [frzE, ec]
  have A9 : ex law_T (.asg (.name 7) (.call 7 (.cons (.ix (.var 1) (.int 0)) (.cons law_C2 .nil)))) (lwE (some (.v N)) (some (.v (worldD W))) (some (.v C)) (some (.v (.tup [sp x1 y1, sp x2 y2]))) (some (.v R2)) (some (.v (.lst (S.map spS)))) (some (.v (.lst (ptsW W S)))) none none none none none none) = .nx (lwE (some (.v N)) (some (.v (worldD W))) (some (.v C)) (some (.v (.tup [sp x1 y1, sp x2 y2]))) (some (.v R2)) (some (.v (.lst (S.map spS)))) (some (.v (.lst (ptsW W S)))) (some (.v (probW W))) none none none none none) := by
    have ec : ev law_T law_C2 (lwE (some (.v N)) (some (.v (worldD W))) (some (.v C)) (some (.v (.tup [sp x1 y1, sp x2 y2]))) (some (.v R2)) (some (.v (.lst (S.map spS)))) (some (.v (.lst (ptsW W S)))) none none none none none none) = .ok (.lst ((frontW W).map pt)) := by
      have := ev_comp_map ip (T := law_T) (elt := .call 6 (.cons (.var 1) (.cons (.tup (.cons (.ix (.var 12) (.int 0)) (.cons (.int 1) .nil))) (.cons (.tup (.cons (.ix (.var 12) (.int 1)) (.cons (.int 1) .nil))) .nil)))) (it := .cons (.var 2) .nil) (cond := .nil) (tg := .name 12) (own := [12])
        (env := lwE (some (.v N)) (some (.v (worldD W))) (some (.v C)) (some (.v (.tup [sp x1 y1, sp x2 y2]))) (some (.v R2)) (some (.v (.lst (S.map spS)))) (some (.v (.lst (ptsW W S)))) none none none none none none) W.ch (fun _ => true) (fun c => pt (atW W (rq c))) (evI_lst (by rw [← hC]; simp)) (by
          intro c hc
          have e := (corner_at hW (by decide) hc).1
          have e' : law_at_F [worldD W, .tup [.int c.1, .int 1], .tup [.int c.2, .int 1]] = .ok (pt (atW W (rq c))) := e
          exact ⟨_, rfl, by simp, fun _ => by simp [hideO, wipeE, e']⟩) (by have := hsh.len; omega)
      rw [List.filter_eq_self.mpr (by simp)] at this
      rw [law_C2, this, frontW, List.map_map, List.map_map]
      rfl
    have pr := prob_v hW (by decide)
    simp only [ex_asg, ev_call, evs_cons, evs_nil, ev_ix, ev_var, ev_int, getV_zero, getV_succ, R.bind_ok, d0, ec, law_fn7, pr, Out.of_ok, setT_name, List.set]
  -- the loops
  have inner : ∀ (i : Nat), i < 5 → ∀ X9 X10, ∃ Y10, ex law_T law_L1 (lwE (some (.v N)) (some (.v (worldD W))) (some (.v C)) (some (.v (.tup [sp x1 y1, sp x2 y2]))) (some (.v R2)) (some (.v (.lst (S.map spS)))) (some (.v (.lst (ptsW W S)))) (some (.v (probW W))) (some (.v (.int (i : Int)))) X9 X10 none none) = .nx (lwE (some (.v N)) (some (.v (worldD W))) (some (.v C)) (some (.v (.tup [sp x1 y1, sp x2 y2]))) (some (.v R2)) (some (.v (.lst (S.map spS)))) (some (.v (.lst (ptsW W S)))) (some (.v (probW W))) (some (.v (.int (i : Int)))) X9 Y10 none none) := by
    intro i hi X9 X10
    obtain ⟨env', e1, z, rfl⟩ := ex_for_run (fun k : Nat => D.int (k : Int)) (T := law_T) (t := .name 10) (it := .rng1 (.int 5)) (body := law_W1)
      (env := lwE (some (.v N)) (some (.v (worldD W))) (some (.v C)) (some (.v (.tup [sp x1 y1, sp x2 y2]))) (some (.v R2)) (some (.v (.lst (S.map spS)))) (some (.v (.lst (ptsW W S)))) (some (.v (probW W))) (some (.v (.int (i : Int)))) X9 X10 none none) (List.range 5)
      (fun a env => ∃ z, env = lwE (some (.v N)) (some (.v (worldD W))) (some (.v C)) (some (.v (.tup [sp x1 y1, sp x2 y2]))) (some (.v R2)) (some (.v (.lst (S.map spS)))) (some (.v (.lst (ptsW W S)))) (some (.v (probW W))) (some (.v (.int (i : Int)))) X9 z none none)
      (evI_rng1_nat (n := 5) (by simp) (by decide)) ⟨X10, rfl⟩ (by
        rintro a j c env hab ⟨z, rfl⟩
        have hj : j < 5 := List.mem_range.mp (by rw [hab]; simp)
        have jv := judged_v hW (by decide) five hi hj
        refine ⟨_, rfl, _, .inl ?_, some (.v (.int (j : Int))), rfl⟩
        simp [law_W1, frzE, jv])
    exact ⟨z, by rw [law_L1]; exact e1⟩
  obtain ⟨env', L2, X8, X9, X10, rfl⟩ := ex_for_run (fun k : Nat => D.int (k : Int)) (T := law_T) (t := .name 8) (it := .rng1 (.int 5)) (body := law_W2)
      (env := lwE (some (.v N)) (some (.v (worldD W))) (some (.v C)) (some (.v (.tup [sp x1 y1, sp x2 y2]))) (some (.v R2)) (some (.v (.lst (S.map spS)))) (some (.v (.lst (ptsW W S)))) (some (.v (probW W))) none none none none none) (List.range 5)
      (fun a env => ∃ X8 X9 X10, env = lwE (some (.v N)) (some (.v (worldD W))) (some (.v C)) (some (.v (.tup [sp x1 y1, sp x2 y2]))) (some (.v R2)) (some (.v (.lst (S.map spS)))) (some (.v (.lst (ptsW W S)))) (some (.v (probW W))) X8 X9 X10 none none)
      (evI_rng1_nat (n := 5) (by simp) (by decide)) ⟨none, none, none, rfl⟩ (by
        rintro a i c env hab ⟨X8, X9, X10, rfl⟩
        have hi : i < 5 := List.mem_range.mp (by rw [hab]; simp)
        obtain ⟨s, es⟩ : ∃ s, S[i]? = some s := ⟨S[i]'(by rw [five.len]; exact hi), List.getElem?_eq_getElem _⟩
        have fs := five.fr s (List.mem_of_getElem? es)
        have v1 : ixD (.lst (S.map spS)) (.int (i : Int)) = .ok (spS s) := ixD_nat (by rw [List.getElem?_map, es]; rfl)
        have v2 : ixD (.lst (ptsW W S)) (.int (i : Int)) = .ok (pt (atW W (qp s))) := ixD_nat (by unfold ptsW; rw [List.getElem?_map, es]; rfl)
        obtain ⟨gp, gs⟩ := gain_product_v hW (spot_sz hW (by decide) fs).2
        have lp := law_product_v hW (by decide) fs
        have nu := is_number_v gs (by decide)
        generalize hG : vU W * (qp s).1 * (wU W * (qp s).2) = G at *
        obtain ⟨Y10, e1⟩ := inner i hi (some (.v (fq G))) X10
        refine ⟨lwE (some (.v N)) (some (.v (worldD W))) (some (.v C)) (some (.v (.tup [sp x1 y1, sp x2 y2]))) (some (.v R2)) (some (.v (.lst (S.map spS)))) (some (.v (.lst (ptsW W S)))) (some (.v (probW W))) (some (.v (.int (i : Int)))) X9 X10 none none, rfl, _, .inl ?_, some (.v (.int (i : Int))), some (.v (fq G)), Y10, rfl⟩
        have b1 : ex law_T (.asg (.name 9) (.call 8 (.cons (.var 7) (.cons (.ix (.var 6) (.var 8)) .nil)))) (lwE (some (.v N)) (some (.v (worldD W))) (some (.v C)) (some (.v (.tup [sp x1 y1, sp x2 y2]))) (some (.v R2)) (some (.v (.lst (S.map spS)))) (some (.v (.lst (ptsW W S)))) (some (.v (probW W))) (some (.v (.int (i : Int)))) X9 X10 none none) = .nx (lwE (some (.v N)) (some (.v (worldD W))) (some (.v C)) (some (.v (.tup [sp x1 y1, sp x2 y2]))) (some (.v R2)) (some (.v (.lst (S.map spS)))) (some (.v (.lst (ptsW W S)))) (some (.v (probW W))) (some (.v (.int (i : Int)))) (some (.v (fq G))) X10 none none) := by
          simp [v2, gp]
        have b2 : ex law_T (.ife (.or (.not (.call 9 (.cons (.var 9) .nil))) (.cmp .ne (.var 9) (.call 10 (.cons (.var 1) (.cons (.oix 5 (.var 8)) .nil))))) (.cons (.ret (.bl false)) .nil) .nil) (lwE (some (.v N)) (some (.v (worldD W))) (some (.v C)) (some (.v (.tup [sp x1 y1, sp x2 y2]))) (some (.v R2)) (some (.v (.lst (S.map spS)))) (some (.v (.lst (ptsW W S)))) (some (.v (probW W))) (some (.v (.int (i : Int)))) (some (.v (fq G))) X10 none none) = .nx (lwE (some (.v N)) (some (.v (worldD W))) (some (.v C)) (some (.v (.tup [sp x1 y1, sp x2 y2]))) (some (.v R2)) (some (.v (.lst (S.map spS)))) (some (.v (.lst (ptsW W S)))) (some (.v (probW W))) (some (.v (.int (i : Int)))) (some (.v (fq G))) X10 none none) := by
          simp [nu, v1, lp]
        rw [law_W2, n b1, n b2, ex_cons, e1, andThen_nx, ex_nil])
  have eB : ex law_T law_B (lwE (some (.v N)) none none none none none none none none none none none none) = .rt (.bl true) := by
    have L2' : ex law_T law_L2 _ = _ := L2
    rw [law_B, n A1, n (A2 _ _ _ _ _ _ _ _ _ _ _), n A3, n A4, n A5, n A6, n A7, n A8, n A9, n L2']
    simp
  rw [law_F, runFn_out (np := 1) (nn := 13) rfl rfl eB, outR_rt]
end Pg
open PySem PySem.W PyProof.Rows in
set_option maxRecDepth 100000 in
set_option maxHeartbeats 0 in
theorem PySem.Challenge.cw_whattwosettle_k75_risk_is_the_lesser_pro_holds : PySem.Challenge.rw_whattwosettle_k75_risk_is_the_lesser_pro.Holds := by
  w_on; o_law; k_head; (case hw => w_witness2)
  k_fill
  refine Rf.law_walk (x := "script") (k := 10) (F := Pg.law_F) rfl rfl ⟨rfl, by decide, by decide⟩ (fun w h Y => by first | exact PySem.W.km_in_of Y | exact PySem.W.kIn_of Y) (by kernel_rfl) ?T ?F Pg.law_true
  case T =>
    intro w
    exact Rf.tabB_ok (by kernel_rfl)
  case F =>
    intro w mg fa h KX G hmg
    refine' Pg.all_mk hmg ?f_frac ?f_below ?f_at_most ?f_turn ?f_whole_spots ?f_law_cell ?f_law_digits ?f_law_lowest ?f_law_steps ?f_law_bounds ?f_law_box ?f_law_spot ?f_law_beyond ?f_law_word ?f_law_due_way ?f_plus ?f_minus ?f_times ?f_over ?f_no_worse ?f_upper_chain ?f_law_is_number ?f_law_world ?f_law_at ?f_law_large ?f_law_pair ?f_law_due_risk ?f_law_product ?f_gap ?f_y_at ?f_x_at ?f_clipped ?f_height_on ?f_Problem_gain ?f_gain_product ?f_Problem_contains ?f_risk ?f_Problem_init ?f_gives_way ?f_law_risk ?f_law_way ?f_law_judged ?f_law ?fl_Problem_apart ?fl_Problem_frontier ?b_enumerate ?b_len ?b_abs ?b_int ?b_range ?b_max ?b_isinstance ?b_sorted ?b_tuple ?b_bool ?b_list ?m_gcd ?m_lcm ?xc_BadNumber ?xc_Outside ?xc_NoGain ?xh_0 ?xi_0 ?xi_1 ?xi_2 ?xi_3 ?xi_4 ?xi_5
    (case f_frac => refine' Rf.defAtD KX G ?a ?l ?c ?k ?t ?d; (case a => k_is); (case l => k_is); (case c => k_is); (case k => k_is); (case t => k_is); (case d => rfl))
    (case f_below => refine' Rf.defAt KX G ?a ?l ?c ?k; (case a => k_is); (case l => k_is); (case c => k_is); (case k => k_is))
    (case f_at_most => refine' Rf.defAt KX G ?a ?l ?c ?k; (case a => k_is); (case l => k_is); (case c => k_is); (case k => k_is))
    (case f_turn => refine' Rf.defAt KX G ?a ?l ?c ?k; (case a => k_is); (case l => k_is); (case c => k_is); (case k => k_is))
    (case f_whole_spots => refine' Rf.defAt KX G ?a ?l ?c ?k; (case a => k_is); (case l => k_is); (case c => k_is); (case k => k_is))
    (case f_law_cell => refine' Rf.defAt KX G ?a ?l ?c ?k; (case a => k_is); (case l => k_is); (case c => k_is); (case k => k_is))
    (case f_law_digits => refine' Rf.defAt KX G ?a ?l ?c ?k; (case a => k_is); (case l => k_is); (case c => k_is); (case k => k_is))
    (case f_law_lowest => refine' Rf.defAt KX G ?a ?l ?c ?k; (case a => k_is); (case l => k_is); (case c => k_is); (case k => k_is))
    (case f_law_steps => refine' Rf.defAt KX G ?a ?l ?c ?k; (case a => k_is); (case l => k_is); (case c => k_is); (case k => k_is))
    (case f_law_bounds => refine' Rf.defAt KX G ?a ?l ?c ?k; (case a => k_is); (case l => k_is); (case c => k_is); (case k => k_is))
    (case f_law_box => refine' Rf.defAt KX G ?a ?l ?c ?k; (case a => k_is); (case l => k_is); (case c => k_is); (case k => k_is))
    (case f_law_spot => refine' Rf.defAt KX G ?a ?l ?c ?k; (case a => k_is); (case l => k_is); (case c => k_is); (case k => k_is))
    (case f_law_beyond => refine' Rf.defAt KX G ?a ?l ?c ?k; (case a => k_is); (case l => k_is); (case c => k_is); (case k => k_is))
    (case f_law_word => refine' Rf.defAt KX G ?a ?l ?c ?k; (case a => k_is); (case l => k_is); (case c => k_is); (case k => k_is))
    (case f_law_due_way => refine' Rf.defAt KX G ?a ?l ?c ?k; (case a => k_is); (case l => k_is); (case c => k_is); (case k => k_is))
    (case f_plus => refine' Rf.defAt KX G ?a ?l ?c ?k; (case a => k_is); (case l => k_is); (case c => k_is); (case k => k_is))
    (case f_minus => refine' Rf.defAt KX G ?a ?l ?c ?k; (case a => k_is); (case l => k_is); (case c => k_is); (case k => k_is))
    (case f_times => refine' Rf.defAt KX G ?a ?l ?c ?k; (case a => k_is); (case l => k_is); (case c => k_is); (case k => k_is))
    (case f_over => refine' Rf.defAt KX G ?a ?l ?c ?k; (case a => k_is); (case l => k_is); (case c => k_is); (case k => k_is))
    (case f_no_worse => refine' Rf.defAt KX G ?a ?l ?c ?k; (case a => k_is); (case l => k_is); (case c => k_is); (case k => k_is))
    (case f_upper_chain => refine' Rf.defAt KX G ?a ?l ?c ?k; (case a => k_is); (case l => k_is); (case c => k_is); (case k => k_is))
    (case f_law_is_number => refine' Rf.defAt KX G ?a ?l ?c ?k; (case a => k_is); (case l => k_is); (case c => k_is); (case k => k_is))
    (case f_law_world => refine' Rf.defAt KX G ?a ?l ?c ?k; (case a => k_is); (case l => k_is); (case c => k_is); (case k => k_is))
    (case f_law_at => refine' Rf.defAt KX G ?a ?l ?c ?k; (case a => k_is); (case l => k_is); (case c => k_is); (case k => k_is))
    (case f_law_large => refine' Rf.defAt KX G ?a ?l ?c ?k; (case a => k_is); (case l => k_is); (case c => k_is); (case k => k_is))
    (case f_law_pair => refine' Rf.defAt KX G ?a ?l ?c ?k; (case a => k_is); (case l => k_is); (case c => k_is); (case k => k_is))
    (case f_law_due_risk => refine' Rf.defAt KX G ?a ?l ?c ?k; (case a => k_is); (case l => k_is); (case c => k_is); (case k => k_is))
    (case f_law_product => refine' Rf.defAt KX G ?a ?l ?c ?k; (case a => k_is); (case l => k_is); (case c => k_is); (case k => k_is))
    (case f_gap => refine' Rf.defAt KX G ?a ?l ?c ?k; (case a => k_is); (case l => k_is); (case c => k_is); (case k => k_is))
    (case f_y_at => refine' Rf.defAt KX G ?a ?l ?c ?k; (case a => k_is); (case l => k_is); (case c => k_is); (case k => k_is))
    (case f_x_at => refine' Rf.defAt KX G ?a ?l ?c ?k; (case a => k_is); (case l => k_is); (case c => k_is); (case k => k_is))
    (case f_clipped => refine' Rf.defAt KX G ?a ?l ?c ?k; (case a => k_is); (case l => k_is); (case c => k_is); (case k => k_is))
    (case f_height_on => refine' Rf.defAt KX G ?a ?l ?c ?k; (case a => k_is); (case l => k_is); (case c => k_is); (case k => k_is))
    (case f_Problem_gain => refine' Rf.methAt KX G ?a ?i ?c ?fn ?kp ?l ?d; (case a => k_is); (case i => k_is); (case c => kernel_rfl); (case fn => k_is); (case kp => k_is); (case l => k_is); (case d => k_is))
    (case f_gain_product => refine' Rf.defAt KX G ?a ?l ?c ?k; (case a => k_is); (case l => k_is); (case c => k_is); (case k => k_is))
    (case f_Problem_contains => refine' Rf.methAt KX G ?a ?i ?c ?fn ?kp ?l ?d; (case a => k_is); (case i => k_is); (case c => kernel_rfl); (case fn => k_is); (case kp => k_is); (case l => k_is); (case d => k_is))
    (case f_risk => refine' Rf.defAt KX G ?a ?l ?c ?k; (case a => k_is); (case l => k_is); (case c => k_is); (case k => k_is))
    (case f_Problem_init => refine' Rf.initAt KX G ?a ?i ?m ?fn ?kp ?l ?d; (case a => k_is); (case i => k_is); (case m => k_is); (case fn => k_is); (case kp => k_is); (case l => k_is); (case d => k_is))
    (case f_gives_way => refine' Rf.defAt KX G ?a ?l ?c ?k; (case a => k_is); (case l => k_is); (case c => k_is); (case k => k_is))
    (case f_law_risk => refine' Rf.defAt KX G ?a ?l ?c ?k; (case a => k_is); (case l => k_is); (case c => k_is); (case k => k_is))
    (case f_law_way => refine' Rf.defAt KX G ?a ?l ?c ?k; (case a => k_is); (case l => k_is); (case c => k_is); (case k => k_is))
    (case f_law_judged => refine' Rf.defAt KX G ?a ?l ?c ?k; (case a => k_is); (case l => k_is); (case c => k_is); (case k => k_is))
    (case f_law => refine' Rf.defAt KX G ?a ?l ?c ?k; (case a => k_is); (case l => k_is); (case c => k_is); (case k => k_is))
    (case fl_Problem_apart => refine' Rf.fldAt KX G ?a ?c ?n; (case a => k_is); (case c => kernel_rfl); (case n => k_is))
    (case fl_Problem_frontier => refine' Rf.fldAt KX G ?a ?c ?n; (case a => k_is); (case c => kernel_rfl); (case n => k_is))
    (case b_enumerate => refine' PySem.W.mg_none_of KX G ?a; (case a => k_is))
    (case b_len => refine' PySem.W.mg_none_of KX G ?a; (case a => k_is))
    (case b_abs => refine' PySem.W.mg_none_of KX G ?a; (case a => k_is))
    (case b_int => refine' PySem.W.mg_none_of KX G ?a; (case a => k_is))
    (case b_range => refine' PySem.W.mg_none_of KX G ?a; (case a => k_is))
    (case b_max => refine' PySem.W.mg_none_of KX G ?a; (case a => k_is))
    (case b_isinstance => refine' PySem.W.mg_none_of KX G ?a; (case a => k_is))
    (case b_sorted => refine' PySem.W.mg_none_of KX G ?a; (case a => k_is))
    (case b_tuple => refine' PySem.W.mg_none_of KX G ?a; (case a => k_is))
    (case b_bool => refine' PySem.W.mg_none_of KX G ?a; (case a => k_is))
    (case b_list => refine' PySem.W.mg_none_of KX G ?a; (case a => k_is))
    (case m_gcd => refine' PySem.W.mg_of KX G ?a; (case a => k_is))
    (case m_lcm => refine' PySem.W.mg_of KX G ?a; (case a => k_is))
    (case xc_BadNumber => exact Rf.xcOk KX G (by kernel_rfl))
    (case xc_Outside => exact Rf.xcOk KX G (by kernel_rfl))
    (case xc_NoGain => exact Rf.xcOk KX G (by kernel_rfl))
    (case xh_0 => exact Rf.xhOk KX G (by kernel_rfl))
    (case xi_0 => exact Rf.xiTOk (t := "ValueError") KX G (by kernel_rfl))
    (case xi_1 => exact Rf.xiOk KX G (by kernel_rfl))
    (case xi_2 => exact Rf.xiOk KX G (by kernel_rfl))
    (case xi_3 => exact Rf.xiOk KX G (by kernel_rfl))
    (case xi_4 => exact Rf.xiOk KX G (by kernel_rfl))
    (case xi_5 => exact Rf.xiOk KX G (by kernel_rfl))
