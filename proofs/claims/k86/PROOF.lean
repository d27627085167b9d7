import PyProof.Rows.All
import Wide.All
import OpenK.AllK
import Wide.FinOn
import HandS.ForMost
import HandS.ForExc
import HandS.Wide
import HandS.Gcd
import HandS.HotCalls
import HandS.ExcIs
import HandS.ExcOwn
import HandS.Lambda
import HandS.EndTab
import HandS.IsInst
import KE.SortKeyHeap
import HandS.Defaults
import PySem.Challenge.RW_whattwosettle_k86_exact_fractions
set_option Elab.async false
set_option linter.all false
set_option maxRecDepth 100000
set_option maxHeartbeats 4000000
/-! # Rf1: data, what stands for it in the heap, results -/
namespace Rf
open PySem PySem.Spec L2

/-- values of the pure reading: no addresses in them -/
inductive D where
  | non | bl (b : Bool) | int (i : Int) | str (s : Str) | tup (xs : List D) | lst (xs : List D)
  | obj (c : Str) (fs : List (Str × D)) | exc (c : Str) (fs : List (Str × D))
  deriving Inhabited
/-- an error of the pure reading: its class by name, its fields -/
structure Exn where
  cls : Str
  fs : List (Str × D)
inductive R (α : Type) where
  | ok (a : α) | err (x : Exn) | bad
def R.bind {α β : Type} (r : R α) (f : α → R β) : R β := match r with
  | .ok a => f a
  | .err x => .err x
  | .bad => .bad
@[simp] theorem R.bind_ok {α β : Type} (a : α) (f : α → R β) : (R.ok a).bind f = f a := id rfl
@[simp] theorem R.bind_err {α β : Type} (x : Exn) (f : α → R β) : (R.err x : R α).bind f = .err x := id rfl
@[simp] theorem R.bind_bad {α β : Type} (f : α → R β) : (R.bad : R α).bind f = .bad := id rfl
abbrev Fn := List D → R D

/-- what is fixed for a whole program -/
structure G where
  P : Program
  w : World
  K : PySem.W.Frag
  mg : Str → Option Value
  base : Heap
  /-- the exception that a suite holds -/
  hx : Option (Addr × Obj)

/-- a list that is to be read -/
def LsK (K : PySem.W.Frag) (H : Hp) (a : Addr) (xs : List V) : Prop :=
  Rd H a (.lst xs) ∨ ∃ (its : List Value) (n : Nat), K.lookup a = some { cls := .type "list", data := .seq its.toArray n } ∧ its.length ≤ sizeLine ∧ Vals xs its
theorem LsK.of {K : PySem.W.Frag} {H : Hp} {a : Addr} {xs : List V} (h : H a = some (.lst xs)) : LsK K H a xs := .inl (.inl h)
theorem lsq {K : PySem.W.Frag} {H : Hp} {a : Addr} {xs : List V} (h : LsK K H a xs) : SqL K H a xs := by
  rcases h with h | ⟨its, n, hk, hl, r⟩
  · exact .inl h
  · exact .inr ⟨_, its.toArray, n, hk, rfl, rfl, rfl, by simpa using hl, by simpa using r⟩
mutual
inductive Rep (g : G) (H : Hp) : V → D → Prop where
  | non : Rep g H .non .non
  | bl (b : Bool) : Rep g H (.bl b) (.bl b)
  | int (i : Int) : Rep g H (.int i) (.int i)
  | str (x : Str) : Rep g H (.str x) (.str x)
  | tup {a : Addr} {vs : List V} {ds : List D} : SqT g.K H a vs → Reps g H vs ds → Rep g H (.ref a) (.tup ds)
  | lst {a : Addr} {vs : List V} {ds : List D} : LsK g.K H a vs → Reps g H vs ds → Rep g H (.ref a) (.lst ds)
  | obj {a C dx : Addr} {c : Str} {fs : List (Str × V)} {gs : List (Str × D)} : g.mg c = some (.ref C) → H a = some (.ins C dx fs) → RepF g H fs gs → Rep g H (.ref a) (.obj c gs)
  | exc0 {a : Addr} {oe : Obj} {c : Str} : g.hx = some (a, oe) → g.mg c = some oe.cls → oe.dict = none → Rep g H (.ref a) (.exc c [])
  | excD {a dd : Addr} {oe : Obj} {c : Str} {fs : List (Str × V)} {gs : List (Str × D)} : g.hx = some (a, oe) → g.mg c = some oe.cls → oe.dict = some dd → H dd = some (.xd fs) → RepF g H fs gs → Rep g H (.ref a) (.exc c gs)
inductive Reps (g : G) (H : Hp) : List V → List D → Prop where
  | nil : Reps g H [] []
  | cons {v : V} {d : D} {vs : List V} {ds : List D} : Rep g H v d → Reps g H vs ds → Reps g H (v :: vs) (d :: ds)
inductive RepF (g : G) (H : Hp) : List (Str × V) → List (Str × D) → Prop where
  | nil : RepF g H [] []
  | cons {f : Str} {v : V} {d : D} {fs : List (Str × V)} {gs : List (Str × D)} : Rep g H v d → RepF g H fs gs → RepF g H ((f, v) :: fs) ((f, d) :: gs)
end

theorem same_rd {K : PySem.W.Frag} {H H' : Hp} {a : Addr} {o : List V} (e : Same H H') (h : LsK K H a o) : LsK K H' a o := by
  rcases h with (h | ⟨u, h⟩) | h
  · exact .inl (.inl (e _ _ h))
  · exact .inl (.inr ⟨u, e _ _ h⟩)
  · exact .inr h
theorem same_sqT {K : PySem.W.Frag} {H H' : Hp} {a : Addr} {xs : List V} (e : Same H H') (h : SqT K H a xs) : SqT K H' a xs := by
  rcases h with (h | ⟨o, h⟩) | h
  · exact .inl (.inl (e _ _ h))
  · exact .inl (.inr ⟨o, e _ _ h⟩)
  · exact .inr h
mutual
theorem Rep.mono {g : G} {H H' : Hp} (e : Same H H') : ∀ {v : V} {d : D}, Rep g H v d → Rep g H' v d
  | _, _, .non => .non
  | _, _, .bl b => .bl b
  | _, _, .int b => .int b
  | _, _, .str b => .str b
  | _, _, .tup h r => .tup (same_sqT e h) (Reps.mono e r)
  | _, _, .lst h r => .lst (same_rd e h) (Reps.mono e r)
  | _, _, .obj m h r => .obj m (e _ _ h) (RepF.mono e r)
  | _, _, .exc0 h m d => .exc0 h m d
  | _, _, .excD h m d k r => .excD h m d (e _ _ k) (RepF.mono e r)
theorem Reps.mono {g : G} {H H' : Hp} (e : Same H H') : ∀ {v : List V} {d : List D}, Reps g H v d → Reps g H' v d
  | _, _, .nil => .nil
  | _, _, .cons h r => .cons (Rep.mono e h) (Reps.mono e r)
theorem RepF.mono {g : G} {H H' : Hp} (e : Same H H') : ∀ {v : List (Str × V)} {d : List (Str × D)}, RepF g H v d → RepF g H' v d
  | _, _, .nil => .nil
  | _, _, .cons h r => .cons (Rep.mono e h) (RepF.mono e r)
end
section
variable {g : G} {H : Hp}
theorem Reps.length : ∀ {vs : List V} {ds : List D}, Reps g H vs ds → vs.length = ds.length
  | _, _, .nil => rfl
  | _, _, .cons _ r => by rw [List.length_cons, List.length_cons, Reps.length r]
theorem Reps.get : ∀ {vs : List V} {ds : List D} {i : Nat} {d : D}, Reps g H vs ds → ds[i]? = some d → ∃ v, vs[i]? = some v ∧ Rep g H v d
  | _, _, _, _, .nil, e => by simp at e
  | _, _, 0, _, .cons r _, e => by simp at e; subst e; exact ⟨_, rfl, r⟩
  | _, _, i + 1, _, .cons _ t, e => by
    obtain ⟨u, h1, h2⟩ := Reps.get (i := i) t (by simpa using e)
    exact ⟨u, by simpa using h1, h2⟩
theorem Reps.append : ∀ {vs vs' : List V} {ds ds' : List D}, Reps g H vs ds → Reps g H vs' ds' → Reps g H (vs ++ vs') (ds ++ ds')
  | _, _, _, _, .nil, s => s
  | _, _, _, _, .cons r t, s => .cons r (Reps.append t s)
theorem Reps.take : ∀ {vs : List V} {ds : List D} (n : Nat), Reps g H vs ds → Reps g H (vs.take n) (ds.take n)
  | _, _, 0, _ => .nil
  | _, _, _ + 1, .nil => .nil
  | _, _, n + 1, .cons r t => .cons r (Reps.take n t)
theorem Reps.drop : ∀ {vs : List V} {ds : List D} (n : Nat), Reps g H vs ds → Reps g H (vs.drop n) (ds.drop n)
  | _, _, 0, r => r
  | _, _, _ + 1, .nil => .nil
  | _, _, n + 1, .cons r t => Reps.drop n t
theorem Reps.set {v : V} {d : D} (r : Rep g H v d) : ∀ {vs : List V} {ds : List D} (i : Nat), Reps g H vs ds → Reps g H (vs.set i v) (ds.set i d)
  | _, _, _, .nil => .nil
  | _, _, 0, .cons _ t => .cons r t
  | _, _, i + 1, .cons q t => .cons q (Reps.set r i t)
theorem Reps.dropLast {vs : List V} {ds : List D} (r : Reps g H vs ds) : Reps g H vs.dropLast ds.dropLast := by
  rw [List.dropLast_eq_take, List.dropLast_eq_take, r.length]; exact r.take _
theorem RepF.lookup {f : Str} : ∀ {fs : List (Str × V)} {gs : List (Str × D)} {d : D}, RepF g H fs gs → gs.lookup f = some d → ∃ v, fs.lookup f = some v ∧ Rep g H v d
  | _, _, _, .nil, e => by simp [List.lookup] at e
  | _, _, _, .cons (f := f') r t, e => by
    by_cases h : f = f'
    · subst h
      simp [List.lookup] at e ⊢
      subst e
      exact r
    · have hb : (f == f') = false := by simpa using h
      simp only [List.lookup, hb] at e ⊢
      exact RepF.lookup t e
theorem RepF.lookup_none {f : Str} : ∀ {fs : List (Str × V)} {gs : List (Str × D)}, RepF g H fs gs → gs.lookup f = none → fs.lookup f = none
  | _, _, .nil, e => rfl
  | _, _, .cons (f := f') r t, e => by
    by_cases h : f = f'
    · subst h
      simp [List.lookup] at e
    · have hb : (f == f') = false := by simpa using h
      simp only [List.lookup, hb] at e ⊢
      exact RepF.lookup_none t e
theorem reps_ints : ∀ (ns : List Int), Reps g H (ns.map V.int) (ns.map D.int)
  | [] => .nil
  | n :: ns => .cons (.int n) (reps_ints ns)
end

/-! ### data without objects: the library's own -/
mutual
def D.py : D → Option PyData
  | .non => some .none
  | .bl b => some (.bool b)
  | .int i => some (.int i)
  | .str s => some (.str s)
  | .tup xs => (pys xs).map .tuple
  | .lst xs => (pys xs).map .list
  | .obj _ _ => none
  | .exc _ _ => none
def pys : List D → Option (List PyData)
  | [] => some []
  | d :: ds => match d.py, pys ds with
    | some p, some ps => some (p :: ps)
    | _, _ => none
end
mutual
theorem Rep.dp {g : G} {H : Hp} : ∀ {v : V} {d : D} {p : PyData}, Rep g H v d → d.py = some p → Dp g.K H v p
  | _, _, _, .non, e => by simp [D.py] at e; subst e; exact .non
  | _, _, _, .bl b, e => by simp [D.py] at e; subst e; exact .bl b
  | _, _, _, .int b, e => by simp [D.py] at e; subst e; exact .int b
  | _, _, _, .str b, e => by simp [D.py] at e; subst e; exact .str b
  | _, _, _, .tup h r, e => by
    simp only [D.py, Option.map_eq_some_iff] at e
    obtain ⟨ps, e1, rfl⟩ := e
    exact .tup h (Reps.dps r e1)
  | _, _, _, .lst h r, e => by
    simp only [D.py, Option.map_eq_some_iff] at e
    obtain ⟨ps, e1, rfl⟩ := e
    exact .lst (lsq h) (Reps.dps r e1)
  | _, _, _, .obj _ _ _, e => by simp [D.py] at e
  | _, _, _, .exc0 _ _ _, e => by simp [D.py] at e
  | _, _, _, .excD _ _ _ _ _, e => by simp [D.py] at e
theorem Reps.dps {g : G} {H : Hp} : ∀ {v : List V} {d : List D} {p : List PyData}, Reps g H v d → pys d = some p → DpAll g.K H v p
  | _, _, _, .nil, e => by simp [pys] at e; subst e; exact .nil
  | _, _, _, .cons (d := d) (ds := ds) h r, e => by
    unfold pys at e
    split at e
    · rename_i p ps e1 e2
      cases e
      exact .cons (Rep.dp h e1) (Reps.dps r e2)
    · cases e
end

/-! ### the frozen heap Hf within H -/
/-- the name that the lambda of ascending bears -/
def lamName : Str := "ascending.<locals>.<lambda>"
/-- all but tables of code objects stay, tables grow -/
structure Ext (H H' : Hp) : Prop where
  o : ∀ b u, H b = some u → (∀ ps, u ≠ .tbl ps) → H' b = some u
  t : ∀ b ps, H b = some (.tbl ps) → ∃ qs, H' b = some (.tbl qs)
  q : ∀ P, LamX.TabS H P lamName → LamX.TabS H' P lamName
section
variable {H H1 H2 H' : Hp}
theorem Ext.of (e : Same H H') : Ext H H' := ⟨fun b u h _ => e b u h, fun b ps h => ⟨ps, e b _ h⟩, fun P h => h.ext e⟩
theorem Ext.refl (H : Hp) : Ext H H := .of (.refl H)
theorem Ext.trans (a : Ext H H1) (b : Ext H1 H2) : Ext H H2 :=
  ⟨fun c u h n => b.o c u (a.o c u h n) n, fun c ps h => by obtain ⟨qs, z⟩ := a.t c ps h; exact b.t c qs z, fun P h => b.q P (a.q P h)⟩
theorem Ext.free (e : Ext H H') {a : Addr} (h : H' a = none) : H a = none := by
  cases q : H a with
  | none => rfl
  | some u =>
    cases u with
    | tbl ps => obtain ⟨qs, z⟩ := e.t a ps q; rw [h] at z; cases z
    | _ => have z := e.o a _ q (fun ps y => nomatch y); rw [h] at z; cases z
theorem Ext.lst (e : Ext H H') {a : Addr} {vs : List V} (h : H a = some (.lst vs)) : H' a = some (.lst vs) := e.o a _ h (fun ps y => nomatch y)
theorem tabS_lst {p P : Addr} {x : Str} {vs : List V} {o : HO} (hp : H p = some (.lst vs)) (h : LamX.TabS H P x) : LamX.TabS (upd H p o) P x := by
  obtain ⟨ps, h1, h2, h3⟩ := h
  have nP : P ≠ p := fun z => by rw [z, hp] at h1; cases h1
  refine ⟨ps, by rw [upd_ne nP]; exact h1, h2, fun pos cv hc => ?_⟩
  obtain ⟨c, e1, e2⟩ := h3 pos cv hc
  have nc : c ≠ p := fun z => by rw [z, hp] at e2; cases e2
  exact ⟨c, e1, by rw [upd_ne nc]; exact e2⟩
/-- a list of H, fresh since H0, is changed -/
theorem Ext.upd {H0 : Hp} {p : Addr} {vs : List V} {o : HO} (e : Ext H0 H) (h0 : H0 p = none) (hp : H p = some (.lst vs)) : Ext H0 (upd H p o) :=
  ⟨fun b u h n => by rw [upd_ne (ne_of_none h h0)]; exact e.o b u h n, fun b ps h => by rw [upd_ne (ne_of_none h h0)]; exact e.t b ps h, fun P h => tabS_lst hp (e.q P h)⟩
end
theorem same_rdE {K : PySem.W.Frag} {H H' : Hp} {a : Addr} {o : List V} (e : Ext H H') (h : LsK K H a o) : LsK K H' a o := by
  rcases h with (h | ⟨u, h⟩) | h
  · exact .inl (.inl (e.lst h))
  · exact .inl (.inr ⟨u, e.o _ _ h (fun ps y => nomatch y)⟩)
  · exact .inr h
structure Fut (H Hf H' Hf' : Hp) : Prop where
  s : Ext H H'
  f : Same Hf Hf'
  i : Same Hf' H'
  n : ∀ p, H p ≠ none → Hf p = none → Hf' p = none
section
variable {H Hf H1 Hf1 H2 Hf2 : Hp}
theorem Fut.refl (h : Same Hf H) : Fut H Hf H Hf := ⟨.refl _, .refl _, h, fun _ _ h => h⟩
theorem Fut.trans (a : Fut H Hf H1 Hf1) (b : Fut H1 Hf1 H2 Hf2) : Fut H Hf H2 Hf2 :=
  ⟨a.s.trans b.s, a.f.trans b.f, b.i, fun p h1 h2 => b.n p (fun e => h1 (a.s.free e)) (a.n p h1 h2)⟩
theorem same_upd {H : Hp} {p : Addr} {o : HO} (h : H p = none) : Same H (upd H p o) := fun b u e => by rw [upd_ne (ne_of_none e h)]; exact e
/-- a new object that is frozen at once -/
theorem Fut.new {p : Addr} {o : HO} (h : Same Hf H) (hp : H p = none) : Fut H Hf (upd H p o) (upd Hf p o) := by
  refine ⟨.of (same_upd hp), same_upd (h.free hp), fun b u e => ?_, fun q h1 h2 => ?_⟩
  · by_cases hb : b = p
    · subst hb; rw [upd_same] at e ⊢; exact e
    · rw [upd_ne hb] at e ⊢; exact h _ _ e
  · rw [upd_ne (fun z => h1 (by rw [z]; exact hp))]; exact h2
/-- a new object that is not frozen -/
theorem Fut.own {p : Addr} {o : HO} (h : Same Hf H) (hp : H p = none) : Fut H Hf (upd H p o) Hf :=
  ⟨.of (same_upd hp), .refl _, h.trans (same_upd hp), fun _ _ h => h⟩
theorem Fut.add {p : Addr} {o : HO} (h : Same Hf H) (hp : H p = some o) (hn : H1 p = none) (a : Fut H1 Hf1 H Hf) (hf : Hf p = none) : Fut H1 Hf1 H (upd Hf p o) := by
  refine ⟨a.s, a.f.trans (same_upd hf), fun b u e => ?_, fun q h1 h2 => ?_⟩
  · by_cases hb : b = p
    · subst hb; rw [upd_same] at e; cases e; exact hp
    · rw [upd_ne hb] at e; exact h _ _ e
  · rw [upd_ne (fun z => h1 (by rw [z]; exact hn))]; exact a.n q h1 h2
end
/-- P: the table of code objects of ascending, whose code is at c -/
def G.tbc (g : G) (c P : Addr) : Prop := ∃ (f : Addr) (o : Obj) (fd : FuncData), g.mg "ascending" = some (.ref f) ∧ g.K.lookup f = some o ∧ o.data = .func fd ∧ fd.code = .ref c ∧ LamX.TabB g.base g.mg c P
def G.tb (g : G) (P : Addr) : Prop := ∃ c, g.tbc c P
/-- the tables are tracked, not frozen -/
def TbOk (g : G) (H Hf : Hp) : Prop := ∀ P, g.tb P → LamX.TabS H P lamName ∧ Hf P = none
theorem TbOk.mono {g : G} {H Hf H' Hf' : Hp} (t : TbOk g H Hf) (f : Fut H Hf H' Hf') : TbOk g H' Hf' := fun P h => by
  obtain ⟨h1, h2⟩ := t P h
  refine ⟨f.s.q P h1, f.n P ?_ h2⟩
  obtain ⟨ps, h3, _⟩ := h1
  rw [h3]; exact fun z => nomatch z

/-! ### slots -/
inductive Sl where
  /-- data; a list that no one else holds -/
  | v (d : D) | o (xs : List D)
abbrev Env := List (Option Sl)
/-- slot by slot; H0: the heap at the entry -/
inductive SlRep (g : G) (H0 H Hf : Hp) : V → Sl → Prop where
  | v {u : V} {d : D} : Rep g Hf u d → SlRep g H0 H Hf u (.v d)
  | o {p : Addr} {vs : List V} {ds : List D} : H p = some (.lst vs) → Hf p = none → H0 p = none → Reps g Hf vs ds → SlRep g H0 H Hf (.ref p) (.o ds)
structure SR (g : G) (H0 Hf0 : Hp) (σ : St) (H Hf : Hp) (env : Env) : Prop where
  fut : Fut H0 Hf0 H Hf
  len : env.length = σ.length
  slot : ∀ (i : Nat) (s : Sl), env[i]? = some (some s) → ∃ v, σ[i]? = some (some v) ∧ SlRep g H0 H Hf v s
  dis : ∀ (i j : Nat) (xs ys : List D), i ≠ j → env[i]? = some (some (.o xs)) → env[j]? = some (some (.o ys)) → σ[i]? ≠ σ[j]?
  tb : TbOk g H Hf
section
variable {g : G} {H0 Hf0 H Hf H' Hf' : Hp} {σ : St} {env : Env}
theorem SlRep.mono {v : V} {s : Sl} (r : SlRep g H0 H Hf v s) (f : Fut H Hf H' Hf') : SlRep g H0 H' Hf' v s := by
  cases r with
  | v h => exact .v (h.mono f.f)
  | o h1 h2 h3 h4 => exact .o (f.s.lst h1) (f.n _ (by rw [h1]; exact fun z => nomatch z) h2) h3 (h4.mono f.f)
theorem SR.mono (r : SR g H0 Hf0 σ H Hf env) (f : Fut H Hf H' Hf') : SR g H0 Hf0 σ H' Hf' env :=
  ⟨r.fut.trans f, r.len, fun i s h => let ⟨v, e, q⟩ := r.slot i s h; ⟨v, e, q.mono f⟩, r.dis, r.tb.mono f⟩
theorem SR.sub (r : SR g H0 Hf0 σ H Hf env) : Same Hf H := r.fut.i
/-- a slot set to data -/
theorem SR.setv {i : Nat} {u : V} {d : D} (r : SR g H0 Hf0 σ H Hf env) (q : Rep g Hf u d) : SR g H0 Hf0 (σ.set i (some u)) H Hf (env.set i (some (.v d))) := by
  refine ⟨r.fut, by simp [r.len], fun j s h => ?_, fun j k xs ys hne h1 h2 => ?_, r.tb⟩
  · by_cases hj : j = i
    · subst hj
      have hl : j < env.length := by
        rcases Nat.lt_or_ge j env.length with z | z
        · exact z
        · rw [List.getElem?_eq_none (by simpa using z)] at h; cases h
      rw [List.getElem?_set_self hl] at h; cases h
      exact ⟨u, by rw [List.getElem?_set_self (r.len ▸ hl)], .v q⟩
    · rw [List.getElem?_set_ne (Ne.symm hj)] at h
      obtain ⟨v, e, q⟩ := r.slot j s h
      exact ⟨v, by rw [List.getElem?_set_ne (Ne.symm hj)]; exact e, q⟩
  · have no : ∀ {j : Nat} {xs : List D}, (env.set i (some (.v d)))[j]? = some (some (.o xs)) → j ≠ i := fun {j xs} h e => by
      subst e
      by_cases hl : j < env.length
      · rw [List.getElem?_set_self hl] at h; cases h
      · rw [List.getElem?_eq_none (by simpa using hl)] at h; cases h
    have n1 := no h1
    have n2 := no h2
    rw [List.getElem?_set_ne (Ne.symm n1)] at h1 ⊢
    rw [List.getElem?_set_ne (Ne.symm n2)] at h2 ⊢
    exact r.dis j k xs ys hne h1 h2
/-- a slot set to a list of its own, new at p -/
theorem SR.seto {i : Nat} {p : Addr} {vs : List V} {ds : List D} (r : SR g H0 Hf0 σ H Hf env) (hp : H p = some (.lst vs)) (hf : Hf p = none) (h0 : H0 p = none) (q : Reps g Hf vs ds)
    (hd : ∀ (j : Nat) (xs : List D), j ≠ i → env[j]? = some (some (.o xs)) → σ[j]? ≠ some (some (.ref p))) : SR g H0 Hf0 (σ.set i (some (.ref p))) H Hf (env.set i (some (.o ds))) := by
  refine ⟨r.fut, by simp [r.len], fun j s h => ?_, fun j k xs ys hne h1 h2 => ?_, r.tb⟩
  · by_cases hj : j = i
    · subst hj
      have hl : j < env.length := by
        rcases Nat.lt_or_ge j env.length with z | z
        · exact z
        · rw [List.getElem?_eq_none (by simpa using z)] at h; cases h
      rw [List.getElem?_set_self hl] at h; cases h
      exact ⟨.ref p, by rw [List.getElem?_set_self (r.len ▸ hl)], .o hp hf h0 q⟩
    · rw [List.getElem?_set_ne (Ne.symm hj)] at h
      obtain ⟨v, e, q⟩ := r.slot j s h
      exact ⟨v, by rw [List.getElem?_set_ne (Ne.symm hj)]; exact e, q⟩
  · by_cases n1 : j = i
    · subst n1
      have n2 : k ≠ j := Ne.symm hne
      have hl : j < env.length := by
        rcases Nat.lt_or_ge j env.length with z | z
        · exact z
        · rw [List.getElem?_eq_none (by simpa using z)] at h1; cases h1
      rw [List.getElem?_set_ne (Ne.symm n2)] at h2 ⊢
      rw [List.getElem?_set_self (r.len ▸ hl)]
      exact fun e => hd k ys n2 h2 e.symm
    · rw [List.getElem?_set_ne (Ne.symm n1)] at h1 ⊢
      by_cases n2 : k = i
      · subst n2
        have hl : k < env.length := by
          rcases Nat.lt_or_ge k env.length with z | z
          · exact z
          · rw [List.getElem?_eq_none (by simpa using z)] at h2; cases h2
        rw [List.getElem?_set_self (r.len ▸ hl)]
        exact hd j xs n1 h1
      · rw [List.getElem?_set_ne (Ne.symm n2)] at h2 ⊢
        exact r.dis j k xs ys hne h1 h2
/-- a slot forgotten -/
theorem SR.setn {i : Nat} (r : SR g H0 Hf0 σ H Hf env) (u : Option V) : SR g H0 Hf0 (σ.set i u) H Hf (env.set i none) := by
  have key : ∀ (j : Nat) (s : Sl), (env.set i none)[j]? = some (some s) → j ≠ i ∧ env[j]? = some (some s) := fun j s h => by
    have hj : j ≠ i := fun e => by
      subst e
      by_cases hl : j < env.length
      · rw [List.getElem?_set_self hl] at h; cases h
      · rw [List.getElem?_eq_none (by simpa using hl)] at h; cases h
    rw [List.getElem?_set_ne (Ne.symm hj)] at h
    exact ⟨hj, h⟩
  refine ⟨r.fut, by simp [r.len], fun j s h => ?_, fun j k xs ys hne h1 h2 => ?_, r.tb⟩
  · obtain ⟨hj, h⟩ := key j s h
    obtain ⟨v, e, q⟩ := r.slot j s h
    exact ⟨v, by rw [List.getElem?_set_ne (Ne.symm hj)]; exact e, q⟩
  · obtain ⟨n1, h1⟩ := key j _ h1
    obtain ⟨n2, h2⟩ := key k _ h2
    rw [List.getElem?_set_ne (Ne.symm n1), List.getElem?_set_ne (Ne.symm n2)]
    exact r.dis j k xs ys hne h1 h2
/-- the list of slot i is changed -/
theorem SR.write {i : Nat} {p : Addr} {vs vs' : List V} {ds ds' : List D} (r : SR g H0 Hf0 σ H Hf env) (hi : env[i]? = some (some (.o ds))) (hσ : σ[i]? = some (some (.ref p))) (hp : H p = some (.lst vs)) (hf : Hf p = none) (h0 : H0 p = none)
    (q : Reps g Hf vs' ds') : SR g H0 Hf0 σ (upd H p (.lst vs')) Hf (env.set i (some (.o ds'))) := by
  have fut : Fut H0 Hf0 (upd H p (.lst vs')) Hf := ⟨r.fut.s.upd h0 hp, r.fut.f, fun b o e => by rw [upd_ne (ne_of_none e hf)]; exact r.fut.i _ _ e, r.fut.n⟩
  have hl : i < env.length := (List.getElem?_eq_some_iff.mp hi).1
  refine ⟨fut, by simp [r.len], fun j s h => ?_, fun j k xs ys hne h1 h2 => ?_, fun P h => ⟨tabS_lst hp (r.tb P h).1, (r.tb P h).2⟩⟩
  · by_cases hj : j = i
    · subst hj
      rw [List.getElem?_set_self hl] at h; cases h
      exact ⟨.ref p, hσ, .o upd_same hf h0 q⟩
    · rw [List.getElem?_set_ne (Ne.symm hj)] at h
      obtain ⟨v, e, z⟩ := r.slot j s h
      refine ⟨v, e, ?_⟩
      cases z with
      | v z => exact .v z
      | @o p2 vs2 ds2 z1 z2 z3 z4 =>
        have ne : p2 ≠ p := fun ep => by
          subst ep
          exact r.dis j i _ _ hj h hi (e.trans hσ.symm)
        exact .o (by rw [upd_ne ne]; exact z1) z2 z3 z4
  · have old : ∀ {j : Nat} {xs : List D}, (env.set i (some (.o ds')))[j]? = some (some (.o xs)) → ∃ zs, env[j]? = some (some (.o zs)) := fun {j xs} h => by
      by_cases hj : j = i
      · subst hj; exact ⟨_, hi⟩
      · rw [List.getElem?_set_ne (Ne.symm hj)] at h; exact ⟨_, h⟩
    obtain ⟨z1, e1⟩ := old h1
    obtain ⟨z2, e2⟩ := old h2
    exact r.dis j k _ _ hne e1 e2
/-- the list of slot i is frozen -/
theorem SR.freeze {i : Nat} {ds : List D} (r : SR g H0 Hf0 σ H Hf env) (hi : env[i]? = some (some (.o ds))) : ∃ Hf', SR g H0 Hf0 σ H Hf' (env.set i (some (.v (.lst ds)))) ∧ Same Hf Hf' := by
  obtain ⟨v, hσ, z⟩ := r.slot i _ hi
  have hl : i < env.length := (List.getElem?_eq_some_iff.mp hi).1
  cases z with
  | @o p vs _ hp hf h0 q =>
    refine ⟨upd Hf p (.lst vs), ⟨Fut.add r.sub hp h0 r.fut hf, by simp [r.len], fun j s h => ?_, fun j k xs ys hne h1 h2 => ?_, fun P h => ⟨(r.tb P h).1, by rw [upd_ne (fun z => by obtain ⟨ps, h3, _⟩ := (r.tb P h).1; rw [z, hp] at h3; cases h3)]; exact (r.tb P h).2⟩⟩, same_upd hf⟩
    · by_cases hj : j = i
      · subst hj
        rw [List.getElem?_set_self hl] at h; cases h
        exact ⟨.ref p, hσ, .v (.lst (LsK.of upd_same) (q.mono (same_upd hf)))⟩
      · rw [List.getElem?_set_ne (Ne.symm hj)] at h
        obtain ⟨v, e, z⟩ := r.slot j s h
        refine ⟨v, e, ?_⟩
        cases z with
        | v z => exact .v (z.mono (same_upd hf))
        | @o p2 vs2 ds2 z1 z2 z3 z4 =>
          have ne : p2 ≠ p := fun ep => by
            subst ep
            exact r.dis j i _ _ hj h hi (e.trans hσ.symm)
          exact .o z1 (by rw [upd_ne ne]; exact z2) z3 (z4.mono (same_upd hf))
    · have old : ∀ {j : Nat} {xs : List D}, (env.set i (some (.v (.lst ds))))[j]? = some (some (.o xs)) → env[j]? = some (some (.o xs)) := fun {j xs} h => by
        by_cases hj : j = i
        · subst hj; rw [List.getElem?_set_self hl] at h; cases h
        · rw [List.getElem?_set_ne (Ne.symm hj)] at h; exact h
      exact r.dis j k _ _ hne (old h1) (old h2)
end
end Rf
/-! # Rf2: operations on data, and that the machine's do the same -/
namespace Rf
open PySem PySem.Spec L2

def okMul (i j : Int) : Bool := decide (i.natAbs.log2 + j.natAbs.log2 < 100000000)
def okDiv (j : Int) : Bool := decide (j ≠ 0) && decide (j.natAbs.log2 < 9000)
def okPow (i j : Int) : Bool := decide (0 ≤ j) && decide (j ≤ 1000000) && decide (i.natAbs < 2 ^ 64)
def okLen (n : Nat) : Bool := decide (n ≤ 16777216)
inductive BOp where | add | sub | mul | fdiv | mod | pow
def bop : BOp → D → D → R D
  | .add, .int i, .int j => .ok (.int (i + j))
  | .sub, .int i, .int j => .ok (.int (i - j))
  | .mul, .int i, .int j => if okMul i j = true then .ok (.int (i * j)) else .bad
  | .fdiv, .int i, .int j => if okDiv j = true then .ok (.int (i.fdiv j)) else .bad
  | .mod, .int i, .int j => if j ≠ 0 then .ok (.int (i.fmod j)) else .bad
  | .pow, .int i, .int j => if okPow i j = true then .ok (.int (i ^ j.toNat)) else .bad
  | .add, .lst xs, .lst ys => if okLen (xs.length + ys.length) = true then .ok (.lst (xs ++ ys)) else .bad
  | .add, .tup xs, .tup ys => if okLen (xs.length + ys.length) && !xs.isEmpty then .ok (.tup (xs ++ ys)) else .bad
  | _, _, _ => .bad
/-- == -/
def eqP (p q : PyData) : R Bool := if SeqAt.shaped p && SeqAt.shaped q then .ok (PyData.eqv p q) else .bad
def eqD (d e : D) : R Bool := match d.py, e.py with
  | some p, some q => eqP p q
  | _, _ => .bad
/-- x in items -/
def memD (x : D) : List D → R Bool
  | [] => .ok false
  | d :: ds => (eqD d x).bind fun b => (memD x ds).bind fun c => .ok (b || c)
def itemsD : D → R (List D)
  | .lst xs => .ok xs
  | .tup xs => .ok xs
  | _ => .bad
inductive COp where | eq | ne | lt | le | gt | ge | isin | notin
def cop : COp → D → D → R D
  | .eq, d, e => (eqD d e).bind fun b => .ok (.bl b)
  | .ne, d, e => (eqD d e).bind fun b => .ok (.bl (!b))
  | .lt, .int i, .int j => .ok (.bl (decide (i < j)))
  | .le, .int i, .int j => .ok (.bl (decide (i ≤ j)))
  | .gt, .int i, .int j => .ok (.bl (decide (j < i)))
  | .ge, .int i, .int j => .ok (.bl (decide (j ≤ i)))
  | .isin, d, e => (itemsD e).bind fun xs => (memD d xs).bind fun b => .ok (.bl b)
  | .notin, d, e => (itemsD e).bind fun xs => (memD d xs).bind fun b => .ok (.bl (!b))
  | _, _, _ => .bad
def isNon : D → Bool
  | .non => true
  | _ => false
def truD : D → R Bool
  | .non => .ok false
  | .bl b => .ok b
  | .int i => .ok (i != 0)
  | .lst xs => .ok (!xs.isEmpty)
  | .tup xs => .ok (!xs.isEmpty)
  | _ => .bad
def ofO {α : Type} : Option α → R α
  | some a => .ok a
  | none => .bad
def ixD : D → D → R D
  | .lst xs, .int i => ofO (atI xs i)
  | .tup xs, .int i => ofO (atI xs i)
  | _, _ => .bad
def cutD (xs : List D) (lo hi : Option Int) : List D := (xs.drop (HT.sIx xs.length 0 lo)).take (HT.sIx xs.length xs.length hi - HT.sIx xs.length 0 lo)
def partD : D → R (Option Int)
  | .int i => .ok (some i)
  | _ => .bad
def slD (d : D) (lo hi : Option Int) : R D := match d with
  | .lst xs => .ok (.lst (cutD xs lo hi))
  | .tup xs => if HT.sIx xs.length 0 lo = 0 ∧ HT.sIx xs.length xs.length hi = xs.length then .bad else .ok (.tup (cutD xs lo hi))
  | _ => .bad

/-! ### what is wanted behind -/
/-- data, frozen -/
def OQ (g : G) (H Hf : Hp) (d : D) (Q : VK) : Prop := ∀ v H' Hf', Fut H Hf H' Hf' → Rep g Hf' v d → Q v H'
/-- a list of its own -/
def FQ (g : G) (H Hf : Hp) (ds : List D) (Q : VK) : Prop := ∀ p vs H' Hf', Fut H Hf H' Hf' → H p = none → H' p = some (.lst vs) → Hf' p = none → Reps g Hf' vs ds → Q (.ref p) H'
theorem FQ.of {g : G} {H Hf : Hp} {ds : List D} {Q : VK} (h : OQ g H Hf (.lst ds) Q) : FQ g H Hf ds Q := fun p vs H' Hf' f hn hp hf r =>
  h (.ref p) H' (upd Hf' p (.lst vs)) (Fut.add f.i hp hn f hf) (.lst (LsK.of upd_same) (r.mono (same_upd hf)))
/-- how a raised error stands for x -/
structure XRep (g : G) (H Hf : Hp) (cls : Value) (dx : Option Addr) (x : Exn) : Prop where
  c : g.mg x.cls = some cls
  d : (x.fs = [] ∧ dx = none) ∨ ∃ a vs, dx = some a ∧ Hf a = some (.xd vs) ∧ RepF g Hf vs x.fs
abbrev WE := Value → Option Addr → St → Hp → Prop
def EQ (g : G) (W : WE) (σ : St) (H Hf : Hp) (x : Exn) : Prop := ∀ cls dx H' Hf', Fut H Hf H' Hf' → XRep g H' Hf' cls dx x → W cls dx σ H'
def RQ (g : G) (W : WE) (σ : St) (H Hf : Hp) (r : R D) (Q : VK) : Prop := match r with
  | .ok d => OQ g H Hf d Q
  | .err x => EQ g W σ H Hf x
  | .bad => False
def RFQ (g : G) (W : WE) (σ : St) (H Hf : Hp) (r : R D) (Q : VK) : Prop := match r with
  | .ok (.lst ds) => FQ g H Hf ds Q
  | .err x => EQ g W σ H Hf x
  | _ => False
theorem RFQ.of {g : G} {W : WE} {σ : St} {H Hf : Hp} {r : R D} {Q : VK} (hl : ∀ d, r = .ok d → ∃ ds, d = .lst ds) (h : RQ g W σ H Hf r Q) : RFQ g W σ H Hf r Q := by
  cases r with
  | ok d => obtain ⟨ds, rfl⟩ := hl d rfl; exact FQ.of h
  | err x => exact h
  | bad => exact h

/-! ### the machine's operations, by data -/
def hxB (calm : Bool) (pn : List (Addr × Obj)) : Option (Addr × Obj) := match calm with
  | true => none
  | false => pn.head?
abbrev gOf (X : Cx) : G := ⟨X.prog, X.w, X.K, X.mg, X.base, hxB X.calm X.pn⟩
def rD (g : G) (F : D → D → R D) : R2 := fun x y H Q => ∃ Hf d e, Same Hf H ∧ Rep g Hf x d ∧ Rep g Hf y e ∧ ∃ r, F d e = .ok r ∧ OQ g H Hf r Q
section
variable {X : Cx}
theorem okMul_ok {i j : Int} (h : okMul i j = true) : IntMulOk i j := by
  have b : ∀ x : Int, Builtin.Int.intBits x ≤ x.natAbs.log2 + 1 := fun x => by
    unfold Builtin.Int.intBits
    split <;> omega
  have h1 := b i
  have h2 := b j
  have h3 : i.natAbs.log2 + j.natAbs.log2 < 100000000 := of_decide_eq_true h
  have e : PySem.bitsLine = 134217728 := by decide
  unfold IntMulOk
  intro z
  rw [Bool.and_eq_true] at z
  have z2 := z.2
  unfold Builtin.Int.intTooBig at z2
  have z3 := of_decide_eq_true z2
  rw [e] at z3
  omega
theorem opMulG : OpR X (binaryOp .Mult) (rI (fun i j => okMul i j = true) fun i j => .int (i * j)) := opI fun _ _ _ _ _ _ _ hc q => PyProof.Rows.mul_int q (okMul_ok hc)
theorem opDivG : OpR X (binaryOp .FloorDiv) (rI (fun _ j => okDiv j = true) fun i j => .int (i.fdiv j)) := opI fun i j _ _ _ _ _ hc q => by
  unfold okDiv at hc
  rw [Bool.and_eq_true] at hc
  exact PyProof.Rows.floordiv_int (of_decide_eq_true hc.1) q (.inl (PyProof.noPylong_of_log2 (of_decide_eq_true hc.2)))
theorem ls_get {pins : List (Addr × Obj)} {σ : St} {H : Hp} {s : Shared} {a : Addr} {xs : List V} (I : Inv X pins σ H s) (h : LsK X.K H a xs) : ∃ (its : List Value) (n : Nat), Vals xs its ∧ s.heap.get? a = some { cls := .type "list", data := .seq its.toArray n } := by
  rcases h with h | ⟨its, n, hk, _, r⟩
  · obtain ⟨_, its, n, r, e⟩ := h.ok I.hok
    exact ⟨its, n, r, e⟩
  · exact ⟨its, n, r, I.kIn _ _ hk⟩
/-- list + list, any that can be read -/
theorem opCatL : OpR X (binaryOp .Add) (fun x y H Q => ∃ l b xs zs, x = .ref l ∧ y = .ref b ∧ LsK X.K H l xs ∧ LsK X.K H b zs ∧ xs.length + zs.length ≤ sizeLine ∧ ∀ p, H p = none → Q (.ref p) (upd H p (.lst (xs ++ zs)))) := by
  intro pins s σ H x y v u Q I rx ry h
  obtain ⟨l, b, xs, zs, rfl, rfl, hH, hB, hz, q⟩ := h
  cases rx
  cases ry
  obtain ⟨its, n, r, e⟩ := ls_get I hH
  obtain ⟨its2, n2, r2, e2⟩ := ls_get I hB
  have hl := r.length
  have hl2 := r2.length
  refine PySem.P.add_list e e2 ?_ (by rw [List.size_toArray, List.size_toArray]; omega)
  have ea : its.toArray ++ its2.toArray = (its ++ its2).toArray := by simp
  rw [ea]
  exact ⟨.ref _, _, I.lnew (t' := s.toks) (r.append r2) (by rw [List.length_append]; omega), rfl, q _ I.fresh⟩
theorem sizeLine_val : (sizeLine : Nat) = 16777216 := sizeLine_eq

/-- a new tuple -/
theorem oq_tup {g : G} {H Hf : Hp} {vs : List V} {ds : List D} {Q : VK} (h : Same Hf H) (r : Reps g Hf vs ds) (q : OQ g H Hf (.tup ds) Q) : ∀ p, H p = none → Q (.ref p) (upd H p (.tup vs)) := fun p hp =>
  q (.ref p) _ _ (Fut.new h hp) (.tup (SqT.of upd_same) (r.mono (same_upd (h.free hp))))
/-- a new list of its own -/
theorem fq_lst {g : G} {H Hf : Hp} {vs : List V} {ds : List D} {Q : VK} (h : Same Hf H) (r : Reps g Hf vs ds) (q : FQ g H Hf ds Q) : ∀ p, H p = none → Q (.ref p) (upd H p (.lst vs)) := fun p hp =>
  q p vs _ Hf (Fut.own h hp) hp upd_same (h.free hp) r
theorem oq_here {g : G} {H Hf : Hp} {v : V} {d : D} {Q : VK} (h : Same Hf H) (r : Rep g Hf v d) (q : OQ g H Hf d Q) : Q v H := q v H Hf (Fut.refl h) r

/-- data in, a list of its own or other data out -/
def rDF (g : G) (F : D → D → R D) : R2 := fun x y H Q => ∃ Hf d e, Same Hf H ∧ Rep g Hf x d ∧ Rep g Hf y e ∧ ∃ r, F d e = .ok r ∧ (match r with | .lst ds => FQ g H Hf ds Q | r => OQ g H Hf r Q)
theorem okLen_iff {n : Nat} (h : okLen n = true) : n ≤ sizeLine := by rw [sizeLine_val]; exact of_decide_eq_true h

theorem bop_ok (op : BOp) (o : Operator) (ho : o = match op with | .add => .Add | .sub => .Sub | .mul => .Mult | .fdiv => .FloorDiv | .mod => .Mod | .pow => .Pow) : OpR X (binaryOp o) (rDF (gOf X) (bop op)) := by
  subst ho
  intro pins s σ H x y v u Q I rx ry h
  obtain ⟨Hf, d, e, sub, rd, re, r, er, q⟩ := h
  cases op with
  | add =>
    cases rd with
    | int i =>
      cases re with
      | int j => simp [bop] at er; subst er; exact op_add pins s σ H _ _ v u Q I rx ry ⟨i, j, rfl, rfl, oq_here sub (.int _) q⟩
      | _ => simp [bop] at er
    | lst h1 r1 =>
      cases re with
      | lst h2 r2 =>
        simp only [bop] at er
        split at er
        · rename_i hz
          cases er
          exact opCatL pins s σ H _ _ v u Q I rx ry ⟨_, _, _, _, rfl, rfl, same_rd sub h1, same_rd sub h2, by rw [r1.length, r2.length]; exact okLen_iff hz, fq_lst sub (r1.append r2) q⟩
        · cases er
      | _ => simp [bop] at er
    | tup h1 r1 =>
      cases re with
      | @tup a2 vs2 ds2 h2 r2 =>
        simp only [bop] at er
        split at er
        · rename_i hz
          cases er
          rw [Bool.and_eq_true] at hz
          refine op_catT pins s σ H _ _ v u Q I rx ry ⟨_, _, _, _, rfl, rfl, same_sqT sub h1, same_sqT sub h2, ?_, by rw [r1.length, r2.length]; exact okLen_iff hz.1, ?_, fun _ => oq_tup sub (r1.append r2) q⟩
          · intro z; subst z; cases r1; simp at hz
          · intro z; subst z; cases r2; exact oq_here sub (.tup h1 r1) (by simpa using q)
        · cases er
      | _ => simp [bop] at er
    | _ => simp [bop] at er
  | sub =>
    cases rd with
    | int i =>
      cases re with
      | int j => simp [bop] at er; subst er; exact op_sub pins s σ H _ _ v u Q I rx ry ⟨i, j, rfl, rfl, oq_here sub (.int _) q⟩
      | _ => simp [bop] at er
    | _ => simp [bop] at er
  | mul =>
    cases rd with
    | int i =>
      cases re with
      | int j =>
        simp only [bop] at er
        split at er
        · rename_i hz; cases er; exact opMulG pins s σ H _ _ v u Q I rx ry ⟨i, j, rfl, rfl, hz, oq_here sub (.int _) q⟩
        · cases er
      | _ => simp [bop] at er
    | _ => simp [bop] at er
  | fdiv =>
    cases rd with
    | int i =>
      cases re with
      | int j =>
        simp only [bop] at er
        split at er
        · rename_i hz; cases er; exact opDivG pins s σ H _ _ v u Q I rx ry ⟨i, j, rfl, rfl, hz, oq_here sub (.int _) q⟩
        · cases er
      | _ => simp [bop] at er
    | _ => simp [bop] at er
  | mod =>
    cases rd with
    | int i =>
      cases re with
      | int j =>
        simp only [bop] at er
        split at er
        · rename_i hz; cases er; exact op_modN pins s σ H _ _ v u Q I rx ry ⟨i, j, rfl, rfl, hz, oq_here sub (.int _) q⟩
        · cases er
      | _ => simp [bop] at er
    | _ => simp [bop] at er
  | pow =>
    cases rd with
    | int i =>
      cases re with
      | int j =>
        simp only [bop] at er
        split at er
        · rename_i hz; cases er
          unfold okPow at hz
          simp only [Bool.and_eq_true, decide_eq_true_eq] at hz
          exact op_pow pins s σ H _ _ v u Q I rx ry ⟨i, j, rfl, rfl, ⟨hz.1.1, hz.1.2, hz.2⟩, oq_here sub (.int _) q⟩
        · cases er
      | _ => simp [bop] at er
    | _ => simp [bop] at er

theorem eqD_ok {d e : D} {b : Bool} (h : eqD d e = .ok b) : ∃ p q, d.py = some p ∧ e.py = some q ∧ SeqAt.shaped p = true ∧ SeqAt.shaped q = true ∧ b = PyData.eqv p q := by
  unfold eqD at h
  split at h
  · rename_i p q h1 h2
    unfold eqP at h
    split at h
    · rename_i hs
      rw [Bool.and_eq_true] at hs
      cases h
      exact ⟨p, q, h1, h2, hs.1, hs.2, rfl⟩
    · cases h
  · cases h
def eqB (x d : D) : Bool := match eqD d x with
  | .ok c => c
  | _ => false
theorem memD_ok {x : D} : ∀ {ds : List D} {b : Bool}, memD x ds = .ok b → (∀ d ∈ ds, eqD d x = .ok (eqB x d)) ∧ b = ds.any (eqB x)
  | [], b, h => by simp [memD] at h; exact ⟨by simp, by simp [h]⟩
  | d :: ds, b, h => by
    simp only [memD] at h
    cases e1 : eqD d x with
    | ok b1 =>
      rw [e1] at h
      simp only [R.bind_ok] at h
      have q1 : eqB x d = b1 := by unfold eqB; rw [e1]
      cases e2 : memD x ds with
      | ok b2 =>
        rw [e2] at h
        simp only [R.bind_ok, R.ok.injEq] at h
        obtain ⟨hf, hb⟩ := memD_ok e2
        refine ⟨fun z hz => ?_, by rw [List.any_cons, q1, ← hb, h]⟩
        rcases List.mem_cons.mp hz with rfl | hz
        · rw [e1, q1]
        · exact hf z hz
      | err y => rw [e2] at h; simp at h
      | bad => rw [e2] at h; simp at h
    | err y => rw [e1] at h; simp at h
    | bad => rw [e1] at h; simp at h
/-- one item -/
theorem item_eqAt {pins : List (Addr × Obj)} {σ : St} {H Hf : Hp} {s : Shared} {A : Around} (I : Inv X pins σ H s) (sub : Same Hf H) (hu : A.units + 64 < cLine) {x : V} {u : Value} {d : D} (rx : RelV x u) (rd : Rep (gOf X) Hf x d) {y : V} {w : Value} {q : PyData} (ry : RelV y w) (rq : Dp X.K H y q) (sq : SeqAt.shaped q = true)
    {c : Bool} {e : D} (hq : e.py = some q) (h : eqD d e = .ok c) : ∃ p as, Reads s.heap u p as ∧ SeqAt.shaped p = true ∧ c = PyData.eqv p q ∧ SeqAt.EqAt A s u w c := by
  obtain ⟨p, q', h1, h2, h3, h4, h5⟩ := eqD_ok h
  rw [hq] at h2; cases h2
  obtain ⟨as, r1⟩ := Dp.reads I p x u ((rd.mono sub).dp h1) rx
  obtain ⟨bs, r2⟩ := Dp.reads I q y w rq ry
  refine ⟨p, as, r1, h3, h5, ?_⟩
  rw [h5]
  exact SeqAt.eqAt_reads p q A s u w as bs r1 r2 (SeqAt.canLay_of_shaped h3) (SeqAt.canLay_of_shaped sq) (SeqAt.room_of_shaped h3 hu)
open Classical in
theorem in_items {pins : List (Addr × Obj)} {σ : St} {H Hf : Hp} {s : Shared} {A : Around} (I : Inv X pins σ H s) (sub : Same Hf H) (hu : A.units + 64 < cLine) {y : V} {w : Value} {q : PyData} (ry : RelV y w) (rq : Dp X.K H y q) (sq : SeqAt.shaped q = true) {e : D} (hq : e.py = some q) :
    ∀ {vs : List V} {us : List Value} {ds : List D}, Vals vs us → Reps (gOf X) Hf vs ds → (∀ d ∈ ds, eqD d e = .ok (eqB e d)) →
      (∀ u ∈ us, SeqAt.EqAt A s u w (decide (∃ p as, Reads s.heap u p as ∧ SeqAt.shaped p = true ∧ PyData.eqv p q = true))) ∧ us.any (fun u => decide (∃ p as, Reads s.heap u p as ∧ SeqAt.shaped p = true ∧ PyData.eqv p q = true)) = ds.any (eqB e)
  | _, _, _, .nil, .nil, _ => ⟨by simp, by simp⟩
  | _, _, _, .cons r1 t1, .cons (d := d) r2 t2, h => by
    rename_i v u vs us ds
    obtain ⟨p, as, hr, hs, hc, ha⟩ := item_eqAt I sub hu r1 r2 ry rq sq hq (h d List.mem_cons_self)
    obtain ⟨h1, h2⟩ := in_items I sub hu ry rq sq hq t1 t2 fun z hz => h z (List.mem_cons_of_mem _ hz)
    have key : decide (∃ p as, Reads s.heap u p as ∧ SeqAt.shaped p = true ∧ PyData.eqv p q = true) = eqB e d := by
      rw [hc]
      by_cases z : PyData.eqv p q = true
      · rw [z]; exact decide_eq_true ⟨p, as, hr, hs, z⟩
      · rw [Bool.not_eq_true] at z
        rw [z]
        refine decide_eq_false fun ⟨p', as', hr', hs', z'⟩ => ?_
        have := SeqAt.Reads.unique p p' u as as' (SeqAt.canLay_of_shaped hs) hr hr'
        subst this
        rw [z] at z'; cases z'
    refine ⟨fun z hz => ?_, ?_⟩
    · rcases List.mem_cons.mp hz with rfl | hz
      · rw [key]; exact ha
      · exact h1 z hz
    · rw [List.any_cons, List.any_cons, key, h2]
theorem py_some {d e : D} {b : Bool} (h : eqD d e = .ok b) : ∃ q, e.py = some q ∧ SeqAt.shaped q = true := by
  obtain ⟨_, q, _, h2, _, h4, _⟩ := eqD_ok h
  exact ⟨q, h2, h4⟩
/-- x in items, at any depth -/
theorem in_any {neg : Bool} (hu : X.A.units + 128 < cLine) {pins : List (Addr × Obj)} {s : Shared} {σ : St} {H : Hp} {x y : V} {v u : Value} {Q : VK} (I : Inv X pins σ H s) (rx : RelV x v) (ry : RelV y u)
    {Hf : Hp} {d e : D} (sub : Same Hf H) (rd : Rep (gOf X) Hf x d) (re : Rep (gOf X) Hf y e) {xs : List D} (hi : itemsD e = .ok xs) {b : Bool} (hm : memD d xs = .ok b) (q : Q (.bl (if neg then !b else b)) H) :
    wpAny (model X.prog X.w) X.A (compareOp (if neg then .NotIn else .In) v u) (EP X pins σ Q) X.xe s := by
  obtain ⟨hall, hb⟩ := memD_ok hm
  have hu' : X.A.in1.units + 64 < cLine := by show X.A.units + 1 + 64 < cLine; omega
  cases xs with
  | nil =>
    simp at hb
    subst hb
    cases re with
    | @lst a vs ds h1 r1 =>
      simp [itemsD] at hi; subst hi; cases r1
      cases ry
      obtain ⟨its, r, pl, hz⟩ := I.list ((lsq (same_rd sub h1)))
      cases r
      cases neg with
      | false => exact SeqAt.in_listAt (fun _ => true) pl.isList (fun w hw => by simp at hw) ⟨.bl _, H, I, rfl, by simpa using q⟩
      | true => exact SeqAt.notIn_listAt (fun _ => true) pl.isList (fun w hw => by simp at hw) ⟨.bl _, H, I, rfl, by simpa using q⟩
    | @tup a vs ds h1 r1 =>
      simp [itemsD] at hi; subst hi; cases r1
      cases ry
      obtain ⟨its, r, pl, hz⟩ := I.tuple (same_sqT sub h1)
      cases r
      cases neg with
      | false => exact SeqAt.in_tupleAt (fun _ => true) pl (fun w hw => by simp at hw) ⟨.bl _, H, I, rfl, by simpa using q⟩
      | true => exact SeqAt.notIn_tupleAt (fun _ => true) pl (fun w hw => by simp at hw) ⟨.bl _, H, I, rfl, by simpa using q⟩
    | _ => simp [itemsD] at hi
  | cons d0 ds0 =>
    obtain ⟨qd, hq, sq⟩ := py_some (hall d0 List.mem_cons_self)
    have dq := (rd.mono sub).dp hq
    cases re with
    | @lst a vs ds h1 r1 =>
      simp [itemsD] at hi; subst hi
      cases ry
      obtain ⟨its, r, pl, hz⟩ := I.list ((lsq (same_rd sub h1)))
      obtain ⟨k1, k2⟩ := in_items (A := X.A.in1) I sub hu' rx dq sq hq r r1 hall
      cases neg with
      | false => exact SeqAt.in_listAt _ pl.isList (fun w hw => k1 w (by simpa using hw)) ⟨.bl _, H, I, rfl, by rw [List.any_toArray, k2, ← hb]; exact q⟩
      | true => exact SeqAt.notIn_listAt _ pl.isList (fun w hw => k1 w (by simpa using hw)) ⟨.bl _, H, I, rfl, by rw [List.any_toArray, k2, ← hb]; exact q⟩
    | @tup a vs ds h1 r1 =>
      simp [itemsD] at hi; subst hi
      cases ry
      obtain ⟨its, r, pl, hz⟩ := I.tuple (same_sqT sub h1)
      obtain ⟨k1, k2⟩ := in_items (A := X.A.in1) I sub hu' rx dq sq hq r r1 hall
      cases neg with
      | false => exact SeqAt.in_tupleAt _ pl (fun w hw => k1 w (by simpa using hw)) ⟨.bl _, H, I, rfl, by rw [List.any_toArray, k2, ← hb]; exact q⟩
      | true => exact SeqAt.notIn_tupleAt _ pl (fun w hw => k1 w (by simpa using hw)) ⟨.bl _, H, I, rfl, by rw [List.any_toArray, k2, ← hb]; exact q⟩
    | _ => simp [itemsD] at hi

def copC : COp → CmpOp
  | .eq => .Eq | .ne => .NotEq | .lt => .Lt | .le => .LtE | .gt => .Gt | .ge => .GtE | .isin => .In | .notin => .NotIn
theorem oq_bl {g : G} {H Hf : Hp} {b : Bool} {Q : VK} (h : Same Hf H) (q : OQ g H Hf (.bl b) Q) : Q (.bl b) H := oq_here h (.bl b) q
theorem cop_ok (op : COp) (hu : X.A.units + 128 < cLine) : OpR X (compareOp (copC op)) (rD (gOf X) (cop op)) := by
  intro pins s σ H x y v u Q I rx ry h
  obtain ⟨Hf, d, e, sub, rd, re, r, er, q⟩ := h
  cases op with
  | eq =>
    simp only [cop] at er
    cases hb : eqD d e with
    | ok b =>
      rw [hb] at er; simp at er; subst er
      obtain ⟨p, q', h1, h2, h3, h4, h5⟩ := eqD_ok hb
      exact op_eqD (by omega) pins s σ H x y v u Q I rx ry ⟨p, q', (rd.mono sub).dp h1, (re.mono sub).dp h2, h3, h4, by rw [← h5]; exact oq_bl sub q⟩
    | err z => rw [hb] at er; simp at er
    | bad => rw [hb] at er; simp at er
  | ne =>
    simp only [cop] at er
    cases hb : eqD d e with
    | ok b =>
      rw [hb] at er; simp at er; subst er
      obtain ⟨p, q', h1, h2, h3, h4, h5⟩ := eqD_ok hb
      exact op_neD (by omega) pins s σ H x y v u Q I rx ry ⟨p, q', (rd.mono sub).dp h1, (re.mono sub).dp h2, h3, h4, by rw [← h5]; exact oq_bl sub q⟩
    | err z => rw [hb] at er; simp at er
    | bad => rw [hb] at er; simp at er
  | isin =>
    simp only [cop] at er
    cases hi : itemsD e with
    | ok xs =>
      rw [hi] at er; simp only [R.bind_ok] at er
      cases hm : memD d xs with
      | ok b => rw [hm] at er; simp at er; subst er; exact in_any (neg := false) hu I rx ry sub rd re hi hm (oq_bl sub q)
      | err z => rw [hm] at er; simp at er
      | bad => rw [hm] at er; simp at er
    | err z => rw [hi] at er; simp at er
    | bad => rw [hi] at er; simp at er
  | notin =>
    simp only [cop] at er
    cases hi : itemsD e with
    | ok xs =>
      rw [hi] at er; simp only [R.bind_ok] at er
      cases hm : memD d xs with
      | ok b => rw [hm] at er; simp at er; subst er; exact in_any (neg := true) hu I rx ry sub rd re hi hm (oq_bl sub q)
      | err z => rw [hm] at er; simp at er
      | bad => rw [hm] at er; simp at er
    | err z => rw [hi] at er; simp at er
    | bad => rw [hi] at er; simp at er
  | lt =>
    cases rd with
    | int i => cases re with
      | int j => simp [cop] at er; subst er; exact op_lt pins s σ H _ _ v u Q I rx ry ⟨i, j, rfl, rfl, oq_bl sub q⟩
      | _ => simp [cop] at er
    | _ => simp [cop] at er
  | le =>
    cases rd with
    | int i => cases re with
      | int j => simp [cop] at er; subst er; exact op_le pins s σ H _ _ v u Q I rx ry ⟨i, j, rfl, rfl, oq_bl sub q⟩
      | _ => simp [cop] at er
    | _ => simp [cop] at er
  | gt =>
    cases rd with
    | int i => cases re with
      | int j => simp [cop] at er; subst er; exact op_gt pins s σ H _ _ v u Q I rx ry ⟨i, j, rfl, rfl, oq_bl sub q⟩
      | _ => simp [cop] at er
    | _ => simp [cop] at er
  | ge =>
    cases rd with
    | int i => cases re with
      | int j => simp [cop] at er; subst er; exact op_ge pins s σ H _ _ v u Q I rx ry ⟨i, j, rfl, rfl, oq_bl sub q⟩
      | _ => simp [cop] at er
    | _ => simp [cop] at er
theorem neg_ok : UnR X (unaryOp .USub) (fun x H Q => ∃ Hf d, Same Hf H ∧ Rep (gOf X) Hf x d ∧ ∃ i, d = .int i ∧ OQ (gOf X) H Hf (.int (-i)) Q) := by
  intro pins s σ H x v Q I rx h
  obtain ⟨Hf, d, sub, rd, i, rfl, q⟩ := h
  cases rd
  exact un_neg pins s σ H _ v Q I rx ⟨i, rfl, oq_here sub (.int _) q⟩
theorem isNon_iff {g : G} {H : Hp} {v : V} {d : D} (r : Rep g H v d) : decide (v = .non) = isNon d := by
  cases r <;> simp [isNon]
theorem tru_rep {Hf H : Hp} {v : V} {d : D} {b : Bool} (sub : Same Hf H) (r : Rep (gOf X) Hf v d) (h : truD d = .ok b) : TruV X.K v H b := by
  cases r with
  | non => simp [truD] at h; subst h; exact rfl
  | bl c => simp [truD] at h; subst h; exact rfl
  | int c => simp [truD] at h; subst h; exact rfl
  | str c => simp [truD] at h
  | lst h1 r1 =>
    simp only [truD, R.ok.injEq] at h; subst h
    refine .inl ⟨_, (lsq (same_rd sub h1)), ?_⟩
    cases r1 <;> rfl
  | tup h1 r1 =>
    simp only [truD, R.ok.injEq] at h; subst h
    refine .inr (.inl ⟨_, same_sqT sub h1, ?_⟩)
    cases r1 <;> rfl
  | obj _ _ _ => simp [truD] at h
  | exc0 _ _ _ => simp [truD] at h
  | excD _ _ _ _ _ => simp [truD] at h
/-- xs[i] -/
theorem ix_ok : IxR X (rD (gOf X) ixD) := by
  intro value slice pins s σ H x y v u Q I rx ry h hs
  obtain ⟨Hf, d, e, sub, rd, re, r, er, q⟩ := h
  have key : ∀ {vs : List V} {ds : List D} {i : Int} {r : D}, Reps (gOf X) Hf vs ds → ofO (atI ds i) = .ok r → ∃ v, atI vs i = some v ∧ Rep (gOf X) Hf v r := fun {vs ds i r} rr h => by
    unfold atI at h ⊢
    rw [rr.length]
    cases hj : ixN ds.length i with
    | none => rw [hj] at h; simp [ofO] at h
    | some j =>
      rw [hj] at h
      simp only [Option.bind_some] at h ⊢
      cases hd : ds[j]? with
      | none => rw [hd] at h; simp [ofO] at h
      | some d' =>
        rw [hd] at h
        simp [ofO] at h
        subst h
        exact rr.get hd
  cases rd with
  | lst h1 r1 =>
    cases re with
    | int i =>
      simp only [ixD] at er
      obtain ⟨w, hw, rw'⟩ := key r1 er
      exact ix_list value slice pins s σ H _ _ v u Q I rx ry ⟨_, _, _, _, rfl, rfl, (lsq (same_rd sub h1)), hw, oq_here sub rw' q⟩ hs
    | _ => simp [ixD] at er
  | tup h1 r1 =>
    cases re with
    | int i =>
      simp only [ixD] at er
      obtain ⟨w, hw, rw'⟩ := key r1 er
      exact ix_tup value slice pins s σ H _ _ v u Q I rx ry ⟨_, _, _, _, rfl, rfl, same_sqT sub h1, hw, oq_here sub rw' q⟩ hs
    | _ => simp [ixD] at er
  | _ => simp [ixD] at er
theorem cut_reps {g : G} {H : Hp} {vs : List V} {ds : List D} (lo hi : Option Int) (r : Reps g H vs ds) : Reps g H (cutV vs lo hi) (cutD ds lo hi) := by
  unfold cutV cutD
  rw [r.length]
  exact (r.drop _).take _
/-- xs[lo:hi] -/
theorem sl_ok : SlR X (fun x lo hi H Q => ∃ Hf d, Same Hf H ∧ Rep (gOf X) Hf x d ∧ ∃ r, slD d lo hi = .ok r ∧ (match r with | .lst ds => FQ (gOf X) H Hf ds Q | r => OQ (gOf X) H Hf r Q)) := by
  intro pins s σ H x v vl vu lo hi sl Q I rx hs pl pu h
  obtain ⟨Hf, d, sub, rd, r, er, q⟩ := h
  cases rd with
  | lst h1 r1 =>
    simp [slD] at er; subst er
    exact sl_list pins s σ H _ v vl vu lo hi sl Q I rx hs pl pu ⟨_, _, rfl, (lsq (same_rd sub h1)), fq_lst sub (cut_reps lo hi r1) q⟩
  | tup h1 r1 =>
    simp only [slD] at er
    split at er
    · cases er
    · rename_i hz
      cases er
      exact sl_tup pins s σ H _ v vl vu lo hi sl Q I rx hs pl pu ⟨_, _, rfl, same_sqT sub h1, by rw [r1.length]; exact hz, oq_tup sub (cut_reps lo hi r1) q⟩
  | _ => simp [slD] at er
end
end Rf
/-! # Rf3: the small syntax of expressions, its reading, the look that it is the program's -/
namespace Rf
open PySem PySem.Spec L2

/-- built-in functions and types, called -/
inductive Bi where | abs | int | len | list | tuple | min2 | max2 | gcd | lcm
  deriving DecidableEq
def okLcm (i j : Int) : Bool := decide (i.natAbs.log2 < 13000) && decide (j.natAbs.log2 < 13000)
def biF : Bi → List D → R D
  | .abs, [.int i] => .ok (.int (if i < 0 then -i else i))
  | .int, [.int i] => .ok (.int i)
  | .int, [.bl b] => .ok (.int (if b then 1 else 0))
  | .len, [.lst xs] => .ok (.int xs.length)
  | .len, [.tup xs] => .ok (.int xs.length)
  | .list, [.lst xs] => .ok (.lst xs)
  | .list, [.tup xs] => .ok (.lst xs)
  | .tuple, [.lst xs] => .ok (.tup xs)
  | .tuple, [.tup xs] => .ok (.tup xs)
  | .min2, [.int i, .int j] => .ok (.int (if j < i then j else i))
  | .max2, [.int i, .int j] => .ok (.int (if j > i then j else i))
  | .lcm, [.int i, .int j] => if okLcm i j = true then .ok (.int (Nat.lcm i.natAbs j.natAbs : Nat)) else .bad
  | .gcd, [.int i, .int j] => .ok (.int (Nat.gcd i.natAbs j.natAbs : Nat))
  | _, _ => .bad
/-- how a built-in is named, what it is -/
inductive BiK where | fn (id : String) | ty (n : String) | mod (id : String)
def Bi.nm : Bi → Str
  | .abs => "abs" | .int => "int" | .len => "len" | .list => "list" | .tuple => "tuple" | .min2 => "min" | .max2 => "max" | .gcd => "gcd" | .lcm => "lcm"
def Bi.kd : Bi → BiK
  | .abs => .fn "abs" | .int => .ty "int" | .len => .fn "len" | .list => .ty "list" | .tuple => .ty "tuple" | .min2 => .fn "min" | .max2 => .fn "max" | .gcd => .mod "math.gcd" | .lcm => .mod "math.lcm"
/-- isinstance with a built-in class -/
inductive Ty where | int | bool | tuple | list | str
  deriving DecidableEq
def Ty.nm : Ty → Str
  | .int => "int" | .bool => "bool" | .tuple => "tuple" | .list => "list" | .str => "str"
def Ty.st : Ty → String
  | .int => "int" | .bool => "bool" | .tuple => "tuple" | .list => "list" | .str => "str"
def tyD : D → Option String
  | .non => some "NoneType" | .bl _ => some "bool" | .int _ => some "int" | .str _ => some "str" | .tup _ => some "tuple" | .lst _ => some "list" | _ => none
def isiB : Ty → D → R Bool
  | .int, .int _ => .ok true
  | .int, .bl _ => .ok true
  | .bool, .bl _ => .ok true
  | .tuple, .tup _ => .ok true
  | .list, .lst _ => .ok true
  | .str, .str _ => .ok true
  | _, .obj _ _ => .bad
  | _, .exc _ _ => .bad
  | _, _ => .ok false

/-- targets -/
inductive Tg where
  | name (i : Nat) | tup (r : Tg) | nil | cons (a r : Tg)
/-- expressions; argument lists and what a for walks are among them -/
inductive E where
  | var (i : Nat)
  | int (i : Int) | bl (b : Bool) | non | str (s : Str)
  | glob (j : Nat)
  | bin (op : BOp) (a b : E)
  | neg (a : E)
  | cmp (op : COp) (a b : E)
  | isN (a : E) (ng : Bool)
  | chain (op op' : COp) (a b c : E)
  | and (a b : E) | or (a b : E) | not (a : E)
  | ife (c a b : E)
  | tup (es : E) | lst (es : E)
  | nil | cons (a es : E)
  | ix (a b : E)
  | sl (a lo hi : E)
  | call (j : Nat) (es : E)
  | bi (b : Bi) (es : E)
  | isi (a : E) (t : Ty)
  | isx (a : E) (j : Nat)
  | att (a : E) (f : Str)
  | meth (j : Nat) (a : E) (es : E)
  | comp (elt : E) (tg : Tg) (it cond : E) (own : List Nat)
  | oix (i : Nat) (b : E) | olen (i : Nat)
  | rng1 (a : E) | rng2 (a b : E) | enum (a : E) | zip (a b : E)
/-- the tables of a def: what it calls, what constants it reads, whose methods it calls -/
structure Tb where
  fn : List (Str × Fn) := []
  gl : List (Str × D) := []
  mt : List (Str × Str × Fn) := []
  /-- names of built-ins that the module leaves alone; names of a module's functions -/
  at_ : List (Str × Str) := []
  bn : List Str := []
  md : List (Str × String) := []
  /-- read within a suite -/
  hm : Bool := false
  /-- classes of errors that are raised -/
  xc : List Str := []
  /-- classes that are caught: for each class of an error that may come whether it is caught -/
  xh : List (Str × List (Str × Bool)) := []
  /-- classes asked by isinstance of an error: for each class of the error the answer -/
  xi : List (Str × List (Str × Bool)) := []
  /-- what a suite calls -/
  hfn : List (Str × Fn) := []
  /-- this is ascending, which makes a lambda -/
  lam : Bool := false
/-- the tables of a suite -/
abbrev Tb.hot (T : Tb) : Tb := { T with hm := true, fn := T.hfn, mt := [], lam := false }

def getV (env : Env) (i : Nat) : R D := match env[i]? with
  | some (some (.v d)) => .ok d
  | _ => .bad
def getO (env : Env) (i : Nat) : R (List D) := match env[i]? with
  | some (some (.o xs)) => .ok xs
  | _ => .bad
/-- a list, one's own or not -/
def getL (env : Env) (i : Nat) : R (List D) := match env[i]? with
  | some (some (.o xs)) => .ok xs
  | some (some (.v (.lst xs))) => .ok xs
  | _ => .bad
/-- without the lists of one's own -/
def hideO (env : Env) : Env := env.map fun s => match s with
  | some (.v d) => some (.v d)
  | _ => none
def setT : Tg → D → Env → Option Env
  | .name i, d, env => some (env.set i (some (.v d)))
  | .tup r, .tup ds, env => setT r (.tup ds) env
  | .nil, .tup [], env => some env
  | .cons a r, .tup (d :: ds), env => (setT a d env).bind fun env' => setT r (.tup ds) env'
  | _, _, _ => none
def Tg.slots : Tg → List Nat
  | .name i => [i]
  | .tup r => r.slots
  | .nil => []
  | .cons a r => a.slots ++ r.slots
def wipeE (env : Env) : List Nat → Env
  | [] => env
  | v :: vs => (wipeE env vs).set v none
def rngD (lo hi : Int) : List D := (List.range (hi - lo).toNat).map fun k : Nat => D.int (lo + (k : Int))
def okRng (i : Int) : Bool := decide (-(2 ^ 62) ≤ i) && decide (i < 2 ^ 62)
def enumD (xs : List D) : List D := xs.zipIdx.map fun p => D.tup [.int (p.2 : Int), p.1]
def zipD (xs ys : List D) : List D := (xs.zip ys).map fun p => D.tup [p.1, p.2]
/-- the comprehension's turns -/
def compL (f : Env → R (Option D)) (tg : Tg) (env : Env) : List D → R (List D)
  | [] => .ok []
  | d :: ds => match setT tg d env with
    | none => .bad
    | some env' => match f env' with
      | .ok o => (compL f tg env ds).bind fun rs => .ok (match o with | some r => r :: rs | none => rs)
      | _ => .bad
def asB : R D → R Bool
  | .ok (.bl b) => .ok b
  | .ok _ => .bad
  | .err x => .err x
  | .bad => .bad
def fldD (at_ : List (Str × Str)) (f : Str) : D → R D
  | .obj c fs => if (c, f) ∈ at_ then ofO (fs.lookup f) else .bad
  | _ => .bad
/-- isinstance of an error with an own class -/
def isxD (xi : List (Str × List (Str × Bool))) (j : Nat) : D → R D
  | .exc c _ => match xi[j]? with
    | some (_, tb) => match tb.lookup c with
      | some b => .ok (.bl b)
      | none => .bad
    | none => .bad
  | _ => .bad
def ordOp : COp → Bool
  | .isin => false | .notin => false | _ => true
mutual
def ev (T : Tb) : E → Env → R D
  | .var i, env => getV env i
  | .int i, _ => .ok (.int i)
  | .bl b, _ => .ok (.bl b)
  | .non, _ => .ok .non
  | .str s, _ => .ok (.str s)
  | .glob j, _ => match T.gl[j]? with
    | some (_, d) => .ok d
    | none => .bad
  | .bin op a b, env => (ev T a env).bind fun x => (ev T b env).bind fun y => bop op x y
  | .neg a, env => (ev T a env).bind fun x => match x with
    | .int i => .ok (.int (-i))
    | _ => .bad
  | .cmp op a b, env => (ev T a env).bind fun x => (ev T b env).bind fun y => cop op x y
  | .isN a ng, env => (ev T a env).bind fun x => .ok (.bl (if ng then !isNon x else isNon x))
  | .chain op op' a b c, env => (ev T a env).bind fun x => (ev T b env).bind fun y => (asB (cop op x y)).bind fun k =>
      if k = true then (ev T c env).bind fun z => cop op' y z else .ok (.bl false)
  | .and a b, env => (asB (ev T a env)).bind fun k => if k = true then ev T b env else .ok (.bl false)
  | .or a b, env => (asB (ev T a env)).bind fun k => if k = true then .ok (.bl true) else ev T b env
  | .not a, env => (asB (ev T a env)).bind fun k => .ok (.bl (!k))
  | .ife c a b, env => (evT T c env).bind fun k => if k = true then ev T a env else ev T b env
  | .tup es, env => (evs T es env).bind fun ds => if okLen ds.length = true then .ok (.tup ds) else .bad
  | .lst es, env => (evs T es env).bind fun ds => if okLen ds.length = true then .ok (.lst ds) else .bad
  | .ix a b, env => (ev T a env).bind fun x => (ev T b env).bind fun y => ixD x y
  | .sl a lo hi, env => (ev T a env).bind fun x => (evP T lo env).bind fun l => (evP T hi env).bind fun h => slD x l h
  | .call j es, env => (evs T es env).bind fun ds => match T.fn[j]? with
    | some (_, F) => F ds
    | none => .bad
  | .bi b es, env => (evs T es env).bind fun ds => biF b ds
  | .isi a t, env => (ev T a env).bind fun x => (isiB t x).bind fun b => .ok (.bl b)
  | .isx a j, env => (ev T a env).bind fun x => isxD T.xi j x
  | .att a f, env => (ev T a env).bind fun x => fldD T.at_ f x
  | .meth j a es, env => (ev T a env).bind fun x => match T.mt[j]?, x with
    | some (c, m, F), .obj c' fs => if c = c' ∧ fs.lookup m = none then (evs T es env).bind fun ds => F (.obj c' fs :: ds) else .bad
    | _, _ => .bad
  | .comp elt tg it cond own, env => (evI T it env).bind fun ds =>
      (compL (fun env' => (evC T cond env').bind fun k => if k = true then (ev T elt env').bind fun d => .ok (some d) else .ok none) tg (wipeE (hideO env) own) ds).bind fun rs =>
        if okLen rs.length = true then .ok (.lst rs) else .bad
  | .oix i b, env => (getL env i).bind fun xs => (ev T b env).bind fun y => ixD (.lst xs) y
  | .olen i, env => (getL env i).bind fun xs => .ok (.int xs.length)
  | _, _ => .bad
/-- as a test -/
def evT (T : Tb) : E → Env → R Bool
  | .and a b, env => (evT T a env).bind fun k => if k = true then evT T b env else .ok false
  | .or a b, env => (evT T a env).bind fun k => if k = true then .ok true else evT T b env
  | .not a, env => (evT T a env).bind fun k => .ok (!k)
  | .bl b, _ => .ok b
  | .int i, _ => .ok (i != 0)
  | .var i, env => (getV env i).bind truD
  | .cmp op a b, env => (ev T a env).bind fun x => (ev T b env).bind fun y => asB (cop op x y)
  | .isN a ng, env => (ev T a env).bind fun x => .ok (if ng then !isNon x else isNon x)
  | .chain op op' a b c, env => (ev T a env).bind fun x => (ev T b env).bind fun y => (asB (cop op x y)).bind fun k =>
      if k = true then (ev T c env).bind fun z => asB (cop op' y z) else .ok false
  | .ix a b, env => ((ev T a env).bind fun x => (ev T b env).bind fun y => ixD x y).bind truD
  | .call j es, env => ((evs T es env).bind fun ds => match T.fn[j]? with
    | some (_, F) => F ds
    | none => .bad).bind truD
  | .bi b es, env => ((evs T es env).bind fun ds => biF b ds).bind truD
  | .isi a t, env => (ev T a env).bind fun x => isiB t x
  | .isx a j, env => ((ev T a env).bind fun x => isxD T.xi j x).bind truD
  | .att a f, env => ((ev T a env).bind fun x => fldD T.at_ f x).bind truD
  | .meth j a es, env => ((ev T a env).bind fun x => match T.mt[j]?, x with
    | some (c, m, F), .obj c' fs => if c = c' ∧ fs.lookup m = none then (evs T es env).bind fun ds => F (.obj c' fs :: ds) else .bad
    | _, _ => .bad).bind truD
  | _, _ => .bad
/-- an argument list -/
def evs (T : Tb) : E → Env → R (List D)
  | .nil, _ => .ok []
  | .cons a es, env => (ev T a env).bind fun d => (evs T es env).bind fun ds => .ok (d :: ds)
  | _, _ => .bad
/-- a part of a slice -/
def evP (T : Tb) : E → Env → R (Option Int)
  | .nil, _ => .ok none
  | .cons a .nil, env => (ev T a env).bind partD
  | _, _ => .bad
/-- a comprehension's if -/
def evC (T : Tb) : E → Env → R Bool
  | .nil, _ => .ok true
  | .cons a .nil, env => evT T a env
  | _, _ => .bad
/-- what a for walks: its items -/
def evI (T : Tb) : E → Env → R (List D)
  | .rng1 a, env => (ev T a env).bind fun x => match x with
    | .int j => if okRng j = true then .ok (rngD 0 j) else .bad
    | _ => .bad
  | .rng2 a b, env => (ev T a env).bind fun x => (ev T b env).bind fun y => match x, y with
    | .int i, .int j => if (okRng i && okRng j) = true then .ok (rngD i j) else .bad
    | _, _ => .bad
  | .enum a, env => (ev T a env).bind fun x => match x with
    | .lst xs => .ok (enumD xs)
    | _ => .bad
  | .zip a b, env => (ev T a env).bind fun x => (ev T b env).bind fun y => match x, y with
    | .lst xs, .lst ys => .ok (zipD xs ys)
    | _, _ => .bad
  | .cons a .nil, env => (ev T a env).bind itemsD
  | _, _ => .bad
end

/-! ### the look -/
def visB (sc : Scope) (x : Str) : Bool := match sc.names.lookup x with
  | some .local => true | some .cell => true | some .free => true | _ => false
def glB (sc : Scope) (x : Str) : Bool := match sc.names.lookup x with
  | some .globalImplicit => true | _ => false
def locB (sc : Scope) (x : Str) : Bool := match sc.names.lookup x with
  | some .local => true | some .cell => true | _ => false
def nmB (x : Str) : Bool := !(x == ("__debug__" : Str)) && !(x == ("__classdict__" : Str)) && !(x == ("__name__" : Str))
def slB : Expr → Bool
  | .Slice _ _ _ _ => true
  | _ => false
def staB : Expr → Bool
  | .Starred _ _ => true
  | _ => false
def setB : Expr → Bool
  | .Set _ _ _ => true
  | _ => false
def tgOkB : E → Expr → Bool
  | .enum _, .Tuple _ _ _ => true
  | .zip _ _, .Tuple _ _ _ => true
  | .enum _, _ => false
  | .zip _ _, _ => false
  | _, _ => true
def calB : Expr → Bool
  | .Call _ _ _ _ => true
  | _ => false
def bopC : BOp → Operator
  | .add => .Add | .sub => .Sub | .mul => .Mult | .fdiv => .FloorDiv | .mod => .Mod | .pow => .Pow
def ckTg (N : List Str) (sc : Scope) : Tg → Expr → Bool
  | .name i, .Name x _ => decide (N[i]? = some x) && locB sc x
  | .tup r, .Tuple es _ _ => ckTgs N sc r es
  | _, _ => false
where ckTgs (N : List Str) (sc : Scope) : Tg → List Expr → Bool
  | .nil, [] => true
  | .cons a r, e :: es => (match a, e with
      | .name i, .Name x _ => decide (N[i]? = some x) && locB sc x
      | .tup r', .Tuple es' _ _ => ckTgs N sc r' es'
      | _, _ => false) && ckTgs N sc r es
  | _, _ => false
mutual
def ckE (N : List Str) (T : Tb) : E → Scope → Expr → Bool
  | .var i, sc, .Name x _ => decide (N[i]? = some x) && visB sc x && nmB x
  | .int i, _, .Constant (.int j) _ _ => decide (i = j)
  | .bl b, _, .Constant (.bool c) _ _ => b == c
  | .non, _, .Constant .none _ _ => true
  | .str s, _, .Constant (.str t) _ _ => decide (s = t)
  | .glob j, sc, .Name x _ => decide ((T.gl[j]?).map (·.1) = some x) && glB sc x && nmB x
  | .bin op a b, sc, .BinOp x o y _ => decide (o = bopC op) && ckE N T a sc x && ckE N T b sc y
  | .neg a, sc, .UnaryOp .USub x _ => ckE N T a sc x
  | .cmp op a b, sc, .Compare x [o] [y] _ => decide (o = copC op) && ckE N T a sc x && ckE N T b sc y && !behindInMarks o y
  | .isN a ng, sc, .Compare x [o] [.Constant .none _ _] _ => decide (o = if ng then .IsNot else .Is) && ckE N T a sc x
  | .chain op op' a b c, sc, .Compare x [o, o'] [y, z] _ => decide (o = copC op) && decide (o' = copC op') && ckE N T a sc x && ckE N T b sc y && ckE N T c sc z && !lastMarks [o, o'] [y, z]
  | .and a b, sc, .BoolOp .And (x :: y :: r) p => ckE N T a sc x && (match r with | [] => ckE N T b sc y | _ => ckE N T b sc (.BoolOp .And (y :: r) p))
  | .or a b, sc, .BoolOp .Or (x :: y :: r) p => ckE N T a sc x && (match r with | [] => ckE N T b sc y | _ => ckE N T b sc (.BoolOp .Or (y :: r) p))
  | .not a, sc, .UnaryOp .Not x _ => ckE N T a sc x
  | .ife c a b, sc, .IfExp z x y _ => ckE N T c sc z && ckE N T a sc x && ckE N T b sc y
  | .tup es, sc, .Tuple xs _ _ => ckL N T es sc xs
  | .lst es, sc, .List xs _ => ckL N T es sc xs
  | .ix a b, sc, .Subscript x y _ => ckE N T a sc x && ckE N T b sc y && !slB y
  | .sl a lo hi, sc, .Subscript x (.Slice l h none _) _ => ckE N T a sc x && ckP N T lo sc l && ckP N T hi sc h
  | .call j es, sc, .Call (.Name x _) xs [] _ => decide ((T.fn[j]?).map (·.1) = some x) && glB sc x && nmB x && ckL N T es sc xs
  | .bi b es, sc, .Call (.Name x _) (y :: ys) [] _ => !T.hm && decide (x = b.nm) && (match b.kd with | .mod id => decide ((x, id) ∈ T.md) | _ => decide (x ∈ T.bn)) && glB sc x && ckL N T es sc (y :: ys)
  | .isi a t, sc, .Call (.Name f _) [x, .Name c _] [] _ => decide (f = "isinstance") && decide (c = t.nm) && decide (f ∈ T.bn) && decide (c ∈ T.bn) && glB sc f && glB sc c && ckE N T a sc x && !staB x
  | .isx a j, sc, .Call (.Name f _) [x, .Name c _] [] _ => T.hm && decide (f = "isinstance") && decide ((T.xi[j]?).map (·.1) = some c) && decide (f ∈ T.bn) && glB sc f && glB sc c && nmB c && ckE N T a sc x && !staB x
  | .att a f, sc, .Attribute x h _ => decide (f = h) && ckE N T a sc x && !calB x
  | .comp elt tg it cond own, sc, .ListComp x [⟨t, i, ifs, 0⟩] sc' _ => !T.hm && blkC N sc sc' (own.map fun k => (N.getD k "", k)) && ckI N T it sc i && ckTg N sc' tg t && ckC N T cond sc' ifs && ckE N T elt sc' x && tg.slots.all (fun k => decide (k ∈ own)) && tgOkB it t && !setB i
  | .oix i b, sc, .Subscript (.Name x _) y _ => decide (N[i]? = some x) && visB sc x && nmB x && ckE N T b sc y && !slB y
  | .olen i, sc, .Call (.Name f _) [.Name x _] [] _ => decide (f = "len") && decide (f ∈ T.bn) && glB sc f && decide (N[i]? = some x) && visB sc x && nmB x
  | _, _, _ => false
def ckL (N : List Str) (T : Tb) : E → Scope → List Expr → Bool
  | .nil, _, [] => true
  | .cons a es, sc, x :: xs => ckE N T a sc x && !staB x && ckL N T es sc xs
  | _, _, _ => false
def ckP (N : List Str) (T : Tb) : E → Scope → Option Expr → Bool
  | .nil, _, none => true
  | .cons a .nil, sc, some x => ckE N T a sc x
  | _, _, _ => false
def ckC (N : List Str) (T : Tb) : E → Scope → List Expr → Bool
  | .nil, _, [] => true
  | .cons a .nil, sc, [x] => ckE N T a sc x
  | _, _, _ => false
def ckI (N : List Str) (T : Tb) : E → Scope → Expr → Bool
  | .rng1 a, sc, .Call (.Name f _) [x] [] _ => decide (f = "range") && decide (f ∈ T.bn) && glB sc f && ckE N T a sc x && !staB x
  | .rng2 a b, sc, .Call (.Name f _) [x, y] [] _ => decide (f = "range") && decide (f ∈ T.bn) && glB sc f && ckE N T a sc x && !staB x && ckE N T b sc y && !staB y
  | .enum a, sc, .Call (.Name f _) [x] [] _ => decide (f = "enumerate") && decide (f ∈ T.bn) && glB sc f && ckE N T a sc x && !staB x
  | .zip a b, sc, .Call (.Name f _) [x, y] [] _ => decide (f = "zip") && decide (f ∈ T.bn) && glB sc f && ckE N T a sc x && !staB x && ckE N T b sc y && !staB y
  | .cons a .nil, sc, x => ckE N T a sc x
  | _, _, _ => false
end
end Rf
/-! # Rf4: the machine does what the reading of an expression says -/
namespace Rf
open PySem PySem.Spec L2

/-! ### results that are wanted, of any kind -/
def RG {α : Type} (g : G) (W : WE) (σ : St) (P : α → Hp → Hp → Prop) (r : R α) (H Hf : Hp) : Prop := match r with
  | .ok a => P a H Hf
  | .err x => EQ g W σ H Hf x
  | .bad => False
abbrev OP (g : G) (Q : VK) : D → Hp → Hp → Prop := fun d H Hf => OQ g H Hf d Q
abbrev FP (g : G) (Q : VK) : D → Hp → Hp → Prop := fun d H Hf => match d with | .lst ds => FQ g H Hf ds Q | _ => False
abbrev XP (g : G) (Q : VK) : D → Hp → Hp → Prop := fun d H Hf => match d with | .lst ds => FQ g H Hf ds Q | d => OQ g H Hf d Q
abbrev BP (Q : Bool → Hp → Prop) : Bool → Hp → Hp → Prop := fun b H Hf => ∀ H' Hf', Fut H Hf H' Hf' → Q b H'
abbrev AP (g : G) (Q : List V → Hp → Prop) : List D → Hp → Hp → Prop := fun ds H Hf => ∀ vs H' Hf', Fut H Hf H' Hf' → Reps g Hf' vs ds → Q vs H'
abbrev PP (Q : Option Int → Hp → Prop) : Option Int → Hp → Hp → Prop := fun o H Hf => ∀ H' Hf', Fut H Hf H' Hf' → Q o H'
/-- what stays true as the heap grows -/
def Lat {α : Type} (P : α → Hp → Hp → Prop) : Prop := ∀ a H Hf H' Hf', Fut H Hf H' Hf' → P a H Hf → P a H' Hf'
theorem lat_OP {g : G} {Q : VK} : Lat (OP g Q) := fun _ _ _ _ _ f h v H' Hf' f' r => h v H' Hf' (f.trans f') r
theorem lat_FP {g : G} {Q : VK} : Lat (FP g Q) := fun d H Hf H1 Hf1 f h => by
  cases d <;> first | exact h | exact fun p vs H' Hf' f' hn h1 h2 r => h p vs H' Hf' (f.trans f') (f.s.free hn) h1 h2 r
theorem lat_XP {g : G} {Q : VK} : Lat (XP g Q) := fun d H Hf H1 Hf1 f h => by
  cases d with
  | lst ds => exact fun p vs H' Hf' f' hn h1 h2 r => h p vs H' Hf' (f.trans f') (f.s.free hn) h1 h2 r
  | _ => exact fun v H' Hf' f' r => h v H' Hf' (f.trans f') r
theorem lat_BP {Q : Bool → Hp → Prop} : Lat (BP Q) := fun _ _ _ _ _ f h H' Hf' f' => h H' Hf' (f.trans f')
theorem lat_AP {g : G} {Q : List V → Hp → Prop} : Lat (AP g Q) := fun _ _ _ _ _ f h v H' Hf' f' r => h v H' Hf' (f.trans f') r
theorem lat_PP {Q : Option Int → Hp → Prop} : Lat (PP Q) := fun _ _ _ _ _ f h H' Hf' f' => h H' Hf' (f.trans f')
theorem EQ.later {g : G} {W : WE} {σ : St} {H Hf H1 Hf1 : Hp} {x : Exn} (h : EQ g W σ H Hf x) (f : Fut H Hf H1 Hf1) : EQ g W σ H1 Hf1 x := fun c d H' Hf' f' r => h c d H' Hf' (f.trans f') r
theorem RG.later {α : Type} {g : G} {W : WE} {σ : St} {P : α → Hp → Hp → Prop} (L : Lat P) {r : R α} {H Hf H1 Hf1 : Hp} (h : RG g W σ P r H Hf) (f : Fut H Hf H1 Hf1) : RG g W σ P r H1 Hf1 := by
  cases r with
  | ok a => exact L _ _ _ _ _ f h
  | err x => exact EQ.later h f
  | bad => exact h
theorem RG.bind {α β : Type} {g : G} {W : WE} {σ : St} {P : β → Hp → Hp → Prop} {r : R α} {k : α → R β} {H Hf : Hp} (h : RG g W σ P (r.bind k) H Hf) : RG g W σ (fun a H Hf => RG g W σ P (k a) H Hf) r H Hf := by
  cases r <;> exact h
theorem RG.imp {α : Type} {g : G} {W : WE} {σ : St} {P P' : α → Hp → Hp → Prop} {r : R α} {H Hf : Hp} (h : RG g W σ P r H Hf) (k : ∀ a, r = .ok a → P a H Hf → P' a H Hf) : RG g W σ P' r H Hf := by
  cases r with
  | ok a => exact k a rfl h
  | err x => exact h
  | bad => exact h
theorem _root_.L2.PE.imp {X : Cx} {e : Expr} {t t' : TE} (h : PE X e t) (k : ∀ σ H Q, t' σ H Q → t σ H Q) : PE X e t' := ⟨fun pins s σ H Q I q => h.run pins s σ H Q I (k σ H Q q)⟩
theorem _root_.L2.PT.imp {X : Cx} {e : Expr} {t t' : TT} (h : PT X e t) (k : ∀ σ H Q, t' σ H Q → t σ H Q) : PT X e t' := ⟨fun pins s σ H Q I q => h.run pins s σ H Q I (k σ H Q q)⟩
theorem _root_.L2.PA.imp {X : Cx} {e : List Expr} {t t' : TA} (h : PA X e t) (k : ∀ σ H Q, t' σ H Q → t σ H Q) : PA X e t' := ⟨fun pos pins s σ H Q I q => h.run pos pins s σ H Q I (k σ H Q q)⟩
theorem _root_.L2.PO.imp {X : Cx} {e : Option Expr} {t t' : TO} (h : PO X e t) (k : ∀ σ H Q, t' σ H Q → t σ H Q) : PO X e t' := ⟨fun pins s σ H Q I q => h.run pins s σ H Q I (k σ H Q q)⟩
theorem _root_.L2.PI.imp {X : Cx} {tg e : Expr} {t t' : TI} (h : PI X tg e t) (k : ∀ σ H Q, t' σ H Q → t σ H Q) : PI X tg e t' := ⟨fun pins s σ H Q I q => h.run pins s σ H Q I (k σ H Q q)⟩

/-! ### the readings -/
def tD (g : G) (T : Tb) (W : WE) (e : E) : TE := fun σ H Q => ∃ H0 Hf0 Hf env, SR g H0 Hf0 σ H Hf env ∧ RG g W σ (OP g Q) (ev T e env) H Hf
def tDF (g : G) (T : Tb) (W : WE) (e : E) : TE := fun σ H Q => ∃ H0 Hf0 Hf env, SR g H0 Hf0 σ H Hf env ∧ RG g W σ (FP g Q) (ev T e env) H Hf
def tDT (g : G) (T : Tb) (W : WE) (e : E) : TT := fun σ H Q => ∃ H0 Hf0 Hf env, SR g H0 Hf0 σ H Hf env ∧ RG g W σ (BP Q) (evT T e env) H Hf
def tDA (g : G) (T : Tb) (W : WE) (e : E) : TA := fun σ H Q => ∃ H0 Hf0 Hf env, SR g H0 Hf0 σ H Hf env ∧ RG g W σ (AP g Q) (evs T e env) H Hf
def tDP (g : G) (T : Tb) (W : WE) (e : E) : TO := fun σ H Q => ∃ H0 Hf0 Hf env, SR g H0 Hf0 σ H Hf env ∧ RG g W σ (PP Q) (evP T e env) H Hf
def tDC (g : G) (T : Tb) (W : WE) (e : E) : TT := fun σ H Q => ∃ H0 Hf0 Hf env, SR g H0 Hf0 σ H Hf env ∧ RG g W σ (BP Q) (evC T e env) H Hf
/-- an iterator that yields the items -/
structure Yld (g : G) (J : It) (Hf1 : Hp) (ds : List D) : Prop where
  go : ∀ i H Hf, Same Hf1 Hf → Same Hf H → i < ds.length → J.go i H
  stop : ∀ H Hf, Same Hf1 Hf → Same Hf H → J.stop ds.length H
  yld : ∀ i H Hf x H' d, Same Hf1 Hf → Same Hf H → J.yld i H x H' → ds[i]? = some d → ∃ Hf', Fut H Hf H' Hf' ∧ Rep g Hf' x d
theorem Yld.mono {g : G} {J : It} {Hf1 Hf2 : Hp} {ds : List D} (y : Yld g J Hf1 ds) (h : Same Hf1 Hf2) : Yld g J Hf2 ds :=
  ⟨fun i H Hf a b => y.go i H Hf (h.trans a) b, fun H Hf a b => y.stop H Hf (h.trans a) b, fun i H Hf x H' d a b => y.yld i H Hf x H' d (h.trans a) b⟩
abbrev IP (g : G) (Rr : It → Hp → Prop) : List D → Hp → Hp → Prop := fun ds H Hf => ∀ J H' Hf', Fut H Hf H' Hf' → Yld g J Hf' ds → Rr J H'
theorem lat_IP {g : G} {Rr : It → Hp → Prop} : Lat (IP g Rr) := fun _ _ _ _ _ f h J H' Hf' f' y => h J H' Hf' (f.trans f') y
def tDI (g : G) (T : Tb) (W : WE) (e : E) : TI := fun σ H Rr => ∃ H0 Hf0 Hf env, SR g H0 Hf0 σ H Hf env ∧ RG g W σ (IP g Rr) (evI T e env) H Hf

section
variable {g : G} {T : Tb} {W : WE} {H0 Hf0 H Hf : Hp} {env : Env} {σ : St} {α : Type}
/-- a part is reckoned first -/
theorem tD_step {P : α → Hp → Hp → Prop} (L : Lat P) {a : E} {k : D → R α} {Q' : VK} (sr : SR g H0 Hf0 σ H Hf env) (h : RG g W σ P ((ev T a env).bind k) H Hf)
    (nx : ∀ d v H1 Hf1, ev T a env = .ok d → Fut H Hf H1 Hf1 → Rep g Hf1 v d → SR g H0 Hf0 σ H1 Hf1 env → RG g W σ P (k d) H1 Hf1 → Q' v H1) : tD g T W a σ H Q' :=
  ⟨H0, Hf0, Hf, env, sr, h.bind.imp fun d e q v H1 Hf1 f r => nx d v H1 Hf1 e f r (sr.mono f) (RG.later L q f)⟩
theorem tDT_step {P : α → Hp → Hp → Prop} (L : Lat P) {a : E} {k : Bool → R α} {Q' : Bool → Hp → Prop} (sr : SR g H0 Hf0 σ H Hf env) (h : RG g W σ P ((evT T a env).bind k) H Hf)
    (nx : ∀ b H1 Hf1, Fut H Hf H1 Hf1 → SR g H0 Hf0 σ H1 Hf1 env → RG g W σ P (k b) H1 Hf1 → Q' b H1) : tDT g T W a σ H Q' :=
  ⟨H0, Hf0, Hf, env, sr, h.bind.imp fun b e q H1 Hf1 f => nx b H1 Hf1 f (sr.mono f) (RG.later L q f)⟩
theorem tDA_step {P : α → Hp → Hp → Prop} (L : Lat P) {a : E} {k : List D → R α} {Q' : List V → Hp → Prop} (sr : SR g H0 Hf0 σ H Hf env) (h : RG g W σ P ((evs T a env).bind k) H Hf)
    (nx : ∀ d v H1 Hf1, Fut H Hf H1 Hf1 → Reps g Hf1 v d → SR g H0 Hf0 σ H1 Hf1 env → RG g W σ P (k d) H1 Hf1 → Q' v H1) : tDA g T W a σ H Q' :=
  ⟨H0, Hf0, Hf, env, sr, h.bind.imp fun d e q v H1 Hf1 f r => nx d v H1 Hf1 f r (sr.mono f) (RG.later L q f)⟩
theorem tDP_step {P : α → Hp → Hp → Prop} (L : Lat P) {a : E} {k : Option Int → R α} {Q' : Option Int → Hp → Prop} (sr : SR g H0 Hf0 σ H Hf env) (h : RG g W σ P ((evP T a env).bind k) H Hf)
    (nx : ∀ b H1 Hf1, Fut H Hf H1 Hf1 → SR g H0 Hf0 σ H1 Hf1 env → RG g W σ P (k b) H1 Hf1 → Q' b H1) : tDP g T W a σ H Q' :=
  ⟨H0, Hf0, Hf, env, sr, h.bind.imp fun b e q H1 Hf1 f => nx b H1 Hf1 f (sr.mono f) (RG.later L q f)⟩
theorem asB_ok {r : R D} {P : α → Hp → Hp → Prop} {k : Bool → R α} (h : RG g W σ P ((asB r).bind k) H Hf) : RG g W σ (fun d H Hf => ∃ b, d = .bl b ∧ RG g W σ P (k b) H Hf) r H Hf := by
  cases r with
  | ok d => cases d <;> first | exact ⟨_, rfl, h⟩ | exact h.elim
  | err x => exact h
  | bad => exact h
/-- a part that must be a bool -/
theorem tD_stepB {P : α → Hp → Hp → Prop} (L : Lat P) {a : E} {k : Bool → R α} {Q' : VK} (sr : SR g H0 Hf0 σ H Hf env) (h : RG g W σ P ((asB (ev T a env)).bind k) H Hf)
    (nx : ∀ b H1 Hf1, Fut H Hf H1 Hf1 → SR g H0 Hf0 σ H1 Hf1 env → RG g W σ P (k b) H1 Hf1 → Q' (.bl b) H1) : tD g T W a σ H Q' :=
  ⟨H0, Hf0, Hf, env, sr, (asB_ok h).imp fun d e ⟨b, eb, q⟩ v H1 Hf1 f r => by subst eb; cases r; exact nx b H1 Hf1 f (sr.mono f) (RG.later L q f)⟩
end

/-! ### what is known of the names -/
/-- a promise of a def (or a class that is called) -/
def spD (g : G) (F : Fn) : Sp := fun vs H Q Ex => ∃ Hf ds, Same Hf H ∧ TbOk g H Hf ∧ Reps g Hf vs ds ∧ RG g (fun cls d _ H' => Ex cls d H') [] (OP g Q) (F ds) H Hf
structure Prm (g : G) (n : Nat) (x : Str) (F : Fn) : Prop where
  ex : ∃ f, g.mg x = some (.ref f) ∧ PySem.W.keepIn g.K (.ref f) = true ∧ ∀ (X : Cx), gOf X = g → Room n X.A → ∀ (W : WE), Takes X W → ∀ (pins : List (Addr × Obj)) (s : Shared) (σ : St) (H Hf : Hp) (Q : VK) (us : List Value) (vs : List V) (ds : List D),
    Inv X pins σ H s → Vals vs us → Same Hf H → TbOk g H Hf → Reps g Hf vs ds → RG g W σ (OP g Q) (F ds) H Hf → wpAny (model X.prog X.w) X.A (call (.ref f) us) (EP X pins σ Q) X.xe s
def Gcon (g : G) (x : Str) (d : D) : Prop := ∃ v u, g.mg x = some u ∧ RelV v u ∧ ∀ H, Rep g H v d
/-- a method of an own class -/
structure PrmM (g : G) (n : Nat) (c m : Str) (F : Fn) : Prop where
  ex : ∃ C f, g.mg c = some (.ref C) ∧ Cls g.K C ∧ Meth g.K C m f ∧ ∀ (X : Cx), gOf X = g → Room n X.A → ∀ (W : WE), Takes X W → ∀ (pins : List (Addr × Obj)) (s : Shared) (σ : St) (H Hf : Hp) (Q : VK) (us : List Value) (vs : List V) (ds : List D),
    Inv X pins σ H s → Vals vs us → Same Hf H → TbOk g H Hf → Reps g Hf vs ds → RG g W σ (OP g Q) (F ds) H Hf → wpAny (model X.prog X.w) X.A (call (.ref f) us) (EP X pins σ Q) X.xe s
/-- what stands around a suite -/
structure HotX (n : Nat) (X : Cx) : Prop where
  cold : X.calm = false
  pin : ∃ p r, X.pn = p :: r ∧ ∃ vs, p.2.data = .fields vs
  room : L2H.RoomH n X.A
/-- a promise of a def that is called within a suite -/
structure PrmC (g : G) (n : Nat) (x : Str) (F : Fn) : Prop where
  ex : ∃ f, g.mg x = some (.ref f) ∧ PySem.W.keepIn g.K (.ref f) = true ∧ ∀ (X : Cx), gOf X = g → HotX n X → ∀ (W : WE), Takes X W → ∀ (pins : List (Addr × Obj)) (s : Shared) (σ : St) (H Hf : Hp) (Q : VK) (us : List Value) (vs : List V) (ds : List D),
    Inv X pins σ H s → Vals vs us → Same Hf H → TbOk g H Hf → Reps g Hf vs ds → RG g W σ (OP g Q) (F ds) H Hf → wpAny (model X.prog X.w) X.A (call (.ref f) us) (EP X pins σ Q) X.xe s
/-- a class asked by isinstance of an error -/
structure XiOk (g : G) (x : Str) (tb : List (Str × Bool)) : Prop where
  ex : ∃ (cv : Value) (v : V), RelV v cv ∧ (∀ u, RelV v u → u = cv) ∧ (g.mg x = some cv ∨ (g.mg x = none ∧ ∃ t, cv = .type t ∧ v = .ty t ∧ bootBuiltins x = some (.type t))) ∧
    ∀ p ∈ tb, ∃ D, g.mg p.1 = some (.ref D) ∧ L2.ExcC g.K D ∧ PySem.W.kitOne g.K (.ref D) cv = some p.2
/-- a class that an except clause names -/
structure XhOk (g : G) (x : Str) (tb : List (Str × Bool)) : Prop where
  ex : ∃ cv : Value, (g.mg x = some cv ∨ (g.mg x = none ∧ bootBuiltins x = some cv ∧ x ≠ "__name__")) ∧ ∀ p ∈ tb, ∃ D, g.mg p.1 = some (.ref D) ∧ PySem.W.exmOne g.K (.ref D) cv = some p.2
abbrev bmVE : List Value := [.type "ValueError", .type "Exception", .type "BaseException", .type "object"]
/-- a class of errors that is raised with a text -/
structure XcOk (g : G) (x : Str) : Prop where
  ex : ∃ C, g.mg x = some (.ref C) ∧ PySem.W.excIn g.K C bmVE "ValueError.__new__" = true ∧ PySem.W.keepIn g.K (.ref C) = true ∧ PySem.W.subIn g.K (.ref C) (.type "BaseException") = some true ∧ PySem.W.typeIn g.K (.ref C) = some (.type "type")
structure Know (g : G) (n : Nat) (T : Tb) : Prop where
  fn : T.hm = false → ∀ p ∈ T.fn, Prm g n p.1 p.2
  fh : T.hm = true → ∀ p ∈ T.fn, PrmC g n p.1 p.2
  gl : ∀ p ∈ T.gl, Gcon g p.1 p.2
  mt : ∀ p ∈ T.mt, PrmM g n p.1 p.2.1 p.2.2
  bn : ∀ x ∈ T.bn, g.mg x = none
  md : ∀ p ∈ T.md, g.mg p.1 = some (.builtin p.2)
  at_ : ∀ p ∈ T.at_, ∃ C, g.mg p.1 = some (.ref C) ∧ Cls g.K C ∧ NoAttr g.K C p.2
  xc : ∀ x ∈ T.xc, XcOk g x
  xh : ∀ p ∈ T.xh, XhOk g p.1 p.2
  xi : ∀ p ∈ T.xi, XiOk g p.1 p.2
  su : T.hm = false → ∀ p : Addr × Obj, (∃ vs, p.2.data = .fields vs) → ∀ q ∈ T.hfn, PrmC { g with hx := some p } n q.1 q.2
structure GoodB (N : List Str) (sc : Scope) (X : Cx) : Prop where
  eN : X.N = N
  vis : ∀ x, visB sc x = true → Vis X.env.scope x
  gl : ∀ x, glB sc x = true → X.env.scope.names.lookup x = some .globalImplicit
  loc : ∀ x, locB sc x = true → L2.Loc X.env.scope x ∧ (X.fn x = true ∨ X.env.scope.names.lookup x = some .local)
  cf : ∀ x, sc.names.lookup x = some .cell ∨ sc.names.lookup x = some .free → X.env.scope.names.lookup x = some .cell ∨ X.env.scope.names.lookup x = some .free
  nd : N.Nodup
  un : X.A.units + 200 < cLine
structure Good (N : List Str) (sc : Scope) (n : Nat) (X : Cx) : Prop extends GoodB N sc X where
  calm : X.calm = true
  room : Room n X.A
/-- either way -/
structure GoodM (N : List Str) (sc : Scope) (n : Nat) (hm : Bool) (X : Cx) : Prop extends GoodB N sc X where
  calmR : hm = false → X.calm = true ∧ Room n X.A
  hot : hm = true → HotX n X
theorem GoodM.good {N : List Str} {sc : Scope} {n : Nat} {hm : Bool} {X : Cx} (G : GoodM N sc n hm X) (h : hm = false) : Good N sc n X := ⟨G.toGoodB, (G.calmR h).1, (G.calmR h).2⟩
theorem Good.toM {N : List Str} {sc : Scope} {n : Nat} {X : Cx} (G : Good N sc n X) : GoodM N sc n false X := ⟨G.toGoodB, fun _ => ⟨G.calm, G.room⟩, fun z => nomatch z⟩
instance {N : List Str} {sc : Scope} {n : Nat} {hm : Bool} {X : Cx} : CoeOut (GoodM N sc n hm X) (GoodB N sc X) := ⟨GoodM.toGoodB⟩
instance {N : List Str} {sc : Scope} {n : Nat} {X : Cx} : CoeOut (Good N sc n X) (GoodB N sc X) := ⟨Good.toGoodB⟩
section
variable {N : List Str} {sc : Scope} {n : Nat} {X : Cx}
theorem vis_of {x : Str} (h : visB sc x = true) : Vis sc x := by
  unfold visB at h
  split at h
  · exact .inl (by assumption)
  · exact .inr (.inl (by assumption))
  · exact .inr (.inr (by assumption))
  · cases h
theorem loc_of {x : Str} (h : locB sc x = true) : L2.Loc sc x := by
  unfold locB at h
  split at h
  · exact .inl (by assumption)
  · exact .inr (by assumption)
  · cases h
theorem gl_of (G : GoodB N sc X) {x : Str} (h : glB sc x = true) : Gl X x := by
  exact G.gl x h
theorem nm_of {x : Str} (h : nmB x = true) : (x == ("__debug__" : Str)) = false ∧ (x == ("__classdict__" : Str)) = false ∧ x ≠ "__name__" := by
  unfold nmB at h
  simp only [Bool.and_eq_true, Bool.not_eq_true', beq_eq_false_iff_ne, ne_eq] at h
  exact ⟨by simpa using h.1.1, by simpa using h.1.2, h.2⟩
theorem units_of (G : GoodB N sc X) : X.A.units + 128 < cLine := by
  have := G.un; omega
theorem star_of {x : Expr} {xs : List Expr} {e : PySem.Env} (h : staB x = false) : starEach (x :: xs) e = (false, eval x e) :: starEach xs e := by
  cases x <;> first | rfl | cases h
theorem plain_of {x : Expr} (h : slB x = false) : PlainIx x := by
  cases x <;> first | exact fun _ _ => rfl | cases h
end
end Rf
/-! # Rf18: data within a suite -/
namespace Rf
open PySem PySem.Spec L2
mutual
/-- no exception inside -/
def noX : D → Bool
  | .tup xs => noXs xs
  | .lst xs => noXs xs
  | .obj _ fs => noXf fs
  | .exc _ _ => false
  | _ => true
def noXs : List D → Bool
  | [] => true
  | d :: ds => noX d && noXs ds
def noXf : List (Str × D) → Bool
  | [] => true
  | (_, d) :: ds => noX d && noXf ds
end
abbrev G.hot (g : G) (p : Addr × Obj) : G := { g with hx := some p }
mutual
theorem Rep.up {g : G} {H : Hp} {p : Addr × Obj} (hn : g.hx = none) : ∀ {v : V} {d : D}, Rep g H v d → Rep (g.hot p) H v d
  | _, _, .non => .non
  | _, _, .bl b => .bl b
  | _, _, .int b => .int b
  | _, _, .str b => .str b
  | _, _, .tup h r => .tup h (Reps.up hn r)
  | _, _, .lst h r => .lst h (Reps.up hn r)
  | _, _, .obj m h r => .obj m h (RepF.up hn r)
  | _, _, .exc0 h _ _ => by rw [hn] at h; cases h
  | _, _, .excD h _ _ _ _ => by rw [hn] at h; cases h
theorem Reps.up {g : G} {H : Hp} {p : Addr × Obj} (hn : g.hx = none) : ∀ {v : List V} {d : List D}, Reps g H v d → Reps (g.hot p) H v d
  | _, _, .nil => .nil
  | _, _, .cons h r => .cons (Rep.up hn h) (Reps.up hn r)
theorem RepF.up {g : G} {H : Hp} {p : Addr × Obj} (hn : g.hx = none) : ∀ {v : List (Str × V)} {d : List (Str × D)}, RepF g H v d → RepF (g.hot p) H v d
  | _, _, .nil => .nil
  | _, _, .cons h r => .cons (Rep.up hn h) (RepF.up hn r)
end
mutual
theorem Rep.down {g : G} {H : Hp} {p : Addr × Obj} : ∀ {v : V} {d : D}, Rep (g.hot p) H v d → noX d = true → Rep g H v d
  | _, _, .non, _ => .non
  | _, _, .bl b, _ => .bl b
  | _, _, .int b, _ => .int b
  | _, _, .str b, _ => .str b
  | _, _, .tup h r, x => .tup h (Reps.down r (by simpa [noX] using x))
  | _, _, .lst h r, x => .lst h (Reps.down r (by simpa [noX] using x))
  | _, _, .obj m h r, x => .obj m h (RepF.down r (by simpa [noX] using x))
  | _, _, .exc0 _ _ _, x => by simp [noX] at x
  | _, _, .excD _ _ _ _ _, x => by simp [noX] at x
theorem Reps.down {g : G} {H : Hp} {p : Addr × Obj} : ∀ {v : List V} {d : List D}, Reps (g.hot p) H v d → noXs d = true → Reps g H v d
  | _, _, .nil, _ => .nil
  | _, _, .cons h r, x => by
    simp only [noXs, Bool.and_eq_true] at x
    exact .cons (Rep.down h x.1) (Reps.down r x.2)
theorem RepF.down {g : G} {H : Hp} {p : Addr × Obj} : ∀ {v : List (Str × V)} {d : List (Str × D)}, RepF (g.hot p) H v d → noXf d = true → RepF g H v d
  | _, _, .nil, _ => .nil
  | _, _, .cons h r, x => by
    simp only [noXf, Bool.and_eq_true] at x
    exact .cons (Rep.down h x.1) (RepF.down r x.2)
end
theorem SlRep.up {g : G} {H0 H Hf : Hp} {p : Addr × Obj} (hn : g.hx = none) {v : V} {s : Sl} (r : SlRep g H0 H Hf v s) : SlRep (g.hot p) H0 H Hf v s := by
  cases r with
  | v h => exact .v (h.up hn)
  | o a b c d => exact .o a b c (d.up hn)
theorem SR.up {g : G} {H0 Hf0 H Hf : Hp} {σ : St} {env : Env} {p : Addr × Obj} (hn : g.hx = none) (r : SR g H0 Hf0 σ H Hf env) : SR (g.hot p) H0 Hf0 σ H Hf env :=
  ⟨r.fut, r.len, fun i s h => let ⟨v, e, q⟩ := r.slot i s h; ⟨v, e, q.up hn⟩, r.dis, r.tb⟩
end Rf
/-! # Rf19: isinstance of an exception, with fields or without -/
namespace Rf
open PySem PySem.Spec PySem.W L2
section
variable {prog : Program} {w : World} {A : Around} {E : Value → Shared → Prop} {s : Shared} {K : Frag} {x D : Addr} {ox : Obj} {od : Option Obj}
/-- what an exception class D says of __class__ -/
abbrev XcC := L2.ExcC
theorem findObj_dataA {C : Addr} {nm : Str} {a g : Value} (hc : (clsIn K C).isSome = true) (ha : findIn K (.ref C) nm = some (some a)) (hg : specialIn K a "__get__" = some (some g)) (ht : takesIn K a = some true) : findObj K C od nm = some (.bind g a) := by
  obtain ⟨cd, e⟩ := Option.isSome_iff_exists.mp hc; unfold findObj; rw [e, Option.bind_some, ha, Option.bind_some]; simp [hg, ht]
theorem cls_of_exc {Q : Option Value → Shared → Prop} (c : L2.ExcC K D) (X : K.In s.heap) (I : InstAt s.heap x ox D od) (q : Q (some (.ref D)) { s with toks := s.toks + 1 }) : wpAny (model prog w) A (getAttr? (.ref x) "__class__") Q E s := by
  have found : findObj K D od "__class__" = some (.bind (.builtin "getset_descriptor.__get__") (.builtin "object.__class__")) := findObj_dataA (by obtain ⟨cd, hc, _⟩ := any_some c.hd; rw [hc]; rfl) c.ha c.hn c.ht
  obtain ⟨hp, g, d, t, os⟩ := s
  have l0 := I.type (M := model prog w); have l1 := looks_findIn (M := model prog w) X c.hg; have l2 := looks_findIn (M := model prog w) X c.hk; have l3 := looks_find (M := model prog w) X I found
  have isB : Looks (model prog w) hp (isInstance (.ref x) (.type "BaseException")) true := l0.andThen (looks_subIn X c.hs)
  have n0 : (false && onTheHeap (Value.builtin "BaseException.__getattribute__")) = false := rfl
  have n2 : (Value.builtin "BaseException.__getattribute__" == Value.builtin "object.__getattribute__") = false := by decide +kernel
  have n1 : (onTheHeap (Value.ref D) && Value.builtin "BaseException.__getattribute__" == Value.builtin "object.__getattribute__") = false := by rw [n2]; rfl
  unfold getAttr? getAttrBy? getAttrBy; refine wpAny_bind (wpAny_mkText (wpAny_bind (wpAny_attempt (wpAny_holding (wpAny_bind (l0.at (wpAny_bind (l1.at ?_))))))))
  show wpAny _ _ (if (onTheHeap (Value.ref D) && Value.builtin "BaseException.__getattribute__" == Value.builtin "object.__getattribute__") = true then _ else _) _ _ _; rw [n1, if_neg Bool.false_ne_true]
  unfold getAttrByItsOwn hookBefore; refine wpAny_bind ?_; rw [if_pos (show onTheHeap (Value.ref D) = true from rfl)]; refine l2.at ?_
  refine wpAny_bind (wpAny_attempt (wpAny_holding ?_)); unfold callGetattribute; rw [n0, if_neg Bool.false_ne_true]
  unfold boundAndCalled; rw [PySem.F.excAttr_ValueError.ga.bind (.ref x)]; refine wpAny_bind (wpAny_pure ?_)
  show wpAny _ _ (call (.builtin "BaseException.__getattribute__") [.ref x, .str "__class__" t]) _ _ _; refine wpAny_call (codeAny_call_builtin PySem.F.excAttr_ValueError.ga.plain PySem.F.entry_bexc_ga ?_)
  refine @check_slot (model prog w) _ _ ⟨hp, g, d, t + 1, os⟩ "BaseException.__getattribute__" "BaseException" "__getattribute__" (.ref x) [.str "__class__" t] [] _ (by decide +kernel) (by decide +kernel) isB (PySem.F.args_bexc_ga (.ref x) (.str "__class__" t)) ?_
  unfold Builtin.«object.__getattribute__»; refine wpAny_bind (wpAny_of_eq (a := ((Value.ref x : Value), [Value.str "__class__" t])) (by first | rfl | (simp only [slotArgs]; rfl)) ?_)
  refine wpAny_bind (wpAny_pure (wpAny_bind (l0.at (wpAny_bind (l3.at ?_))))); show wpAny _ _ (holding [Value.builtin "object.__class__"] (call (.builtin "getset_descriptor.__get__") [.builtin "object.__class__", .ref x, .ref D]) >>= ret) _ _ _
  refine wpAny_bind (wpAny_holding (wpAny_call (class_get (s := ⟨hp, g, d, t + 1, os⟩) (ox := ox) (od := od) X I c.hm ?_))); refine wpAny_pure ?_
  show wpAny _ _ (handedOut (.ref D)) _ _ _; rw [handedOut_of (v := .ref D) rfl]
  first | exact wpAny_pure (wpAny_pure q) | exact wpAny_pure q | exact wpAny_pure (wpAny_bind (wpAny_pure (wpAny_pure q)))
theorem kitx_any (c : L2.ExcC K D) : KitX K (.ref x) (.ref D) (fun h => InstAt h x ox D od) where
  ty := fun _ _ _ I => I.type
  it := fun _ _ X _ => by
    obtain ⟨cdD, hcD, _⟩ := any_some c.hd; unfold clsIn at hcD; split at hcD
    · rename_i ho; intro A' Q' E' s' k q; unfold isType loadHead; exact wpAny_bind (wpAny_loadPart (k _ _ (X _ _ ho)) (wpAny_pure q))
    · cases hcD
  ne := fun h tp dd its n sl X htp => by
    obtain ⟨cdD, hcD, _⟩ := any_some c.hd; refine Bool.eq_false_iff.mpr fun q => ?_
    have e : D = tp := Value.ref.inj (beq_iff_eq.mp q)
    subst e; unfold clsIn at hcD; split at hcD
    · rename_i ho; have z := (X _ _ ho).symm.trans htp; cases z
    · cases hcD
  ca := fun X I k => cls_of_exc c X I k
end
section
variable {X : Cx} {a D : Addr} {oe : Obj}
/-- isinstance(e, c), e the exception at a that the context has pinned -/
def rIsX (K : PySem.W.Frag) (D a : Addr) (oe : Obj) : List V → Hp → VK → Prop := fun xs H Q => ∃ (c : V) (cv : Value) (b : Bool), xs = [.ref a, c] ∧ (∀ u, RelV c u → u = cv) ∧ PySem.W.kitOne K (.ref D) cv = some b ∧ (∀ dd, oe.dict = some dd → ∃ o, H dd = some o) ∧ Q (.bl b) H
theorem call_isX (hp : (a, oe) ∈ X.pn) (c : L2.ExcC X.K D) (hcls : oe.cls = .ref D) (hf : ∃ vs, oe.data = .fields vs) : CallR X (.builtin "isinstance") (rIsX X.K D a oe) := by
  intro pins s σ H xs us Q I r h
  obtain ⟨c0, cv, b, rfl, hcv, e, hd, q⟩ := h
  cases r with
  | cons rx rr =>
    cases rr with
    | cons rt rr =>
      cases rr; cases rx
      have ec := hcv _ rt
      subst ec
      have hget := (I.pin (a, oe) (List.mem_append.mpr (.inl hp))).1
      obtain ⟨vs, hv⟩ := hf
      have J : ∃ od, PySem.W.InstAt s.heap a oe D od := by
        obtain ⟨oc, odd, oda, osl⟩ := oe
        dsimp only at hcls hv hd hget
        subst hcls; subst hv
        cases odd with
        | none => exact ⟨none, hget, rfl, rfl, trivial⟩
        | some dd =>
          obtain ⟨o, ho⟩ := hd dd rfl
          obtain ⟨u, hu⟩ := objOk_get (I.hok dd o ho)
          exact ⟨some u, hget, rfl, rfl, hu⟩
      obtain ⟨od, J⟩ := J
      exact PySem.W.kia_one (kitx_any c) I.kIn J e (fun z => nomatch z) fun tk => ⟨.bl b, H, I.kept (t' := tk) fun _ _ z => z, rfl, q⟩
end
end Rf
/-! # Rf21: sorted(xs, key=lambda p: p[0] * (c // p[1])) -/
namespace Rf
open PySem PySem.Spec L2
open PyProof.Rows (IsTup)
section
variable {prog : Program} {w : World} {A : Around} {E : Value → Shared → Prop} {env : PySem.Env} {m : Str → Option Value} {t cc : Addr} {n d cm : Int} {t1 t2 tc : Tok} {p c : Str} {s : Shared}
theorem sub_at {j : Nat} {k1 : Nat} {p1 p2 p3 : Pos} {x : Value} {its : Array Value} {Q : Value → Shared → Prop} (hk : env.scope.kind = .function) (hp : env.kindOf p = some .local) (hd : (p == ("__debug__" : Str)) = false) (hn : s.heap.Ns env.locals m) (hm : m p = some (.ref t))
    (ht : IsTup s.heap t its) (hj : seqIndex? (j : Int) its.size = some j) (hx : its[j]? = some x) (hz : j < 1000) (h : Q x { s with toks := s.toks + 1 }) :
    wpAny (model prog w) A (eval (.Subscript (.Name p p1) (.Constant (.int (j : Int)) k1 p2) p3) env) Q E s := by
  refine PyProof.Rows.Subscript_ (wpAny_Name (wpAny_loadName_local hk hp hn hm ?_) hd)
  refine wpAny_Constant_int ?_
  exact PyProof.Rows.subscriptTail_builtinR (x := x) ht.typeIs PyProof.Rows.slot_tuple_getitem.lookup
    (PyProof.Rows.getItem_tuple (s := { s with toks := s.toks + 1 }) (Q := fun r s' => r = x ∧ Q r s') ht (by omega) (by omega) hj hx ⟨rfl, h⟩) (by with_unfolding_all rfl)
theorem body_key {k1 k2 : Nat} {p1 p2 p3 p4 p5 p6 p7 p8 p9 : Pos} (hk : env.scope.kind = .function) (hp : env.kindOf p = some .local) (hd : (p == ("__debug__" : Str)) = false) (hn : s.heap.Ns env.locals m) (hm : m p = some (.ref t))
    (hc : env.kindOf c = some .free) (hdc : (c == ("__debug__" : Str)) = false) (hcd : (c == ("__classdict__" : Str)) = false) (hcc : env.cells.lookup c = some cc) (hcell : s.heap.IsCell cc (some (.int cm tc)))
    (ht : IsTup s.heap t #[.int n t1, .int d t2]) (h1 : okDiv d = true) (h2 : okMul n (cm.fdiv d) = true) {Q : Value → Shared → Prop} (q : ∀ t tk, Q (.int (n * cm.fdiv d) t) { s with toks := tk }) :
    wpAny (model prog w) A (eval (.BinOp (.Subscript (.Name p p1) (.Constant (.int 0) k1 p2) p3) .Mult (.BinOp (.Name c p4) .FloorDiv (.Subscript (.Name p p5) (.Constant (.int 1) k2 p6) p7) p8) p9) env) Q E s := by
  refine wpAny_BinOp (sub_at (j := 0) hk hp hd hn hm ht rfl rfl (by decide) ?_)
  refine wpAny_BinOp (wpAny_Name (wpAny_loadName_free hk hc hcc hcell ?_ hcd) hdc)
  refine sub_at (s := { s with toks := s.toks + 1 }) (j := 1) hk hp hd hn hm ht rfl rfl (by decide) ?_
  unfold okDiv at h1
  rw [Bool.and_eq_true] at h1
  refine PyProof.Rows.floordiv_int (of_decide_eq_true h1.1) ?_ (.inl (PyProof.noPylong_of_log2 (of_decide_eq_true h1.2)))
  exact PyProof.Rows.mul_int (q _ _) (okMul_ok h2)
end
/-- the lambda's one parameter -/
def parB1 : Arguments → Bool
  | ⟨[], [⟨q, none, _⟩], none, [], [], none, []⟩ => decide (q = "number")
  | _ => false
theorem bind1 {ps : Arguments} (h : parB1 ps = true) {name qual : Str} {body : Expr} {scope : Scope} {cl : List (Str × Addr)} {pm cdv ct : Value} (v : Value) : bindArgs (PySem.W.kla_fn name qual ps body scope cl pm cdv ct) ⟨[v], []⟩ = pure [(("number" : Str), v)] := by
  unfold parB1 at h
  split at h
  · obtain rfl := of_decide_eq_true h
    rfl
  · cases h
theorem dfl1 {ps : Arguments} (h : parB1 ps = true) (env : PySem.Env) : defaultsOf ps env = ([], []) := by
  unfold parB1 at h
  split at h
  · rfl
  · cases h
/-- number[0] * (common // number[1]) -/
abbrev keyE (k1 k2 : Nat) (p1 p2 p3 p4 p5 p6 p7 p8 p9 : Pos) : Expr := .BinOp (.Subscript (.Name "number" p1) (.Constant (.int 0) k1 p2) p3) .Mult (.BinOp (.Name "common" p4) .FloorDiv (.Subscript (.Name "number" p5) (.Constant (.int 1) k2 p6) p7) p8) p9
section
variable {prog : Program} {w : World} {A : Around} {t cc f c' : Addr} {n d cm : Int} {t1 t2 tc : Tok} {qual : Str} {s : Shared} {scope : Scope} {clos : List (Str × Addr)} {pm ctv : Value} {params : Arguments}
theorem lam_turn {k1 k2 : Nat} {p1 p2 p3 p4 p5 p6 p7 p8 p9 : Pos} (hf : s.heap.get? f = some (PySem.W.kla_obj "<lambda>" qual params (keyE k1 k2 p1 p2 p3 p4 p5 p6 p7 p8 p9) scope clos pm c' ctv))
    (hrec : s.heap.CodeRec (.ref c') qual) (hr : A.depth < recursionLimit) (hl : s.heap.NoLimit) (hpar : parB1 params = true)
    (hk : scope.kind = .function) (hco : scope.isCoroutine = false) (hge : scope.isGenerator = false) (hcell : ∀ x ∈ scope.names, x.2 ≠ .cell) (hp : scope.names.lookup ("number" : Str) = some .local) (hc : scope.names.lookup ("common" : Str) = some .free)
    (hcc : clos.lookup ("common" : Str) = some cc) (hcv : s.heap.IsCell cc (some (.int cm tc)))
    (ht : IsTup s.heap t #[.int n t1, .int d t2]) (h1 : okDiv d = true) (h2 : okMul n (cm.fdiv d) = true) :
    wpAny (model prog w) A (call (.ref f) [.ref t]) (PySem.W.KeyPure (.int (n * cm.fdiv d)) s) (fun _ _ => False) s := by
  refine wpAny_call (PySem.W.kla_callFunE hr hf rfl hco hge rfl hrec ?_)
  rw [bind1 hpar]
  refine wpAny_pure (wpAny_newFunctionEnv hcell (fun y hy => by rw [List.mem_singleton.mp hy]; exact hp) (fun h₁ hns hsb => ⟨hl.fresh _ hsb, ?_⟩) hk)
  have kp : ∀ b o, s.heap.get? b = some o → h₁.get? b = some o := fun b o e => hsb.extBut b o (Nat.ne_of_lt (Heap.lt_size e)) (Heap.get?_push_of_some _ e)
  refine PySem.W.kla_codeExpr ?_
  refine body_key (env := newEnv scope s.heap.objs.size mainGlobals clos (qual ++ ".<locals>.") (some f) (.ref c') none builtinsNs) (m := fun x => List.lookup x (List.reverse [(("number" : Str), Value.ref t)])) (cc := cc) (cm := cm) (tc := tc) (n := n) (d := d) (t := t) (t1 := t1) (t2 := t2) hk hp (by decide) hns (by simp [List.lookup]) hc (by decide) (by decide) hcc ?_ (ht.keeps kp) h1 h2 fun t' tk => ?_
  · obtain ⟨o, ho, hdd⟩ := hcv
    exact ⟨o, kp _ _ ho, hdd⟩
  · exact ⟨h₁, tk, rfl, kp, .int _ _⟩
end
section
variable {X : Cx} {pins : List (Addr × Obj)} {σ : L2.St} {H : Hp} {s : Shared}
/-- making the lambda: the code object is found in the table or put into it -/
theorem lam_new {c P : Addr} {ps : Arguments} {e : Expr} {sc : Scope} {pos : Pos} {E Q : Value → Shared → Prop} (J : Inv X pins σ H s) (B : LamX.TabB X.base X.mg c P) (code : X.env.code = .ref c) (name : X.env.qual ++ "<lambda>" = lamName) (tab : LamX.TabS H P lamName)
    (nodef : defaultsOf ps X.env = ([], [])) (cap : ∀ y ∈ sc.names, y.2 = .free → ∃ a, X.env.cells.lookup y.1 = some a)
    (go : ∀ (f d : Addr) (pm ct : Value) (H' : Hp) (s' : Shared), Inv X pins σ H' s' → Ext H H' → (∀ b u, b ≠ P → H b = some u → H' b = some u) → s'.heap.get? f = some (PySem.W.kla_obj "<lambda>" lamName ps e sc (cloFrom X.env.cells sc.names []) pm d ct) →
      s'.heap.CodeRec (.ref d) lamName → Q (.ref f) s') :
    wpAny (model X.prog X.w) X.A (eval (.Lambda ps e sc pos) X.env) Q E s := by
  obtain ⟨tb, atP, tri, named⟩ := tab
  have bins : s.heap.BuiltinsAt X.mg P := B.bm.keeps J.bk
  have objP : s.heap.get? P = some { cls := .none, data := .fields tb } := J.hok P _ atP
  have clos := closure_ok (env := X.env) cap
  have globs := J.mod.glob.keeps J.bk
  have head := B.code.keeps J.bk
  refine PySem.W.kla_eval nodef ?_
  rw [name]
  by_cases known : (codeAmong pos tb.toList).isSome = true
  · obtain ⟨cv, hcv⟩ := Option.isSome_iff_exists.mp known
    obtain ⟨d, rfl, isCode⟩ := named pos cv hcv
    refine PySem.W.kla_makeFunctionHit clos J.ok.glob globs code head objP tri hcv bins fun ct h2 tk2 keeps size => ?_
    have J2 : Inv X pins σ H { s with heap := h2.push (PySem.W.kla_obj "<lambda>" lamName ps e sc (cloFrom X.env.cells sc.names []) ((X.mg "__name__").getD .none) d ct), toks := tk2 } := J.kept fun b u z => Heap.get?_push_of_some _ (keeps b u z)
    refine go h2.objs.size d ((X.mg "__name__").getD .none) ct H _ J2 (.refl H) (fun b u _ z => z) (Heap.get?_push_size _ rfl) ?_
    obtain ⟨⟨oc, fv, tt, z1, z2, z3⟩, _⟩ := J2.hok d _ isCode
    exact ⟨d, oc, fv, tt, rfl, z1, z2, z3⟩
  · have unknown : codeAmong pos tb.toList = none := by simpa using known
    refine PySem.W.kla_makeFunction clos J.ok.glob globs code head objP tri unknown B.gP bins fun d ct h2 tk2 ext low lt rec_ grown => ?_
    obtain ⟨d2, oc, fv, tt, ed, z1, z2, z3⟩ := rec_
    cases ed
    have sizes : s.heap.objs.size ≤ h2.objs.size := Nat.le_trans low (Nat.le_of_lt lt)
    have free : H d = none := J.hok.fresh low
    have J2 := LamX.inv_table (t' := tk2) (q := lamName) (more := #[rawInt pos.line, rawInt pos.col, .ref d]) (h' := h2.push (PySem.W.kla_obj "<lambda>" lamName ps e sc (cloFrom X.env.cells sc.names []) ((X.mg "__name__").getD .none) d ct)) J atP
      (fun b u ne z => Heap.get?_push_of_some _ (ext b u ne z)) (Heap.get?_push_of_some _ grown) low ⟨oc, fv, tt, Heap.get?_push_of_some _ z1, z2, z3⟩
    have keep : ∀ b u, b ≠ P → H b = some u → (upd (upd H P (.tbl (tb ++ #[rawInt pos.line, rawInt pos.col, .ref d]))) d (LamX.CodeO d lamName)) b = some u := fun b u ne z => by
      rw [upd_ne (ne_of_none z free), upd_ne ne]; exact z
    have nP : P ≠ d := ne_of_none atP free
    refine go h2.objs.size d ((X.mg "__name__").getD .none) ct _ _ J2 ⟨fun b u z nt => ?_, fun b qs z => ?_, fun b z => ?_⟩ keep (Heap.get?_push_size _ rfl) ⟨d, oc, fv, tt, rfl, Heap.get?_push_of_some _ z1, z2, z3⟩
    · refine keep b u (fun y => ?_) z
      rw [y, atP] at z
      exact nt _ (Option.some.inj z).symm
    · by_cases y : b = P
      · subst y; exact ⟨_, by rw [upd_ne nP, upd_same]⟩
      · exact ⟨qs, keep b _ y z⟩
    · obtain ⟨qs, y1, y2, y3⟩ := z
      by_cases y : b = P
      · subst y
        rw [atP] at y1
        cases y1
        have el : (tb ++ #[rawInt pos.line, rawInt pos.col, Value.ref d]).toList = tb.toList ++ [rawInt pos.line, rawInt pos.col, .ref d] := by simp
        refine ⟨_, by rw [upd_ne nP, upd_same], by rw [el]; exact PySem.TriplesOk_snoc _ _ _ _ tri, fun p' cv hcv => ?_⟩
        rw [el] at hcv
        rcases LamX.among_app _ tri hcv with old | new
        · obtain ⟨d3, e1, e2⟩ := named p' cv old
          refine ⟨d3, e1, keep d3 _ (fun y => ?_) e2⟩
          rw [y, atP] at e2; cases e2
        · exact ⟨d, new, upd_same⟩
      · refine ⟨qs, keep b _ y y1, y2, fun p' cv hcv => ?_⟩
        obtain ⟨d3, e1, e2⟩ := y3 p' cv hcv
        refine ⟨d3, e1, keep d3 _ (fun y => ?_) e2⟩
        rw [y, atP] at e2; cases e2
end
end Rf
/-! # Rf5: expressions, one rule a construct -/
namespace Rf
open PySem PySem.Spec L2
def tDX (g : G) (T : Tb) (W : WE) (e : E) : TE := fun σ H Q => ∃ H0 Hf0 Hf env, SR g H0 Hf0 σ H Hf env ∧ RG g W σ (XP g Q) (ev T e env) H Hf
theorem xp_of_op {g : G} {Q : VK} {d : D} {H Hf : Hp} (h : OP g Q d H Hf) : XP g Q d H Hf := by
  cases d with
  | lst ds => exact FQ.of h
  | _ => exact h
theorem tDX_E {X : Cx} {T : Tb} {W : WE} {e : E} {x : Expr} (h : PE X x (tDX (gOf X) T W e)) : PE X x (tD (gOf X) T W e) :=
  h.imp fun σ H Q ⟨H0, Hf0, Hf, env, sr, r⟩ => ⟨H0, Hf0, Hf, env, sr, r.imp fun _ _ q => xp_of_op q⟩
theorem tDX_F {X : Cx} {T : Tb} {W : WE} {e : E} {x : Expr} (h : PE X x (tDX (gOf X) T W e)) : PE X x (tDF (gOf X) T W e) :=
  h.imp fun σ H Q ⟨H0, Hf0, Hf, env, sr, r⟩ => ⟨H0, Hf0, Hf, env, sr, r.imp fun d _ q => by cases d <;> first | exact q | exact q.elim⟩
/-- a rule's end: an operation on data -/
theorem rD_of {g : G} {W : WE} {σ : St} {Q : VK} {F : D → D → R D} {x y : V} {d e : D} {H Hf : Hp} (sub : Same Hf H) (rx : Rep g Hf x d) (ry : Rep g Hf y e) (hne : ∀ z, F d e ≠ .err z) (h : RG g W σ (OP g Q) (F d e) H Hf) : rD g F x y H Q := by
  refine ⟨Hf, d, e, sub, rx, ry, ?_⟩
  cases hf : F d e with
  | ok r => rw [hf] at h; exact ⟨r, rfl, h⟩
  | err z => exact absurd hf (hne z)
  | bad => rw [hf] at h; exact h.elim
theorem rDF_of {g : G} {W : WE} {σ : St} {Q : VK} {F : D → D → R D} {x y : V} {d e : D} {H Hf : Hp} (sub : Same Hf H) (rx : Rep g Hf x d) (ry : Rep g Hf y e) (hne : ∀ z, F d e ≠ .err z) (h : RG g W σ (XP g Q) (F d e) H Hf) : rDF g F x y H Q := by
  refine ⟨Hf, d, e, sub, rx, ry, ?_⟩
  cases hf : F d e with
  | ok r => rw [hf] at h; exact ⟨r, rfl, h⟩
  | err z => exact absurd hf (hne z)
  | bad => rw [hf] at h; exact h.elim
theorem bop_ne (op : BOp) (d e : D) (z : Exn) : bop op d e ≠ .err z := by
  unfold bop
  split <;> (try split) <;> (intro h; cases h)
theorem eqD_ne (d e : D) (z : Exn) : eqD d e ≠ .err z := by
  unfold eqD
  split
  · unfold eqP; split <;> (intro h; cases h)
  · intro h; cases h
theorem memD_ne (x : D) (z : Exn) : ∀ ds, memD x ds ≠ .err z
  | [] => by simp [memD]
  | d :: ds => by
    simp only [memD]
    cases h1 : eqD d x with
    | ok b =>
      cases h2 : memD x ds with
      | ok c => simp
      | err w => exact absurd h2 (memD_ne x w ds)
      | bad => simp
    | err w => exact absurd h1 (eqD_ne _ _ _)
    | bad => simp
theorem cop_ne (op : COp) (d e : D) (z : Exn) : cop op d e ≠ .err z := by
  cases op with
  | eq => simp only [cop]; cases h : eqD d e <;> first | exact absurd h (eqD_ne _ _ _) | simp
  | ne => simp only [cop]; cases h : eqD d e <;> first | exact absurd h (eqD_ne _ _ _) | simp
  | isin => simp only [cop]; cases hi : itemsD e with
    | ok xs => simp only [R.bind_ok]; cases h : memD d xs <;> first | exact absurd h (memD_ne _ _ _) | simp
    | err w => unfold itemsD at hi; split at hi <;> cases hi
    | bad => simp
  | notin => simp only [cop]; cases hi : itemsD e with
    | ok xs => simp only [R.bind_ok]; cases h : memD d xs <;> first | exact absurd h (memD_ne _ _ _) | simp
    | err w => unfold itemsD at hi; split at hi <;> cases hi
    | bad => simp
  | _ => cases d <;> cases e <;> simp [cop]
theorem ixD_ne (d e : D) (z : Exn) : ixD d e ≠ .err z := by
  unfold ixD
  split <;> (try unfold ofO) <;> (try split) <;> (intro h; cases h)
theorem slD_ne (d : D) (lo hi : Option Int) (z : Exn) : slD d lo hi ≠ .err z := by
  unfold slD
  split <;> (try split) <;> (intro h; cases h)
theorem ifr {α : Type} {g : G} {W : WE} {σ : St} {P : α → Hp → Hp → Prop} {c : Prop} [Decidable c] {a : R α} {H Hf : Hp} (h : RG g W σ P (if c then a else .bad) H Hf) : c ∧ RG g W σ P a H Hf := by
  by_cases hc : c
  · rw [if_pos hc] at h; exact ⟨hc, h⟩
  · rw [if_neg hc] at h; exact h.elim

section
variable {X : Cx} {N : List Str} {sc : Scope} {n : Nat} {T : Tb} {W : WE} {a b c : E} {x y z : Expr} {p : Pos} {k : Nat}
theorem e_var {i : Nat} {s : Str} (G : GoodB N sc X) (h1 : N[i]? = some s) (h2 : visB sc s = true) (h3 : nmB s = true) : PE X (.Name s p) (tD (gOf X) T W (.var i)) := by
  obtain ⟨d1, d2, _⟩ := nm_of h3
  refine PE.imp (pe_var (i := i) (by rw [G.eN]; exact h1) (G.vis _ h2) d1 d2) fun σ H Q ⟨H0, Hf0, Hf, env, sr, r⟩ => ?_
  simp only [ev, getV] at r
  split at r
  · rename_i d he
    obtain ⟨v, hv, sl⟩ := sr.slot i _ he
    cases sl with
    | v q => exact ⟨v, hv, oq_here sr.sub q r⟩
  · exact r.elim
theorem e_int {i : Int} : PE X (.Constant (.int i) k p) (tD (gOf X) T W (.int i)) := pe_int.imp fun σ H Q ⟨H0, Hf0, Hf, env, sr, r⟩ => oq_here sr.sub (.int i) (by simp only [ev] at r; exact r)
theorem e_bl {i : Bool} : PE X (.Constant (.bool i) k p) (tD (gOf X) T W (.bl i)) := pe_bl.imp fun σ H Q ⟨H0, Hf0, Hf, env, sr, r⟩ => oq_here sr.sub (.bl i) (by simp only [ev] at r; exact r)
theorem e_non : PE X (.Constant .none k p) (tD (gOf X) T W .non) := pe_non.imp fun σ H Q ⟨H0, Hf0, Hf, env, sr, r⟩ => oq_here sr.sub .non (by simp only [ev] at r; exact r)
theorem e_str {i : Str} : PE X (.Constant (.str i) k p) (tD (gOf X) T W (.str i)) := pe_str.imp fun σ H Q ⟨H0, Hf0, Hf, env, sr, r⟩ => oq_here sr.sub (.str i) (by simp only [ev] at r; exact r)
theorem e_glob {j : Nat} {s : Str} (G : GoodB N sc X) (K : Know (gOf X) n T) (h1 : (T.gl[j]?).map (·.1) = some s) (h2 : glB sc s = true) (h3 : nmB s = true) : PE X (.Name s p) (tD (gOf X) T W (.glob j)) := by
  obtain ⟨d1, d2, _⟩ := nm_of h3
  cases hg : T.gl[j]? with
  | none => rw [hg] at h1; cases h1
  | some q =>
    obtain ⟨s', d⟩ := q
    rw [hg] at h1; cases h1
    obtain ⟨v, u, hm, rv, hr⟩ := K.gl _ (List.mem_of_getElem? hg)
    refine PE.imp (pe_glob (gl_of G h2) hm rv d1) fun σ H Q ⟨H0, Hf0, Hf, env, sr, r⟩ => ?_
    simp only [ev, hg] at r
    exact oq_here sr.sub (hr Hf) r
theorem e_bin {op : BOp} (ha : PE X x (tD (gOf X) T W a)) (hb : PE X y (tD (gOf X) T W b)) : PE X (.BinOp x (bopC op) y p) (tDX (gOf X) T W (.bin op a b)) := by
  refine (pe_op (bop_ok (X := X) op (bopC op) (by cases op <;> rfl)) ha hb).imp fun σ H Q ⟨H0, Hf0, Hf, env, sr, r⟩ => ?_
  simp only [ev] at r
  refine tD_step lat_XP sr r fun d v H1 Hf1 _ f1 r1 sr1 q1 => ?_
  refine tD_step lat_XP sr1 q1 fun e w H2 Hf2 _ f2 r2 sr2 q2 => ?_
  exact rDF_of sr2.sub (r1.mono f2.f) r2 (bop_ne _ _ _) q2
theorem e_neg (ha : PE X x (tD (gOf X) T W a)) : PE X (.UnaryOp .USub x p) (tD (gOf X) T W (.neg a)) := by
  refine (pe_un neg_ok ha).imp fun σ H Q ⟨H0, Hf0, Hf, env, sr, r⟩ => ?_
  simp only [ev] at r
  refine tD_step lat_OP sr r fun d v H1 Hf1 _ f1 r1 sr1 q1 => ?_
  cases d <;> first | exact q1.elim | exact ⟨Hf1, _, sr1.sub, r1, _, rfl, q1⟩
theorem e_cmp {op : COp} (G : GoodB N sc X) (ha : PE X x (tD (gOf X) T W a)) (hb : PE X y (tD (gOf X) T W b)) (hm : behindInMarks (copC op) y = false) : PE X (.Compare x [copC op] [y] p) (tD (gOf X) T W (.cmp op a b)) := by
  refine (pe_cmpR (cop_ok op (units_of G)) ha hb hm).imp fun σ H Q ⟨H0, Hf0, Hf, env, sr, r⟩ => ?_
  simp only [ev] at r
  refine tD_step lat_OP sr r fun d v H1 Hf1 _ f1 r1 sr1 q1 => ?_
  refine tD_step lat_OP sr1 q1 fun e w H2 Hf2 _ f2 r2 sr2 q2 => ?_
  exact rD_of sr2.sub (r1.mono f2.f) r2 (cop_ne _ _ _) q2
/-- an operation's bool, as a test -/
theorem rD_ofB {g : G} {W : WE} {σ : St} {Q : Bool → Hp → Prop} {F : D → D → R D} {x y : V} {d e : D} {H Hf : Hp} (sub : Same Hf H) (rx : Rep g Hf x d) (ry : Rep g Hf y e) (hne : ∀ z, F d e ≠ .err z) (h : RG g W σ (BP Q) (asB (F d e)) H Hf) :
    rD g F x y H (fun v H' => ∃ k, v = .bl k ∧ Q k H') := by
  refine ⟨Hf, d, e, sub, rx, ry, ?_⟩
  cases hf : F d e with
  | ok r =>
    rw [hf] at h
    cases r with
    | bl b => exact ⟨_, rfl, fun v H' Hf' f r => by cases r; exact ⟨b, rfl, h H' Hf' f⟩⟩
    | _ => exact h.elim
  | err z => exact absurd hf (hne z)
  | bad => rw [hf] at h; exact h.elim
theorem t_cmp {op : COp} (G : GoodB N sc X) (ha : PE X x (tD (gOf X) T W a)) (hb : PE X y (tD (gOf X) T W b)) (hm : behindInMarks (copC op) y = false) : PT X (.Compare x [copC op] [y] p) (tDT (gOf X) T W (.cmp op a b)) := by
  refine (pt_cmpR (cop_ok op (units_of G)) ha hb hm).imp fun σ H Q ⟨H0, Hf0, Hf, env, sr, r⟩ => ?_
  simp only [evT] at r
  refine tD_step lat_BP sr r fun d v H1 Hf1 _ f1 r1 sr1 q1 => ?_
  refine tD_step lat_BP sr1 q1 fun e w H2 Hf2 _ f2 r2 sr2 q2 => ?_
  exact rD_ofB sr2.sub (r1.mono f2.f) r2 (cop_ne _ _ _) q2
theorem e_isN {ng : Bool} {j : Nat} {p' : Pos} (ha : PE X x (tD (gOf X) T W a)) : PE X (.Compare x [if ng then .IsNot else .Is] [.Constant .none j p'] p) (tD (gOf X) T W (.isN a ng)) := by
  cases ng with
  | false =>
    refine (pe_cmp (pc_isN ha) rfl).imp fun σ H Q ⟨H0, Hf0, Hf, env, sr, r⟩ => ?_
    simp only [ev] at r
    refine tD_step lat_OP sr r fun d v H1 Hf1 _ f1 r1 sr1 q1 => ?_
    rw [isNon_iff r1]
    exact oq_here sr1.sub (.bl _) q1
  | true =>
    refine (pe_cmp (pc_notN ha) rfl).imp fun σ H Q ⟨H0, Hf0, Hf, env, sr, r⟩ => ?_
    simp only [ev] at r
    refine tD_step lat_OP sr r fun d v H1 Hf1 _ f1 r1 sr1 q1 => ?_
    rw [isNon_iff r1]
    exact oq_here sr1.sub (.bl _) q1
theorem t_isN {ng : Bool} {j : Nat} {p' : Pos} (ha : PE X x (tD (gOf X) T W a)) : PT X (.Compare x [if ng then .IsNot else .Is] [.Constant .none j p'] p) (tDT (gOf X) T W (.isN a ng)) := by
  cases ng with
  | false =>
    refine (pt_cmp (pc_isN ha) rfl).imp fun σ H Q ⟨H0, Hf0, Hf, env, sr, r⟩ => ?_
    simp only [evT] at r
    refine tD_step lat_BP sr r fun d v H1 Hf1 _ f1 r1 sr1 q1 => ?_
    rw [isNon_iff r1]
    exact ⟨_, rfl, q1 _ _ (Fut.refl sr1.sub)⟩
  | true =>
    refine (pt_cmp (pc_notN ha) rfl).imp fun σ H Q ⟨H0, Hf0, Hf, env, sr, r⟩ => ?_
    simp only [evT] at r
    refine tD_step lat_BP sr r fun d v H1 Hf1 _ f1 r1 sr1 q1 => ?_
    rw [isNon_iff r1]
    exact ⟨_, rfl, q1 _ _ (Fut.refl sr1.sub)⟩
/-- a comparison whose bool is used at once, with the heap as it is -/
theorem rD_chain {α : Type} {g : G} {W : WE} {σ : St} {P : α → Hp → Hp → Prop} (L : Lat P) {Q : VK} {F : D → D → R D} {k : Bool → R α} {x y : V} {d e : D} {H Hf : Hp} (sub : Same Hf H) (rx : Rep g Hf x d) (ry : Rep g Hf y e) (hne : ∀ z, F d e ≠ .err z) (h : RG g W σ P ((asB (F d e)).bind k) H Hf)
    (nx : ∀ b H1 Hf1, Fut H Hf H1 Hf1 → RG g W σ P (k b) H1 Hf1 → Q (.bl b) H1) : rD g F x y H Q := by
  refine ⟨Hf, d, e, sub, rx, ry, ?_⟩
  cases hf : F d e with
  | ok r =>
    rw [hf] at h
    cases r with
    | bl b => exact ⟨_, rfl, fun v H' Hf' f r => by cases r; exact nx b H' Hf' f (RG.later L h f)⟩
    | _ => exact h.elim
  | err z => exact absurd hf (hne z)
  | bad => rw [hf] at h; exact h.elim
theorem e_chain {op op' : COp} (G : GoodB N sc X) (ha : PE X x (tD (gOf X) T W a)) (hb : PE X y (tD (gOf X) T W b)) (hc : PE X z (tD (gOf X) T W c)) (hm : lastMarks [copC op, copC op'] [y, z] = false) :
    PE X (.Compare x [copC op, copC op'] [y, z] p) (tD (gOf X) T W (.chain op op' a b c)) := by
  refine (pe_chain (cop_ok op (units_of G)) (cop_ok op' (units_of G)) ha hb hc hm).imp fun σ H Q ⟨H0, Hf0, Hf, env, sr, r⟩ => ?_
  simp only [ev] at r
  refine tD_step lat_OP sr r fun d v H1 Hf1 _ f1 r1 sr1 q1 => ?_
  refine tD_step lat_OP sr1 q1 fun e w H2 Hf2 _ f2 r2 sr2 q2 => ?_
  refine rD_chain lat_OP sr2.sub (r1.mono f2.f) r2 (cop_ne _ _ _) q2 fun k H3 Hf3 f3 q3 => ⟨k, rfl, ?_⟩
  cases k with
  | true =>
    rw [if_pos rfl] at q3 ⊢
    refine tD_step lat_OP (sr2.mono f3) q3 fun u w' H4 Hf4 _ f4 r4 sr4 q4 => ?_
    exact rD_of sr4.sub (r2.mono (f3.f.trans f4.f)) r4 (cop_ne _ _ _) q4
  | false =>
    rw [if_neg Bool.false_ne_true] at q3 ⊢
    exact oq_here (sr2.mono f3).sub (.bl _) q3
theorem t_chain {op op' : COp} (G : GoodB N sc X) (ha : PE X x (tD (gOf X) T W a)) (hb : PE X y (tD (gOf X) T W b)) (hc : PE X z (tD (gOf X) T W c)) (hm : lastMarks [copC op, copC op'] [y, z] = false) :
    PT X (.Compare x [copC op, copC op'] [y, z] p) (tDT (gOf X) T W (.chain op op' a b c)) := by
  refine (pt_chain (cop_ok op (units_of G)) (cop_ok op' (units_of G)) ha hb hc hm).imp fun σ H Q ⟨H0, Hf0, Hf, env, sr, r⟩ => ?_
  simp only [evT] at r
  refine tD_step lat_BP sr r fun d v H1 Hf1 _ f1 r1 sr1 q1 => ?_
  refine tD_step lat_BP sr1 q1 fun e w H2 Hf2 _ f2 r2 sr2 q2 => ?_
  refine rD_chain lat_BP sr2.sub (r1.mono f2.f) r2 (cop_ne _ _ _) q2 fun k H3 Hf3 f3 q3 => ⟨k, rfl, ?_⟩
  cases k with
  | true =>
    rw [if_pos rfl] at q3 ⊢
    refine tD_step lat_BP (sr2.mono f3) q3 fun u w' H4 Hf4 _ f4 r4 sr4 q4 => ?_
    exact rD_ofB sr4.sub (r2.mono (f3.f.trans f4.f)) r4 (cop_ne _ _ _) q4
  | false =>
    rw [if_neg Bool.false_ne_true] at q3 ⊢
    exact ⟨false, rfl, q3 _ _ (Fut.refl (sr2.mono f3).sub)⟩
theorem e_and {r : List Expr} (ha : PE X x (tD (gOf X) T W a)) (hb : PE X (.BoolOp .And (y :: r) p) (tD (gOf X) T W b)) : PE X (.BoolOp .And (x :: y :: r) p) (tD (gOf X) T W (.and a b)) := by
  refine (pe_and ha hb).imp fun σ H Q ⟨H0, Hf0, Hf, env, sr, r⟩ => ?_
  simp only [ev] at r
  refine tD_stepB lat_OP sr r fun k H1 Hf1 f1 sr1 q1 => ⟨k, rfl, ?_⟩
  cases k with
  | true => rw [if_pos rfl] at q1 ⊢; exact ⟨H0, Hf0, Hf1, env, sr1, q1⟩
  | false => rw [if_neg Bool.false_ne_true] at q1 ⊢; exact oq_here sr1.sub (.bl _) q1
theorem e_or {r : List Expr} (ha : PE X x (tD (gOf X) T W a)) (hb : PE X (.BoolOp .Or (y :: r) p) (tD (gOf X) T W b)) : PE X (.BoolOp .Or (x :: y :: r) p) (tD (gOf X) T W (.or a b)) := by
  refine (pe_or ha hb).imp fun σ H Q ⟨H0, Hf0, Hf, env, sr, r⟩ => ?_
  simp only [ev] at r
  refine tD_stepB lat_OP sr r fun k H1 Hf1 f1 sr1 q1 => ⟨k, rfl, ?_⟩
  cases k with
  | false => rw [if_neg Bool.false_ne_true] at q1 ⊢; exact ⟨H0, Hf0, Hf1, env, sr1, q1⟩
  | true => rw [if_pos rfl] at q1 ⊢; exact oq_here sr1.sub (.bl _) q1
theorem e_not (ha : PE X x (tD (gOf X) T W a)) : PE X (.UnaryOp .Not x p) (tD (gOf X) T W (.not a)) := by
  refine (pe_not ha).imp fun σ H Q ⟨H0, Hf0, Hf, env, sr, r⟩ => ?_
  simp only [ev] at r
  refine tD_stepB lat_OP sr r fun k H1 Hf1 f1 sr1 q1 => ⟨k, rfl, ?_⟩
  exact oq_here sr1.sub (.bl _) q1
theorem pw_of {op : BoolOp} {xs : List Expr} {t : TT} (h : PT X (.BoolOp op xs p) t) : PW X (.BoolOp op xs p) t := ⟨fun _ pins s σ H Q I q => h.run pins s σ H Q I q⟩
theorem t_and {r : List Expr} (ha : PT X x (tDT (gOf X) T W a)) (hb : PW X (.BoolOp .And (y :: r) p) (tDT (gOf X) T W b)) : PT X (.BoolOp .And (x :: y :: r) p) (tDT (gOf X) T W (.and a b)) := by
  refine (pw_and ha hb).pt.imp fun σ H Q ⟨H0, Hf0, Hf, env, sr, r⟩ => ?_
  simp only [evT] at r
  refine tDT_step lat_BP sr r fun k H1 Hf1 f1 sr1 q1 => ?_
  cases k with
  | true => rw [if_pos rfl] at q1 ⊢; exact ⟨H0, Hf0, Hf1, env, sr1, q1⟩
  | false => rw [if_neg Bool.false_ne_true] at q1 ⊢; exact q1 _ _ (Fut.refl sr1.sub)
theorem t_or {r : List Expr} (ha : PT X x (tDT (gOf X) T W a)) (hb : PW X (.BoolOp .Or (y :: r) p) (tDT (gOf X) T W b)) : PT X (.BoolOp .Or (x :: y :: r) p) (tDT (gOf X) T W (.or a b)) := by
  refine (pw_or ha hb).pt.imp fun σ H Q ⟨H0, Hf0, Hf, env, sr, r⟩ => ?_
  simp only [evT] at r
  refine tDT_step lat_BP sr r fun k H1 Hf1 f1 sr1 q1 => ?_
  cases k with
  | false => rw [if_neg Bool.false_ne_true] at q1 ⊢; exact ⟨H0, Hf0, Hf1, env, sr1, q1⟩
  | true => rw [if_pos rfl] at q1 ⊢; exact q1 _ _ (Fut.refl sr1.sub)
theorem t_not (ha : PT X x (tDT (gOf X) T W a)) : PT X (.UnaryOp .Not x p) (tDT (gOf X) T W (.not a)) := by
  refine (pt_not ha).imp fun σ H Q ⟨H0, Hf0, Hf, env, sr, r⟩ => ?_
  simp only [evT] at r
  refine tDT_step lat_BP sr r fun k H1 Hf1 f1 sr1 q1 => ?_
  exact q1 _ _ (Fut.refl sr1.sub)
theorem e_ife (hc : PT X z (tDT (gOf X) T W c)) (ha : PE X x (tD (gOf X) T W a)) (hb : PE X y (tD (gOf X) T W b)) : PE X (.IfExp z x y p) (tD (gOf X) T W (.ife c a b)) := by
  refine (pe_ifExp hc ha hb).imp fun σ H Q ⟨H0, Hf0, Hf, env, sr, r⟩ => ?_
  simp only [ev] at r
  refine tDT_step lat_OP sr r fun k H1 Hf1 f1 sr1 q1 => ?_
  cases k with
  | true => rw [if_pos rfl] at q1 ⊢; exact ⟨H0, Hf0, Hf1, env, sr1, q1⟩
  | false => rw [if_neg Bool.false_ne_true] at q1 ⊢; exact ⟨H0, Hf0, Hf1, env, sr1, q1⟩
theorem e_tup {xs : List Expr} (ha : PA X xs (tDA (gOf X) T W a)) : PE X (.Tuple xs k p) (tD (gOf X) T W (.tup a)) := by
  refine (pe_tup ha).imp fun σ H Q ⟨H0, Hf0, Hf, env, sr, r⟩ => ?_
  simp only [ev] at r
  refine tDA_step lat_OP sr r fun ds vs H1 Hf1 f1 r1 sr1 q1 => ?_
  obtain ⟨hl, q2⟩ := ifr q1
  exact ⟨by rw [r1.length]; exact okLen_iff hl, oq_tup sr1.sub r1 q2⟩
theorem e_lst {xs : List Expr} (ha : PA X xs (tDA (gOf X) T W a)) : PE X (.List xs p) (tDX (gOf X) T W (.lst a)) := by
  refine (pe_lst ha).imp fun σ H Q ⟨H0, Hf0, Hf, env, sr, r⟩ => ?_
  simp only [ev] at r
  refine tDA_step lat_XP sr r fun ds vs H1 Hf1 f1 r1 sr1 q1 => ?_
  obtain ⟨hl, q2⟩ := ifr q1
  exact ⟨by rw [r1.length]; exact okLen_iff hl, fq_lst sr1.sub r1 q2⟩
theorem a_nil : PA X [] (tDA (gOf X) T W .nil) := pa_nil.imp fun σ H Q ⟨H0, Hf0, Hf, env, sr, r⟩ => by
  simp only [evs] at r
  exact r [] H Hf (Fut.refl sr.sub) .nil
theorem a_cons {xs : List Expr} (ha : PE X x (tD (gOf X) T W a)) (hb : PA X xs (tDA (gOf X) T W b)) (hs : staB x = false) : PA X (x :: xs) (tDA (gOf X) T W (.cons a b)) := by
  refine (pa_cons ha hb (star_of hs)).imp fun σ H Q ⟨H0, Hf0, Hf, env, sr, r⟩ => ?_
  simp only [evs] at r
  refine tD_step lat_AP sr r fun d v H1 Hf1 _ f1 r1 sr1 q1 => ?_
  refine tDA_step lat_AP sr1 q1 fun ds vs H2 Hf2 f2 r2 sr2 q2 => ?_
  exact q2 _ _ _ (Fut.refl sr2.sub) (.cons (r1.mono f2.f) r2)
theorem p_nil : PO X none (tDP (gOf X) T W .nil) := po_none.imp fun σ H Q ⟨H0, Hf0, Hf, env, sr, r⟩ => by
  simp only [evP] at r
  exact r H Hf (Fut.refl sr.sub)
theorem p_some (ha : PE X x (tD (gOf X) T W a)) : PO X (some x) (tDP (gOf X) T W (.cons a .nil)) := by
  refine (po_some ha).imp fun σ H Q ⟨H0, Hf0, Hf, env, sr, r⟩ => ?_
  simp only [evP] at r
  refine tD_step lat_PP sr r fun d v H1 Hf1 _ f1 r1 sr1 q1 => ?_
  cases r1 <;> first | exact q1.elim | exact ⟨_, rfl, q1 _ _ (Fut.refl sr1.sub)⟩
theorem e_ix (ha : PE X x (tD (gOf X) T W a)) (hb : PE X y (tD (gOf X) T W b)) (hs : slB y = false) : PE X (.Subscript x y p) (tD (gOf X) T W (.ix a b)) := by
  refine (pe_ix ix_ok ha hb (plain_of hs)).imp fun σ H Q ⟨H0, Hf0, Hf, env, sr, r⟩ => ?_
  simp only [ev] at r
  refine tD_step lat_OP sr r fun d v H1 Hf1 _ f1 r1 sr1 q1 => ?_
  refine tD_step lat_OP sr1 q1 fun e w H2 Hf2 _ f2 r2 sr2 q2 => ?_
  exact rD_of sr2.sub (r1.mono f2.f) r2 (ixD_ne _ _) q2
theorem e_sl {l h : Option Expr} {p2 : Pos} (ha : PE X x (tD (gOf X) T W a)) (hb : PO X l (tDP (gOf X) T W b)) (hc : PO X h (tDP (gOf X) T W c)) : PE X (.Subscript x (.Slice l h none p2) p) (tDX (gOf X) T W (.sl a b c)) := by
  refine (pe_slice sl_ok ha hb hc).imp fun σ H Q ⟨H0, Hf0, Hf, env, sr, r⟩ => ?_
  simp only [ev] at r
  refine tD_step lat_XP sr r fun d v H1 Hf1 _ f1 r1 sr1 q1 => ?_
  refine tDP_step lat_XP sr1 q1 fun l' H2 Hf2 f2 sr2 q2 => ?_
  refine tDP_step lat_XP sr2 q2 fun h' H3 Hf3 f3 sr3 q3 => ?_
  refine ⟨Hf3, d, sr3.sub, r1.mono (f2.f.trans f3.f), ?_⟩
  cases hs : slD d l' h' with
  | ok r => rw [hs] at q3; exact ⟨r, rfl, q3⟩
  | err w => exact absurd hs (slD_ne _ _ _ _)
  | bad => rw [hs] at q3; exact q3.elim
theorem stars_of {e : PySem.Env} {p : Pos} : ∀ (l : List Expr), (∀ y ∈ l, staB y = false) → (backTo p (starEach l e)).any (·.1) = false
  | [], _ => rfl
  | w :: ws, h => by
    rw [star_of (h w List.mem_cons_self)]
    exact stars_of ws fun y hy => h y (List.mem_cons_of_mem _ hy)
/-- a call of a def or class of the module -/
theorem call_of {z : Str × Fn} (G : GoodM N sc n T.hm X) (K : Know (gOf X) n T) (hz : z ∈ T.fn) : ∃ f, X.mg z.1 = some (.ref f) ∧ PySem.W.keepIn X.K (.ref f) = true ∧ ∀ (W : WE), Takes X W → ∀ (pins : List (Addr × Obj)) (s : Shared) (σ : St) (H Hf : Hp) (Q : VK) (us : List Value) (vs : List V) (ds : List D),
    Inv X pins σ H s → Vals vs us → Same Hf H → TbOk (gOf X) H Hf → Reps (gOf X) Hf vs ds → RG (gOf X) W σ (OP (gOf X) Q) (z.2 ds) H Hf → wpAny (model X.prog X.w) X.A (call (.ref f) us) (EP X pins σ Q) X.xe s := by
  cases hh : T.hm with
  | false =>
    obtain ⟨f, h1, h2, h3⟩ := (K.fn hh z hz).ex
    exact ⟨f, h1, h2, fun W tk => h3 X rfl (G.calmR hh).2 W tk⟩
  | true =>
    obtain ⟨f, h1, h2, h3⟩ := (K.fh hh z hz).ex
    exact ⟨f, h1, h2, fun W tk => h3 X rfl (G.hot hh) W tk⟩
theorem e_call0 {j : Nat} {s : Str} {q : Pos} (G : GoodM N sc n T.hm X) (tk : Takes X W) (K : Know (gOf X) n T) (h1 : (T.fn[j]?).map (·.1) = some s) (h2 : glB sc s = true) (h3 : nmB s = true) :
    PE X (.Call (.Name s q) [] [] p) (tD (gOf X) T W (.call j .nil)) := by
  obtain ⟨d1, d2, _⟩ := nm_of h3
  cases hg : T.fn[j]? with
  | none => rw [hg] at h1; cases h1
  | some z =>
    obtain ⟨s', F⟩ := z
    rw [hg] at h1; cases h1
    obtain ⟨f, hm, hk, run⟩ := call_of G K (List.mem_of_getElem? hg)
    refine ⟨fun pins st σ H Q I ⟨H0, Hf0, Hf, env, sr, r⟩ => ?_⟩
    simp only [ev, hg, evs, R.bind_ok] at r
    refine PySem.wpAny_Call_Name_kw (ld_glob I (gl_of G.toGoodB h2) hm ?_ d1)
    exact PySem.W.callWith_K0 I.kIn hk (run W tk pins st σ H Hf Q [] [] [] I .nil sr.sub sr.tb .nil r)
theorem e_call {j : Nat} {s : Str} {y : Expr} {ys : List Expr} {q : Pos} (G : GoodM N sc n T.hm X) (tk : Takes X W) (K : Know (gOf X) n T) (h1 : (T.fn[j]?).map (·.1) = some s) (h2 : glB sc s = true) (h3 : nmB s = true) (ha : PA X (y :: ys) (tDA (gOf X) T W a)) (hs : ∀ z ∈ y :: ys, staB z = false) :
    PE X (.Call (.Name s q) (y :: ys) [] p) (tD (gOf X) T W (.call j a)) := by
  obtain ⟨d1, d2, _⟩ := nm_of h3
  cases hg : T.fn[j]? with
  | none => rw [hg] at h1; cases h1
  | some z =>
    obtain ⟨s', F⟩ := z
    rw [hg] at h1; cases h1
    obtain ⟨f, hm, hk, run⟩ := call_of G K (List.mem_of_getElem? hg)
    refine ⟨fun pins st σ H Q I ⟨H0, Hf0, Hf, env, sr, r⟩ => ?_⟩
    simp only [ev, hg] at r
    refine PySem.wpAny_Call_Name_kw (ld_glob I (gl_of G.toGoodB h2) hm ?_ d1)
    refine PySem.W.callWith_K (h₀ := X.base) I.ok.mod.kin hk (thn (ha.run p pins st σ H (fun vs H1 => ∃ Hf1 ds, Same Hf1 H1 ∧ TbOk (gOf X) H1 Hf1 ∧ Reps (gOf X) Hf1 vs ds ∧ RG (gOf X) W σ (OP (gOf X) Q) (F ds) H1 Hf1) I
      (tDA_step lat_OP sr r fun ds vs H1 Hf1 f1 r1 sr1 q1 => ⟨Hf1, ds, sr1.sub, sr1.tb, r1, q1⟩)) fun us s1 ⟨vs, H1, I1, rv, Hf1, ds, sub, tb, rr, q⟩ => ⟨I1.kIn, run W tk pins s1 σ H1 Hf1 Q us vs ds I1 rv sub tb rr q⟩) (star_of (hs y List.mem_cons_self)) ?_
    exact stars_of ys fun y hy => hs y (List.mem_cons_of_mem _ hy)
end
end Rf
/-! # Rf6: built-ins, fields, methods, walks, comprehensions -/
namespace Rf
open PySem PySem.Spec L2

def biV : Bi → Value := fun b => match b.kd with | .fn id => .builtin id | .ty n => .type n | .mod id => .builtin id
def rBi (g : G) (b : Bi) : List V → Hp → VK → Prop := fun vs H Q => ∃ Hf ds, Same Hf H ∧ Reps g Hf vs ds ∧ ∃ r, biF b ds = .ok r ∧ XP g Q r H Hf
theorem biF_ne (b : Bi) (ds : List D) (z : Exn) : biF b ds ≠ .err z := by
  unfold biF
  split <;> first | (intro h; cases h; done) | (split <;> (intro h; cases h))
theorem reps1 {g : G} {H : Hp} {vs : List V} {d : D} (r : Reps g H vs [d]) : ∃ v, vs = [v] ∧ Rep g H v d := by
  cases r with
  | cons r t => cases t; exact ⟨_, rfl, r⟩
theorem reps2 {g : G} {H : Hp} {vs : List V} {d e : D} (r : Reps g H vs [d, e]) : ∃ v w, vs = [v, w] ∧ Rep g H v d ∧ Rep g H w e := by
  cases r with
  | cons r t => obtain ⟨w, rfl, q⟩ := reps1 t; exact ⟨_, _, rfl, r, q⟩
theorem rep_int {g : G} {H : Hp} {v : V} {i : Int} (r : Rep g H v (.int i)) : v = .int i := by cases r; rfl
section
variable {X : Cx}
theorem log2_lt {n k : Nat} (h : n < 2 ^ k) (hk : 0 < k) : n.log2 < k := by
  by_cases z : n = 0
  · subst z; simpa using hk
  · exact (Nat.log2_lt z).mpr h
theorem lt_log2 {n k : Nat} (h : n.log2 < k) : n < 2 ^ k := by
  by_cases z : n = 0
  · subst z; exact Nat.pow_pos (by decide)
  · exact (Nat.log2_lt z).mp h
theorem cr_lcm : CallR X (.builtin "math.lcm") (fun vs H Q => ∃ a b : Int, vs = [.int a, .int b] ∧ okLcm a b = true ∧ Q (.int ((Nat.lcm a.natAbs b.natAbs : Nat) : Int)) H) := by
  intro pins s σ H vs us Q I r h
  obtain ⟨a, b, rfl, hz, q⟩ := h
  obtain ⟨t, u, rfl⟩ := Vals.int2 r
  unfold okLcm at hz
  rw [Bool.and_eq_true] at hz
  have h1 := of_decide_eq_true hz.1
  have h2 := of_decide_eq_true hz.2
  have e1 : Nat.lcm 1 a.natAbs = a.natAbs := Nat.lcm_one_left _
  have m1 : (max 1 a.natAbs).log2 < 13000 := by
    rcases Nat.le_total 1 a.natAbs with z | z
    · rw [Nat.max_eq_right z]; exact h1
    · rw [Nat.max_eq_left z]; decide
  have m2 : (max a.natAbs b.natAbs).log2 < 13000 := by
    rcases Nat.le_total a.natAbs b.natAbs with z | z
    · rw [Nat.max_eq_right z]; exact h2
    · rw [Nat.max_eq_left z]; exact h1
  have big : ((((Nat.lcm 1 a.natAbs).lcm b.natAbs : Nat) : Int)).natAbs.log2 < bitsLine := by
    rw [e1, Int.natAbs_natCast, PySem.bitsLine_eq]
    refine Nat.lt_of_lt_of_le (log2_lt (k := 26000) ?_ (by decide)) (by decide)
    have l1 := lt_log2 h1
    have l2 := lt_log2 h2
    have l3 : a.natAbs.lcm b.natAbs ≤ a.natAbs * b.natAbs := Nat.div_le_self _ _
    refine Nat.lt_of_le_of_lt l3 ?_
    have e : (2 : Nat) ^ 26000 = 2 ^ 13000 * 2 ^ 13000 := by rw [← Nat.pow_add]
    rw [e]
    exact Nat.mul_lt_mul'' l1 l2
  refine PySem.call_function_meets PySem.W.MGF.kind_lcm PySem.W.MGF.plain_lcm PySem.W.MGF.entry_lcm (PySem.W.MGF.args_lcm _ _) (PySem.W.mg_run_lcm a t b u (by omega) (by omega) big).meets ?_
  rw [e1]
  exact ⟨.int _, H, I.tok _, ⟨_, rfl⟩, q⟩
theorem bi_ok (hc : X.calm = true) (b : Bi) : CallR X (biV b) (rBi (gOf X) b) := by
  intro pins s σ H vs us Q I rv h
  obtain ⟨Hf, ds, sub, rr, r, er, q⟩ := h
  cases b with
  | abs =>
    unfold biF at er
    split at er <;> first | cases er | skip
    all_goals (rename_i hb; first | cases hb | skip)
    obtain ⟨v, rfl, r1⟩ := reps1 rr
    cases r1
    exact call_abs pins s σ H _ us Q I rv ⟨_, rfl, oq_here sub (.int _) q⟩
  | int =>
    unfold biF at er
    split at er <;> first | cases er | skip
    all_goals (rename_i hb; first | cases hb | skip)
    all_goals (obtain ⟨v, rfl, r1⟩ := reps1 rr; cases r1)
    · exact call_int1 pins s σ H _ us Q I rv (.inl ⟨_, rfl, oq_here sub (.int _) q⟩)
    · exact call_int1 pins s σ H _ us Q I rv (.inr ⟨_, rfl, oq_here sub (.int _) q⟩)
  | len =>
    unfold biF at er
    split at er <;> first | cases er | skip
    all_goals (rename_i hb; first | cases hb | skip)
    all_goals (obtain ⟨v, rfl, r1⟩ := reps1 rr)
    · cases r1 with
      | lst h1 r2 => exact call_len_seq pins s σ H _ us Q I rv ⟨_, _, rfl, .inl ((lsq (same_rd sub h1))), by rw [r2.length]; exact oq_here sub (.int _) q⟩
    · cases r1 with
      | tup h1 r2 => exact call_len_seq pins s σ H _ us Q I rv ⟨_, _, rfl, .inr (same_sqT sub h1), by rw [r2.length]; exact oq_here sub (.int _) q⟩
  | list =>
    unfold biF at er
    split at er <;> first | cases er | skip
    all_goals (rename_i hb; first | cases hb | skip)
    all_goals (obtain ⟨v, rfl, r1⟩ := reps1 rr)
    · cases r1 with
      | lst h1 r2 => exact call_list_of pins s σ H _ us Q I rv ⟨_, _, rfl, .inl ((lsq (same_rd sub h1))), fq_lst sub r2 q⟩
    · cases r1 with
      | tup h1 r2 => exact call_list_of pins s σ H _ us Q I rv ⟨_, _, rfl, .inr (same_sqT sub h1), fq_lst sub r2 q⟩
  | tuple =>
    unfold biF at er
    split at er <;> first | cases er | skip
    all_goals (rename_i hb; first | cases hb | skip)
    all_goals (obtain ⟨v, rfl, r1⟩ := reps1 rr)
    · cases r1 with
      | lst h1 r2 => exact call_tuple_of pins s σ H _ us Q I rv ⟨_, _, rfl, .inl ⟨(lsq (same_rd sub h1)), oq_tup sub r2 q⟩⟩
    · cases r1 with
      | tup h1 r2 => exact call_tuple_of pins s σ H _ us Q I rv ⟨_, _, rfl, .inr ⟨same_sqT sub h1, oq_here sub (.tup h1 r2) q⟩⟩
  | min2 =>
    unfold biF at er
    split at er <;> first | cases er | skip
    all_goals (rename_i hb; first | cases hb | skip)
    obtain ⟨v, w, rfl, r1, r2⟩ := reps2 rr
    cases r1; cases r2
    exact call_min2 hc pins s σ H _ us Q I rv ⟨_, _, rfl, oq_here sub (.int _) q⟩
  | max2 =>
    unfold biF at er
    split at er <;> first | cases er | skip
    all_goals (rename_i hb; first | cases hb | skip)
    obtain ⟨v, w, rfl, r1, r2⟩ := reps2 rr
    cases r1; cases r2
    exact call_max2 hc pins s σ H _ us Q I rv ⟨_, _, rfl, oq_here sub (.int _) q⟩
  | gcd =>
    unfold biF at er
    split at er <;> first | cases er | skip
    all_goals (rename_i hb; first | cases hb | skip)
    obtain ⟨v, w, rfl, r1, r2⟩ := reps2 rr
    cases r1; cases r2
    exact cr_gcd pins s σ H _ us Q I rv ⟨_, _, rfl, oq_here sub (.int _) q⟩
  | lcm =>
    unfold biF at er
    split at er <;> first | cases er | skip
    all_goals (rename_i hb; first | cases hb | skip)
    obtain ⟨v, w, rfl, r1, r2⟩ := reps2 rr
    cases r1; cases r2
    split at er
    · rename_i hz
      cases er
      exact cr_lcm pins s σ H _ us Q I rv ⟨_, _, rfl, hz, oq_here sub (.int _) q⟩
    · cases er
/-- isinstance of data with a built-in class -/
theorem tyX_of {Hf H : Hp} {v : V} {d : D} {t : String} (sub : Same Hf H) (r : Rep (gOf X) Hf v d) (h : tyD d = some t) : TyX X.K H v (.type t) := by
  cases r with
  | non => cases h; exact .base .non
  | bl b => cases h; exact .base (.bl b)
  | int b => cases h; exact .base (.int b)
  | str b => cases h; exact .base (.str b)
  | lst h1 r1 =>
    cases h
    rcases same_rd sub h1 with (z | ⟨o, z⟩) | ⟨its, n, hk, _, _⟩
    · exact .base (.lst z)
    · exact .base (.frz z)
    · exact .kList hk rfl
  | tup h1 r1 =>
    cases h
    rcases same_sqT sub h1 with (z | ⟨o, z⟩) | ⟨o, its, n, hk, hc, _⟩
    · exact .base (.tup z)
    · exact .fTuple z
    · exact .kTuple hk hc
  | obj _ _ _ => cases h
  | exc0 _ _ _ => cases h
  | excD _ _ _ _ _ => cases h
theorem isiB_ne (t : Ty) (d : D) (z : Exn) : isiB t d ≠ .err z := by
  unfold isiB
  split <;> (intro h; cases h)
theorem isiB_ok {t : Ty} {d : D} {b : Bool} (h : isiB t d = .ok b) : ∃ s, tyD d = some s ∧ kitB s t.st = some b := by
  cases t <;> cases d <;> simp only [isiB, R.ok.injEq, reduceCtorEq] at h <;> subst h <;> exact ⟨_, rfl, by decide +kernel⟩
end

section
variable {X : Cx} {N : List Str} {sc : Scope} {n : Nat} {T : Tb} {W : WE} {a b c : E} {x y z : Expr} {p : Pos} {k : Nat}
theorem bi_names (b : Bi) : match b.kd with | .fn id => bootBuiltins b.nm = some (.builtin id) | .ty t => bootBuiltins b.nm = some (.type t) | .mod _ => True := by
  cases b <;> first | exact trivial | (dsimp only [Bi.kd, Bi.nm]; decide +kernel)
theorem bi_nm (b : Bi) : nmB b.nm = true := by cases b <;> decide +kernel
theorem e_bi {b : Bi} {q : Pos} {xs : List Expr} (G : Good N sc n X) (K : Know (gOf X) n T) (h1 : (match b.kd with | .mod id => decide ((b.nm, id) ∈ T.md) | _ => decide (b.nm ∈ T.bn)) = true) (h2 : glB sc b.nm = true) (ha : PA X (x :: xs) (tDA (gOf X) T W a)) (hs : ∀ z ∈ x :: xs, staB z = false) :
    PE X (.Call (.Name b.nm q) (x :: xs) [] p) (tDX (gOf X) T W (.bi b a)) := by
  obtain ⟨d1, d2, d3⟩ := nm_of (bi_nm b)
  have st : starEach (x :: xs) X.env = (false, eval x X.env) :: starEach xs X.env := star_of (hs x List.mem_cons_self)
  have pl : (backTo p (starEach xs X.env)).any (·.1) = false := stars_of xs fun y hy => hs y (List.mem_cons_of_mem _ hy)
  have gl := gl_of G.toGoodB h2
  have rule := bi_ok G.calm b
  have nms := bi_names b
  have key : PE X (.Call (.Name b.nm q) (x :: xs) [] p) (tCB (rBi (gOf X) b) (tDA (gOf X) T W a)) := by
    unfold biV at rule
    cases hk : b.kd with
    | fn id =>
      rw [hk] at rule nms h1
      exact pe_callB rule gl (K.bn _ (of_decide_eq_true h1)) nms ha d3 d1 st pl
    | ty t =>
      rw [hk] at rule nms h1
      exact pe_callTy rule gl (K.bn _ (of_decide_eq_true h1)) nms ha d3 d1 st pl
    | mod id =>
      rw [hk] at rule nms h1
      exact pe_callBfun rule gl (K.md _ (of_decide_eq_true h1)) ha d1 st pl
  refine key.imp fun σ H Q ⟨H0, Hf0, Hf, env, sr, r⟩ => ?_
  simp only [ev] at r
  refine tDA_step lat_XP sr r fun ds vs H1 Hf1 f1 r1 sr1 q1 => ?_
  refine ⟨Hf1, ds, sr1.sub, r1, ?_⟩
  cases hf : biF b ds with
  | ok r => rw [hf] at q1; exact ⟨r, rfl, q1⟩
  | err z => exact absurd hf (biF_ne _ _ _)
  | bad => rw [hf] at q1; exact q1.elim
theorem ty_names (t : Ty) : bootBuiltins t.nm = some (.type t.st) := by cases t <;> decide +kernel
theorem ty_nm (t : Ty) : nmB t.nm = true := by cases t <;> decide +kernel
theorem isi_key {t : Ty} {q q2 : Pos} (G : GoodB N sc X) (K : Know (gOf X) n T) (h1 : ("isinstance" : Str) ∈ T.bn) (h2 : t.nm ∈ T.bn) (h3 : glB sc "isinstance" = true) (h4 : glB sc t.nm = true) (ha : PE X x (tD (gOf X) T W a)) (hs : staB x = false) :
    PE X (.Call (.Name "isinstance" q) [x, .Name t.nm q2] [] p) (tCB (rIsi X.K) (tCons (tD (gOf X) T W a) (tCons (tC (.ty t.st)) tNil))) := by
  obtain ⟨d1, _, d3⟩ := nm_of (ty_nm t)
  exact pe_callB call_isi (gl_of G h3) (K.bn _ h1) (by decide +kernel) (pa_cons ha (pa_cons (pe_bltn (gl_of G h4) (K.bn _ h2) (ty_names t) rfl d3 d1) pa_nil (star_of rfl)) (star_of hs)) (by decide +kernel) (by decide +kernel) (star_of hs)
    (by rw [star_of rfl]; rfl)
theorem e_isi {t : Ty} {q q2 : Pos} (G : GoodB N sc X) (K : Know (gOf X) n T) (h1 : ("isinstance" : Str) ∈ T.bn) (h2 : t.nm ∈ T.bn) (h3 : glB sc "isinstance" = true) (h4 : glB sc t.nm = true) (ha : PE X x (tD (gOf X) T W a)) (hs : staB x = false) :
    PE X (.Call (.Name "isinstance" q) [x, .Name t.nm q2] [] p) (tD (gOf X) T W (.isi a t)) := by
  refine (isi_key G K h1 h2 h3 h4 ha hs).imp fun σ H Q ⟨H0, Hf0, Hf, env, sr, r⟩ => ?_
  simp only [ev] at r
  refine tD_step lat_OP sr r fun d v H1 Hf1 _ f1 r1 sr1 q1 => ?_
  cases hb : isiB t d with
  | ok b =>
    rw [hb] at q1
    obtain ⟨s, h5, h6⟩ := isiB_ok hb
    exact ⟨_, _, _, _, b, rfl, .ty _, tyX_of sr1.sub r1 h5, kit_ty h6, oq_here sr1.sub (.bl b) q1⟩
  | err z => exact absurd hb (isiB_ne _ _ _)
  | bad => rw [hb] at q1; exact q1.elim
theorem hx_mem {p : Addr × Obj} (h : (gOf X).hx = some p) : p ∈ X.pn := by
  have h' : hxB X.calm X.pn = some p := h
  unfold hxB at h'
  split at h'
  · cases h'
  · cases hp : X.pn with
    | nil => rw [hp] at h'; cases h'
    | cons q r => rw [hp] at h'; cases h'; exact List.mem_cons_self
theorem hx_fields (hh : HotX n X) {p : Addr × Obj} (h : (gOf X).hx = some p) : ∃ vs, p.2.data = .fields vs := by
  obtain ⟨q, r, e, hv⟩ := hh.pin
  have h' : hxB X.calm X.pn = some p := h
  rw [hh.cold, e] at h'
  have h2 : some q = some p := h'
  cases h2
  exact hv
/-- isinstance of an error -/
def rXi (K : PySem.W.Frag) (pn : List (Addr × Obj)) : List V → Hp → VK → Prop := fun xs H Q => ∃ (D a : Addr) (oe : Obj), (a, oe) ∈ pn ∧ L2.ExcC K D ∧ oe.cls = .ref D ∧ (∃ vs, oe.data = .fields vs) ∧ rIsX K D a oe xs H Q
theorem call_xi : CallR X (.builtin "isinstance") (rXi X.K X.pn) := fun pins s σ H xs us Q I r ⟨D, a, oe, h1, h2, h3, h4, h5⟩ => call_isX h1 h2 h3 h4 pins s σ H xs us Q I r h5
theorem isxD_ne (xi : List (Str × List (Str × Bool))) (j : Nat) (d : D) (z : Exn) : isxD xi j d ≠ .err z := by
  unfold isxD
  split <;> (try split) <;> (try split) <;> (intro h; cases h)
theorem e_isx {j : Nat} {c : Str} {q q2 : Pos} (hh : HotX n X) (G : GoodB N sc X) (K : Know (gOf X) n T) (h1 : ("isinstance" : Str) ∈ T.bn) (h2 : (T.xi[j]?).map (·.1) = some c) (h3 : glB sc "isinstance" = true) (h4 : glB sc c = true) (h5 : nmB c = true) (ha : PE X x (tD (gOf X) T W a)) (hs : staB x = false) :
    PE X (.Call (.Name "isinstance" q) [x, .Name c q2] [] p) (tD (gOf X) T W (.isx a j)) := by
  obtain ⟨d1, _, d3⟩ := nm_of h5
  cases hz : T.xi[j]? with
  | none => rw [hz] at h2; cases h2
  | some z =>
    obtain ⟨c', tb⟩ := z
    rw [hz] at h2; cases h2
    obtain ⟨cv, v, rv, uv, hn, hall⟩ := (K.xi _ (List.mem_of_getElem? hz)).ex
    have hc : PE X (.Name c' q2) (tC v) := by
      rcases hn with hm | ⟨hm, t, rfl, rfl, hb⟩
      · exact pe_glob (gl_of G h4) hm rv d1
      · exact pe_bltn (gl_of G h4) hm hb rfl d3 d1
    refine (pe_callB call_xi (gl_of G h3) (K.bn _ h1) (by decide +kernel) (pa_cons ha (pa_cons hc pa_nil (star_of rfl)) (star_of hs)) (by decide +kernel) (by decide +kernel) (star_of hs) (by rw [star_of rfl]; rfl)).imp fun σ H Q ⟨H0, Hf0, Hf, env, sr, r⟩ => ?_
    simp only [ev] at r
    refine tD_step lat_OP sr r fun d w H1 Hf1 _ f1 r1 sr1 q1 => ?_
    cases hb : isxD T.xi j d with
    | err z => exact absurd hb (isxD_ne _ _ _ _)
    | bad => rw [hb] at q1; exact q1.elim
    | ok e =>
      rw [hb] at q1
      unfold isxD at hb
      split at hb
      · rename_i ce fse _hev
        rw [hz] at hb
        simp only at hb
        cases hl : tb.lookup ce with
        | none => rw [hl] at hb; cases hb
        | some b =>
          rw [hl] at hb
          cases hb
          obtain ⟨D, hD1, hD2, hD3⟩ := hall (ce, b) (PySem.mem_of_lookup hl)
          cases r1 with
          | exc0 e1 e2 e3 =>
            rw [hD1] at e2
            exact (show rXi X.K X.pn [.ref _, v] H1 Q from ⟨D, _, _, hx_mem e1, hD2, (Option.some.inj e2).symm, hx_fields hh e1, v, cv, b, rfl, uv, hD3, (fun dd z => by rw [e3] at z; cases z), oq_here sr1.sub (.bl b) q1⟩)
          | excD e1 e2 e3 e4 e5 =>
            rw [hD1] at e2
            exact (show rXi X.K X.pn [.ref _, v] H1 Q from ⟨D, _, _, hx_mem e1, hD2, (Option.some.inj e2).symm, hx_fields hh e1, v, cv, b, rfl, uv, hD3, (fun dd z => by rw [e3] at z; cases z; exact ⟨_, sr1.sub _ _ e4⟩), oq_here sr1.sub (.bl b) q1⟩)
      · cases hb
/-- by its value: what is no not, and, or, comparison -/
def plainT : Expr → Bool
  | .UnaryOp .Not _ _ => false | .BoolOp _ _ _ => false | .IfExp _ _ _ _ => false | .Compare _ _ _ _ => false | _ => true
theorem t_plain {e : E} (h : plainT x = true) (he : ∀ env, evT T e env = (ev T e env).bind truD) (ha : PE X x (tD (gOf X) T W e)) : PT X x (tDT (gOf X) T W e) := by
  refine (pt_truth ha ?_).imp fun σ H Q ⟨H0, Hf0, Hf, env, sr, r⟩ => ?_
  · intro w
    cases x with
    | UnaryOp op e p => cases op <;> first | rfl | cases h
    | BoolOp _ _ _ => cases h
    | IfExp _ _ _ _ => cases h
    | Compare _ _ _ _ => cases h
    | _ => rfl
  · rw [he] at r
    refine tD_step lat_BP sr r fun d v H1 Hf1 _ f1 r1 sr1 q1 => ?_
    cases hb : truD d with
    | ok b => rw [hb] at q1; exact ⟨b, tru_rep sr1.sub r1 hb, q1 _ _ (Fut.refl sr1.sub)⟩
    | err z => unfold truD at hb; split at hb <;> cases hb
    | bad => rw [hb] at q1; exact q1.elim
theorem e_att {f : Str} (K : Know (gOf X) n T) (ha : PE X x (tD (gOf X) T W a)) (hs : calB x = false) : PE X (.Attribute x f p) (tD (gOf X) T W (.att a f)) := by
  refine (pe_fld ha ?_).imp fun σ H Q ⟨H0, Hf0, Hf, env, sr, r⟩ => ?_
  · cases x <;> first | rfl | cases hs
  · simp only [ev] at r
    refine tD_step lat_OP sr r fun d v H1 Hf1 _ f1 r1 sr1 q1 => ?_
    cases r1 with
    | @obj aa C dx cc fs gs hm ha hf =>
      simp only [fldD] at q1
      obtain ⟨hin, q2⟩ := ifr q1
      obtain ⟨C', hm', cl, na⟩ := K.at_ _ hin
      have : C' = C := by
        have e : some (Value.ref C') = some (Value.ref C) := hm'.symm.trans hm
        cases e; rfl
      subst this
      cases hl : gs.lookup f with
      | none => rw [hl] at q2; exact q2.elim
      | some d' =>
        rw [hl] at q2
        obtain ⟨u, hu, ru⟩ := hf.lookup hl
        exact ⟨_, _, _, _, u, rfl, sr1.sub _ _ ha, cl, na, hu, oq_here sr1.sub ru q2⟩
    | _ => exact q1.elim
theorem lst_at {g : G} {H0 Hf0 H Hf : Hp} {σ : St} {env : Env} {i : Nat} {ds : List D} (sr : SR g H0 Hf0 σ H Hf env) (h : getL env i = .ok ds) : ∃ p vs, σ[i]? = some (some (.ref p)) ∧ LsK g.K H p vs ∧ Reps g Hf vs ds := by
  unfold getL at h
  split at h
  · rename_i xs he
    cases h
    obtain ⟨v, hσ, z⟩ := sr.slot i _ he
    cases z with
    | o hp hf h0 q => exact ⟨_, _, hσ, .of hp, q⟩
  · rename_i xs he
    cases h
    obtain ⟨v, hσ, z⟩ := sr.slot i _ he
    cases z with
    | v q => cases q with
      | lst h1 r1 => exact ⟨_, _, hσ, same_rd sr.sub h1, r1⟩
  · cases h
/-- a list of one's own, read at a place -/
theorem e_oix {i : Nat} {s : Str} {q : Pos} (G : GoodB N sc X) (h1 : N[i]? = some s) (h2 : visB sc s = true) (h3 : nmB s = true) (hb : PE X y (tD (gOf X) T W b)) (hs : slB y = false) : PE X (.Subscript (.Name s q) y p) (tD (gOf X) T W (.oix i b)) := by
  obtain ⟨d1, d2, _⟩ := nm_of h3
  refine (pe_ix ix_list (pe_var (i := i) (by rw [G.eN]; exact h1) (G.vis _ h2) d1 d2) hb (plain_of hs)).imp fun σ H Q ⟨H0, Hf0, Hf, env, sr, r⟩ => ?_
  simp only [ev] at r
  cases hg : getL env i with
  | bad => rw [hg] at r; exact r.elim
  | err z => unfold getL at hg; split at hg <;> cases hg
  | ok ds =>
    rw [hg] at r
    simp only [R.bind_ok] at r
    obtain ⟨pp, vs, hv, hp, rr⟩ := lst_at sr hg
    refine ⟨_, hv, ?_⟩
    refine tD_step lat_OP sr (k := fun y => ixD (.lst ds) y) r fun d w H1 Hf1 _ f1 r1 sr1 q1 => ?_
    cases r1 with
    | int j =>
      simp only [ixD] at q1
      have rr1 := rr.mono f1.f
      unfold atI at q1
      cases hj : ixN ds.length j with
      | none => rw [hj] at q1; exact q1.elim
      | some m =>
        rw [hj] at q1
        simp only [Option.bind_some] at q1
        cases hd : ds[m]? with
        | none => rw [hd] at q1; exact q1.elim
        | some d' =>
          rw [hd] at q1
          obtain ⟨u, hu, ru⟩ := rr1.get hd
          refine ⟨_, vs, j, u, rfl, rfl, (lsq (same_rdE f1.s hp)), ?_, oq_here sr1.sub ru q1⟩
          unfold atI
          rw [rr.length, hj]
          exact hu
    | _ => exact q1.elim
theorem e_olen {i : Nat} {s : Str} {q q2 : Pos} (G : GoodB N sc X) (K : Know (gOf X) n T) (hl : ("len" : Str) ∈ T.bn) (hg : glB sc "len" = true) (h1 : N[i]? = some s) (h2 : visB sc s = true) (h3 : nmB s = true) : PE X (.Call (.Name "len" q) [.Name s q2] [] p) (tD (gOf X) T W (.olen i)) := by
  obtain ⟨d1, d2, _⟩ := nm_of h3
  refine (pe_callB call_len_seq (gl_of G hg) (K.bn _ hl) (by decide +kernel) (pa_cons (pe_var (i := i) (by rw [G.eN]; exact h1) (G.vis _ h2) d1 d2) pa_nil (star_of rfl)) (by decide +kernel) (by decide +kernel) (star_of rfl) (by rfl)).imp fun σ H Q ⟨H0, Hf0, Hf, env, sr, r⟩ => ?_
  simp only [ev] at r
  cases hg : getL env i with
  | bad => rw [hg] at r; exact r.elim
  | err z => unfold getL at hg; split at hg <;> cases hg
  | ok ds =>
    rw [hg] at r
    obtain ⟨pp, vs, hv, hp, rr⟩ := lst_at sr hg
    exact ⟨_, hv, _, _, rfl, .inl (lsq hp), by rw [rr.length]; exact oq_here sr.sub (.int _) r⟩
end
end Rf
/-! # Rf7: what a for walks, targets, comprehensions -/
namespace Rf
open PySem PySem.Spec L2

theorem pi_seq {X : Cx} {tg l : Expr} {tl : TE} (hl : PE X l tl) : PI X tg l (fun σ H Rr => tl σ H fun x H1 => ∃ a, x = .ref a ∧ (((∃ xs, SqL X.K H1 a xs) ∧ Rr (Itl X.K a) H1) ∨ ((∃ xs, SqT X.K H1 a xs) ∧ Rr (Itt X.K a) H1))) := by
  refine ⟨fun pins s σ H Rr I h => ?_⟩
  refine thn (hl.run pins s σ H _ I h) fun v s1 ⟨x, H1, I1, r1, q1⟩ => ?_
  obtain ⟨a, e, q⟩ := q1
  subst e
  cases r1
  rcases q with ⟨⟨xs, hq⟩, q⟩ | ⟨⟨xs, hq⟩, q⟩
  · obtain ⟨its, rv, p, hz⟩ := I1.list hq
    refine wpAny_pyIter_list p.isList ?_
    refine ⟨s1.heap.objs.size, [s1.heap.objs.size], _, _, H1, rfl, I1.kept (t' := s1.toks) fun b o e => Heap.get?_push_of_some _ e, turn_list a _, ⟨_, Heap.get?_push_size _ rfl, rfl, rfl⟩, fun b hb => ?_, q⟩
    have e : b = s1.heap.objs.size := by simpa using hb
    subst e
    exact I1.fpOk (Nat.le_refl _) (I1.hok.fresh (Nat.le_refl _))
  · obtain ⟨its, rv, p, hz⟩ := I1.tuple hq
    refine wpAny_pyIter_tuple (show s1.heap.IsTuple a its.toArray from p) ?_
    refine ⟨s1.heap.objs.size, [s1.heap.objs.size], _, _, H1, rfl, I1.kept (t' := s1.toks) fun b o e => Heap.get?_push_of_some _ e, turn_tuple a _, ⟨_, Heap.get?_push_size _ rfl, rfl, rfl⟩, fun b hb => ?_, q⟩
    have e : b = s1.heap.objs.size := by simpa using hb
    subst e
    exact I1.fpOk (Nat.le_refl _) (I1.hok.fresh (Nat.le_refl _))

section
variable {g : G} {Hf : Hp} {a b : Addr} {vs ws : List V} {ds es : List D}
theorem get_lt {xs : List α} {i : Nat} (h : i < xs.length) : ∃ x, xs[i]? = some x := ⟨_, List.getElem?_eq_getElem h⟩
theorem yld_list (h : LsK g.K Hf a vs) (r : Reps g Hf vs ds) : Yld g (Itl g.K a) Hf ds where
  go := fun i H Hf' s1 s2 hi => by
    obtain ⟨x, hx⟩ := get_lt (xs := vs) (i := i) (by rw [r.length]; exact hi)
    exact ⟨vs, x, (lsq (same_rd (s1.trans s2) h)), hx⟩
  stop := fun H Hf' s1 s2 => ⟨vs, (lsq (same_rd (s1.trans s2) h)), by rw [r.length]; exact Nat.le_refl _⟩
  yld := fun i H Hf' x H' d s1 s2 ⟨e, hx⟩ hd => by
    subst e
    obtain ⟨v, hv, rv⟩ := r.get hd
    have := hx vs ((lsq (same_rd (s1.trans s2) h)))
    rw [hv] at this; cases this
    exact ⟨Hf', Fut.refl s2, rv.mono s1⟩
theorem yld_tup (h : SqT g.K Hf a vs) (r : Reps g Hf vs ds) : Yld g (Itt g.K a) Hf ds where
  go := fun i H Hf' s1 s2 hi => by
    obtain ⟨x, hx⟩ := get_lt (xs := vs) (i := i) (by rw [r.length]; exact hi)
    exact ⟨vs, x, same_sqT (s1.trans s2) h, hx⟩
  stop := fun H Hf' s1 s2 => ⟨vs, same_sqT (s1.trans s2) h, by rw [r.length]; exact Nat.le_refl _⟩
  yld := fun i H Hf' x H' d s1 s2 ⟨e, hx⟩ hd => by
    subst e
    obtain ⟨v, hv, rv⟩ := r.get hd
    have := hx vs (same_sqT (s1.trans s2) h)
    rw [hv] at this; cases this
    exact ⟨Hf', Fut.refl s2, rv.mono s1⟩
theorem yld_rng (lo hi : Int) : Yld g (Itr lo (hi - lo).toNat) Hf (rngD lo hi) where
  go := fun i H Hf' s1 s2 h => by
    have e : (rngD lo hi).length = (hi - lo).toNat := by simp [rngD]
    rw [e] at h
    exact h
  stop := fun H Hf' s1 s2 => by show (hi - lo).toNat ≤ (rngD lo hi).length; simp [rngD]
  yld := fun i H Hf' x H' d s1 s2 ⟨e, hx⟩ hd => by
    subst e hx
    have hd' : d = .int (lo + (i : Int)) := by
      unfold rngD at hd
      rw [List.getElem?_map] at hd
      cases hr : (List.range (hi - lo).toNat)[i]? with
      | none => rw [hr] at hd; cases hd
      | some m =>
        rw [hr] at hd
        obtain ⟨h1, h2⟩ := List.getElem?_eq_some_iff.mp hr
        rw [List.getElem_range] at h2
        subst h2
        cases hd; rfl
    subst hd'
    exact ⟨Hf', Fut.refl s2, .int _⟩
theorem yld_enum (h : LsK g.K Hf a vs) (r : Reps g Hf vs ds) : Yld g (Ite g.K a) Hf (enumD ds) where
  go := fun i H Hf' s1 s2 hi => by
    have hi' : i < vs.length := by rw [r.length]; simpa [enumD] using hi
    obtain ⟨x, hx⟩ := get_lt hi'
    exact ⟨vs, x, (lsq (same_rd (s1.trans s2) h)), hx⟩
  stop := fun H Hf' s1 s2 => ⟨vs, (lsq (same_rd (s1.trans s2) h)), by rw [r.length]; simp [enumD]⟩
  yld := fun i H Hf' x H' d s1 s2 ⟨Tt, w, e1, hn, e2, hx⟩ hd => by
    subst e1 e2
    unfold enumD at hd
    rw [List.getElem?_map, List.getElem?_zipIdx] at hd
    cases hr : ds[i]? with
    | none => rw [hr] at hd; cases hd
    | some d0 =>
      rw [hr] at hd
      simp at hd
      subst hd
      obtain ⟨v, hv, rv⟩ := r.get hr
      have := hx vs ((lsq (same_rd (s1.trans s2) h)))
      rw [hv] at this; cases this
      exact ⟨_, Fut.new s2 hn, .tup (SqT.of upd_same) (.cons (.int _) (.cons ((rv.mono s1).mono (same_upd (s2.free hn))) .nil))⟩
theorem yld_zip (h : LsK g.K Hf a vs) (r : Reps g Hf vs ds) (h' : LsK g.K Hf b ws) (r' : Reps g Hf ws es) : Yld g (Itz g.K a b) Hf (zipD ds es) where
  go := fun i H Hf' s1 s2 hi => by
    have hi' : i < vs.length ∧ i < ws.length := by rw [r.length, r'.length]; simpa [zipD, Nat.lt_min] using hi
    obtain ⟨x, hx⟩ := get_lt hi'.1
    obtain ⟨y, hy⟩ := get_lt hi'.2
    exact ⟨vs, ws, x, y, (lsq (same_rd (s1.trans s2) h)), (lsq (same_rd (s1.trans s2) h')), hx, hy⟩
  stop := fun H Hf' s1 s2 => ⟨vs, ws, (lsq (same_rd (s1.trans s2) h)), (lsq (same_rd (s1.trans s2) h')), by
    rw [r.length, r'.length]; simp only [zipD, List.length_map, List.length_zip]; omega⟩
  yld := fun i H Hf' x H' d s1 s2 ⟨Tt, w, u, e1, hn, e2, hx, hy⟩ hd => by
    subst e1 e2
    unfold zipD at hd
    rw [List.getElem?_map] at hd
    cases hr : (ds.zip es)[i]? with
    | none => rw [hr] at hd; cases hd
    | some q =>
      rw [hr] at hd
      simp only [Option.map_some, Option.some.injEq] at hd
      subst hd
      rw [List.getElem?_zip_eq_some] at hr
      obtain ⟨v, hv, rv⟩ := r.get hr.1
      obtain ⟨v', hv', rv'⟩ := r'.get hr.2
      have z1 := hx vs ((lsq (same_rd (s1.trans s2) h)))
      have z2 := hy ws ((lsq (same_rd (s1.trans s2) h')))
      rw [hv] at z1; cases z1
      rw [hv'] at z2; cases z2
      exact ⟨_, Fut.new s2 hn, .tup (SqT.of upd_same) (.cons ((rv.mono s1).mono (same_upd (s2.free hn))) (.cons ((rv'.mono s1).mono (same_upd (s2.free hn))) .nil))⟩
end

section
variable {X : Cx} {N : List Str} {sc : Scope} {n : Nat} {T : Tb} {W : WE} {a b c : E} {x y z tg : Expr} {p q : Pos} {k : Nat}
theorem okRng_iff {i : Int} (h : okRng i = true) : -(2 ^ 62) ≤ i ∧ i < 2 ^ 62 := by
  unfold okRng at h
  rw [Bool.and_eq_true] at h
  exact ⟨of_decide_eq_true h.1, of_decide_eq_true h.2⟩
theorem i_rng1 (G : GoodB N sc X) (K : Know (gOf X) n T) (h1 : ("range" : Str) ∈ T.bn) (h2 : glB sc "range" = true) (ha : PE X x (tD (gOf X) T W a)) (hs : staB x = false) : PI X tg (.Call (.Name "range" q) [x] [] p) (tDI (gOf X) T W (.rng1 a)) := by
  refine (pi_range1 (gl_of G h2) (K.bn _ h1) (pa_cons ha pa_nil (star_of hs)) (by rw [star_of hs]; rfl)).imp fun σ H Rr ⟨H0, Hf0, Hf, env, sr, r⟩ => ?_
  simp only [evI] at r
  refine tD_step lat_IP sr r fun d v H1 Hf1 _ f1 r1 sr1 q1 => ?_
  cases r1 with
  | int j =>
    obtain ⟨hr, q2⟩ := ifr q1
    obtain ⟨l1, l2⟩ := okRng_iff hr
    have y := yld_rng (g := gOf X) (Hf := Hf1) 0 j
    rw [Int.sub_zero] at y
    exact ⟨j, rfl, l1, l2, q2 _ _ _ (Fut.refl sr1.sub) y⟩
  | _ => exact q1.elim
theorem i_rng2 (G : GoodB N sc X) (K : Know (gOf X) n T) (h1 : ("range" : Str) ∈ T.bn) (h2 : glB sc "range" = true) (ha : PE X x (tD (gOf X) T W a)) (hs : staB x = false) (hb : PE X y (tD (gOf X) T W b)) (hs' : staB y = false) : PI X tg (.Call (.Name "range" q) [x, y] [] p) (tDI (gOf X) T W (.rng2 a b)) := by
  refine (pi_range2 (gl_of G h2) (K.bn _ h1) (pa_cons ha (pa_cons hb pa_nil (star_of hs')) (star_of hs)) (by rw [star_of hs, star_of hs']; rfl) (by rw [star_of hs']; rfl)).imp fun σ H Rr ⟨H0, Hf0, Hf, env, sr, r⟩ => ?_
  simp only [evI] at r
  refine tD_step lat_IP sr r fun d v H1 Hf1 _ f1 r1 sr1 q1 => ?_
  refine tD_step lat_IP sr1 q1 fun e w H2 Hf2 _ f2 r2 sr2 q2 => ?_
  cases r1 with
  | int i =>
    cases r2 with
    | int j =>
      obtain ⟨hr, q3⟩ := ifr q2
      rw [Bool.and_eq_true] at hr
      obtain ⟨l1, l2⟩ := okRng_iff hr.1
      obtain ⟨l3, l4⟩ := okRng_iff hr.2
      exact ⟨i, j, rfl, ⟨l1, l2, l3, l4⟩, q3 _ _ _ (Fut.refl sr2.sub) (yld_rng i j)⟩
    | _ => exact q2.elim
  | _ => exact q2.elim
theorem i_enum {elts : List Expr} {kk : Nat} {pt : Pos} (G : GoodB N sc X) (K : Know (gOf X) n T) (h1 : ("enumerate" : Str) ∈ T.bn) (h2 : glB sc "enumerate" = true) (ha : PE X x (tD (gOf X) T W a)) (hs : staB x = false) : PI X (.Tuple elts kk pt) (.Call (.Name "enumerate" q) [x] [] p) (tDI (gOf X) T W (.enum a)) := by
  refine (pi_enum (gl_of G h2) (K.bn _ h1) (pa_cons ha pa_nil (star_of hs)) (by rw [star_of hs]; rfl)).imp fun σ H Rr ⟨H0, Hf0, Hf, env, sr, r⟩ => ?_
  simp only [evI] at r
  refine tD_step lat_IP sr r fun d v H1 Hf1 _ f1 r1 sr1 q1 => ?_
  cases r1 with
  | lst h1 r1 => exact ⟨_, _, rfl, (lsq (same_rd sr1.sub h1)), q1 _ _ _ (Fut.refl sr1.sub) (yld_enum h1 r1)⟩
  | _ => exact q1.elim
theorem i_zip {elts : List Expr} {kk : Nat} {pt : Pos} (G : GoodB N sc X) (K : Know (gOf X) n T) (h1 : ("zip" : Str) ∈ T.bn) (h2 : glB sc "zip" = true) (ha : PE X x (tD (gOf X) T W a)) (hs : staB x = false) (hb : PE X y (tD (gOf X) T W b)) (hs' : staB y = false) :
    PI X (.Tuple elts kk pt) (.Call (.Name "zip" q) [x, y] [] p) (tDI (gOf X) T W (.zip a b)) := by
  refine (pi_zip (gl_of G h2) (K.bn _ h1) (pa_cons ha (pa_cons hb pa_nil (star_of hs')) (star_of hs)) (star_of hs) (by rw [star_of hs']; rfl)).imp fun σ H Rr ⟨H0, Hf0, Hf, env, sr, r⟩ => ?_
  simp only [evI] at r
  refine tD_step lat_IP sr r fun d v H1 Hf1 _ f1 r1 sr1 q1 => ?_
  refine tD_step lat_IP sr1 q1 fun e w H2 Hf2 _ f2 r2 sr2 q2 => ?_
  cases r1 with
  | lst h1 r1 =>
    cases r2 with
    | lst h2 r2 => exact ⟨_, _, _, _, rfl, (lsq (same_rd (f2.f.trans sr2.sub) h1)), (lsq (same_rd sr2.sub h2)), q2 _ _ _ (Fut.refl sr2.sub) (yld_zip (same_rd f2.f h1) (r1.mono f2.f) h2 r2)⟩
    | _ => exact q2.elim
  | _ => exact q2.elim
theorem i_seq (ha : PE X x (tD (gOf X) T W a)) : PI X tg x (tDI (gOf X) T W (.cons a .nil)) := by
  refine (pi_seq ha).imp fun σ H Rr ⟨H0, Hf0, Hf, env, sr, r⟩ => ?_
  simp only [evI] at r
  refine tD_step lat_IP sr r fun d v H1 Hf1 _ f1 r1 sr1 q1 => ?_
  cases r1 with
  | lst h1 r1 => exact ⟨_, rfl, .inl ⟨⟨_, (lsq (same_rd sr1.sub h1))⟩, q1 _ _ _ (Fut.refl sr1.sub) (yld_list h1 r1)⟩⟩
  | tup h1 r1 => exact ⟨_, rfl, .inr ⟨⟨_, same_sqT sr1.sub h1⟩, q1 _ _ _ (Fut.refl sr1.sub) (yld_tup h1 r1)⟩⟩
  | _ => exact q1.elim

/-! ### targets -/
/-- data stored by a target; what else stands, stands -/
def tG (g : G) (t : Tg) : TG := fun v σ H Q => ∃ H0 Hf0 Hf env d, SR g H0 Hf0 σ H Hf env ∧ Rep g Hf v d ∧ ∃ env', setT t d env = some env' ∧ ∀ σ', SR g H0 Hf0 σ' H Hf env' → σ'.length = σ.length → (∀ i, i ∉ t.slots → σ'[i]? = σ[i]?) → Q σ' H
def tGs (g : G) (t : Tg) : TGs := fun vs σ H Q => ∃ H0 Hf0 Hf env ds, SR g H0 Hf0 σ H Hf env ∧ Reps g Hf vs ds ∧ ∃ env', setT t (.tup ds) env = some env' ∧ ∀ σ', SR g H0 Hf0 σ' H Hf env' → σ'.length = σ.length → (∀ i, i ∉ t.slots → σ'[i]? = σ[i]?) → Q σ' H
theorem _root_.L2.PG.imp {X : Cx} {e : Expr} {t t' : TG} (h : PG X e t) (k : ∀ v σ H Q, t' v σ H Q → t v σ H Q) : PG X e t' := ⟨fun pins s σ H v u Q I r q => h.run pins s σ H v u Q I r (k v σ H Q q)⟩
theorem _root_.L2.PGs.imp {X : Cx} {e : List Expr} {t t' : TGs} (h : PGs X e t) (k : ∀ v σ H Q, t' v σ H Q → t v σ H Q) : PGs X e t' := ⟨fun pins s σ H v u Q I r q => h.run pins s σ H v u Q I r (k v σ H Q q)⟩
theorem g_name {i : Nat} {s : Str} (G : GoodB N sc X) (h1 : N[i]? = some s) (h2 : locB sc s = true) : PG X (.Name s p) (tG (gOf X) (.name i)) := by
  obtain ⟨hl, hf⟩ := G.loc s h2
  refine (pg_name (i := i) (by rw [G.eN]; exact G.nd) (by rw [G.eN]; exact h1) hl hf).imp fun v σ H Q ⟨H0, Hf0, Hf, env, d, sr, r, env', e, k⟩ => ?_
  simp only [setT, Option.some.injEq] at e
  subst e
  refine k _ (sr.setv r) (by simp) fun j hj => ?_
  rw [List.getElem?_set_ne (by simpa [Tg.slots, eq_comm] using hj)]
theorem gs_nil : PGs X [] (tGs (gOf X) .nil) := pgs_nil.imp fun v σ H Q ⟨H0, Hf0, Hf, env, ds, sr, r, env', e, k⟩ => by
  cases r with
  | nil => simp only [setT, Option.some.injEq] at e; subst e; exact ⟨rfl, k σ sr rfl fun _ _ => rfl⟩
  | cons r1 r2 => simp [setT] at e
theorem each_of {x : Expr} {xs : List Expr} {e : PySem.Env} (h : staB x = false) : (assignEach (x :: xs) e).map (·.2) = assign x e :: (assignEach xs e).map (·.2) := by
  cases x <;> first | rfl | cases h
theorem gs_cons {t u : Tg} {xs : List Expr} (h1 : PG X x (tG (gOf X) t)) (h2 : PGs X xs (tGs (gOf X) u)) (hs : staB x = false) : PGs X (x :: xs) (tGs (gOf X) (.cons t u)) := by
  refine (pgs_cons h1 h2 (each_of hs)).imp fun v σ H Q ⟨H0, Hf0, Hf, env, ds, sr, r, env', e, k⟩ => ?_
  cases r with
  | nil => simp [setT] at e
  | @cons v1 d1 vs1 ds1 r1 r2 =>
    simp only [setT, Option.bind_eq_some_iff] at e
    obtain ⟨env1, e1, e2⟩ := e
    refine ⟨v1, vs1, rfl, H0, Hf0, Hf, env, d1, sr, r1, env1, e1, fun σ1 sr1 hl1 hk1 => ?_⟩
    refine ⟨H0, Hf0, Hf, env1, ds1, sr1, r2, env', e2, fun σ2 sr2 hl2 hk2 => ?_⟩
    refine k σ2 sr2 (hl2.trans hl1) fun i hi => ?_
    simp only [Tg.slots, List.mem_append, not_or] at hi
    rw [hk2 i hi.2, hk1 i hi.1]
theorem g_tup {t : Tg} {xs : List Expr} (hc : X.calm = true) (h : PGs X xs (tGs (gOf X) t)) (hst : (assignEach xs X.env).findIdx? (·.1) = none) (hlen : ∀ ds env env', setT t (.tup ds) env = some env' → ds.length = xs.length) (hl2 : (assignEach xs X.env).length = xs.length) :
    PG X (.Tuple xs k p) (tG (gOf X) (.tup t)) := by
  refine (pg_tup hc h hl2 hst).imp fun v σ H Q ⟨H0, Hf0, Hf, env, d, sr, r, env', e, kk⟩ => ?_
  cases r with
  | @tup _ _ ds h1 r1 =>
    have e' : setT t (.tup ds) env = some env' := by simpa only [setT] using e
    exact ⟨_, _, rfl, same_sqT sr.sub h1, by rw [r1.length, hlen _ _ _ e'], H0, Hf0, Hf, env, _, sr, r1, env', e', kk⟩
  | _ => simp [setT] at e
end
end Rf
/-! # Rf8: comprehensions; every expression that passes the look -/
namespace Rf
open PySem PySem.Spec L2
section
variable {g : G} {H0 Hf0 H Hf : Hp} {env : Env} {σ : St}
theorem hide_get {env : Env} {i : Nat} {s : Sl} (h : (hideO env)[i]? = some (some s)) : ∃ d, s = .v d ∧ env[i]? = some (some (.v d)) := by
  unfold hideO at h
  rw [List.getElem?_map] at h
  cases e : env[i]? with
  | none => rw [e] at h; cases h
  | some o =>
    rw [e] at h
    cases o with
    | none => cases h
    | some t => cases t with
      | v d => simp at h; exact ⟨d, h.symm, rfl⟩
      | o xs => cases h
theorem SR.hide (r : SR g H0 Hf0 σ H Hf env) : SR g H0 Hf0 σ H Hf (hideO env) :=
  ⟨r.fut, by simp [hideO, r.len], fun i s h => by obtain ⟨d, rfl, e⟩ := hide_get h; exact r.slot i _ e, fun i j xs ys _ h1 _ => (by obtain ⟨d, e, _⟩ := hide_get h1; cases e), r.tb⟩
theorem SR.wipe (r : SR g H0 Hf0 σ H Hf env) : ∀ vs : List Nat, SR g H0 Hf0 (L2.wipe σ vs) H Hf (wipeE env vs)
  | [] => r
  | v :: vs => (SR.wipe r vs).setn none
def noO (env : Env) : Prop := ∀ (i : Nat) (xs : List D), env[i]? ≠ some (some (.o xs))
theorem noO_hide (env : Env) : noO (hideO env) := fun i xs h => by obtain ⟨d, e, _⟩ := hide_get h; cases e
theorem noO_set {env : Env} (h : noO env) (i : Nat) : noO (env.set i none) := fun j xs e => by
  by_cases hj : j = i
  · subst hj
    by_cases hl : j < env.length
    · rw [List.getElem?_set_self hl] at e; cases e
    · rw [List.getElem?_eq_none (by simpa using hl)] at e; cases e
  · rw [List.getElem?_set_ne (Ne.symm hj)] at e; exact h j xs e
theorem noO_wipe {env : Env} (h : noO env) : ∀ vs, noO (wipeE env vs)
  | [] => h
  | v :: vs => noO_set (noO_wipe h vs) v
theorem Fut.updD {H1 Hf1 H4 Hf4 : Hp} {p : Addr} {o : HO} {vs : List V} (f : Fut H1 Hf1 H4 Hf4) (h1 : H1 p = none) (h4 : Hf4 p = none) (hp : H4 p = some (.lst vs)) : Fut H1 Hf1 (upd H4 p o) Hf4 :=
  ⟨f.s.upd h1 hp, f.f, fun b u e => by rw [upd_ne (ne_of_none e h4)]; exact f.i _ _ e, f.n⟩
theorem SR.updD {p : Addr} {o : HO} {vs : List V} (r : SR g H0 Hf0 σ H Hf env) (no : noO env) (h0 : H0 p = none) (hf : Hf p = none) (hp : H p = some (.lst vs)) : SR g H0 Hf0 σ (upd H p o) Hf env :=
  ⟨r.fut.updD h0 hf hp, r.len, fun i s h => by
    obtain ⟨v, e, q⟩ := r.slot i s h
    refine ⟨v, e, ?_⟩
    cases q with
    | v q => exact .v q
    | o _ _ _ _ => exact absurd h (no i _), r.dis, fun P h => ⟨tabS_lst hp (r.tb P h).1, (r.tb P h).2⟩⟩
theorem wipe_len (σ : St) (vs : List Nat) : (L2.wipe σ vs).length = σ.length := wipe_length σ vs
theorem wipe_congr : ∀ (vs : List Nat) {a b : St}, a.length = b.length → (∀ i, i ∉ vs → a[i]? = b[i]?) → L2.wipe a vs = L2.wipe b vs := by
  intro vs a b hl h
  have key : ∀ (vs : List Nat) (c : St) (i : Nat), (L2.wipe c vs)[i]? = if i ∈ vs then (if i < c.length then some none else none) else c[i]? := by
    intro vs
    induction vs with
    | nil => intro c i; simp [L2.wipe]
    | cons v vs ih =>
      intro c i
      show ((L2.wipe c vs).set v none)[i]? = _
      by_cases hi : i = v
      · subst hi
        simp only [List.mem_cons, true_or, if_true]
        by_cases hl : i < c.length
        · rw [List.getElem?_set_self (by rw [wipe_len]; exact hl), if_pos hl]
        · rw [if_neg hl, List.getElem?_eq_none (by simp [wipe_len]; omega)]
      · rw [List.getElem?_set_ne (Ne.symm hi), ih]
        simp [hi]
  refine List.ext_getElem? fun i => ?_
  rw [key, key, hl]
  split
  · rfl
  · rename_i hn; exact h i hn
theorem wipe_idem (σ : St) (vs : List Nat) : L2.wipe (L2.wipe σ vs) vs = L2.wipe σ vs := by
  refine wipe_congr vs (wipe_len _ _) fun i hi => ?_
  have : ∀ (us : List Nat), i ∉ us → (L2.wipe σ us)[i]? = σ[i]? := by
    intro us
    induction us with
    | nil => intro _; rfl
    | cons u us ih =>
      intro h
      simp only [List.mem_cons, not_or] at h
      show ((L2.wipe σ us).set u none)[i]? = _
      rw [List.getElem?_set_ne (Ne.symm h.1), ih h.2]
  exact this vs hi
end
theorem compL_ne {f : Env → R (Option D)} {tg : Tg} {env : Env} (z : Exn) : ∀ ds, compL f tg env ds ≠ .err z
  | [] => by simp [compL]
  | d :: ds => by
    unfold compL
    cases h1 : setT tg d env with
    | none => simp
    | some env' =>
      cases h2 : f env' with
      | ok o =>
        cases h3 : compL f tg env ds with
        | ok rs => simp [h2]
        | err w => exact absurd h3 (compL_ne w ds)
        | bad => simp [h2]
      | err w => simp [h2]
      | bad => simp [h2]
theorem fold_of {x : Expr} {e : PySem.Env} (h : setB x = false) : ∀ y, foldedSetIterable x e y = pure y := by
  intro y
  cases x <;> first | rfl | cases h
abbrev noW : WE := fun _ _ _ _ => False

section
variable {X : Cx} {N : List Str} {sc sc' : Scope} {n : Nat} {T : Tb} {W : WE} {elt it cond : E} {x i t : Expr} {ifs : List Expr} {tg : Tg} {own : List Nat} {p : Pos}
theorem own_snd (N : List Str) (own : List Nat) : (own.map fun k => (N.getD k "", k)).map (·.2) = own := by
  rw [List.map_map]; exact List.map_id _
/-- the comprehension's own reading -/
theorem tLc_of {σ : St} {H : Hp} {Q : VK} (hsl : ∀ k ∈ tg.slots, k ∈ own) (h : tDX (gOf X) T W (.comp elt tg it cond own) σ H Q) :
    tLc (tDI (gOf X) T W it) (tG (gOf X) tg) (tDC (gOf X) T noW cond) (tD (gOf X) T noW elt) ((own.map fun k => (N.getD k "", k)).map (·.2)) σ H Q := by
  obtain ⟨H0, Hf0, Hf, env, sr, r⟩ := h
  rw [own_snd]
  simp only [ev] at r
  refine ⟨H0, Hf0, Hf, env, sr, r.bind.imp fun ds _ q J H1 Hf1 f1 y => ?_⟩
  replace q := RG.later lat_XP q f1
  generalize hf : (fun env' => (evC T cond env').bind fun k => if k = true then (ev T elt env').bind fun d => R.ok (some d) else R.ok none) = f at q
  cases hc : compL f tg (wipeE (hideO env) own) ds with
  | err z => exact absurd hc (compL_ne z ds)
  | bad => rw [hc] at q; exact q.elim
  | ok rs =>
    rw [hc] at q
    obtain ⟨hl, q⟩ := ifr q
    have hlen : rs.length ≤ sizeLine := okLen_iff hl
    intro D hD
    have f0 : H0 D = none := (sr.fut.s.trans f1.s).free hD
    have srw : SR (gOf X) H0 Hf0 (L2.wipe σ own) H1 Hf1 (wipeE (hideO env) own) := (sr.mono f1).hide.wipe own
    have no := noO_wipe (noO_hide env) own
    refine ⟨fun i m Hc => m = ds.length - i ∧ i ≤ ds.length ∧ ∃ Hfc accV accD rest, Fut H1 Hf1 Hc Hfc ∧ SR (gOf X) H0 Hf0 (L2.wipe σ own) Hc Hfc (wipeE (hideO env) own) ∧ Hc D = some (.lst accV) ∧ Hfc D = none ∧ Reps (gOf X) Hfc accV accD ∧
      compL f tg (wipeE (hideO env) own) (ds.drop i) = .ok rest ∧ accD ++ rest = rs, ⟨ds.length, by simp, Nat.zero_le _, Hf1, [], [], rs, Fut.own f1.i hD, srw.mono (Fut.own f1.i hD), upd_same, f1.i.free hD, .nil, by simpa using hc, by simp⟩, ?_⟩
    rintro i m Hc ⟨hm, hi, Hfc, accV, accD, rest, fc, src, hp, hfp, racc, hrest, happ⟩
    rcases Nat.lt_or_ge i ds.length with hlt | hge
    · refine .inr ⟨y.go i Hc Hfc fc.f fc.i hlt, _, fun H' h' => ⟨ds.length - (i + 1), by omega, h'⟩, fun v H' hy => ?_⟩
      have hd : ds[i]? = some ds[i] := List.getElem?_eq_getElem hlt
      obtain ⟨Hf', f2, rv⟩ := y.yld i Hc Hfc v H' ds[i] fc.f fc.i hy hd
      rw [List.drop_eq_getElem_cons hlt] at hrest
      unfold compL at hrest
      cases h1 : setT tg ds[i] (wipeE (hideO env) own) with
      | none => rw [h1] at hrest; cases hrest
      | some env1 =>
        rw [h1] at hrest
        simp only at hrest
        cases h2 : f env1 with
        | err w => rw [h2] at hrest; cases hrest
        | bad => rw [h2] at hrest; cases hrest
        | ok o =>
          rw [h2] at hrest
          simp only at hrest
          cases h3 : compL f tg (wipeE (hideO env) own) (ds.drop (i + 1)) with
          | err w => rw [h3] at hrest; cases hrest
          | bad => rw [h3] at hrest; cases hrest
          | ok rs' =>
            rw [h3] at hrest
            simp only [R.bind_ok, R.ok.injEq] at hrest
            have src' := src.mono f2
            refine ⟨H0, Hf0, Hf', _, ds[i], src', rv, env1, h1, fun σ2 sr2 hl2 hk2 => ⟨?_, ?_⟩⟩
            · rw [← wipe_idem σ own]
              exact wipe_congr own hl2 fun j hj => hk2 j fun z => hj (hsl j z)
            · rw [← hf] at h2
              simp only at h2
              cases h4 : evC T cond env1 with
              | err w => rw [h4] at h2; cases h2
              | bad => rw [h4] at h2; cases h2
              | ok b =>
                rw [h4] at h2
                simp only [R.bind_ok] at h2
                refine ⟨H0, Hf0, Hf', env1, sr2, ?_⟩
                rw [h4]
                intro H3 Hf3 f3
                cases b with
                | false =>
                  rw [if_neg Bool.false_ne_true] at h2 ⊢
                  cases h2
                  have fb := f2.trans f3
                  exact ⟨rfl, by omega, Hf3, accV, accD, rs', fc.trans fb, src.mono fb, fb.s.lst hp, fb.n _ (by rw [hp]; exact fun z => nomatch z) hfp, racc.mono fb.f, h3, by rw [← happ, ← hrest]⟩
                | true =>
                  rw [if_pos rfl] at h2 ⊢
                  cases h5 : ev T elt env1 with
                  | err w => rw [h5] at h2; cases h2
                  | bad => rw [h5] at h2; cases h2
                  | ok d' =>
                    rw [h5] at h2
                    simp only [R.bind_ok, R.ok.injEq] at h2
                    subst h2
                    refine ⟨H0, Hf0, Hf3, env1, sr2.mono f3, ?_⟩
                    rw [h5]
                    intro w H4 Hf4 f4 r4
                    have fb := (f2.trans f3).trans f4
                    have hf4 : Hf4 D = none := fb.n _ (by rw [hp]; exact fun z => nomatch z) hfp
                    refine ⟨accV, fb.s.lst hp, ?_, rfl, by omega, Hf4, accV ++ [w], accD ++ [d'], rs', (fc.trans fb).updD hD hf4 (fb.s.lst hp), (src.mono fb).updD no f0 hf4 (fb.s.lst hp), upd_same, hf4, (racc.mono fb.f).append (.cons r4 .nil), h3, by rw [← happ, ← hrest]; simp⟩
                    rw [racc.length]
                    have : rs.length = accD.length + (rs'.length + 1) := by rw [← happ, ← hrest]; simp
                    omega
    · have : i = ds.length := by omega
      subst this
      rw [List.drop_length] at hrest
      simp only [compL, R.ok.injEq] at hrest
      subst hrest
      rw [List.append_nil] at happ
      subst happ
      exact .inl ⟨y.stop Hc Hfc fc.f fc.i, q D accV Hc Hfc fc hD hp hfp racc⟩
theorem e_comp (G : Good N sc n X) (hok : blkC N sc sc' (own.map fun k => (N.getD k "", k)) = true) (hsl : ∀ k ∈ tg.slots, k ∈ own) (hset : setB i = false)
    (hi : PI X t i (tDI (gOf X) T W it))
    (hg : ∀ (s : Shared) (H : Hp) (C : Addr) (cl : List (Str × Addr)) (fp : List Addr), PG (X.blk s H sc' (compEnvC sc' cl C X.env) fp) t (tG (gOf X) tg))
    (ht : ∀ (s : Shared) (H : Hp) (C : Addr) (cl : List (Str × Addr)) (fp : List Addr), PTs (X.blk s H sc' (compEnvC sc' cl C X.env) fp) ifs (tDC (gOf X) T noW cond))
    (he : ∀ (s : Shared) (H : Hp) (C : Addr) (cl : List (Str × Addr)) (fp : List Addr), PE (X.blk s H sc' (compEnvC sc' cl C X.env) fp) x (tD (gOf X) T noW elt)) :
    PE X (.ListComp x [⟨t, i, ifs, 0⟩] sc' p) (tDX (gOf X) T W (.comp elt tg it cond own)) :=
  (pe_lc (own := own.map fun k => (N.getD k "", k)) G.calm (by rw [G.eN]; exact G.nd) hi (by rw [G.eN]; exact (let B := blkOk_by hok; ⟨B.kind, B.uniq, B.ix, fun y hy e => G.cf _ (B.free y hy e), B.own⟩)) hg ht he (fold_of hset)).imp fun σ H Q h => tLc_of hsl h
theorem c_nil : PTs X [] (tDC (gOf X) T W .nil) := ⟨fun pins s σ H Q I ⟨H0, Hf0, Hf, env, sr, r⟩ => pts_nil.run pins s σ H Q I (by simp only [evC] at r; exact r H Hf (Fut.refl sr.sub))⟩
theorem c_one {a : E} (h : PT X x (tDT (gOf X) T W a)) : PTs X [x] (tDC (gOf X) T W (.cons a .nil)) := ⟨fun pins s σ H Q I ⟨H0, Hf0, Hf, env, sr, r⟩ => (pts_one h).run pins s σ H Q I ⟨H0, Hf0, Hf, env, sr, by simp only [evC] at r; exact r⟩⟩

theorem gs_of (G : Good N sc n X) : ∀ (t : Tg) (xs : List Expr), ckTg.ckTgs N sc t xs = true → PGs X xs (tGs (gOf X) t) ∧ (assignEach xs X.env).findIdx? (·.1) = none ∧ (assignEach xs X.env).length = xs.length ∧ ∀ ds env env', setT t (.tup ds) env = some env' → ds.length = xs.length
  | .nil, [], _ => ⟨gs_nil, rfl, rfl, fun ds env env' h => by cases ds with
    | nil => rfl
    | cons d ds => simp [setT] at h⟩
  | .nil, _ :: _, h => by simp [ckTg.ckTgs] at h
  | .name _, _, h => by simp [ckTg.ckTgs] at h
  | .tup _, _, h => by simp [ckTg.ckTgs] at h
  | .cons _ _, [], h => by simp [ckTg.ckTgs] at h
  | .cons (.name i) r, e :: es, h => by
    cases e with
    | Name s p =>
      simp only [ckTg.ckTgs, Bool.and_eq_true, decide_eq_true_eq] at h
      obtain ⟨h1, h2, h3, h4⟩ := gs_of G r es h.2
      refine ⟨gs_cons (g_name G h.1.1 h.1.2) h1 rfl, ?_, by show _ + 1 = _ + 1; rw [h3], fun ds env env' e => ?_⟩
      · show List.findIdx? _ ((false, _) :: assignEach es X.env) = none
        rw [List.findIdx?_cons, h2]; rfl
      · cases ds with
        | nil => simp [setT] at e
        | cons d ds =>
          simp only [setT, Option.bind_eq_some_iff] at e
          obtain ⟨e1, _, e2⟩ := e
          rw [List.length_cons, List.length_cons, h4 _ _ _ e2]
    | _ => simp [ckTg.ckTgs] at h
  | .cons (.tup r') r, e :: es, h => by
    cases e with
    | Tuple es' k p =>
      simp only [ckTg.ckTgs, Bool.and_eq_true] at h
      obtain ⟨h1, h2, h3, h4⟩ := gs_of G r es h.2
      obtain ⟨k1, k2, k3, k4⟩ := gs_of G r' es' h.1
      refine ⟨gs_cons (g_tup G.calm k1 k2 k4 k3) h1 rfl, ?_, by show _ + 1 = _ + 1; rw [h3], fun ds env env' e => ?_⟩
      · show List.findIdx? _ ((false, _) :: assignEach es X.env) = none
        rw [List.findIdx?_cons, h2]; rfl
      · cases ds with
        | nil => simp [setT] at e
        | cons d ds =>
          simp only [setT, Option.bind_eq_some_iff] at e
          obtain ⟨e1, _, e2⟩ := e
          rw [List.length_cons, List.length_cons, h4 _ _ _ e2]
    | _ => simp [ckTg.ckTgs] at h
  | .cons .nil r, e :: es, h => by simp [ckTg.ckTgs] at h
  | .cons (.cons _ _) r, e :: es, h => by simp [ckTg.ckTgs] at h
theorem g_of (G : Good N sc n X) {t : Tg} {x : Expr} (h : ckTg N sc t x = true) : PG X x (tG (gOf X) t) := by
  cases t with
  | name i => cases x with
    | Name s p =>
      simp only [ckTg, Bool.and_eq_true, decide_eq_true_eq] at h
      exact g_name G h.1 h.2
    | _ => simp [ckTg] at h
  | tup r => cases x with
    | Tuple es k p =>
      simp only [ckTg] at h
      obtain ⟨k1, k2, k3, k4⟩ := gs_of G r es h
      exact g_tup G.calm k1 k2 k4 k3
    | _ => simp [ckTg] at h
  | nil => simp [ckTg] at h
  | cons _ _ => simp [ckTg] at h

/-! ### all expressions -/
def freshB : E → Bool
  | .bin _ _ _ => true | .lst _ => true | .sl _ _ _ => true | .bi _ _ => true | .comp _ _ _ _ _ => true | _ => false
structure Snd (N : List Str) (n : Nat) (T : Tb) (e : E) : Prop where
  E : ∀ (X : Cx) (sc : Scope) (x : Expr) (W : WE), GoodM N sc n T.hm X → Takes X W → Know (gOf X) n T → ckE N T e sc x = true → PE X x (tD (gOf X) T W e)
  F : ∀ (X : Cx) (sc : Scope) (x : Expr) (W : WE), GoodM N sc n T.hm X → Takes X W → Know (gOf X) n T → ckE N T e sc x = true → freshB e = true → PE X x (tDF (gOf X) T W e)
  Tt : ∀ (X : Cx) (sc : Scope) (x : Expr) (W : WE), GoodM N sc n T.hm X → Takes X W → Know (gOf X) n T → ckE N T e sc x = true → PT X x (tDT (gOf X) T W e)
  A : ∀ (X : Cx) (sc : Scope) (x : List Expr) (W : WE), GoodM N sc n T.hm X → Takes X W → Know (gOf X) n T → ckL N T e sc x = true → PA X x (tDA (gOf X) T W e) ∧ ∀ y ∈ x, staB y = false
  P : ∀ (X : Cx) (sc : Scope) (x : Option Expr) (W : WE), GoodM N sc n T.hm X → Takes X W → Know (gOf X) n T → ckP N T e sc x = true → PO X x (tDP (gOf X) T W e)
  C : ∀ (X : Cx) (sc : Scope) (x : List Expr) (W : WE), GoodM N sc n T.hm X → Takes X W → Know (gOf X) n T → ckC N T e sc x = true → PTs X x (tDC (gOf X) T W e)
  I : ∀ (X : Cx) (sc : Scope) (x tg : Expr) (W : WE), GoodM N sc n T.hm X → Takes X W → Know (gOf X) n T → ckI N T e sc x = true → tgOkB e tg = true → PI X tg x (tDI (gOf X) T W e)
theorem pt_bad {X : Cx} {x : Expr} {T : Tb} {W : WE} {e : Rf.E} (h : ∀ env, evT T e env = .bad) : PT X x (tDT (gOf X) T W e) := ⟨fun pins s σ H Q I ⟨H0, Hf0, Hf, env, sr, r⟩ => by rw [h] at r; exact r.elim⟩
theorem lookup_relabel {env : PySem.Env} (x : Str) : ∀ names : List (Str × NameKind),
    (names.map fun (n, k) => if (k == NameKind.free && env.scope.kind == .function && env.kindOf n == some .cell) then (n, NameKind.cell) else (n, k)).lookup x =
      (names.lookup x).map fun k => if (k == NameKind.free && env.scope.kind == .function && env.kindOf x == some .cell) then NameKind.cell else k
  | [] => rfl
  | (n, k) :: r => by
    rw [List.map_cons]
    by_cases h : x = n
    · subst h
      show List.lookup x ((if _ then (x, NameKind.cell) else (x, k)) :: _) = _
      split <;> rename_i hc <;> simp only [List.lookup, beq_self_eq_true, Option.map_some]
      · rw [if_pos hc]
      · rw [if_neg hc]
    · have hb : (x == n) = false := by simpa using h
      show List.lookup x ((if _ then (n, NameKind.cell) else (n, k)) :: _) = _
      split <;> simp only [List.lookup, hb] <;> exact lookup_relabel x r
theorem blk_look {X : Cx} {s : Shared} {H : Hp} {sc' : Scope} {C : Addr} {cl : List (Str × Addr)} {fp : List Addr} (x : Str) : (X.blk s H sc' (compEnvC sc' cl C X.env) fp).env.scope.names.lookup x =
      (sc'.names.lookup x).map fun k => if (k == NameKind.free && X.env.scope.kind == .function && X.env.kindOf x == some .cell) then NameKind.cell else k := lookup_relabel x sc'.names
theorem gOf_blk {X : Cx} (h : X.calm = true) {s : Shared} {H : Hp} {sc' : Scope} {e : PySem.Env} {fp : List Addr} : gOf (X.blk s H sc' e fp) = gOf X := by
  show G.mk _ _ _ _ _ (hxB X.calm []) = G.mk _ _ _ _ _ (hxB X.calm X.pn)
  rw [h]
  rfl
theorem good_blk {X : Cx} {N : List Str} {sc sc' : Scope} {n : Nat} (G : Good N sc n X) (s : Shared) (H : Hp) (C : Addr) (cl : List (Str × Addr)) (fp : List Addr) : Good N sc' n (X.blk s H sc' (compEnvC sc' cl C X.env) fp) := by
  refine ⟨⟨G.eN, fun x hx => ?_, fun x hx => ?_, fun x hx => ?_, fun x hx => ?_, G.nd, G.un⟩, G.calm, G.room⟩
  · unfold Vis
    rw [blk_look]
    rcases vis_of hx with h | h | h
    · exact .inl (by rw [h]; rfl)
    · exact .inr (.inl (by rw [h]; rfl))
    · rw [h]
      simp only [Option.map_some]
      split
      · exact .inr (.inl rfl)
      · exact .inr (.inr rfl)
  · rw [blk_look]
    unfold glB at hx
    split at hx
    · rename_i h; rw [h]; rfl
    · cases hx
  · unfold L2.Loc
    rw [blk_look]
    rcases loc_of hx with h | h
    · exact ⟨.inl (by rw [h]; rfl), .inr (by rw [h]; rfl)⟩
    · exact ⟨.inr (by rw [h]; rfl), .inl (by show (sc'.names.lookup x == some .cell) = true; rw [h]; rfl)⟩
  · rw [blk_look]
    rcases hx with h | h
    · exact .inl (by rw [h]; rfl)
    · rw [h]
      simp only [Option.map_some]
      split
      · exact .inl rfl
      · exact .inr rfl
theorem takes_blk {X : Cx} (s : Shared) (H : Hp) (sc' : Scope) (e : PySem.Env) (fp : List Addr) : Takes (X.blk s H sc' e fp) noW := fun _ _ ⟨_, _, _, _, _, _, _, _, _, _, _, _, _, _, _, _, w⟩ => w
end

section
variable {N : List Str} {n : Nat} {T : Tb}
theorem and4 {a b c d : Bool} (h : (a && b && c && d) = true) : a = true ∧ b = true ∧ c = true ∧ d = true := by
  simp only [Bool.and_eq_true] at h; exact ⟨h.1.1.1, h.1.1.2, h.1.2, h.2⟩
/-- an expression all of whose other readings are empty -/
theorem snd_of {e : Rf.E} (hE : ∀ (X : Cx) (sc : Scope) (x : Expr) (W : WE), GoodM N sc n T.hm X → Takes X W → Know (gOf X) n T → ckE N T e sc x = true → PE X x (tD (gOf X) T W e))
    (hF : ∀ (X : Cx) (sc : Scope) (x : Expr) (W : WE), GoodM N sc n T.hm X → Takes X W → Know (gOf X) n T → ckE N T e sc x = true → freshB e = true → PE X x (tDF (gOf X) T W e))
    (hT : ∀ (X : Cx) (sc : Scope) (x : Expr) (W : WE), GoodM N sc n T.hm X → Takes X W → Know (gOf X) n T → ckE N T e sc x = true → PT X x (tDT (gOf X) T W e))
    (h1 : ∀ sc xs, ckL N T e sc xs = false) (h2 : ∀ sc o, ckP N T e sc o = false) (h3 : ∀ sc xs, ckC N T e sc xs = false) (h4 : ∀ sc x, ckI N T e sc x = false) : Snd N n T e :=
  ⟨hE, hF, hT, fun _ sc x _ _ _ _ h => (by rw [h1] at h; cases h), fun _ sc x _ _ _ _ h => (by rw [h2] at h; cases h), fun _ sc x _ _ _ _ h => (by rw [h3] at h; cases h), fun _ sc x _ _ _ _ _ h => (by rw [h4] at h; cases h)⟩
/-- .. with a fresh list as its value, walked by its value as a test -/
theorem snd_X {e : Rf.E} (hX : ∀ (X : Cx) (sc : Scope) (x : Expr) (W : WE), GoodM N sc n T.hm X → Takes X W → Know (gOf X) n T → ckE N T e sc x = true → PE X x (tDX (gOf X) T W e) ∧ (plainT x = true ∨ ∀ env, evT T e env = .bad))
    (ht : (∀ env, evT T e env = (ev T e env).bind truD) ∨ ∀ env, evT T e env = .bad)
    (h1 : ∀ sc xs, ckL N T e sc xs = false) (h2 : ∀ sc o, ckP N T e sc o = false) (h3 : ∀ sc xs, ckC N T e sc xs = false) (h4 : ∀ sc x, ckI N T e sc x = false) : Snd N n T e :=
  snd_of (fun X sc x W G tk K h => tDX_E (hX X sc x W G tk K h).1) (fun X sc x W G tk K h _ => tDX_F (hX X sc x W G tk K h).1)
    (fun X sc x W G tk K h => by
      rcases ht with ht | ht
      · rcases (hX X sc x W G tk K h).2 with hp | hb
        · exact t_plain hp ht (tDX_E (hX X sc x W G tk K h).1)
        · exact pt_bad hb
      · exact pt_bad ht) h1 h2 h3 h4
/-- .. with plain data as its value -/
theorem snd_E {e : Rf.E} (hE : ∀ (X : Cx) (sc : Scope) (x : Expr) (W : WE), GoodM N sc n T.hm X → Takes X W → Know (gOf X) n T → ckE N T e sc x = true → PE X x (tD (gOf X) T W e) ∧ (plainT x = true ∨ ∀ env, evT T e env = .bad)) (hf : freshB e = false)
    (ht : (∀ env, evT T e env = (ev T e env).bind truD) ∨ ∀ env, evT T e env = .bad)
    (h1 : ∀ sc xs, ckL N T e sc xs = false) (h2 : ∀ sc o, ckP N T e sc o = false) (h3 : ∀ sc xs, ckC N T e sc xs = false) (h4 : ∀ sc x, ckI N T e sc x = false) : Snd N n T e :=
  snd_of (fun X sc x W G tk K h => (hE X sc x W G tk K h).1) (fun X sc x W G tk K h z => by rw [hf] at z; cases z)
    (fun X sc x W G tk K h => by
      rcases ht with ht | ht
      · rcases (hE X sc x W G tk K h).2 with hp | hb
        · exact t_plain hp ht (hE X sc x W G tk K h).1
        · exact pt_bad hb
      · exact pt_bad ht) h1 h2 h3 h4
/-- .. with readings of both kinds -/
theorem snd_ET {e : Rf.E} (hE : ∀ (X : Cx) (sc : Scope) (x : Expr) (W : WE), GoodM N sc n T.hm X → Takes X W → Know (gOf X) n T → ckE N T e sc x = true → PE X x (tD (gOf X) T W e) ∧ PT X x (tDT (gOf X) T W e)) (hf : freshB e = false)
    (h1 : ∀ sc xs, ckL N T e sc xs = false) (h2 : ∀ sc o, ckP N T e sc o = false) (h3 : ∀ sc xs, ckC N T e sc xs = false) (h4 : ∀ sc x, ckI N T e sc x = false) : Snd N n T e :=
  snd_of (fun X sc x W G tk K h => (hE X sc x W G tk K h).1) (fun X sc x W G tk K h z => by rw [hf] at z; cases z) (fun X sc x W G tk K h => (hE X sc x W G tk K h).2) h1 h2 h3 h4
/-- what stands only in a list, or is only walked -/
theorem snd_no {e : Rf.E} (h0 : ∀ sc x, ckE N T e sc x = false) (hA : ∀ (X : Cx) (sc : Scope) (x : List Expr) (W : WE), GoodM N sc n T.hm X → Takes X W → Know (gOf X) n T → ckL N T e sc x = true → PA X x (tDA (gOf X) T W e) ∧ ∀ y ∈ x, staB y = false)
    (hP : ∀ (X : Cx) (sc : Scope) (x : Option Expr) (W : WE), GoodM N sc n T.hm X → Takes X W → Know (gOf X) n T → ckP N T e sc x = true → PO X x (tDP (gOf X) T W e))
    (hC : ∀ (X : Cx) (sc : Scope) (x : List Expr) (W : WE), GoodM N sc n T.hm X → Takes X W → Know (gOf X) n T → ckC N T e sc x = true → PTs X x (tDC (gOf X) T W e))
    (hI : ∀ (X : Cx) (sc : Scope) (x tg : Expr) (W : WE), GoodM N sc n T.hm X → Takes X W → Know (gOf X) n T → ckI N T e sc x = true → tgOkB e tg = true → PI X tg x (tDI (gOf X) T W e)) : Snd N n T e :=
  ⟨fun _ sc x _ _ _ _ h => (by rw [h0] at h; cases h), fun _ sc x _ _ _ _ h => (by rw [h0] at h; cases h), fun _ sc x _ _ _ _ h => (by rw [h0] at h; cases h), hA, hP, hC, hI⟩
end
end Rf
/-! # Rf9: every expression that passes the look is read rightly -/
namespace Rf
open PySem PySem.Spec L2
section
variable {N : List Str} {n : Nat} {T : Tb}
theorem f4 {e : Rf.E} {P : Prop} (h : (∀ sc xs, ckL N T e sc xs = false) → (∀ sc o, ckP N T e sc o = false) → (∀ sc xs, ckC N T e sc xs = false) → (∀ sc x, ckI N T e sc x = false) → P)
    (h1 : ∀ sc xs, ckL N T e sc xs = false := by intros; rfl) (h2 : ∀ sc o, ckP N T e sc o = false := by intros; rfl) (h3 : ∀ sc xs, ckC N T e sc xs = false := by intros; rfl) (h4 : ∀ sc x, ckI N T e sc x = false := by intros; rfl) : P := h h1 h2 h3 h4
theorem sn_var (i : Nat) : Snd N n T (.var i) := f4 (snd_E (fun X sc x W G tk K h => by
  cases x with
  | Name s p =>
    simp only [ckE, Bool.and_eq_true, decide_eq_true_eq] at h
    exact ⟨e_var G h.1.1 h.1.2 h.2, .inl rfl⟩
  | _ => simp [ckE] at h) rfl (.inl fun env => by simp only [ev, evT]))
theorem sn_int (i : Int) : Snd N n T (.int i) := f4 (snd_E (fun X sc x W G tk K h => by
  cases x with
  | Constant c k p => cases c with
    | int j => simp only [ckE, decide_eq_true_eq] at h; subst h; exact ⟨e_int, .inl rfl⟩
    | _ => simp [ckE] at h
  | _ => simp [ckE] at h) rfl (.inl fun env => by simp only [ev, evT, R.bind_ok, truD]))
theorem sn_bl (i : Bool) : Snd N n T (.bl i) := f4 (snd_E (fun X sc x W G tk K h => by
  cases x with
  | Constant c k p => cases c with
    | bool j => simp only [ckE, beq_iff_eq] at h; subst h; exact ⟨e_bl, .inl rfl⟩
    | _ => simp [ckE] at h
  | _ => simp [ckE] at h) rfl (.inl fun env => by simp only [ev, evT, R.bind_ok, truD]))
theorem sn_non : Snd N n T .non := f4 (snd_E (fun X sc x W G tk K h => by
  cases x with
  | Constant c k p => cases c with
    | none => exact ⟨e_non, .inl rfl⟩
    | _ => simp [ckE] at h
  | _ => simp [ckE] at h) rfl (.inr fun env => rfl))
theorem sn_str (s : Str) : Snd N n T (.str s) := f4 (snd_E (fun X sc x W G tk K h => by
  cases x with
  | Constant c k p => cases c with
    | str j => simp only [ckE, decide_eq_true_eq] at h; subst h; exact ⟨e_str, .inl rfl⟩
    | _ => simp [ckE] at h
  | _ => simp [ckE] at h) rfl (.inr fun env => rfl))
theorem sn_glob (j : Nat) : Snd N n T (.glob j) := f4 (snd_E (fun X sc x W G tk K h => by
  cases x with
  | Name s p =>
    simp only [ckE, Bool.and_eq_true, decide_eq_true_eq] at h
    exact ⟨e_glob G.toGoodB K h.1.1 h.1.2 h.2, .inl rfl⟩
  | _ => simp [ckE] at h) rfl (.inr fun env => rfl))
theorem sn_bin (op : BOp) {a b : Rf.E} (ha : Snd N n T a) (hb : Snd N n T b) : Snd N n T (.bin op a b) := f4 (snd_X (fun X sc x W G tk K h => by
  cases x with
  | BinOp x o y p =>
    simp only [ckE, Bool.and_eq_true, decide_eq_true_eq] at h
    obtain ⟨⟨rfl, h1⟩, h2⟩ := h
    exact ⟨e_bin (ha.E X sc x W G tk K h1) (hb.E X sc y W G tk K h2), .inl rfl⟩
  | _ => simp [ckE] at h) (.inr fun env => rfl))
theorem sn_neg {a : Rf.E} (ha : Snd N n T a) : Snd N n T (.neg a) := f4 (snd_E (fun X sc x W G tk K h => by
  cases x with
  | UnaryOp o x p => cases o with
    | USub => simp only [ckE] at h; exact ⟨e_neg (ha.E X sc x W G tk K h), .inl rfl⟩
    | _ => simp [ckE] at h
  | _ => simp [ckE] at h) rfl (.inr fun env => rfl))
theorem sn_cmp (op : COp) {a b : Rf.E} (ha : Snd N n T a) (hb : Snd N n T b) : Snd N n T (.cmp op a b) := f4 (snd_ET (fun X sc x W G tk K h => by
  cases x with
  | Compare x os cs p =>
    rcases os with _ | ⟨o, _ | ⟨o2, r⟩⟩ <;> rcases cs with _ | ⟨y, _ | ⟨y2, r2⟩⟩ <;> first | (simp [ckE] at h; done) | skip
    simp only [ckE, Bool.and_eq_true, decide_eq_true_eq, Bool.not_eq_true'] at h
    obtain ⟨⟨⟨rfl, h1⟩, h2⟩, h3⟩ := h
    exact ⟨e_cmp G.toGoodB (ha.E X sc x W G tk K h1) (hb.E X sc y W G tk K h2) h3, t_cmp G.toGoodB (ha.E X sc x W G tk K h1) (hb.E X sc y W G tk K h2) h3⟩
  | _ => simp [ckE] at h) rfl)
theorem sn_isN (ng : Bool) {a : Rf.E} (ha : Snd N n T a) : Snd N n T (.isN a ng) := f4 (snd_ET (fun X sc x W G tk K h => by
  cases x with
  | Compare x os cs p =>
    rcases os with _ | ⟨o, _ | ⟨o2, r⟩⟩ <;> rcases cs with _ | ⟨y, _ | ⟨y2, r2⟩⟩ <;> first | (simp [ckE] at h; done) | skip
    cases y with
    | Constant c k p' => cases c with
      | none =>
        simp only [ckE, Bool.and_eq_true, decide_eq_true_eq] at h
        obtain ⟨rfl, h1⟩ := h
        exact ⟨e_isN (ha.E X sc x W G tk K h1), t_isN (ha.E X sc x W G tk K h1)⟩
      | _ => simp [ckE] at h
    | _ => simp [ckE] at h
  | _ => simp [ckE] at h) rfl)
theorem sn_chain (op op' : COp) {a b c : Rf.E} (ha : Snd N n T a) (hb : Snd N n T b) (hc : Snd N n T c) : Snd N n T (.chain op op' a b c) := f4 (snd_ET (fun X sc x W G tk K h => by
  cases x with
  | Compare x os cs p =>
    rcases os with _ | ⟨o, _ | ⟨o2, _ | ⟨o3, r⟩⟩⟩ <;> rcases cs with _ | ⟨y, _ | ⟨y2, _ | ⟨y3, r2⟩⟩⟩ <;> first | (simp [ckE] at h; done) | skip
    simp only [ckE, Bool.and_eq_true, decide_eq_true_eq, Bool.not_eq_true'] at h
    obtain ⟨⟨⟨⟨⟨rfl, rfl⟩, h1⟩, h2⟩, h3⟩, h4⟩ := h
    exact ⟨e_chain G.toGoodB (ha.E X sc x W G tk K h1) (hb.E X sc y W G tk K h2) (hc.E X sc y2 W G tk K h3) h4, t_chain G.toGoodB (ha.E X sc x W G tk K h1) (hb.E X sc y W G tk K h2) (hc.E X sc y2 W G tk K h3) h4⟩
  | _ => simp [ckE] at h) rfl)
theorem sn_and {a b : Rf.E} (ha : Snd N n T a) (hb : Snd N n T b) : Snd N n T (.and a b) := f4 (snd_ET (fun X sc x W G tk K h => by
  cases x with
  | BoolOp o xs p =>
    cases o with
    | Or => simp [ckE] at h
    | And =>
      rcases xs with _ | ⟨x, _ | ⟨y, _ | ⟨z, r⟩⟩⟩ <;> first | (simp [ckE] at h; done) | skip
      · simp only [ckE, Bool.and_eq_true] at h
        exact ⟨e_and (ha.E X sc x W G tk K h.1) (pe_one (hb.E X sc y W G tk K h.2)), t_and (ha.Tt X sc x W G tk K h.1) (pw_and1 (hb.Tt X sc y W G tk K h.2))⟩
      · simp only [ckE, Bool.and_eq_true] at h
        exact ⟨e_and (ha.E X sc x W G tk K h.1) (hb.E X sc _ W G tk K h.2), t_and (ha.Tt X sc x W G tk K h.1) (pw_of (hb.Tt X sc _ W G tk K h.2))⟩
  | _ => simp [ckE] at h) rfl)
theorem sn_or {a b : Rf.E} (ha : Snd N n T a) (hb : Snd N n T b) : Snd N n T (.or a b) := f4 (snd_ET (fun X sc x W G tk K h => by
  cases x with
  | BoolOp o xs p =>
    cases o with
    | And => simp [ckE] at h
    | Or =>
      rcases xs with _ | ⟨x, _ | ⟨y, _ | ⟨z, r⟩⟩⟩ <;> first | (simp [ckE] at h; done) | skip
      · simp only [ckE, Bool.and_eq_true] at h
        exact ⟨e_or (ha.E X sc x W G tk K h.1) (pe_one (hb.E X sc y W G tk K h.2)), t_or (ha.Tt X sc x W G tk K h.1) (pw_or1 (hb.Tt X sc y W G tk K h.2))⟩
      · simp only [ckE, Bool.and_eq_true] at h
        exact ⟨e_or (ha.E X sc x W G tk K h.1) (hb.E X sc _ W G tk K h.2), t_or (ha.Tt X sc x W G tk K h.1) (pw_of (hb.Tt X sc _ W G tk K h.2))⟩
  | _ => simp [ckE] at h) rfl)
theorem sn_not {a : Rf.E} (ha : Snd N n T a) : Snd N n T (.not a) := f4 (snd_ET (fun X sc x W G tk K h => by
  cases x with
  | UnaryOp o x p => cases o with
    | Not => simp only [ckE] at h; exact ⟨e_not (ha.E X sc x W G tk K h), t_not (ha.Tt X sc x W G tk K h)⟩
    | _ => simp [ckE] at h
  | _ => simp [ckE] at h) rfl)
theorem sn_ife {a b c : Rf.E} (hc : Snd N n T c) (ha : Snd N n T a) (hb : Snd N n T b) : Snd N n T (.ife c a b) := f4 (snd_E (fun X sc x W G tk K h => by
  cases x with
  | IfExp z x y p =>
    simp only [ckE, Bool.and_eq_true] at h
    exact ⟨e_ife (hc.Tt X sc z W G tk K h.1.1) (ha.E X sc x W G tk K h.1.2) (hb.E X sc y W G tk K h.2), .inr fun env => rfl⟩
  | _ => simp [ckE] at h) rfl (.inr fun env => rfl))
theorem sn_tup {a : Rf.E} (ha : Snd N n T a) : Snd N n T (.tup a) := f4 (snd_E (fun X sc x W G tk K h => by
  cases x with
  | Tuple xs k p => simp only [ckE] at h; exact ⟨e_tup (ha.A X sc xs W G tk K h).1, .inl rfl⟩
  | _ => simp [ckE] at h) rfl (.inr fun env => rfl))
theorem sn_lst {a : Rf.E} (ha : Snd N n T a) : Snd N n T (.lst a) := f4 (snd_X (fun X sc x W G tk K h => by
  cases x with
  | List xs p => simp only [ckE] at h; exact ⟨e_lst (ha.A X sc xs W G tk K h).1, .inl rfl⟩
  | _ => simp [ckE] at h) (.inr fun env => rfl))
theorem sn_nil : Snd N n T .nil := snd_no (by intros; rfl)
  (fun X sc x W G tk K h => by cases x with
    | nil => exact ⟨a_nil, by simp⟩
    | cons _ _ => simp [ckL] at h)
  (fun X sc x W G tk K h => by cases x with
    | none => exact p_nil
    | some _ => simp [ckP] at h)
  (fun X sc x W G tk K h => by cases x with
    | nil => exact c_nil
    | cons _ _ => simp [ckC] at h)
  (fun X sc x tg W G tk K h _ => by simp [ckI] at h)
theorem sn_cons {a b : Rf.E} (ha : Snd N n T a) (hb : Snd N n T b) : Snd N n T (.cons a b) := snd_no (by intros; rfl)
  (fun X sc x W G tk K h => by cases x with
    | nil => simp [ckL] at h
    | cons x xs =>
      simp only [ckL, Bool.and_eq_true, Bool.not_eq_true'] at h
      obtain ⟨⟨h1, h2⟩, h3⟩ := h
      obtain ⟨k1, k2⟩ := hb.A X sc xs W G tk K h3
      refine ⟨a_cons (ha.E X sc x W G tk K h1) k1 h2, fun y hy => ?_⟩
      rcases List.mem_cons.mp hy with rfl | hy
      · exact h2
      · exact k2 y hy)
  (fun X sc x W G tk K h => by
    cases b with
    | nil => cases x with
      | none => simp [ckP] at h
      | some x => simp only [ckP] at h; exact p_some (ha.E X sc x W G tk K h)
    | _ => simp [ckP] at h)
  (fun X sc x W G tk K h => by
    cases b with
    | nil =>
      rcases x with _ | ⟨x, _ | ⟨y, r⟩⟩ <;> first | (simp [ckC] at h; done) | skip
      simp only [ckC] at h
      exact c_one (ha.Tt X sc x W G tk K h)
    | _ => simp [ckC] at h)
  (fun X sc x tg W G tk K h _ => by
    cases b with
    | nil => simp only [ckI] at h; exact i_seq (ha.E X sc x W G tk K h)
    | _ => simp [ckI] at h)
theorem sn_ix {a b : Rf.E} (ha : Snd N n T a) (hb : Snd N n T b) : Snd N n T (.ix a b) := f4 (snd_E (fun X sc x W G tk K h => by
  cases x with
  | Subscript x y p =>
    simp only [ckE, Bool.and_eq_true, Bool.not_eq_true'] at h
    exact ⟨e_ix (ha.E X sc x W G tk K h.1.1) (hb.E X sc y W G tk K h.1.2) h.2, .inl rfl⟩
  | _ => simp [ckE] at h) rfl (.inl fun env => by simp only [ev, evT]))
theorem sn_sl {a b c : Rf.E} (ha : Snd N n T a) (hb : Snd N n T b) (hc : Snd N n T c) : Snd N n T (.sl a b c) := f4 (snd_X (fun X sc x W G tk K h => by
  cases x with
  | Subscript x y p => cases y with
    | Slice l u st p2 => cases st with
      | none =>
        simp only [ckE, Bool.and_eq_true] at h
        exact ⟨e_sl (ha.E X sc x W G tk K h.1.1) (hb.P X sc l W G tk K h.1.2) (hc.P X sc u W G tk K h.2), .inl rfl⟩
      | some _ => simp [ckE] at h
    | _ => simp [ckE] at h
  | _ => simp [ckE] at h) (.inr fun env => rfl))
theorem sn_call (j : Nat) {a : Rf.E} (ha : Snd N n T a) : Snd N n T (.call j a) := f4 (snd_E (fun X sc x W G tk K h => by
  cases x with
  | Call f xs ks p => cases f with
    | Name s q => cases ks with
      | nil =>
        simp only [ckE, Bool.and_eq_true, decide_eq_true_eq] at h
        obtain ⟨⟨⟨h1, h2⟩, h3⟩, h4⟩ := h
        refine ⟨?_, .inl rfl⟩
        cases xs with
        | cons y ys => exact e_call G tk K h1 h2 h3 (ha.A X sc _ W G tk K h4).1 (ha.A X sc _ W G tk K h4).2
        | nil =>
          cases a with
          | nil => exact e_call0 G tk K h1 h2 h3
          | _ => simp [ckL] at h4
      | cons _ _ => simp [ckE] at h
    | _ => simp [ckE] at h
  | _ => simp [ckE] at h) rfl (.inl fun env => by simp only [ev, evT]))
theorem sn_bi (b : Bi) {a : Rf.E} (ha : Snd N n T a) : Snd N n T (.bi b a) := f4 (snd_X (fun X sc x W G tk K h => by
  cases x with
  | Call f xs ks p => cases f with
    | Name s q => cases ks with
      | nil =>
        cases xs with
        | nil => simp [ckE] at h
        | cons y ys =>
          simp only [ckE, Bool.and_eq_true, decide_eq_true_eq, Bool.not_eq_true'] at h
          obtain ⟨⟨⟨⟨hq, rfl⟩, h2⟩, h3⟩, h4⟩ := h
          exact ⟨e_bi (G.good hq) K h2 h3 (ha.A X sc _ W G tk K h4).1 (ha.A X sc _ W G tk K h4).2, .inl rfl⟩
      | cons _ _ => simp [ckE] at h
    | _ => simp [ckE] at h
  | _ => simp [ckE] at h) (.inl fun env => by simp only [ev, evT]))
theorem sn_isi (t : Ty) {a : Rf.E} (ha : Snd N n T a) : Snd N n T (.isi a t) := f4 (snd_of (fun X sc x W G tk K h => by
  cases x with
  | Call f xs ks p => cases f with
    | Name s q => cases ks with
      | nil =>
        rcases xs with _ | ⟨x, _ | ⟨y, _ | ⟨z, r⟩⟩⟩ <;> first | (simp [ckE] at h; done) | skip
        cases y with
        | Name c q2 =>
          simp only [ckE, Bool.and_eq_true, decide_eq_true_eq, Bool.not_eq_true'] at h
          obtain ⟨⟨⟨⟨⟨⟨⟨rfl, rfl⟩, h1⟩, h2⟩, h3⟩, h4⟩, h5⟩, h6⟩ := h
          exact e_isi G.toGoodB K h1 h2 h3 h4 (ha.E X sc x W G tk K h5) h6
        | _ => simp [ckE] at h
      | cons _ _ => simp [ckE] at h
    | _ => simp [ckE] at h
  | _ => simp [ckE] at h) (fun X sc x W G tk K h z => by cases z) (fun X sc x W G tk K h => by
  cases x with
  | Call f xs ks p => cases f with
    | Name s q => cases ks with
      | nil =>
        rcases xs with _ | ⟨x, _ | ⟨y, _ | ⟨z, r⟩⟩⟩ <;> first | (simp [ckE] at h; done) | skip
        cases y with
        | Name c q2 =>
          simp only [ckE, Bool.and_eq_true, decide_eq_true_eq, Bool.not_eq_true'] at h
          obtain ⟨⟨⟨⟨⟨⟨⟨rfl, rfl⟩, h1⟩, h2⟩, h3⟩, h4⟩, h5⟩, h6⟩ := h
          refine t_plain rfl (fun env => ?_) (e_isi G.toGoodB K h1 h2 h3 h4 (ha.E X sc x W G tk K h5) h6)
          simp only [ev, evT]
          cases ev T a env with
          | ok d => simp only [R.bind_ok]; cases isiB t d <;> rfl
          | err z => rfl
          | bad => rfl
        | _ => simp [ckE] at h
      | cons _ _ => simp [ckE] at h
    | _ => simp [ckE] at h
  | _ => simp [ckE] at h))
theorem sn_isx (j : Nat) {a : Rf.E} (ha : Snd N n T a) : Snd N n T (.isx a j) := f4 (snd_E (fun X sc x W G tk K h => by
  cases x with
  | Call f xs ks p => cases f with
    | Name s q => cases ks with
      | nil =>
        rcases xs with _ | ⟨x, _ | ⟨y, _ | ⟨z, r⟩⟩⟩ <;> first | (simp [ckE] at h; done) | skip
        cases y with
        | Name c q2 =>
          simp only [ckE, Bool.and_eq_true, decide_eq_true_eq, Bool.not_eq_true'] at h
          obtain ⟨⟨⟨⟨⟨⟨⟨⟨h0, rfl⟩, h1⟩, h2⟩, h3⟩, h4⟩, h5⟩, h6⟩, h7⟩ := h
          exact ⟨e_isx (G.hot h0) G.toGoodB K h2 h1 h3 h4 h5 (ha.E X sc x W G tk K h6) h7, .inl rfl⟩
        | _ => simp [ckE] at h
      | cons _ _ => simp [ckE] at h
    | _ => simp [ckE] at h
  | _ => simp [ckE] at h) rfl (.inl fun env => by simp only [ev, evT]))
theorem sn_att (f : Str) {a : Rf.E} (ha : Snd N n T a) : Snd N n T (.att a f) := f4 (snd_E (fun X sc x W G tk K h => by
  cases x with
  | Attribute x s p =>
    simp only [ckE, Bool.and_eq_true, decide_eq_true_eq, Bool.not_eq_true'] at h
    obtain ⟨⟨rfl, h1⟩, h2⟩ := h
    exact ⟨e_att K (ha.E X sc x W G tk K h1) h2, .inl rfl⟩
  | _ => simp [ckE] at h) rfl (.inl fun env => by simp only [ev, evT]))
theorem sn_oix (i : Nat) {b : Rf.E} (hb : Snd N n T b) : Snd N n T (.oix i b) := f4 (snd_E (fun X sc x W G tk K h => by
  cases x with
  | Subscript x y p => cases x with
    | Name s q =>
      simp only [ckE, Bool.and_eq_true, decide_eq_true_eq, Bool.not_eq_true'] at h
      obtain ⟨⟨⟨⟨h1, h2⟩, h3⟩, h4⟩, h5⟩ := h
      exact ⟨e_oix G h1 h2 h3 (hb.E X sc y W G tk K h4) h5, .inl rfl⟩
    | _ => simp [ckE] at h
  | _ => simp [ckE] at h) rfl (.inr fun env => rfl))
theorem sn_olen (i : Nat) : Snd N n T (.olen i) := f4 (snd_E (fun X sc x W G tk K h => by
  cases x with
  | Call f xs ks p => cases f with
    | Name s q => cases ks with
      | nil =>
        rcases xs with _ | ⟨y, _ | ⟨z, r⟩⟩ <;> first | (simp [ckE] at h; done) | skip
        cases y with
        | Name c q2 =>
          simp only [ckE, Bool.and_eq_true, decide_eq_true_eq] at h
          obtain ⟨⟨⟨⟨⟨rfl, h1⟩, h2⟩, h3⟩, h4⟩, h5⟩ := h
          exact ⟨e_olen G K h1 h2 h3 h4 h5, .inl rfl⟩
        | _ => simp [ckE] at h
      | cons _ _ => simp [ckE] at h
    | _ => simp [ckE] at h
  | _ => simp [ckE] at h) rfl (.inr fun env => rfl))
theorem sn_comp (tg : Tg) (own : List Nat) {a b c : Rf.E} (ha : Snd N n T a) (hb : Snd N n T b) (hc : Snd N n T c) : Snd N n T (.comp a tg b c own) := f4 (snd_X (fun X sc x W G tk K h => by
  cases x with
  | ListComp x gs sc' p =>
    rcases gs with _ | ⟨⟨t, i, ifs, asy⟩, _ | ⟨y, r⟩⟩
    · simp [ckE] at h
    · by_cases h0 : asy = 0
      · subst h0
        simp only [ckE, Bool.and_eq_true, Bool.not_eq_true', List.all_eq_true, decide_eq_true_eq] at h
        obtain ⟨⟨⟨⟨⟨⟨⟨⟨hq, h1⟩, h2⟩, h3⟩, h4⟩, h5⟩, h6⟩, h7⟩, h8⟩ := h
        have G1 := G.good hq
        have gm : ∀ {sc2 : Scope} {X2 : Cx}, Good N sc2 n X2 → GoodM N sc2 n T.hm X2 := fun g => by rw [hq]; exact g.toM
        exact ⟨e_comp G1 h1 h6 h8 (hb.I X sc i t W G tk K h2 h7) (fun s H C cl fp => by have z := g_of (good_blk G1 s H C cl fp) h3; rw [gOf_blk G1.calm] at z; exact z) (fun s H C cl fp => by have z := hc.C _ sc' ifs noW (gm (good_blk G1 s H C cl fp)) (takes_blk _ _ _ _ _) (by rw [gOf_blk G1.calm]; exact K) h4; rw [gOf_blk G1.calm] at z; exact z)
          (fun s H C cl fp => by have z := ha.E _ sc' x noW (gm (good_blk G1 s H C cl fp)) (takes_blk _ _ _ _ _) (by rw [gOf_blk G1.calm]; exact K) h5; rw [gOf_blk G1.calm] at z; exact z), .inl rfl⟩
      · unfold ckE at h
        split at h <;> first | cases h | skip
        all_goals (rename_i hx; first | (cases hx; exact absurd rfl h0) | (cases hx) | skip)
    · simp [ckE] at h
  | _ => simp [ckE] at h) (.inr fun env => rfl))
end
end Rf
/-! # Rf10: walks; all expressions -/
namespace Rf
open PySem PySem.Spec L2
section
variable {N : List Str} {n : Nat} {T : Tb}
theorem sn_meth (j : Nat) (a b : Rf.E) : Snd N n T (.meth j a b) := f4 (snd_E (fun X sc x W G tk K h => by cases x <;> simp [ckE] at h) rfl (.inl fun env => by simp only [ev, evT]))
theorem walk_no {e : Rf.E} (h0 : ∀ sc x, ckE N T e sc x = false) (h1 : ∀ sc x, ckL N T e sc x = false) (h2 : ∀ sc x, ckP N T e sc x = false) (h3 : ∀ sc x, ckC N T e sc x = false)
    (hI : ∀ (X : Cx) (sc : Scope) (x tg : Expr) (W : WE), GoodM N sc n T.hm X → Takes X W → Know (gOf X) n T → ckI N T e sc x = true → tgOkB e tg = true → PI X tg x (tDI (gOf X) T W e)) : Snd N n T e :=
  snd_no h0 (fun _ sc x _ _ _ _ h => (by rw [h1] at h; cases h)) (fun _ sc x _ _ _ _ h => (by rw [h2] at h; cases h)) (fun _ sc x _ _ _ _ h => (by rw [h3] at h; cases h)) hI
theorem sn_rng1 {a : Rf.E} (ha : Snd N n T a) : Snd N n T (.rng1 a) := walk_no (by intros; rfl) (by intros; rfl) (by intros; rfl) (by intros; rfl) (fun X sc x tg W G tk K h _ => by
  cases x with
  | Call f xs ks p => cases f with
    | Name s q =>
        rcases ks with _ | ⟨k1, k2⟩ <;> rcases xs with _ | ⟨y, _ | ⟨z, r⟩⟩ <;> first | (cases (show false = true from h); done) | skip
        simp only [ckI, Bool.and_eq_true, decide_eq_true_eq, Bool.not_eq_true'] at h
        obtain ⟨⟨⟨⟨rfl, h1⟩, h2⟩, h3⟩, h4⟩ := h
        exact i_rng1 G.toGoodB K h1 h2 (ha.E X sc y W G tk K h3) h4
    | _ => exact absurd h (by simp [ckI])
  | _ => exact absurd h (by simp [ckI]))
theorem sn_rng2 {a b : Rf.E} (ha : Snd N n T a) (hb : Snd N n T b) : Snd N n T (.rng2 a b) := walk_no (by intros; rfl) (by intros; rfl) (by intros; rfl) (by intros; rfl) (fun X sc x tg W G tk K h _ => by
  cases x with
  | Call f xs ks p => cases f with
    | Name s q =>
        rcases ks with _ | ⟨k1, k2⟩ <;> rcases xs with _ | ⟨y, _ | ⟨z, _ | ⟨w, r⟩⟩⟩ <;> first | (cases (show false = true from h); done) | skip
        simp only [ckI, Bool.and_eq_true, decide_eq_true_eq, Bool.not_eq_true'] at h
        obtain ⟨⟨⟨⟨⟨⟨rfl, h1⟩, h2⟩, h3⟩, h4⟩, h5⟩, h6⟩ := h
        exact i_rng2 G.toGoodB K h1 h2 (ha.E X sc y W G tk K h3) h4 (hb.E X sc z W G tk K h5) h6
    | _ => exact absurd h (by simp [ckI])
  | _ => exact absurd h (by simp [ckI]))
theorem sn_enum {a : Rf.E} (ha : Snd N n T a) : Snd N n T (.enum a) := walk_no (by intros; rfl) (by intros; rfl) (by intros; rfl) (by intros; rfl) (fun X sc x tg W G tk K h ht => by
  cases tg with
  | Tuple es kk pt =>
    cases x with
    | Call f xs ks p => cases f with
      | Name s q =>
          rcases ks with _ | ⟨k1, k2⟩ <;> rcases xs with _ | ⟨y, _ | ⟨z, r⟩⟩ <;> first | (cases (show false = true from h); done) | skip
          simp only [ckI, Bool.and_eq_true, decide_eq_true_eq, Bool.not_eq_true'] at h
          obtain ⟨⟨⟨⟨rfl, h1⟩, h2⟩, h3⟩, h4⟩ := h
          exact i_enum G.toGoodB K h1 h2 (ha.E X sc y W G tk K h3) h4
        | _ => exact absurd h (by simp [ckI])
    | _ => exact absurd h (by simp [ckI])
  | _ => cases ht)
theorem sn_zip {a b : Rf.E} (ha : Snd N n T a) (hb : Snd N n T b) : Snd N n T (.zip a b) := walk_no (by intros; rfl) (by intros; rfl) (by intros; rfl) (by intros; rfl) (fun X sc x tg W G tk K h ht => by
  cases tg with
  | Tuple es kk pt =>
    cases x with
    | Call f xs ks p => cases f with
      | Name s q =>
          rcases ks with _ | ⟨k1, k2⟩ <;> rcases xs with _ | ⟨y, _ | ⟨z, _ | ⟨w, r⟩⟩⟩ <;> first | (cases (show false = true from h); done) | skip
          simp only [ckI, Bool.and_eq_true, decide_eq_true_eq, Bool.not_eq_true'] at h
          obtain ⟨⟨⟨⟨⟨⟨rfl, h1⟩, h2⟩, h3⟩, h4⟩, h5⟩, h6⟩ := h
          exact i_zip G.toGoodB K h1 h2 (ha.E X sc y W G tk K h3) h4 (hb.E X sc z W G tk K h5) h6
        | _ => exact absurd h (by simp [ckI])
    | _ => exact absurd h (by simp [ckI])
  | _ => cases ht)
theorem snd : ∀ e : Rf.E, Snd N n T e
  | .var i => sn_var i
  | .int i => sn_int i
  | .bl b => sn_bl b
  | .non => sn_non
  | .str s => sn_str s
  | .glob j => sn_glob j
  | .bin op a b => sn_bin op (snd a) (snd b)
  | .neg a => sn_neg (snd a)
  | .cmp op a b => sn_cmp op (snd a) (snd b)
  | .isN a ng => sn_isN ng (snd a)
  | .chain op op' a b c => sn_chain op op' (snd a) (snd b) (snd c)
  | .and a b => sn_and (snd a) (snd b)
  | .or a b => sn_or (snd a) (snd b)
  | .not a => sn_not (snd a)
  | .ife c a b => sn_ife (snd c) (snd a) (snd b)
  | .tup es => sn_tup (snd es)
  | .lst es => sn_lst (snd es)
  | .nil => sn_nil
  | .cons a es => sn_cons (snd a) (snd es)
  | .ix a b => sn_ix (snd a) (snd b)
  | .sl a lo hi => sn_sl (snd a) (snd lo) (snd hi)
  | .call j es => sn_call j (snd es)
  | .bi b es => sn_bi b (snd es)
  | .isi a t => sn_isi t (snd a)
  | .isx a j => sn_isx j (snd a)
  | .att a f => sn_att f (snd a)
  | .meth j a es => sn_meth j a es
  | .comp elt tg it cond own => sn_comp tg own (snd elt) (snd it) (snd cond)
  | .oix i b => sn_oix i (snd b)
  | .olen i => sn_olen i
  | .rng1 a => sn_rng1 (snd a)
  | .rng2 a b => sn_rng2 (snd a) (snd b)
  | .enum a => sn_enum (snd a)
  | .zip a b => sn_zip (snd a) (snd b)
end
end Rf
/-! # Rf11: statements: the small syntax, its reading -/
namespace Rf
open PySem PySem.Spec L2

inductive S where
  | nil | cons (s r : S)
  | pass | brk | ct | retN
  | ret (e : E)
  | asg (t : Tg) (e : E)
  | asgO (i : Nat) (e : E)
  | par2 (i j : Nat) (a b : E)
  | asgIx (i : Nat) (a e : E)
  | app (i : Nat) (e : E)
  | pop (i : Nat)
  | expr (e : E)
  | ife (c : E) (a b : S)
  | for_ (t : Tg) (it : E) (body : S)
  | while_ (c : E) (body : S)
  | frz (is : List Nat) (s : S)
  /-- anything: nothing is said of it -/
  | bad
  /-- raise C("..") -/
  | raise_ (j : Nat)
  /-- try: body, except C as slot i: suite; the same without a name -/
  | tryAs (i j : Nat) (body suite : S)
  | tryOnly (j : Nat) (body suite : S)
  /-- return sorted(slot i, key=lambda number: number[0] * (slot j // number[1])) -/
  | retA (i j : Nat)
inductive Out where
  | nx (env : Env) | rt (d : D) | bk (env : Env) | ct (env : Env) | err (x : Exn) (env : Env) | bad
def Out.of {α : Type} (env : Env) (k : α → Out) : R α → Out
  | .ok a => k a
  | .err x => .err x env
  | .bad => .bad
@[simp] theorem Out.of_ok {α : Type} (env : Env) (k : α → Out) (a : α) : Out.of env k (.ok a) = k a := id rfl
@[simp] theorem Out.of_err {α : Type} (env : Env) (k : α → Out) (x : Exn) : Out.of env k (.err x) = .err x env := id rfl
@[simp] theorem Out.of_bad {α : Type} (env : Env) (k : α → Out) : Out.of env k .bad = .bad := id rfl
def Out.andThen (o : Out) (k : Env → Out) : Out := match o with
  | .nx env => k env
  | o => o
def forL (f : D → Env → Out) : List D → Env → Out
  | [], env => .nx env
  | d :: ds, env => match f d env with
    | .nx e => forL f ds e
    | .ct e => forL f ds e
    | .bk e => .nx e
    | o => o
def whN (c : Env → R Bool) (b : Env → Out) : Nat → Env → Option Out
  | 0, _ => none
  | n + 1, env => match c env with
    | .ok false => some (.nx env)
    | .ok true => match b env with
      | .nx e => whN c b n e
      | .ct e => whN c b n e
      | .bk e => some (.nx e)
      | o => some o
    | .err x => some (.err x env)
    | .bad => some .bad
open Classical in
noncomputable def whileS (c : Env → R Bool) (b : Env → Out) (env : Env) : Out := if h : ∃ o n, whN c b n env = some o then h.choose else .bad
def setD (xs : List D) (d e : D) : R (List D) := match d with
  | .int k => match ixN xs.length k with
    | some j => .ok (xs.set j e)
    | none => .bad
  | _ => .bad
def frzE (env : Env) : List Nat → Env
  | [] => env
  | i :: is => match env[i]? with
    | some (some (.o xs)) => frzE (env.set i (some (.v (.lst xs)))) is
    | _ => frzE env is
def lstO {α : Type} (k : List D → R α) : D → R α
  | .lst xs => k xs
  | _ => .bad
def okKeyA (c : Int) : D → Bool
  | .tup [.int n, .int d] => okDiv d && okMul n (c.fdiv d)
  | _ => false
def keyA (c : Int) : D → Int
  | .tup [.int n, .int d] => n * c.fdiv d
  | _ => 0
def leA (c : Int) (a b : D) : Bool := decide (keyA c a ≤ keyA c b)
def sortA : D → D → R D
  | .lst xs, .int c => if xs.all (okKeyA c) = true then .ok (.lst (xs.mergeSort (leA c))) else .bad
  | _, _ => .bad
/-- the slots hold no error -/
def noXE : Env → Bool
  | [] => true
  | some (.v d) :: r => noX d && noXE r
  | some (.o ds) :: r => noXs ds && noXE r
  | none :: r => noXE r
/-- is the error caught -/
def capt (xh : List (Str × List (Str × Bool))) (j : Nat) (c : Str) : Option Bool := (xh[j]?).bind fun p => p.2.lookup c
/-- behind a suite -/
def afterS (f : Env → Env) : Out → Out
  | .nx env => if noXE (f env) = true then .nx (f env) else .bad
  | .rt d => if noX d = true then .rt d else .bad
  | _ => .bad
noncomputable def ex : Tb → S → Env → Out
  | _, .nil, env => .nx env
  | T, .cons s r, env => (ex T s env).andThen (ex T r)
  | _, .pass, env => .nx env
  | _, .brk, env => .bk env
  | _, .ct, env => .ct env
  | _, .retN, _ => .rt .non
  | T, .ret e, env => Out.of env .rt (ev T e env)
  | T, .asg t e, env => Out.of env (fun d => match setT t d env with | some env' => .nx env' | none => .bad) (ev T e env)
  | T, .asgO i e, env => Out.of env (fun d => match d with | .lst xs => .nx (env.set i (some (.o xs))) | _ => .bad) (ev T e env)
  | T, .par2 i j a b, env => Out.of env (fun x => Out.of env (fun y => .nx ((env.set i (some (.v x))).set j (some (.v y)))) (ev T b env)) (ev T a env)
  | T, .asgIx i a e, env => Out.of env (fun x => Out.of env (fun xs => Out.of env (fun k => Out.of env (fun ys => .nx (env.set i (some (.o ys)))) (setD xs k x)) (ev T a env)) (getO env i)) (ev T e env)
  | T, .app i e, env => Out.of env (fun xs => Out.of env (fun x => if xs.length < 16777216 then .nx (env.set i (some (.o (xs ++ [x])))) else .bad) (ev T e env)) (getO env i)
  | _, .pop i, env => Out.of env (fun xs => if xs ≠ [] then .nx (env.set i (some (.o xs.dropLast))) else .bad) (getO env i)
  | T, .expr e, env => Out.of env (fun _ => .nx env) (ev T e env)
  | T, .ife c a b, env => Out.of env (fun k => if k = true then ex T a env else ex T b env) (evT T c env)
  | T, .for_ t it body, env => Out.of env (fun ds => forL (fun d e => match setT t d e with | some e' => ex T body e' | none => .bad) ds env) (evI T it env)
  | T, .while_ c body, env => whileS (evT T c) (ex T body) env
  | T, .frz is s, env => ex T s (frzE env is)
  | _, .bad, _ => .bad
  | T, .raise_ j, env => match T.xc[j]? with
    | some c => .err ⟨c, []⟩ env
    | none => .bad
  | _, .retA i j, env => Out.of env .rt ((getV env i).bind fun x => (getV env j).bind fun c => sortA x c)
  | T, .tryAs i j body suite, env => match ex T body env with
    | .err x env' => match capt T.xh j x.cls with
      | some true => afterS (fun e => e.set i none) (ex T.hot suite (env'.set i (some (.v (.exc x.cls x.fs)))))
      | some false => .err x env'
      | none => .bad
    | o => o
  | T, .tryOnly j body suite, env => match ex T body env with
    | .err x env' => match capt T.xh j x.cls with
      | some true => afterS (fun e => e) (ex T.hot suite env')
      | some false => .err x env'
      | none => .bad
    | o => o

theorem whN_mono {c : Env → R Bool} {b : Env → Out} : ∀ {n m : Nat} {env : Env} {o : Out}, whN c b n env = some o → n ≤ m → whN c b m env = some o
  | 0, _, _, _, h, _ => by cases h
  | n + 1, 0, _, _, _, h => by omega
  | n + 1, m + 1, env, o, h, hl => by
    unfold whN at h ⊢
    split at h
    · exact h
    · split at h
      · exact whN_mono h (by omega)
      · exact whN_mono h (by omega)
      · exact h
      · exact h
    · exact h
    · exact h
theorem whileS_of {c : Env → R Bool} {b : Env → Out} {n : Nat} {env : Env} {o : Out} (h : whN c b n env = some o) : whileS c b env = o := by
  unfold whileS
  have hx : ∃ o n, whN c b n env = some o := ⟨o, n, h⟩
  rw [dif_pos hx]
  obtain ⟨m, hm⟩ := hx.choose_spec
  have h1 := whN_mono h (Nat.le_max_left n m)
  have h2 := whN_mono hm (Nat.le_max_right n m)
  rw [h1] at h2
  exact (Option.some.inj h2).symm
theorem whileS_ex {c : Env → R Bool} {b : Env → Out} {env : Env} (h : whileS c b env ≠ .bad) : ∃ n, whN c b n env = some (whileS c b env) := by
  by_cases hx : ∃ o n, whN c b n env = some o
  · obtain ⟨o, n, e⟩ := hx
    exact ⟨n, by rw [whileS_of e]; exact e⟩
  · unfold whileS at h
    rw [dif_neg hx] at h
    exact absurd rfl h
/-- one turn -/
theorem whileS_eq (c : Env → R Bool) (b : Env → Out) (env : Env) : whileS c b env = match c env with
    | .ok false => .nx env
    | .ok true => match b env with
      | .nx e => whileS c b e
      | .ct e => whileS c b e
      | .bk e => .nx e
      | o => o
    | .err x => .err x env
    | .bad => .bad := by
  cases hc : c env with
  | ok k =>
    cases k with
    | false => exact whileS_of (n := 1) (by simp [whN, hc])
    | true =>
      have go : ∀ e, (b env = .nx e ∨ b env = .ct e) → whileS c b env = whileS c b e := fun e he => by
        by_cases hb : ∃ o n, whN c b n e = some o
        · obtain ⟨o, n, h⟩ := hb
          rw [whileS_of h]
          refine whileS_of (n := n + 1) ?_
          rcases he with he | he <;> simp [whN, hc, he, h]
        · have hn : ¬ ∃ o n, whN c b n env = some o := fun ⟨o, n, h⟩ => by
            cases n with
            | zero => cases h
            | succ n =>
              refine hb ⟨o, n, ?_⟩
              rcases he with he | he <;> simpa [whN, hc, he] using h
          unfold whileS
          rw [dif_neg hb, dif_neg hn]
      cases hb : b env with
      | nx e => exact go e (.inl hb)
      | ct e => exact go e (.inr hb)
      | bk e => exact whileS_of (n := 1) (by simp [whN, hc, hb])
      | rt d => exact whileS_of (n := 1) (by simp [whN, hc, hb])
      | err x e => exact whileS_of (n := 1) (by simp [whN, hc, hb])
      | bad => exact whileS_of (n := 1) (by simp [whN, hc, hb])
  | err x => exact whileS_of (n := 1) (by simp [whN, hc])
  | bad => exact whileS_of (n := 1) (by simp [whN, hc])

/-! ### what is wanted behind a statement -/
def SO (g : G) (W : WE) (D : Ends) (H0 Hf0 : Hp) (Hf : Hp) : Out → Prop
  | .nx env => ∀ σ' H' Hf', SR g H0 Hf0 σ' H' Hf' env → Same Hf Hf' → D.nx σ' H'
  | .rt d => ∀ v H' Hf', Fut H0 Hf0 H' Hf' → Rep g Hf' v d → D.rt v H'
  | .bk env => ∀ σ' H' Hf', SR g H0 Hf0 σ' H' Hf' env → Same Hf Hf' → D.bk σ' H'
  | .ct env => ∀ σ' H' Hf', SR g H0 Hf0 σ' H' Hf' env → Same Hf Hf' → D.ct σ' H'
  | .err x env => ∀ σ' H' Hf' cls dx, SR g H0 Hf0 σ' H' Hf' env → Same Hf Hf' → XRep g H' Hf' cls dx x → W cls dx σ' H'
  | .bad => False
theorem SO.later {g : G} {W : WE} {D : Ends} {H0 Hf0 Hf Hf1 : Hp} {o : Out} (h : SO g W D H0 Hf0 Hf o) (s : Same Hf Hf1) : SO g W D H0 Hf0 Hf1 o := by
  cases o with
  | nx env => exact fun σ' H' Hf' r q => h σ' H' Hf' r (s.trans q)
  | rt d => exact h
  | bk env => exact fun σ' H' Hf' r q => h σ' H' Hf' r (s.trans q)
  | ct env => exact fun σ' H' Hf' r q => h σ' H' Hf' r (s.trans q)
  | err x env => exact fun σ' H' Hf' c d r q => h σ' H' Hf' c d r (s.trans q)
  | bad => exact h
def tDS (g : G) (T : Tb) (W : WE) (s : S) : TS := fun D σ H => ∃ H0 Hf0 Hf env, SR g H0 Hf0 σ H Hf env ∧ SO g W D H0 Hf0 Hf (ex T s env)
structure GoodS (N : List Str) (sc : Scope) (n : Nat) (X : Cx) : Prop extends Good N sc n X where
  eS : X.env.scope = sc
  kind : sc.kind = .function
  po : PassesOwn (model X.prog X.w) X.A X.env X.xe
  stk : X.stack = X.env :: X.outer
  fr : X.env.frame = some X.env.locals
structure GoodSM (N : List Str) (sc : Scope) (n : Nat) (hm : Bool) (X : Cx) : Prop extends GoodM N sc n hm X where
  eS : X.env.scope = sc
  kind : sc.kind = .function
  po : PassesOwn (model X.prog X.w) X.A X.env X.xe
  stk : X.stack = X.env :: X.outer
  fr : X.env.frame = some X.env.locals
theorem GoodSM.goodS {N : List Str} {sc : Scope} {n : Nat} {hm : Bool} {X : Cx} (G : GoodSM N sc n hm X) (h : hm = false) : GoodS N sc n X := ⟨G.toGoodM.good h, G.eS, G.kind, G.po, G.stk, G.fr⟩
theorem gmq {N : List Str} {sc : Scope} {n : Nat} {hm : Bool} {X : Cx} (h : hm = false) (G : Good N sc n X) : GoodM N sc n hm X := by rw [h]; exact G.toM
/-- a value is reckoned first -/
theorem so_of {g : G} {W : WE} {D : Ends} {H0 Hf0 H Hf : Hp} {env : Env} {σ : St} {α : Type} {k : α → Out} {r : R α} (sr : SR g H0 Hf0 σ H Hf env) (h : SO g W D H0 Hf0 Hf (Out.of env k r)) :
    RG g W σ (fun a H1 Hf1 => SO g W D H0 Hf0 Hf1 (k a) ∧ Fut H Hf H1 Hf1) r H Hf := by
  cases r with
  | ok a => exact ⟨h, Fut.refl sr.sub⟩
  | err x => exact fun cls dx H' Hf' f xr => h σ H' Hf' cls dx (sr.mono f) f.f xr
  | bad => exact h
section
variable {g : G} {T : Tb} {W : WE} {H0 Hf0 H Hf : Hp} {env : Env} {σ : St} {D : Ends}
theorem sD_step {a : E} {k : Rf.D → Out} {Q' : VK} (sr : SR g H0 Hf0 σ H Hf env) (h : SO g W D H0 Hf0 Hf (Out.of env k (ev T a env)))
    (nx : ∀ d v H1 Hf1, ev T a env = .ok d → Fut H Hf H1 Hf1 → Rep g Hf1 v d → SR g H0 Hf0 σ H1 Hf1 env → SO g W D H0 Hf0 Hf1 (k d) → Q' v H1) : tD g T W a σ H Q' :=
  ⟨H0, Hf0, Hf, env, sr, (so_of sr h).imp fun d e q v H1 Hf1 f r => nx d v H1 Hf1 e f r (sr.mono f) (q.1.later f.f)⟩
theorem sDX_step {a : E} {k : Rf.D → Out} {Q' : VK} (sr : SR g H0 Hf0 σ H Hf env) (h : SO g W D H0 Hf0 Hf (Out.of env (fun d => match d with | .lst xs => k (.lst xs) | _ => .bad) (ev T a env)))
    (nx : ∀ ds p vs H1 Hf1, Fut H Hf H1 Hf1 → H p = none → H1 p = some (.lst vs) → Hf1 p = none → Reps g Hf1 vs ds → SR g H0 Hf0 σ H1 Hf1 env → SO g W D H0 Hf0 Hf1 (k (.lst ds)) → Q' (.ref p) H1) : tDF g T W a σ H Q' :=
  ⟨H0, Hf0, Hf, env, sr, (so_of sr h).imp fun d e q => by
    cases d with
    | lst ds => exact fun p vs H1 Hf1 f hn h1 h2 r => nx ds p vs H1 Hf1 f hn h1 h2 r (sr.mono f) (q.1.later f.f)
    | _ => exact q.1.elim⟩
theorem sDT_step {a : E} {k : Bool → Out} {Q' : Bool → Hp → Prop} (sr : SR g H0 Hf0 σ H Hf env) (h : SO g W D H0 Hf0 Hf (Out.of env k (evT T a env)))
    (nx : ∀ d H1 Hf1, Fut H Hf H1 Hf1 → SR g H0 Hf0 σ H1 Hf1 env → SO g W D H0 Hf0 Hf1 (k d) → Q' d H1) : tDT g T W a σ H Q' :=
  ⟨H0, Hf0, Hf, env, sr, (so_of sr h).imp fun d e q H1 Hf1 f => nx d H1 Hf1 f (sr.mono f) (q.1.later f.f)⟩
theorem sDI_step {a : E} {k : List Rf.D → Out} {Q' : It → Hp → Prop} (sr : SR g H0 Hf0 σ H Hf env) (h : SO g W D H0 Hf0 Hf (Out.of env k (evI T a env)))
    (nx : ∀ ds J H1 Hf1, Fut H Hf H1 Hf1 → Yld g J Hf1 ds → SR g H0 Hf0 σ H1 Hf1 env → SO g W D H0 Hf0 Hf1 (k ds) → Q' J H1) : tDI g T W a σ H Q' :=
  ⟨H0, Hf0, Hf, env, sr, (so_of sr h).imp fun d e q J H1 Hf1 f y => nx d J H1 Hf1 f y (sr.mono f) (q.1.later f.f)⟩
end
end Rf
/-! # Rf12: statements: the look, and that the machine does what the reading says -/
namespace Rf
open PySem PySem.Spec L2
theorem _root_.L2.PS.imp {X : Cx} {e : Stmt} {t t' : TS} (h : PS X e t) (k : ∀ D σ H, t' D σ H → t D σ H) : PS X e t' := ⟨fun pins s σ H D I q => h.run pins s σ H D I (k D σ H q)⟩
theorem _root_.L2.PSs.imp {X : Cx} {e : List Stmt} {t t' : TS} (h : PSs X e t) (k : ∀ D σ H, t' D σ H → t D σ H) : PSs X e t' := ⟨fun pins s σ H D I q => h.run pins s σ H D I (k D σ H q)⟩
def isComp : Expr → Bool
  | .ListComp _ _ _ _ => true | .SetComp _ _ _ _ => true | .DictComp _ _ _ _ _ => true | _ => false
def isTup : Expr → Bool
  | .Tuple _ _ _ => true | _ => false
def lclB (sc : Scope) (x : Str) : Bool := match sc.names.lookup x with
  | some .local => true | _ => false
/-- the comprehension is stored from within its block -/
def swB (sc sc' : Scope) (y : Str) (py p : Pos) : Bool := lclB sc y && (py.line == p.line) && !(sc'.names.any fun (n, k) => n == y && (k == .local || k == .cell))
def allLoc (sc : Scope) : List Expr → Bool
  | [] => true
  | .Name x _ :: r => lclB sc x && allLoc sc r
  | _ :: _ => false
def parB (es vs : List Expr) : Option (Str × Pos × Str × Pos × Expr × Expr) := match es, vs with
  | [.Name x px, .Name y py], [u, v] => some (x, px, y, py, u, v)
  | _, _ => none
theorem parB_of {es vs : List Expr} {x y : Str} {px py : Pos} {u v : Expr} (h : parB es vs = some (x, px, y, py, u, v)) : es = [.Name x px, .Name y py] ∧ vs = [u, v] := by
  unfold parB at h
  split at h
  · cases h; exact ⟨rfl, rfl⟩
  · cases h
/-- name = [..]: stored from within the block, or not at all so -/
def cmpOkB (e : E) (sc : Scope) (y : Str) (py : Pos) : Expr → Bool
  | .ListComp _ _ sc' p => (match e with | .comp _ _ _ _ _ => true | _ => false) && (swB sc sc' y py p || !swB sc sc' y py p)
  | _ => false
def cmpTB (t : Tg) (e : E) (sc : Scope) (y x : Expr) : Bool := match t, y with
  | .name _, .Name w py => cmpOkB e sc w py x
  | _, _ => false
/-- the scope of the lambda of ascending -/
def lamScB (sc sc2 : Scope) : Bool :=
  decide (sc2.kind = .function) && !sc2.isCoroutine && !sc2.isGenerator && decide (sc2.names.lookup ("number" : Str) = some .local) && decide (sc2.names.lookup ("common" : Str) = some .free) &&
    sc2.names.all fun y => !decide (y.2 = .cell) && (!decide (y.2 = .free) || decide (sc.names.lookup y.1 = some .cell) || decide (sc.names.lookup y.1 = some .free))
mutual
def ckS (N : List Str) : Tb → S → Scope → Stmt → Bool
  | T, .pass, _, .Pass _ => true
  | T, .brk, _, .Break _ => true
  | T, .ct, _, .Continue _ => true
  | T, .retN, _, .Return none _ => true
  | T, .ret e, sc, .Return (some x) _ => ckE N T e sc x
  | T, .asg t e, sc, .Assign [y] x _ => !T.hm && ckE N T e sc x && ckTg N sc t y && (!isComp x || cmpTB t e sc y x) && !(isTup x && isTup y)
  | T, .asgO i e, sc, .Assign [.Name y py] x _ => !T.hm && decide (N[i]? = some y) && locB sc y && ckE N T e sc x && freshB e && (!isComp x || cmpOkB e sc y py x)
  | T, .par2 i j a b, sc, .Assign [.Tuple es _ _] (.Tuple vs _ _) _ => match parB es vs with
    | some (x, px, y, py, u, v) => !T.hm && decide (N[i]? = some x) && decide (N[j]? = some y) && decide (i ≠ j) && lclB sc x && lclB sc y && ckE N T a sc u && ckE N T b sc v && !staB u && !staB v && decide (px.line = py.line) && !(foldedForSure 8 u && foldedForSure 8 v) && !(constantsAlone 8 u && constantsAlone 8 v)
    | none => false
  | T, .asgIx i a e, sc, .Assign [.Subscript (.Name y _) z _] x _ => !T.hm && decide (N[i]? = some y) && visB sc y && nmB y && ckE N T a sc z && ckE N T e sc x && !isComp x && !slB z
  | T, .app i e, sc, .Expr (.Call (.Attribute (.Name y _) m pa) [x] [] pc) _ => !T.hm && (pa.endLine == pc.line) && decide (m = "append") && decide (N[i]? = some y) && visB sc y && nmB y && ckE N T e sc x && !staB x
  | T, .pop i, sc, .Expr (.Call (.Attribute (.Name y _) m pa) [] [] pc) _ => !T.hm && (pa.endLine == pc.line) && decide (m = "pop") && decide (N[i]? = some y) && visB sc y && nmB y
  | T, .expr e, sc, .Expr x _ => ckE N T e sc x && !isComp x
  | T, .ife c a b, sc, .If z xs ys _ => ckE N T c sc z && ckSs N T a sc xs && ckSs N T b sc ys
  | T, .for_ t it body, sc, .For y x xs [] _ => !T.hm && ckI N T it sc x && ckTg N sc t y && tgOkB it y && !setB x && ckSs N T body sc xs
  | T, .while_ c body, sc, .While z xs [] _ => !T.hm && ckE N T c sc z && ckSs N T body sc xs
  | T, .frz _ s, sc, st => ckS N T s sc st
  | T, .bad, _, _ => true
  | T, .raise_ j, sc, .Raise (some (.Call (.Name x _) [.Constant (.str _) _ _] [] _)) none _ => !T.hm && decide (T.xc[j]? = some x) && glB sc x && nmB x
  | T, .retA i j, sc, .Return (some (.Call (.Name f _) [.Name x _] [⟨some k, .Lambda ps (.BinOp (.Subscript (.Name a _) (.Constant (.int u0) _ _) _) o1 (.BinOp (.Name b _) o2 (.Subscript (.Name a2 _) (.Constant (.int u1) _ _) _) _) _) sc2 _, _⟩] _)) _ =>
    decide (u0 = 0) && decide (u1 = 1) && decide (o1 = .Mult) && decide (o2 = .FloorDiv) && !T.hm && T.lam && decide (f = "sorted") && decide (k = "key") && decide (("sorted" : Str) ∈ T.bn) && glB sc f && decide (N[i]? = some x) && visB sc x && nmB x && decide (a = "number") && decide (a2 = "number") && decide (b = "common") && decide (N[j]? = some b) && decide (sc.names.lookup b = some .cell) && lamScB sc sc2 && parB1 ps
  | T, .tryAs i j body suite, sc, .Try xs [.ExceptHandler (some (.Name x _)) (some m) (y :: ys) _] [] [] _ => !T.hm && decide (N[i]? = some m) && lclB sc m && decide ((T.xh[j]?).map (·.1) = some x) && glB sc x && nmB x && ckSs N T body sc xs && ckSs N T.hot suite sc (y :: ys)
  | T, .tryOnly j body suite, sc, .Try xs [.ExceptHandler (some (.Name x _)) none (y :: ys) _] [] [] _ => !T.hm && decide ((T.xh[j]?).map (·.1) = some x) && glB sc x && nmB x && ckSs N T body sc xs && ckSs N T.hot suite sc (y :: ys)
  | T, _, _, _ => false
def ckSs (N : List Str) : Tb → S → Scope → List Stmt → Bool
  | T, .nil, _, [] => true
  | T, .cons s r, sc, x :: xs => ckS N T s sc x && ckSs N T r sc xs
  | T, _, _, _ => false
end
section
variable {X : Cx} {N : List Str} {sc : Scope} {n : Nat} {T : Tb} {W : WE} {a b c e it : E} {x y z : Expr} {p q : Pos} {k : Nat} {s r : S} {st : Stmt} {xs ys : List Stmt}
theorem s_nil : PSs X [] (tDS (gOf X) T W .nil) := pss_nil.imp fun D σ H ⟨H0, Hf0, Hf, env, sr, h⟩ => h σ H Hf sr (.refl _)
theorem s_cons (h1 : PS X st (tDS (gOf X) T W s)) (h2 : PSs X xs (tDS (gOf X) T W r)) : PSs X (st :: xs) (tDS (gOf X) T W (.cons s r)) := (pss_cons h1 h2).imp fun D σ H ⟨H0, Hf0, Hf, env, sr, h⟩ => by
  refine ⟨H0, Hf0, Hf, env, sr, ?_⟩
  simp only [ex] at h
  cases ho : ex T s env with
  | nx env' =>
    rw [ho] at h
    exact fun σ' H' Hf' r' s' => ⟨H0, Hf0, Hf', env', r', SO.later h s'⟩
  | rt d => rw [ho] at h; exact h
  | bk e => rw [ho] at h; exact h
  | ct e => rw [ho] at h; exact h
  | err x e => rw [ho] at h; exact h
  | bad => rw [ho] at h; exact h.elim
theorem s_pass : PS X (.Pass p) (tDS (gOf X) T W .pass) := ps_pass.imp fun D σ H ⟨H0, Hf0, Hf, env, sr, h⟩ => h σ H Hf sr (.refl _)
theorem s_brk : PS X (.Break p) (tDS (gOf X) T W .brk) := ps_break.imp fun D σ H ⟨H0, Hf0, Hf, env, sr, h⟩ => h σ H Hf sr (.refl _)
theorem s_ct : PS X (.Continue p) (tDS (gOf X) T W .ct) := ps_continue.imp fun D σ H ⟨H0, Hf0, Hf, env, sr, h⟩ => h σ H Hf sr (.refl _)
theorem s_retN : PS X (.Return none p) (tDS (gOf X) T W .retN) := ps_retN.imp fun D σ H ⟨H0, Hf0, Hf, env, sr, h⟩ => h .non H Hf sr.fut .non
theorem s_ret (he : PE X x (tD (gOf X) T W e)) : PS X (.Return (some x) p) (tDS (gOf X) T W (.ret e)) := (ps_ret he).imp fun D σ H ⟨H0, Hf0, Hf, env, sr, h⟩ => by
  simp only [ex] at h
  exact sD_step sr h fun d v H1 Hf1 _ f r sr1 q => q v H1 Hf1 sr1.fut r
theorem sw_no {t : Option Expr} {l : Nat} {en : PySem.Env} (h : isComp x = false) : swapsWith x t l en = pure false := by
  cases x <;> first | rfl | cases h
theorem ss_no {env : PySem.Env} (h : (isTup x && isTup y) = false) (hy : ∀ es p, y ≠ .List es p) : swappedStores [y] x env = pure none := by
  cases x <;> cases y <;> first | rfl | (cases h; done) | exact absurd rfl (hy _ _)
/-- a value stored by a target -/
theorem asg_go {t : Tg} {D : Ends} {σ : St} {H : Hp} (h : tDS (gOf X) T W (.asg t e) D σ H) : tAsg (tD (gOf X) T W e) (tG (gOf X) t) D σ H := by
  obtain ⟨H0, Hf0, Hf, env, sr, h⟩ := h
  simp only [ex] at h
  refine sD_step sr h fun d v H1 Hf1 _ f r sr1 q => ?_
  cases hs : setT t d env with
  | none => rw [hs] at q; exact q.elim
  | some env' =>
    rw [hs] at q
    exact ⟨H0, Hf0, Hf1, env, d, sr1, r, env', hs, fun σ' sr' _ _ => q σ' H1 Hf1 sr' (.refl _)⟩
theorem s_asg {t : Tg} (G : Good N sc n X) (he : PE X x (tD (gOf X) T W e)) (hg : PG X y (tG (gOf X) t)) (h1 : isComp x = false) (h2 : (isTup x && isTup y) = false) (h3 : ckTg N sc t y = true) : PS X (.Assign [y] x p) (tDS (gOf X) T W (.asg t e)) := by
  have hl : ∀ es p, y ≠ .List es p := fun es p z => by subst z; cases t <;> simp [ckTg] at h3
  refine (ps_asg he hg (by show swapsWith _ _ _ _ = _; exact sw_no h1) (ss_no h2 hl) ?_).imp fun D σ H h => asg_go h
  cases y with
  | Starred _ _ => cases t <;> simp [ckTg] at h3
  | _ => rfl
theorem s_asgO {i : Nat} {w : Str} (G : Good N sc n X) (he : PE X x (tDF (gOf X) T W e)) (hi : N[i]? = some w) (hl : locB sc w = true) (h1 : isComp x = false) : PS X (.Assign [.Name w q] x p) (tDS (gOf X) T W (.asgO i e)) := by
  obtain ⟨l1, l2⟩ := G.loc w hl
  refine (ps_set (i := i) (by rw [G.eN]; exact G.nd) (by rw [G.eN]; exact hi) l1 he (sw_no h1) l2).imp fun D σ H ⟨H0, Hf0, Hf, env, sr, h⟩ => ?_
  simp only [ex] at h
  refine sDX_step (k := fun d => match d with | .lst xs => .nx (env.set i (some (.o xs))) | _ => .bad) sr (by
    cases hv : ev T e env with
    | ok d => rw [hv] at h; cases d <;> exact h
    | err z => rw [hv] at h; exact h
    | bad => rw [hv] at h; exact h) fun ds pp vs H1 Hf1 f hn h1' hf r sr1 q => ?_
  have h0 : H0 pp = none := sr.fut.s.free hn
  refine q _ H1 Hf1 (sr1.seto h1' hf h0 r fun j zs hj he' hσ => ?_) (.refl _)
  obtain ⟨v, hv, sl⟩ := sr.slot j _ he'
  cases sl with
  | o z1 z2 z3 z4 =>
    rw [hv] at hσ
    cases hσ
    rw [hn] at z1; cases z1
theorem s_par2 {i j : Nat} {u v : Str} {x y : Expr} {px py pt : Pos} {kt k2 : Nat} {pt2 : Pos} (G : GoodS N sc n X) (hi : N[i]? = some u) (hj : N[j]? = some v) (hij : i ≠ j) (h1 : lclB sc u = true) (h2 : lclB sc v = true) (ha : PE X x (tD (gOf X) T W a)) (hb : PE X y (tD (gOf X) T W b))
    (s1 : staB x = false) (s2 : staB y = false) (hl : px.line = py.line) (h3 : (foldedForSure 8 x && foldedForSure 8 y) = false) (h4 : (constantsAlone 8 x && constantsAlone 8 y) = false) :
    PS X (.Assign [.Tuple [.Name u px, .Name v py] kt pt] (.Tuple [x, y] k2 pt2) p) (tDS (gOf X) T W (.par2 i j a b)) := by
  have lu : X.env.scope.names.lookup u = some .local := by
    rw [G.eS]; unfold lclB at h1; split at h1
    · assumption
    · cases h1
  have lv : X.env.scope.names.lookup v = some .local := by
    rw [G.eS]; unfold lclB at h2; split at h2
    · assumption
    · cases h2
  have huv : u ≠ v := fun z => hij (by
    subst z
    exact nodup_ix G.nd hi hj)
  have hw : swappedStores [.Tuple [.Name u px, .Name v py] kt pt] (.Tuple [x, y] k2 pt2) X.env = pure (some [u, v]) := by
    have ku : X.env.kindOf u = some .local := lu
    have kv : X.env.kindOf v = some .local := lv
    have hb' : X.env.blockKind = .function := by unfold PySem.Env.blockKind; rw [G.eS, G.kind]; rfl
    have any : ([x, y].any fun | .Starred .. => true | _ => false) = false := by
      cases x <;> cases y <;> first | rfl | (cases s1; done) | (cases s2; done)
    have uv : (u == v) = false := by simpa using huv
    have vu : (v == u) = false := by simpa using (Ne.symm huv)
    unfold swappedStores
    have e1 : (List.all [x, y] (foldedForSure 8)) = false := by simpa [List.all] using h3
    have e2 : (List.all [x, y] (constantsAlone 8)) = false := by simpa [List.all] using h4
    simp only [any, e1, e2, List.filterMap, ku, kv, hl, hb', Expr.pos, List.length, List.head?, Option.map, Option.getD, List.eraseDups_cons]
    have ed : [u, v].eraseDups = [u, v] := by simp [List.eraseDups_cons, vu]
    simp [ed]
    intro h
    exfalso
    rcases h with h | h
    · cases x <;> first | (cases h; done) | (cases s1; done)
    · cases y <;> first | (cases h; done) | (cases s2; done)
  refine (ps_par G.calm (by rw [G.eN]; exact G.nd) (by rw [G.eN]; exact hi) (by rw [G.eN]; exact hj) hij lu lv (pa_cons ha (pa_cons hb pa_nil (star_of s2)) (star_of s1)) hw rfl).imp fun D σ H ⟨H0, Hf0, Hf, env, sr, h⟩ => ?_
  simp only [ex] at h
  refine sD_step sr h fun d v H1 Hf1 _ f1 r1 sr1 q1 => ?_
  refine sD_step sr1 q1 fun d2 v2 H2 Hf2 _ f2 r2 sr2 q2 => ?_
  exact ⟨v, v2, rfl, q2 _ H2 Hf2 ((sr2.setv (r1.mono f2.f)).setv r2) (.refl _)⟩
theorem s_expr (he : PE X x (tD (gOf X) T W e)) (h1 : isComp x = false) : PS X (.Expr x p) (tDS (gOf X) T W (.expr e)) := (ps_expr he (sw_no h1)).imp fun D σ H ⟨H0, Hf0, Hf, env, sr, h⟩ => by
  simp only [ex] at h
  exact sD_step sr h fun d v H1 Hf1 _ f r sr1 q => q σ H1 Hf1 sr1 (.refl _)
theorem s_ife (hc : PT X z (tDT (gOf X) T W c)) (ha : PSs X xs (tDS (gOf X) T W s)) (hb : PSs X ys (tDS (gOf X) T W r)) : PS X (.If z xs ys p) (tDS (gOf X) T W (.ife c s r)) := (ps_if hc ha hb).imp fun D σ H ⟨H0, Hf0, Hf, env, sr, h⟩ => by
  simp only [ex] at h
  refine sDT_step sr h fun k H1 Hf1 f sr1 q => ?_
  cases k with
  | true => rw [if_pos rfl] at q ⊢; exact ⟨H0, Hf0, Hf1, env, sr1, q⟩
  | false => rw [if_neg Bool.false_ne_true] at q ⊢; exact ⟨H0, Hf0, Hf1, env, sr1, q⟩
theorem SR.frzs {g : G} {H0 Hf0 H : Hp} {σ : St} : ∀ (is : List Nat) {env : Env} {Hf : Hp}, SR g H0 Hf0 σ H Hf env → ∃ Hf', SR g H0 Hf0 σ H Hf' (frzE env is) ∧ Same Hf Hf'
  | [], env, Hf, sr => ⟨Hf, sr, .refl _⟩
  | i :: is, env, Hf, sr => by
    unfold frzE
    split
    · rename_i xs h
      obtain ⟨Hf1, sr1, s1⟩ := sr.freeze h
      obtain ⟨Hf2, sr2, s2⟩ := SR.frzs is sr1
      exact ⟨Hf2, sr2, s1.trans s2⟩
    · exact SR.frzs is sr
theorem s_frz {is : List Nat} (hs : PS X st (tDS (gOf X) T W s)) : PS X st (tDS (gOf X) T W (.frz is s)) := hs.imp fun D σ H ⟨H0, Hf0, Hf, env, sr, h⟩ => by
  simp only [ex] at h
  obtain ⟨Hf', sr', s'⟩ := SR.frzs (H0 := H0) (Hf0 := Hf0) (H := H) (Hf := Hf) is sr
  exact ⟨H0, Hf0, Hf', _, sr', h.later s'⟩
theorem s_while (G : GoodS N sc n X) (hc : PT X z (tDT (gOf X) T W c)) (hb : PSs X xs (tDS (gOf X) T W s)) : PS X (.While z xs [] p) (tDS (gOf X) T W (.while_ c s)) := (ps_while G.po hc hb).imp fun D σ H ⟨H0, Hf0, Hf, env, sr, h⟩ => by
  simp only [ex] at h
  generalize hfin : whileS (evT T c) (ex T s) env = o at h
  have hne : o ≠ .bad := fun z => by subst z; exact h
  obtain ⟨n0, h0⟩ := whileS_ex (by rw [hfin]; exact hne)
  rw [hfin] at h0
  refine ⟨fun m σ' H' => ∃ Hf' env', SR (gOf X) H0 Hf0 σ' H' Hf' env' ∧ Same Hf Hf' ∧ whN (evT T c) (ex T s) m env' = some o, ⟨n0, Hf, env, sr, .refl _, h0⟩, ?_⟩
  rintro m σ1 H1 ⟨Hf1, env1, sr1, sm, hm⟩
  cases m with
  | zero => cases hm
  | succ m =>
    unfold whN at hm
    refine ⟨H0, Hf0, Hf1, env1, sr1, ?_⟩
    cases hcc : evT T c env1 with
    | err x =>
      rw [hcc] at hm
      cases hm
      exact fun cls dx H' Hf' f xr => h σ1 H' Hf' cls dx (sr1.mono f) (sm.trans f.f) xr
    | bad => rw [hcc] at hm; cases hm; exact (hne rfl).elim
    | ok k =>
      rw [hcc] at hm
      intro H2 Hf2 f2
      have sr2 := sr1.mono f2
      cases k with
      | false =>
        rw [if_neg Bool.false_ne_true]
        cases hm
        exact h σ1 H2 Hf2 sr2 (sm.trans f2.f)
      | true =>
        rw [if_pos rfl]
        refine ⟨_, fun σ' H' w => ⟨m, Nat.lt_succ_self _, w⟩, H0, Hf0, Hf2, env1, sr2, ?_⟩
        cases hbb : ex T s env1 with
        | nx e => rw [hbb] at hm; exact fun σ' H' Hf' r' s' => ⟨Hf', e, r', (sm.trans f2.f).trans s', hm⟩
        | ct e => rw [hbb] at hm; exact fun σ' H' Hf' r' s' => ⟨Hf', e, r', (sm.trans f2.f).trans s', hm⟩
        | bk e => rw [hbb] at hm; cases hm; exact fun σ' H' Hf' r' s' => h σ' H' Hf' r' ((sm.trans f2.f).trans s')
        | rt d => rw [hbb] at hm; cases hm; exact h
        | err x e => rw [hbb] at hm; cases hm; exact fun σ' H' Hf' cls dx r' s' xr => h σ' H' Hf' cls dx r' ((sm.trans f2.f).trans s') xr
        | bad => rw [hbb] at hm; cases hm; exact (hne rfl).elim
theorem s_for {t : Tg} (G : GoodS N sc n X) (hi : PI X y x (tDI (gOf X) T W it)) (hg : PG X y (tG (gOf X) t)) (hb : PSs X xs (tDS (gOf X) T W s)) (hset : setB x = false) : PS X (.For y x xs [] p) (tDS (gOf X) T W (.for_ t it s)) :=
  (ps_for G.po G.calm hi hg hb (fold_of hset)).imp fun D σ H ⟨H0, Hf0, Hf, env, sr, h⟩ => by
  simp only [ex] at h
  generalize hf : (fun d e => match setT t d e with | some e' => ex T s e' | none => .bad) = f at h
  refine sDI_step sr h fun ds J H1 Hf1 f1 yl sr1 q => ?_
  generalize hfin : forL f ds env = o at q
  have hne : o ≠ .bad := fun z => by subst z; exact q
  refine ⟨fun i m σ' H' => m = ds.length - i ∧ i ≤ ds.length ∧ ∃ Hf' env', SR (gOf X) H0 Hf0 σ' H' Hf' env' ∧ Same Hf1 Hf' ∧ forL f (ds.drop i) env' = o, ⟨ds.length, by simp, Nat.zero_le _, Hf1, env, sr1, .refl _, by simpa using hfin⟩, ?_⟩
  rintro i m σ2 H2 ⟨hm, hi, Hf2, env2, sr2, sm, hfor⟩
  rcases Nat.lt_or_ge i ds.length with hlt | hge
  · refine .inr ⟨yl.go i H2 Hf2 sm sr2.sub hlt, _, fun σ' H' w => ⟨ds.length - (i + 1), by omega, w⟩, fun v H3 hy => ?_⟩
    obtain ⟨Hf3, f3, rv⟩ := yl.yld i H2 Hf2 v H3 ds[i] sm sr2.sub hy (List.getElem?_eq_getElem hlt)
    rw [List.drop_eq_getElem_cons hlt] at hfor
    unfold forL at hfor
    have hfi : f ds[i] env2 = match setT t ds[i] env2 with | some e' => ex T s e' | none => .bad := by rw [← hf]
    rw [hfi] at hfor
    cases hs : setT t ds[i] env2 with
    | none => rw [hs] at hfor; exact (hne hfor.symm).elim
    | some e' =>
      rw [hs] at hfor
      refine ⟨H0, Hf0, Hf3, env2, ds[i], sr2.mono f3, rv, e', hs, fun σ4 sr4 _ _ => ⟨H0, Hf0, Hf3, e', sr4, ?_⟩⟩
      simp only at hfor
      cases hbb : ex T s e' with
      | nx e => rw [hbb] at hfor; exact fun σ' H' Hf' r' s' => ⟨rfl, by omega, Hf', e, r', (sm.trans f3.f).trans s', hfor⟩
      | ct e => rw [hbb] at hfor; exact fun σ' H' Hf' r' s' => ⟨rfl, by omega, Hf', e, r', (sm.trans f3.f).trans s', hfor⟩
      | bk e => rw [hbb] at hfor; subst hfor; exact fun σ' H' Hf' r' s' => q σ' H' Hf' r' ((sm.trans f3.f).trans s')
      | rt d => rw [hbb] at hfor; subst hfor; exact q
      | err x e => rw [hbb] at hfor; subst hfor; exact fun σ' H' Hf' cls dx r' s' xr => q σ' H' Hf' cls dx r' ((sm.trans f3.f).trans s') xr
      | bad => rw [hbb] at hfor; exact (hne hfor.symm).elim
  · have : i = ds.length := by omega
    subst this
    rw [List.drop_length] at hfor
    simp only [forL] at hfor
    subst hfor
    exact .inl ⟨yl.stop H2 Hf2 sm sr2.sub, q σ2 H2 Hf2 sr2 sm⟩
/-- a list's place in the frame -/
theorem own_at {g : G} {H0 Hf0 H Hf : Hp} {σ : St} {env : Env} {i : Nat} {ds : List Rf.D} (sr : SR g H0 Hf0 σ H Hf env) (h : getO env i = .ok ds) :
    ∃ p vs, σ[i]? = some (some (.ref p)) ∧ env[i]? = some (some (.o ds)) ∧ H p = some (.lst vs) ∧ Hf p = none ∧ H0 p = none ∧ Reps g Hf vs ds := by
  unfold getO at h
  split at h
  · rename_i xs he
    cases h
    obtain ⟨v, hσ, z⟩ := sr.slot i _ he
    cases z with
    | o hp hf h0 q => exact ⟨_, _, hσ, he, hp, hf, h0, q⟩
  · cases h
theorem getO_ne (env : Env) (i : Nat) (z : Exn) : getO env i ≠ .err z := by
  unfold getO; split <;> (intro h; cases h)
theorem s_app {i : Nat} {w : Str} {pa pc : Pos} (G : Good N sc n X) (hl : (pa.endLine == pc.line) = true) (h1 : N[i]? = some w) (h2 : visB sc w = true) (h3 : nmB w = true) (he : PE X x (tD (gOf X) T W e)) (hs : staB x = false) :
    PS X (.Expr (.Call (.Attribute (.Name w q) "append" pa) [x] [] pc) p) (tDS (gOf X) T W (.app i e)) := by
  obtain ⟨d1, d2, _⟩ := nm_of h3
  refine (ps_expr (pe_bm PySem.F.plainAttrs_list PySem.F.slot_list_append PySem.F.type_list_append mt_append (pe_var (i := i) (by rw [G.eN]; exact h1) (G.vis _ h2) d1 d2) (pa_cons he pa_nil (star_of hs)) rfl (by rw [star_of hs]; rfl) hl (star_of hs) rfl) rfl).imp fun D σ H ⟨H0, Hf0, Hf, env, sr, h⟩ => ?_
  simp only [ex] at h
  cases hv : getO env i with
  | err z => exact absurd hv (getO_ne _ _ _)
  | bad => rw [hv] at h; exact h.elim
  | ok ds =>
    rw [hv] at h
    simp only [Out.of_ok] at h
    obtain ⟨pp, vs, hσ, hE, hp, hf, h0, rr⟩ := own_at sr hv
    refine ⟨.ref pp, hσ, .inl ⟨rfl, vs, .inl (.inl hp)⟩, ?_⟩
    refine sD_step sr h fun d v H1 Hf1 _ f1 r1 sr1 q1 => ?_
    split at q1
    · rename_i hlen
      refine ⟨pp, vs, v, rfl, rfl, f1.s.lst hp, by rw [rr.length, sizeLine_val]; exact hlen, ?_⟩
      exact q1 σ _ Hf1 (sr1.write hE hσ (f1.s.lst hp) (f1.n _ (by rw [hp]; exact fun z => nomatch z) hf) h0 ((rr.mono f1.f).append (.cons r1 .nil))) (.refl _)
    · exact q1.elim
theorem s_pop {i : Nat} {w : Str} {pa pc : Pos} (G : Good N sc n X) (hl : (pa.endLine == pc.line) = true) (h1 : N[i]? = some w) (h2 : visB sc w = true) (h3 : nmB w = true) :
    PS X (.Expr (.Call (.Attribute (.Name w q) "pop" pa) [] [] pc) p) (tDS (gOf X) T W (.pop i)) := by
  obtain ⟨d1, d2, _⟩ := nm_of h3
  refine (ps_expr (pe_bm0 PySem.F.plainAttrs_list PySem.F.slot_list_pop PySem.F.type_list_pop mt_pop (pe_var (i := i) (by rw [G.eN]; exact h1) (G.vis _ h2) d1 d2) rfl hl) rfl).imp fun D σ H ⟨H0, Hf0, Hf, env, sr, h⟩ => ?_
  simp only [ex] at h
  cases hv : getO env i with
  | err z => exact absurd hv (getO_ne _ _ _)
  | bad => rw [hv] at h; exact h.elim
  | ok ds =>
    rw [hv] at h
    simp only [Out.of_ok] at h
    split at h
    · rename_i hne
      obtain ⟨pp, vs, hσ, hE, hp, hf, h0, rr⟩ := own_at sr hv
      have hlen : vs.length - 1 < vs.length := by
        have : ds.length ≠ 0 := fun z => hne (List.length_eq_zero_iff.mp z)
        rw [rr.length]; omega
      refine ⟨.ref pp, hσ, .inl ⟨rfl, vs, .inl (.inl hp)⟩, pp, vs, vs[vs.length - 1], rfl, rfl, hp, List.getElem?_eq_getElem hlen, ?_⟩
      exact h σ _ Hf (sr.write hE hσ hp hf h0 rr.dropLast) (.refl _)
    · exact h.elim
theorem s_asgIx {i : Nat} {w : Str} {ps : Pos} (G : Good N sc n X) (h1 : N[i]? = some w) (h2 : visB sc w = true) (h3 : nmB w = true) (ha : PE X z (tD (gOf X) T W a)) (he : PE X x (tD (gOf X) T W e)) (hc : isComp x = false) (hs : slB z = false) :
    PS X (.Assign [.Subscript (.Name w q) z ps] x p) (tDS (gOf X) T W (.asgIx i a e)) := by
  obtain ⟨d1, d2, _⟩ := nm_of h3
  refine (ps_asg he (pg_sub (pe_var (i := i) (by rw [G.eN]; exact h1) (G.vis _ h2) d1 d2) ha set_list ?_) (by unfold swapsWithSole; exact sw_no hc) (by cases x <;> rfl) rfl).imp fun D σ H ⟨H0, Hf0, Hf, env, sr, h⟩ => ?_
  · intro v
    cases z <;> first | rfl | cases hs
  · simp only [ex] at h
    refine sD_step sr h fun d v H1 Hf1 _ f1 r1 sr1 q1 => ?_
    cases hv : getO env i with
    | err z => exact absurd hv (getO_ne _ _ _)
    | bad => rw [hv] at q1; exact q1.elim
    | ok ds =>
      rw [hv] at q1
      simp only [Out.of_ok] at q1
      obtain ⟨pp, vs, hσ, hE, hp, hf, h0, rr⟩ := own_at sr1 hv
      refine ⟨.ref pp, hσ, ?_⟩
      refine sD_step sr1 q1 fun k u H2 Hf2 _ f2 r2 sr2 q2 => ?_
      cases r2 with
      | int j =>
        simp only [setD] at q2
        cases hj : ixN ds.length j with
        | none => rw [hj] at q2; exact q2.elim
        | some m =>
          rw [hj] at q2
          simp only [Out.of_ok] at q2
          refine ⟨pp, vs, j, m, rfl, rfl, f2.s.lst hp, by rw [rr.length]; exact hj, ?_⟩
          exact q2 σ _ Hf2 (sr2.write hE hσ (f2.s.lst hp) (f2.n _ (by rw [hp]; exact fun z => nomatch z) hf) h0 ((rr.mono f2.f).set (r1.mono f2.f) m)) (.refl _)
      | _ => exact q2.elim
end
end Rf
/-! # Rf12b: raise, try -/
namespace Rf
open PySem PySem.Spec L2
theorem noXE_at {env : Env} (h : noXE env = true) : ∀ (i : Nat) (s : Sl), env[i]? = some (some s) → (match s with | .v d => noX d | .o ds => noXs ds) = true := by
  induction env with
  | nil => intro i s e; simp at e
  | cons o r ih =>
    intro i s e
    cases i with
    | zero =>
      simp at e; subst e
      cases s with
      | v d => simp only [noXE, Bool.and_eq_true] at h; exact h.1
      | o ds => simp only [noXE, Bool.and_eq_true] at h; exact h.1
    | succ i =>
      have hr : noXE r = true := by
        cases o with
        | none => exact h
        | some s' => cases s' <;> (simp only [noXE, Bool.and_eq_true] at h; exact h.2)
      exact ih hr i s (by simpa using e)
theorem SR.down {g : G} {H0 Hf0 H Hf : Hp} {σ : St} {env : Env} {p : Addr × Obj} (r : SR (g.hot p) H0 Hf0 σ H Hf env) (hx : noXE env = true) : SR g H0 Hf0 σ H Hf env :=
  ⟨r.fut, r.len, fun i s h => by
    obtain ⟨v, e, q⟩ := r.slot i s h
    refine ⟨v, e, ?_⟩
    have hn := noXE_at hx i s h
    cases q with
    | v q => exact .v (q.down hn)
    | o a b c d => exact .o a b c (d.down hn), r.dis, r.tb⟩
theorem know_hot {g : G} {n : Nat} {T : Tb} (K : Know g n T) (hq : T.hm = false) (hn : g.hx = none) {p : Addr × Obj} (hp : ∃ vs, p.2.data = .fields vs) : Know (g.hot p) n T.hot where
  fn := fun z => Bool.noConfusion (show true = false from z)
  fh := fun _ => K.su hq p hp
  gl := fun q hq => by obtain ⟨v, u, h1, h2, h3⟩ := K.gl q hq; exact ⟨v, u, h1, h2, fun H => (h3 H).up hn⟩
  mt := fun q hq => absurd (show q ∈ ([] : List (Str × Str × Fn)) from hq) (by simp)
  bn := K.bn
  md := K.md
  at_ := K.at_
  xc := fun x hx => ⟨(K.xc x hx).ex⟩
  xh := fun x hx => ⟨(K.xh x hx).ex⟩
  xi := fun x hx => ⟨(K.xi x hx).ex⟩
  su := fun z => Bool.noConfusion (show true = false from z)
theorem gOf_tr {X : Cx} (h : X.calm = true) {pn : List (Addr × Obj)} {xe : Value → Shared → Prop} : gOf (X.tr pn xe) = gOf X := by
  unfold gOf hxB
  rw [h]
theorem gOf_calm {X : Cx} (h : X.calm = true) : (gOf X).hx = none := by
  show hxB X.calm X.pn = none
  unfold hxB
  rw [h]
section
variable {X : Cx} {N : List Str} {sc : Scope} {n : Nat} {T : Tb} {W : WE} {p q np pos' : Pos} {k : Nat} {s r : S} {st : Stmt} {xs ys : List Stmt}
theorem s_bad : PS X st (tDS (gOf X) T W .bad) := ⟨fun pins s σ H D I ⟨H0, Hf0, Hf, env, sr, h⟩ => by simp only [ex] at h; exact h.elim⟩
theorem s_raise {j : Nat} {x m : Str} {p2 p3 : Pos} (G : GoodS N sc n X) (tk : Takes X W) (K : Know (gOf X) n T) (h1 : T.xc[j]? = some x) (h2 : glB sc x = true) (h3 : nmB x = true) :
    PS X (.Raise (some (.Call (.Name x q) [.Constant (.str m) k p2] [] p3)) none p) (tDS (gOf X) T W (.raise_ j)) := by
  obtain ⟨d1, _, _⟩ := nm_of h3
  obtain ⟨C, e1, e2, e3, e4, e5⟩ := (K.xc x (List.mem_of_getElem? h1)).ex
  refine (ps_raise G.calm tk (pmk_own PySem.F.excBase_ValueError e2 e1 e3 (raises_own e4 e5) (gl_of G.toGoodB h2) d1)).imp fun D σ H ⟨H0, Hf0, Hf, env, sr, h⟩ => ?_
  simp only [ex, h1] at h
  exact h σ H Hf (.ref C) none sr (.refl _) ⟨e1, .inl ⟨rfl, rfl⟩⟩
theorem goodSM_tr (G : GoodS N sc n X) {hm : Bool} (hq : hm = false) {pn : List (Addr × Obj)} {xe : Value → Shared → Prop} (po : PassesOwn (model X.prog X.w) X.A X.env xe) : GoodSM N sc n hm (X.tr pn xe) :=
  ⟨gmq hq ⟨⟨G.eN, G.vis, G.gl, G.loc, G.cf, G.nd, G.un⟩, G.calm, G.room⟩, G.eS, G.kind, po, G.stk, G.fr⟩
theorem goodSM_suite (G : GoodS N sc n X) {a : Addr} {oe : Obj} {pn : List (Addr × Obj)} (hf : ∃ vs, oe.data = .fields vs) : GoodSM N sc n true (X.suite a ((a, oe) :: pn)) :=
  ⟨⟨⟨G.eN, G.vis, G.gl, G.loc, G.cf, G.nd, G.un⟩, fun z => Bool.noConfusion z, fun _ => ⟨rfl, ⟨(a, oe), pn, rfl, hf⟩, ⟨G.room.dp, G.room.un⟩⟩⟩, G.eS, G.kind, PassesOwn.never, G.stk, G.fr⟩
theorem takes_suite {a : Addr} {pn : List (Addr × Obj)} : Takes (X.suite a pn) noW := fun _ _ ⟨_, _, _, _, _, _, _, _, _, _, _, _, _, _, _, _, w⟩ => w
theorem capt_of {xh : List (Str × List (Str × Bool))} {j : Nat} {c x : Str} {b : Bool} (hx : (xh[j]?).map (·.1) = some x) (h : capt xh j c = some b) : ∃ tb, (x, tb) ∈ xh ∧ (c, b) ∈ tb := by
  unfold capt at h
  cases hz : xh[j]? with
  | none => rw [hz] at h; cases h
  | some z =>
    obtain ⟨y, tb⟩ := z
    rw [hz] at h hx
    cases hx
    exact ⟨tb, List.mem_of_getElem? hz, PySem.mem_of_lookup h⟩
theorem afterS_of {g : G} {pz : Addr × Obj} {D : Ends} {H0 Hf0 Hf Hf' : Hp} {f : Env → Env} {fσ : St → St} (hfσ : ∀ {σ H Hf e}, SR (g.hot pz) H0 Hf0 σ H Hf e → SR (g.hot pz) H0 Hf0 (fσ σ) H Hf (f e)) {o : Out} {W : WE} (sm : Same Hf Hf')
    (h : SO g W D H0 Hf0 Hf (afterS f o)) : SO (g.hot pz) noW { nx := fun σ' H' => D.nx (fσ σ') H', rt := D.rt, bk := fun σ' H' => D.bk (fσ σ') H', ct := fun σ' H' => D.ct (fσ σ') H' } H0 Hf0 Hf' o := by
  cases o with
  | nx e =>
    simp only [afterS] at h
    split at h
    · rename_i hx
      exact fun σ2 H2 Hf2 sr2 s2 => h (fσ σ2) H2 Hf2 ((hfσ sr2).down hx) (sm.trans s2)
    · exact h.elim
  | rt d =>
    simp only [afterS] at h
    split at h
    · rename_i hx
      exact fun v H2 Hf2 f2 r2 => h v H2 Hf2 f2 (r2.down hx)
    · exact h.elim
  | bk _ => exact h.elim
  | ct _ => exact h.elim
  | err _ _ => exact h.elim
  | bad => exact h.elim
/-- the error as data of its suite -/
theorem rep_exc {g : G} {H Hf : Hp} {a : Addr} {oe : Obj} {cls : Value} {dx : Option Addr} {x : Exn} (hn : g.hx = none) (xr : XRep g H Hf cls dx x) (hz : Zc cls dx oe) : Rep (g.hot (a, oe)) Hf (.ref a) (.exc x.cls x.fs) := by
  obtain ⟨h1, h2⟩ := hz
  rcases xr.d with ⟨e1, e2⟩ | ⟨dd, vs, e1, e2, e3⟩
  · rw [e1]
    exact .exc0 rfl (by rw [h1]; exact xr.c) (by rw [h2]; exact e2)
  · exact .excD rfl (by rw [h1]; exact xr.c) (by rw [h2]; exact e1) e2 (e3.up hn)
theorem s_tryAs {i j : Nat} {x m : Str} {b₀ : Stmt} {body suite : S} (hq : T.hm = false) (G : GoodS N sc n X) (tk : Takes X W) (K : Know (gOf X) n T) (h1 : N[i]? = some m) (h2 : lclB sc m = true) (h3 : (T.xh[j]?).map (·.1) = some x) (h4 : glB sc x = true) (h5 : nmB x = true)
    (hb : ∀ (pn : List (Addr × Obj)) (xe : Value → Shared → Prop) (W' : WE), GoodSM N sc n T.hm (X.tr pn xe) → Takes (X.tr pn xe) W' → Know (gOf (X.tr pn xe)) n T → PSs (X.tr pn xe) xs (tDS (gOf (X.tr pn xe)) T W' body))
    (hs : ∀ (X' : Cx) (W' : WE), GoodSM N sc n true X' → Takes X' W' → Know (gOf X') n T.hot → PSs X' (b₀ :: ys) (tDS (gOf X') T.hot W' suite)) :
    PS X (.Try xs [.ExceptHandler (some (.Name x np)) (some m) (b₀ :: ys) pos'] [] [] p) (tDS (gOf X) T W (.tryAs i j body suite)) := by
  obtain ⟨d1, _, d3⟩ := nm_of h5
  have hn := gOf_calm G.calm
  obtain ⟨tb0, hm0⟩ : ∃ tb, (x, tb) ∈ T.xh := by
    cases hz : T.xh[j]? with
    | none => rw [hz] at h3; cases h3
    | some z => obtain ⟨y, tb⟩ := z; rw [hz] at h3; cases h3; exact ⟨tb, List.mem_of_getElem? hz⟩
  cases hzz : T.xh[j]? with
  | none => rw [hzz] at h3; cases h3
  | some z =>
    obtain ⟨y, tb⟩ := z
    have h3' := h3
    rw [hzz] at h3'; cases h3'
    obtain ⟨cv, hcv, hall⟩ := (K.xh _ (List.mem_of_getElem? hzz)).ex
    have lm : X.env.scope.names.lookup m = some .local := by
      rw [G.eS]; unfold lclB at h2; split at h2
      · assumption
      · cases h2
    refine (ps_try_as (i := i) (c := cv) (tb := fun W' => tDS (gOf X) T W' body) (ts := fun a cls d D σ H => ∀ oe, Zc cls d oe → (∃ vs, oe.data = .fields vs) → tDS ((gOf X).hot (a, oe)) T.hot noW suite D σ H)
      G.stk G.fr (by rw [G.eN]; exact G.nd) (by rw [G.eN]; exact h1) lm ⟨gl_of G.toGoodB h4, d1, hcv⟩ tk (fun W' pn xe tk' po' => ?_) (fun a oe cls d pn hz hf => ?_)).imp fun D σ H ⟨H0, Hf0, Hf, env, sr, h⟩ => ?_
    · have z := hb pn xe W' (goodSM_tr G hq po') tk' (by rw [gOf_tr G.calm]; exact K)
      rw [gOf_tr G.calm] at z
      exact z
    · exact (hs (X.suite a ((a, oe) :: pn)) noW (goodSM_suite G hf) takes_suite (know_hot K hq hn hf)).imp fun D σ H h => by
        obtain ⟨H0, Hf0, Hf, env, sr, h⟩ := h oe hz hf
        have e : (gOf X).hot (a, oe) = gOf (X.suite a ((a, oe) :: pn)) := rfl
        rw [e] at sr h
        exact ⟨H0, Hf0, Hf, env, sr, h⟩
    · refine ⟨H0, Hf0, Hf, env, sr, ?_⟩
      simp only [ex] at h
      cases ho : ex T body env with
      | nx e => rw [ho] at h; exact h
      | rt d => rw [ho] at h; exact h
      | bk e => rw [ho] at h; exact h
      | ct e => rw [ho] at h; exact h
      | bad => rw [ho] at h; exact h.elim
      | err e env' =>
        rw [ho] at h
        simp only at h
        intro σ' H' Hf' cls dx sr' sm xr
        cases hc : capt T.xh j e.cls with
        | none => rw [hc] at h; exact h.elim
        | some b =>
          rw [hc] at h
          obtain ⟨D1, hD1, hD2⟩ : ∃ D, (gOf X).mg e.cls = some (.ref D) ∧ PySem.W.exmOne (gOf X).K (.ref D) cv = some b := by
            have hl : tb.lookup e.cls = some b := by
              unfold capt at hc; rw [hzz] at hc; exact hc
            exact hall (e.cls, b) (PySem.mem_of_lookup hl)
          have ecl : cls = .ref D1 := by
            have z := xr.c
            rw [hD1] at z
            exact (Option.some.inj z).symm
          cases b with
          | false => exact ⟨false, by rw [ecl]; exact hD2, fun z => Bool.noConfusion z, fun _ => h σ' H' Hf' cls dx sr' sm xr⟩
          | true =>
            refine ⟨true, by rw [ecl]; exact hD2, fun _ a ha oe hz hf => ?_, fun z => Bool.noConfusion z⟩
            refine ⟨H0, Hf0, Hf', _, (sr'.up hn (p := (a, oe))).setv (rep_exc hn xr hz), ?_⟩
            exact afterS_of (fσ := fun σ => σ.set i none) (fun sr2 => sr2.setn none) sm h
theorem s_tryOnly {j : Nat} {x : Str} {b₀ : Stmt} {body suite : S} (hq : T.hm = false) (G : GoodS N sc n X) (tk : Takes X W) (K : Know (gOf X) n T) (h3 : (T.xh[j]?).map (·.1) = some x) (h4 : glB sc x = true) (h5 : nmB x = true)
    (hb : ∀ (pn : List (Addr × Obj)) (xe : Value → Shared → Prop) (W' : WE), GoodSM N sc n T.hm (X.tr pn xe) → Takes (X.tr pn xe) W' → Know (gOf (X.tr pn xe)) n T → PSs (X.tr pn xe) xs (tDS (gOf (X.tr pn xe)) T W' body))
    (hs : ∀ (X' : Cx) (W' : WE), GoodSM N sc n true X' → Takes X' W' → Know (gOf X') n T.hot → PSs X' (b₀ :: ys) (tDS (gOf X') T.hot W' suite)) :
    PS X (.Try xs [.ExceptHandler (some (.Name x np)) none (b₀ :: ys) pos'] [] [] p) (tDS (gOf X) T W (.tryOnly j body suite)) := by
  obtain ⟨d1, _, d3⟩ := nm_of h5
  have hn := gOf_calm G.calm
  cases hzz : T.xh[j]? with
  | none => rw [hzz] at h3; cases h3
  | some z =>
    obtain ⟨y, tb⟩ := z
    have h3' := h3
    rw [hzz] at h3'; cases h3'
    obtain ⟨cv, hcv, hall⟩ := (K.xh _ (List.mem_of_getElem? hzz)).ex
    refine (ps_try_only (c := cv) (tb := fun W' => tDS (gOf X) T W' body) (ts := fun a cls d D σ H => ∀ oe, Zc cls d oe → (∃ vs, oe.data = .fields vs) → tDS ((gOf X).hot (a, oe)) T.hot noW suite D σ H)
      G.stk G.fr ⟨gl_of G.toGoodB h4, d1, hcv⟩ tk (fun W' pn xe tk' po' => ?_) (fun a oe cls d pn hz hf => ?_)).imp fun D σ H ⟨H0, Hf0, Hf, env, sr, h⟩ => ?_
    · have z := hb pn xe W' (goodSM_tr G hq po') tk' (by rw [gOf_tr G.calm]; exact K)
      rw [gOf_tr G.calm] at z
      exact z
    · exact (hs (X.suite a ((a, oe) :: pn)) noW (goodSM_suite G hf) takes_suite (know_hot K hq hn hf)).imp fun D σ H h => by
        obtain ⟨H0, Hf0, Hf, env, sr, h⟩ := h oe hz hf
        have e : (gOf X).hot (a, oe) = gOf (X.suite a ((a, oe) :: pn)) := rfl
        rw [e] at sr h
        exact ⟨H0, Hf0, Hf, env, sr, h⟩
    · refine ⟨H0, Hf0, Hf, env, sr, ?_⟩
      simp only [ex] at h
      cases ho : ex T body env with
      | nx e => rw [ho] at h; exact h
      | rt d => rw [ho] at h; exact h
      | bk e => rw [ho] at h; exact h
      | ct e => rw [ho] at h; exact h
      | bad => rw [ho] at h; exact h.elim
      | err e env' =>
        rw [ho] at h
        simp only at h
        intro σ' H' Hf' cls dx sr' sm xr
        cases hc : capt T.xh j e.cls with
        | none => rw [hc] at h; exact h.elim
        | some b =>
          rw [hc] at h
          obtain ⟨D1, hD1, hD2⟩ : ∃ D, (gOf X).mg e.cls = some (.ref D) ∧ PySem.W.exmOne (gOf X).K (.ref D) cv = some b := by
            have hl : tb.lookup e.cls = some b := by
              unfold capt at hc; rw [hzz] at hc; exact hc
            exact hall (e.cls, b) (PySem.mem_of_lookup hl)
          have ecl : cls = .ref D1 := by
            have z := xr.c
            rw [hD1] at z
            exact (Option.some.inj z).symm
          cases b with
          | false => exact ⟨false, by rw [ecl]; exact hD2, fun z => Bool.noConfusion z, fun _ => h σ' H' Hf' cls dx sr' sm xr⟩
          | true =>
            refine ⟨true, by rw [ecl]; exact hD2, fun _ a ha oe hz hf => ?_, fun z => Bool.noConfusion z⟩
            refine ⟨H0, Hf0, Hf', _, sr'.up hn (p := (a, oe)), ?_⟩
            exact afterS_of (f := fun e => e) (fσ := fun σ => σ) (fun sr2 => sr2) sm h
end
/-! ### return sorted(.., key=lambda ..) -/
/-- this def's code and its table -/
def LamAt (X : Cx) : Prop := ∃ c P, X.env.code = .ref c ∧ X.env.qual ++ "<lambda>" = lamName ∧ (gOf X).tbc c P
/-- an item of the list: a pair of whole numbers with a key -/
structure ItA (g : G) (Hf : Hp) (h : Heap) (cm : Int) (v : Value) (b : D) : Prop where
  ex : ∃ (t : Addr) (n d : Int) (t1 t2 : Tok) (vv : V), v = .ref t ∧ b = .tup [.int n, .int d] ∧ PyProof.Rows.IsTup h t #[.int n t1, .int d t2] ∧ okDiv d = true ∧ okMul n (cm.fdiv d) = true ∧ RelV vv v ∧ Rep g Hf vv b
theorem itA_all {X : Cx} {pins : List (Addr × Obj)} {σ : St} {H Hf : Hp} {s : Shared} {cm : Int} (I : Inv X pins σ H s) (sub : Same Hf H) : ∀ {vs : List V} {us : List Value} {ds : List D}, Vals vs us → Reps (gOf X) Hf vs ds → ds.all (okKeyA cm) = true → PySem.W.EachIs (ItA (gOf X) Hf s.heap cm) us ds
  | _, _, _, .nil, .nil, _ => .nil
  | _, _, _, .cons r1 t1, .cons r2 t2, h => by
    simp only [List.all_cons, Bool.and_eq_true] at h
    refine .cons ?_ (itA_all I sub t1 t2 h.2)
    obtain ⟨h1, _⟩ := h
    unfold okKeyA at h1
    split at h1
    · rename_i n dd
      rw [Bool.and_eq_true] at h1
      have r2' := r2
      cases r2 with
      | @tup a vs' ds' hs rr =>
        cases r1
        obtain ⟨its, ra, pl, _⟩ := I.tuple (same_sqT sub hs)
        cases rr with
        | cons q1 rr =>
          cases rr with
          | cons q2 rr =>
            cases rr
            cases q1; cases q2
            obtain ⟨ta, tb, rfl⟩ := Vals.int2 ra
            exact ⟨a, n, dd, ta, tb, .ref a, rfl, rfl, pl, h1.1, h1.2, rfl, r2'⟩
    · cases h1
theorem each_back {g : G} {Hf : Hp} {h : Heap} {cm : Int} : ∀ {us : List Value} {ds : List D}, PySem.W.EachIs (ItA g Hf h cm) us ds → ∃ vs, Vals vs us ∧ Reps g Hf vs ds
  | _, _, .nil => ⟨[], .nil, .nil⟩
  | _, _, .cons a b => by
    obtain ⟨vs, r1, r2⟩ := each_back b
    obtain ⟨_, _, _, _, _, vv, _, _, _, _, _, rv, rr⟩ := a.ex
    exact ⟨vv :: vs, .cons rv r1, .cons rr r2⟩
theorem dataLe_A (cm : Int) (a b : D) : PySem.W.dataLe false (fun d => PyData.int (keyA cm d)) a b = leA cm a b := by
  unfold PySem.W.dataLe
  simp only [PySem.W.sortLe, cond, PySem.W.keyToks, leA, PyProof.Rows.lexLt, PyProof.Rows.itemLt]
  by_cases h : keyA cm a ≤ keyA cm b
  · have h2 : ¬ keyA cm b < keyA cm a := by omega
    simp [h, h2]
  · have h2 : keyA cm b < keyA cm a := by omega
    simp [h, h2]
section
variable {X : Cx} {N : List Str} {sc : Scope} {n : Nat} {T : Tb} {W : WE}
theorem getV_ok {env : Env} {i : Nat} {d : D} (h : getV env i = .ok d) : env[i]? = some (some (.v d)) := by
  unfold getV at h
  split at h
  · rename_i d' e; cases h; exact e
  · cases h
theorem getV_ne (env : Env) (i : Nat) (z : Exn) : getV env i ≠ .err z := by
  unfold getV; split <;> (intro h; cases h)
theorem lamSc_of {sc sc2 : Scope} (h : lamScB sc sc2 = true) : sc2.kind = .function ∧ sc2.isCoroutine = false ∧ sc2.isGenerator = false ∧ sc2.names.lookup ("number" : Str) = some .local ∧ sc2.names.lookup ("common" : Str) = some .free ∧ (∀ x ∈ sc2.names, x.2 ≠ .cell) ∧
    ∀ y ∈ sc2.names, y.2 = .free → sc.names.lookup y.1 = some .cell ∨ sc.names.lookup y.1 = some .free := by
  unfold lamScB at h
  simp only [Bool.and_eq_true, Bool.or_eq_true, Bool.not_eq_true', decide_eq_true_eq, decide_eq_false_iff_not, List.all_eq_true] at h
  obtain ⟨⟨⟨⟨⟨h1, h2⟩, h3⟩, h4⟩, h5⟩, h6⟩ := h
  refine ⟨h1, h2, h3, h4, h5, fun x hx => (h6 x hx).1, fun y hy e => ?_⟩
  rcases (h6 y hy).2 with (z | z) | z
  · exact absurd e z
  · exact .inl z
  · exact .inr z
theorem clos_at {cells : List (Str × Addr)} {names : List (Str × NameKind)} {c : Str} {cc : Addr} (h : names.lookup c = some .free) (hc : cells.lookup c = some cc) : (cloFrom cells names []).lookup c = some cc := by
  obtain ⟨c2, h2⟩ := mem_lookup (cloFrom_has (cells := cells) (acc := []) (PySem.mem_of_lookup h))
  rcases cloFrom_mem (PySem.mem_of_lookup h2) with z | ⟨_, z⟩
  · cases z
  · rw [h2, z, hc] <;> rfl
theorem s_retA {i j : Nat} {x : Str} {ps : Arguments} {sc2 : Scope} {k1 k2 : Nat} {p1 p2 p3 p4 p5 p6 p7 p8 p9 q q2 lp kp pos p : Pos} (G : GoodS N sc n X) (L : LamAt X) (K : Know (gOf X) n T) (h1 : ("sorted" : Str) ∈ T.bn) (h2 : glB sc "sorted" = true) (h3 : N[i]? = some x) (h4 : visB sc x = true) (h5 : nmB x = true)
    (h6 : N[j]? = some ("common" : Str)) (h7 : sc.names.lookup ("common" : Str) = some .cell) (h8 : lamScB sc sc2 = true) (h9 : parB1 ps = true) :
    PS X (.Return (some (.Call (.Name "sorted" q) [.Name x q2] [⟨some "key", .Lambda ps (keyE k1 k2 p1 p2 p3 p4 p5 p6 p7 p8 p9) sc2 lp, kp⟩] pos)) p) (tDS (gOf X) T W (.retA i j)) := by
  obtain ⟨d1, d2, _⟩ := nm_of h5
  obtain ⟨k1', k2', k3, k4, k5, k6, k7⟩ := lamSc_of h8
  obtain ⟨c, P, hcode, hname, htbc⟩ := L
  obtain ⟨f0, o0, fd0, z1, z2, z3, z4, TB⟩ := id htbc
  have hfree : ∀ y ∈ sc2.names, y.2 = .free → X.env.scope.names.lookup y.1 = some .cell ∨ X.env.scope.names.lookup y.1 = some .free := fun y hy e => G.cf _ (k7 y hy e)
  have key : PE X (.Call (.Name "sorted" q) [.Name x q2] [⟨some "key", .Lambda ps (keyE k1 k2 p1 p2 p3 p4 p5 p6 p7 p8 p9) sc2 lp, kp⟩] pos)
      (fun σ H Q => ∃ H0 Hf0 Hf env, SR (gOf X) H0 Hf0 σ H Hf env ∧ RG (gOf X) W σ (OP (gOf X) Q) ((getV env i).bind fun x => (getV env j).bind fun c => sortA x c) H Hf) := by
    refine ⟨fun pins s σ H Q I ⟨H0, Hf0, Hf, env, sr, r⟩ => ?_⟩
    cases hi : getV env i with
    | err z => exact absurd hi (getV_ne _ _ _)
    | bad => rw [hi] at r; exact r.elim
    | ok dx =>
      cases hj : getV env j with
      | err z => exact absurd hj (getV_ne _ _ _)
      | bad => rw [hi, hj] at r; exact r.elim
      | ok dc =>
        rw [hi, hj] at r
        simp only [R.bind_ok] at r
        obtain ⟨vx, hsx, slx⟩ := sr.slot i _ (getV_ok hi)
        obtain ⟨vc, hsc, slc⟩ := sr.slot j _ (getV_ok hj)
        cases slx with
        | v rx =>
          cases slc with
          | v rc =>
            cases dx with
            | lst ds =>
              cases dc with
              | int cm =>
                simp only [sortA] at r
                by_cases hall : ds.all (okKeyA cm) = true
                · rw [if_pos hall] at r
                  cases rx with
                  | @lst l vs _ hl rr =>
                  cases rc
                  refine wpAny_Call_Name_kw (ld_blt (u := .builtin "sorted") I (gl_of G.toGoodB h2) (K.bn _ h1) (by decide +kernel) ?_)
                  refine PyProof.Rows.callWith_kw (thn ((pa_cons (pe_var (i := i) (by rw [G.eN]; exact h3) (G.vis _ h4) d1 d2) pa_nil).run pos pins s σ H (fun vs H1 => vs = [V.ref l] ∧ H1 = H) I ⟨_, hsx, rfl, rfl⟩) fun us s1 ⟨us', H1, I1, r1, e1, e2⟩ => ?_)
                  subst e1
                  rw [e2] at I1
                  obtain rfl := Vals.ref1 r1
                  refine wpAny_evalAll_cons (wpAny_bind (lam_new I1 TB hcode hname (sr.tb P ⟨c, htbc⟩).1 (dfl1 h9 _) (fun y hy e => I.ok.has _ (hfree y hy e)) fun f d pm ct H2 s2 I2 ext keep hf hrec => wpAny_bind (wpAny_standAt (wpAny_pure (wpAny_evalAll_nil ?_)))))
                  have hPf : Hf P = none := (sr.tb P ⟨c, htbc⟩).2
                  have fut : Fut H Hf H2 Hf := ⟨ext, .refl _, fun b u e => keep b u (fun z => by rw [z, hPf] at e; cases e) (sr.sub b u e), fun _ _ z => z⟩
                  have sr2 := sr.mono fut
                  show wpAny _ _ (call (.builtin "sorted") [.ref l] [(Str.ofString "key", .ref f)]) _ _ _
                  obtain ⟨its, rv, pl, hz⟩ := I2.list (lsq (same_rd sr2.sub hl))
                  have each := itA_all (cm := cm) I2 sr2.sub rv rr hall
                  have lend : ds.length = its.length := by rw [← rr.length, rv.length]
                  obtain ⟨mm, hn, hlk⟩ := I2.loc
                  obtain ⟨uc, ruc, hcell⟩ := hlk j "common" (.int cm) (by rw [G.eN]; exact h6) hsc (.inr (.inl (by rw [G.eS]; exact h7)))
                  obtain ⟨tc, rfl⟩ := ruc
                  obtain ⟨cc, hcc, hcv⟩ : ∃ cc, X.env.cells.lookup ("common" : Str) = some cc ∧ s2.heap.IsCell cc (some (.int cm tc)) := by
                    rcases hcell with ⟨z, _⟩ | ⟨_, cc, z, y⟩
                    · have z' : X.env.scope.names.lookup ("common" : Str) = some .local := z
                      rw [G.eS, h7] at z'; cases z'
                    · exact ⟨cc, z, y⟩
                  refine PySem.W.sorted_key_data (b := false) (vs := its) (bs := ds) (R := ItA (gOf X) Hf s2.heap cm) (f := .ref f) (fun d => PyData.int (keyA cm d)) pl.isList each (PySem.W.AllAlike.of fun _ _ => rfl) (PySem.W.Sortable.others fun _ => ⟨(fun z => nomatch z), fun _ z => nomatch z⟩) ?_ (fun _ _ => ?_) (PyProof.Rows.ksk_s1 _ _) (fun _ => PyProof.Rows.ksk_l1 _ _) (fun a => PyProof.Rows.ksk_t1 f a)
                    (fun v b hR _ h tk kp => ?_) (fun out c0 h' tk kp fresh hnew hlen eR => ?_)
                  · rw [lend, ← rv.length]; exact hz
                  · have := G.un
                    show X.A.units + 2 + _ < _
                    simp only [PyData.depth]
                    omega
                  · obtain ⟨t, nn, dd, t1, t2, vv, rfl, rfl, ht, hd1, hd2, _, _⟩ := hR.ex
                    obtain ⟨d0, oc, fv, tt, ed, y1, y2, y3⟩ := hrec
                    cases ed
                    refine lam_turn (s := { s2 with heap := h, toks := tk }) (tc := tc) (kp _ _ hf) ⟨d, oc, fv, tt, rfl, kp _ _ y1, y2, y3⟩ ?_ (I2.nolimit.keeps kp) h9 k1' k2' k3 k6 k4 k5 (clos_at k5 hcc) ?_ (ht.keeps kp) hd1 hd2
                    · have := G.room.dp
                      show X.A.depth < _
                      omega
                    · obtain ⟨o, ho, hdd⟩ := hcv
                      exact ⟨o, kp _ _ ho, hdd⟩
                  · have e3 : ds.mergeSort (PySem.W.dataLe false fun d => PyData.int (keyA cm d)) = ds.mergeSort (leA cm) := congrArg _ (funext fun a => funext fun b => dataLe_A cm a b)
                    rw [e3] at eR
                    obtain ⟨ws, w1, w2⟩ := each_back eR
                    have np : H2 (s2.heap.objs.size + 1) = none := I2.hok.fresh (Nat.le_succ _)
                    refine ⟨.ref _, upd H2 (s2.heap.objs.size + 1) (.lst ws), I2.laid (t' := tk) kp (Nat.le_succ _) ⟨?_, out, c0, w1, hnew⟩, rfl, ?_⟩
                    · rw [w1.length, hlen, lend, ← rv.length]; exact hz
                    · exact r (.ref _) _ (upd Hf (s2.heap.objs.size + 1) (.lst ws)) (fut.trans (Fut.new sr2.sub np)) (.lst (LsK.of upd_same) (w2.mono (same_upd (sr2.sub.free np))))
                · rw [if_neg hall] at r; exact r.elim
              | _ => exact r.elim
            | _ => exact r.elim
  refine (ps_ret key).imp fun D σ H ⟨H0, Hf0, Hf, env, sr, h⟩ => ?_
  simp only [ex] at h
  refine ⟨H0, Hf0, Hf, env, sr, (so_of sr h).imp fun d e qq v H1 Hf1 f r => qq.1 v H1 Hf1 (sr.fut.trans f) r⟩
end
end Rf
/-! # Rf13: every body that passes the look; defs -/
namespace Rf
open PySem PySem.Spec L2
section
variable {N : List Str} {sc : Scope} {n : Nat} {T : Tb}
theorem lcl_of {x : Str} (h : lclB sc x = true) : sc.names.lookup x = some .local := by
  unfold lclB at h; split at h
  · assumption
  · cases h
theorem sw_false {elt : Expr} {gs : List Comprehension} {sc' : Scope} {pos py : Pos} {y : Str} {l : Nat} {env : PySem.Env} (hs : env.scope = sc) (h : swB sc sc' y py pos = false) : swapsWith (.ListComp elt gs sc' pos) (some (.Name y py)) l env = pure false := by
  have e : (env.kindOf y == some .local) = lclB sc y := by
    show (env.scope.names.lookup y == some .local) = _
    rw [hs]
    unfold lclB
    split
    · rename_i h; rw [h]; rfl
    · rename_i h
      cases hq : sc.names.lookup y with
      | none => rfl
      | some k => cases k <;> first | rfl | exact absurd hq h
  have key : (env.blockKind == .function && env.kindOf y == some .local && py.line == (Expr.ListComp elt gs sc' pos).pos.line && !(sc'.names.any fun (n, k) => n == y && (k == .local || k == .cell))) = false := by
    rw [e]
    unfold swB at h
    cases hb : (env.blockKind == ScopeKind.function)
    · rfl
    · simpa [Bool.and_assoc, Expr.pos] using h
  unfold swapsWith
  show (pure (env.blockKind == .function && env.kindOf y == some .local && py.line == (Expr.ListComp elt gs sc' pos).pos.line && !(sc'.names.any fun (n, k) => n == y && (k == .local || k == .cell))) : Sem Bool) = _
  rw [key]
structure SndS (N : List Str) (n : Nat) (T : Tb) (s : S) : Prop where
  S : ∀ (X : Cx) (sc : Scope) (x : Stmt) (W : WE), GoodSM N sc n T.hm X → Takes X W → Know (gOf X) n T → (T.lam = true → LamAt X) → ckS N T s sc x = true → PS X x (tDS (gOf X) T W s)
  B : ∀ (X : Cx) (sc : Scope) (x : List Stmt) (W : WE), GoodSM N sc n T.hm X → Takes X W → Know (gOf X) n T → (T.lam = true → LamAt X) → ckSs N T s sc x = true → PSs X x (tDS (gOf X) T W s)
theorem snS {s : Rf.S} (h : ∀ (X : Cx) (sc : Scope) (x : Stmt) (W : WE), GoodSM N sc n T.hm X → Takes X W → Know (gOf X) n T → (T.lam = true → LamAt X) → ckS N T s sc x = true → PS X x (tDS (gOf X) T W s)) (h2 : ∀ sc xs, ckSs N T s sc xs = false) : SndS N n T s :=
  ⟨h, fun _ sc x _ _ _ _ _ z => by rw [h2] at z; cases z⟩
theorem s_asgOC {X : Cx} {W : WE} {i : Nat} {y : Str} {py p : Pos} {e : E} {x : Expr} (hq : T.hm = false) (G : GoodS N sc n X) (tk : Takes X W) (K : Know (gOf X) n T) (hi : N[i]? = some y) (hl : locB sc y = true) (he : ckE N T e sc x = true) (hf : freshB e = true) (h : (!isComp x || cmpOkB e sc y py x) = true) :
    PS X (.Assign [.Name y py] x p) (tDS (gOf X) T W (.asgO i e)) := by
  have hF := (snd e).F X sc x W (gmq hq G.toGood) tk K he hf
  by_cases hc : isComp x = false
  · exact s_asgO G.toGood hF hi hl hc
  · cases x with
    | ListComp elt gs sc' pc =>
      by_cases hsw : swB sc sc' y py pc = true
      · -- stored from within the block
        have hsw' := hsw
        unfold swB at hsw'
        simp only [Bool.and_eq_true, Bool.not_eq_true'] at hsw'
        obtain ⟨⟨k1, k2⟩, k3⟩ := hsw'
        have hyl : X.env.scope.names.lookup y = some .local := by rw [G.eS]; exact lcl_of k1
        cases e with
        | comp a tg b c own =>
          rcases gs with _ | ⟨⟨t, it, ifs, asy⟩, _ | ⟨g2, gr⟩⟩
          · simp [ckE] at he
          · by_cases h0 : asy = 0
            · subst h0
              simp only [ckE, Bool.and_eq_true, Bool.not_eq_true', List.all_eq_true, decide_eq_true_eq] at he
              obtain ⟨⟨⟨⟨⟨⟨⟨⟨_, h1⟩, h2⟩, h3⟩, h4⟩, h5⟩, h6⟩, h7⟩, h8⟩ := he
              refine (ps_setLc (i := i) (own := own.map fun k => (N.getD k "", k)) (wi := tDI (gOf X) T W b) (g := tG (gOf X) tg) (tt := tDC (gOf X) T noW c) (te := tD (gOf X) T noW a) G.calm (by rw [G.eN]; exact G.nd) (by rw [G.eN]; exact hi) hyl (sw_true (by rw [G.eS]; exact G.kind) hyl k2 k3) ((snd b).I X sc it t W (gmq hq G.toGood) tk K h2 h7)
                (by rw [G.eN]; exact (let B := blkOk_by h1; ⟨B.kind, B.uniq, B.ix, fun y hy e => G.cf _ (B.free y hy e), B.own⟩)) (fun s H C cl fp => by have z := g_of (good_blk G.toGood s H C cl fp) h3; rw [gOf_blk G.calm] at z; exact z) (fun s H C cl fp => by have z := (snd c).C _ sc' ifs noW (gmq hq (good_blk G.toGood s H C cl fp)) (takes_blk _ _ _ _ _) (by rw [gOf_blk G.calm]; exact K) h4; rw [gOf_blk G.calm] at z; exact z)
                (fun s H C cl fp => by have z := (snd a).E _ sc' elt noW (gmq hq (good_blk G.toGood s H C cl fp)) (takes_blk _ _ _ _ _) (by rw [gOf_blk G.calm]; exact K) h5; rw [gOf_blk G.calm] at z; exact z) (fold_of h8)).imp fun D σ H ⟨H0, Hf0, Hf, env, sr, h⟩ => ?_
              refine tLc_of (N := N) h6 ?_
              simp only [ex] at h
              refine ⟨H0, Hf0, Hf, env, sr, (so_of sr h).imp fun d e q => ?_⟩
              cases d with
              | lst ds =>
                intro pp vs H1 Hf1 f hn h1' hf r
                have sr1 := sr.mono f
                have h0 : H0 pp = none := sr.fut.s.free hn
                refine q.1 _ H1 Hf1 (sr1.seto h1' hf h0 r fun j zs hj he' hσ => ?_) f.f
                obtain ⟨v, hv, sl⟩ := sr.slot j _ he'
                cases sl with
                | o z1 z2 z3 z4 =>
                  rw [hv] at hσ
                  cases hσ
                  rw [hn] at z1; cases z1
              | _ => exact q.1.elim
            · unfold ckE at he
              split at he <;> first | cases he | skip
              all_goals (rename_i hx; first | (cases hx; exact absurd rfl h0) | (cases hx) | skip)
          · simp [ckE] at he
        | _ => simp [cmpOkB, isComp] at h
      · have hsw' : swB sc sc' y py pc = false := by simpa using hsw
        obtain ⟨l1, l2⟩ := G.loc y hl
        refine (ps_set (i := i) (by rw [G.eN]; exact G.nd) (by rw [G.eN]; exact hi) l1 hF (sw_false G.eS hsw') l2).imp fun D σ H ⟨H0, Hf0, Hf, env, sr, h⟩ => ?_
        simp only [ex] at h
        refine sDX_step (k := fun d => match d with | .lst xs => .nx (env.set i (some (.o xs))) | _ => .bad) sr (by
          cases hv : ev T e env with
          | ok d => rw [hv] at h; cases d <;> exact h
          | err z => rw [hv] at h; exact h
          | bad => rw [hv] at h; exact h) fun ds pp vs H1 Hf1 f hn h1' hf r sr1 q => ?_
        have h0 : H0 pp = none := sr.fut.s.free hn
        refine q _ H1 Hf1 (sr1.seto h1' hf h0 r fun j zs hj he' hσ => ?_) (.refl _)
        obtain ⟨v, hv, sl⟩ := sr.slot j _ he'
        cases sl with
        | o z1 z2 z3 z4 =>
          rw [hv] at hσ
          cases hσ
          rw [hn] at z1; cases z1
    | _ => first | exact absurd rfl hc | simp [cmpOkB, isComp] at h
theorem s_asgC {X : Cx} {W : WE} {i : Nat} {y : Str} {py p : Pos} {e : E} {x : Expr} (hq : T.hm = false) (G : GoodS N sc n X) (tk : Takes X W) (K : Know (gOf X) n T) (hi : N[i]? = some y) (hl : locB sc y = true) (he : ckE N T e sc x = true) (hc : isComp x = true) (h : cmpOkB e sc y py x = true) :
    PS X (.Assign [.Name y py] x p) (tDS (gOf X) T W (.asg (.name i) e)) := by
  have hF := (snd e).E X sc x W (gmq hq G.toGood) tk K he
  · cases x with
    | ListComp elt gs sc' pc =>
      by_cases hsw : swB sc sc' y py pc = true
      · -- stored from within the block
        have hsw' := hsw
        unfold swB at hsw'
        simp only [Bool.and_eq_true, Bool.not_eq_true'] at hsw'
        obtain ⟨⟨k1, k2⟩, k3⟩ := hsw'
        have hyl : X.env.scope.names.lookup y = some .local := by rw [G.eS]; exact lcl_of k1
        cases e with
        | comp a tg b c own =>
          rcases gs with _ | ⟨⟨t, it, ifs, asy⟩, _ | ⟨g2, gr⟩⟩
          · simp [ckE] at he
          · by_cases h0 : asy = 0
            · subst h0
              simp only [ckE, Bool.and_eq_true, Bool.not_eq_true', List.all_eq_true, decide_eq_true_eq] at he
              obtain ⟨⟨⟨⟨⟨⟨⟨⟨_, h1⟩, h2⟩, h3⟩, h4⟩, h5⟩, h6⟩, h7⟩, h8⟩ := he
              refine (ps_setLc (i := i) (own := own.map fun k => (N.getD k "", k)) (wi := tDI (gOf X) T W b) (g := tG (gOf X) tg) (tt := tDC (gOf X) T noW c) (te := tD (gOf X) T noW a) G.calm (by rw [G.eN]; exact G.nd) (by rw [G.eN]; exact hi) hyl (sw_true (by rw [G.eS]; exact G.kind) hyl k2 k3) ((snd b).I X sc it t W (gmq hq G.toGood) tk K h2 h7)
                (by rw [G.eN]; exact (let B := blkOk_by h1; ⟨B.kind, B.uniq, B.ix, fun y hy e => G.cf _ (B.free y hy e), B.own⟩)) (fun s H C cl fp => by have z := g_of (good_blk G.toGood s H C cl fp) h3; rw [gOf_blk G.calm] at z; exact z) (fun s H C cl fp => by have z := (snd c).C _ sc' ifs noW (gmq hq (good_blk G.toGood s H C cl fp)) (takes_blk _ _ _ _ _) (by rw [gOf_blk G.calm]; exact K) h4; rw [gOf_blk G.calm] at z; exact z)
                (fun s H C cl fp => by have z := (snd a).E _ sc' elt noW (gmq hq (good_blk G.toGood s H C cl fp)) (takes_blk _ _ _ _ _) (by rw [gOf_blk G.calm]; exact K) h5; rw [gOf_blk G.calm] at z; exact z) (fold_of h8)).imp fun D σ H ⟨H0, Hf0, Hf, env, sr, h⟩ => ?_
              refine tLc_of (N := N) h6 ?_
              simp only [ex] at h
              refine ⟨H0, Hf0, Hf, env, sr, (so_of sr h).imp fun d e q => xp_of_op fun v H1 Hf1 f r => ?_⟩
              have q1 := q.1
              simp only [setT] at q1
              exact q1 _ H1 Hf1 ((sr.mono f).setv r) f.f
            · unfold ckE at he
              split at he <;> first | cases he | skip
              all_goals (rename_i hx; first | (cases hx; exact absurd rfl h0) | (cases hx) | skip)
          · simp [ckE] at he
        | _ => simp [cmpOkB, isComp] at h
      · have hsw' : swB sc sc' y py pc = false := by simpa using hsw
        obtain ⟨l1, l2⟩ := G.loc y hl
        refine (ps_set (i := i) (by rw [G.eN]; exact G.nd) (by rw [G.eN]; exact hi) l1 hF (sw_false G.eS hsw') l2).imp fun D σ H ⟨H0, Hf0, Hf, env, sr, h⟩ => ?_
        simp only [ex] at h
        refine sD_step sr h fun d v H1 Hf1 _ f r sr1 q => ?_
        simp only [setT] at q
        exact q _ H1 Hf1 (sr1.setv r) (.refl _)
    | _ => simp [cmpOkB] at h
theorem sns : ∀ (s : Rf.S) {T : Tb}, SndS N n T s
  | .nil => ⟨fun X sc x W G tk K L h => by simp [ckS] at h, fun X sc x W G tk K L h => by
    cases x with
    | nil => exact s_nil
    | cons _ _ => simp [ckSs] at h⟩
  | .cons s r => ⟨fun X sc x W G tk K L h => by simp [ckS] at h, fun X sc x W G tk K L h => by
    cases x with
    | nil => simp [ckSs] at h
    | cons x xs =>
      simp only [ckSs, Bool.and_eq_true] at h
      exact s_cons ((sns s).S X sc x W G tk K L h.1) ((sns r).B X sc xs W G tk K L h.2)⟩
  | .pass => snS (fun X sc x W G tk K L h => by cases x <;> first | (cases (show false = true from h); done) | exact s_pass) (by intros; rfl)
  | .brk => snS (fun X sc x W G tk K L h => by cases x <;> first | (cases (show false = true from h); done) | exact s_brk) (by intros; rfl)
  | .ct => snS (fun X sc x W G tk K L h => by cases x <;> first | (cases (show false = true from h); done) | exact s_ct) (by intros; rfl)
  | .retN => snS (fun X sc x W G tk K L h => by
    cases x with
    | Return v p => cases v with
      | none => exact s_retN
      | some _ => simp [ckS] at h
    | _ => simp [ckS] at h) (by intros; rfl)
  | .ret e => snS (fun X sc x W G tk K L h => by
    cases x with
    | Return v p => cases v with
      | none => simp [ckS] at h
      | some x => simp only [ckS] at h; exact s_ret ((snd e).E X sc x W G.toGoodM tk K h)
    | _ => simp [ckS] at h) (by intros; rfl)
  | .asg t e => snS (fun X sc x W G tk K L h => by
    cases x with
    | Assign ts v p =>
      rcases ts with _ | ⟨y, _ | ⟨y2, r⟩⟩ <;> first | (simp [ckS] at h; done) | skip
      simp only [ckS, Bool.and_eq_true, Bool.not_eq_true'] at h
      obtain ⟨⟨⟨⟨hq, h1⟩, h2⟩, h3⟩, h4⟩ := h
      by_cases hc : isComp v = false
      · exact s_asg (G.goodS hq).toGood ((snd e).E X sc v W G.toGoodM tk K h1) (g_of (G.goodS hq).toGood h2) hc h4 h2
      · rw [Bool.not_eq_false] at hc
        rw [hc] at h3
        have h3 : cmpTB t e sc y v = true := by simpa using h3
        cases t with
        | name i => cases y with
          | Name w py =>
            simp only [ckTg, Bool.and_eq_true, decide_eq_true_eq] at h2
            exact s_asgC hq (G.goodS hq) tk K h2.1 h2.2 h1 hc h3
          | _ => simp [cmpTB] at h3
        | _ => simp [cmpTB] at h3
    | _ => simp [ckS] at h) (by intros; rfl)
  | .asgO i e => snS (fun X sc x W G tk K L h => by
    cases x with
    | Assign ts v p =>
      rcases ts with _ | ⟨y, _ | ⟨y2, r⟩⟩ <;> first | (simp [ckS] at h; done) | skip
      cases y with
      | Name y py =>
        simp only [ckS, Bool.and_eq_true, decide_eq_true_eq, Bool.not_eq_true'] at h
        obtain ⟨⟨⟨⟨⟨hq, h1⟩, h2⟩, h3⟩, h4⟩, h5⟩ := h
        exact s_asgOC hq (G.goodS hq) tk K h1 h2 h3 h4 h5
      | _ => simp [ckS] at h
    | _ => simp [ckS] at h) (by intros; rfl)
  | .par2 i j a b => snS (fun X sc x W G tk K L h => by
    cases x with
    | Assign ts v p =>
      rcases ts with _ | ⟨y, _ | ⟨y2, r⟩⟩
      · exact absurd h (by simp [ckS])
      rotate_left
      · exact absurd h (by simp [ckS])
      cases y with
      | Tuple es k1 p1 =>
        cases v with
        | Tuple vs k2 p2 =>
          simp only [ckS] at h
          cases hp : parB es vs with
          | none => rw [hp] at h; cases h
          | some w =>
            obtain ⟨s1, q1, s2, q2, v1, v2⟩ := w
            rw [hp] at h
            obtain ⟨rfl, rfl⟩ := parB_of hp
            simp only [Bool.and_eq_true, decide_eq_true_eq, Bool.not_eq_true'] at h
            obtain ⟨⟨⟨⟨⟨⟨⟨⟨⟨⟨⟨⟨hq, h1⟩, h2⟩, h3⟩, h4⟩, h5⟩, h6⟩, h7⟩, h8⟩, h9⟩, h10⟩, h11⟩, h12⟩ := h
            exact s_par2 (G.goodS hq) h1 h2 h3 h4 h5 ((snd a).E X sc v1 W G.toGoodM tk K h6) ((snd b).E X sc v2 W G.toGoodM tk K h7) h8 h9 h10 h11 h12
        | _ => exact absurd h (by simp [ckS])
      | _ => exact absurd h (by cases v <;> simp [ckS])
    | _ => exact absurd h (by simp [ckS])) (by intros; rfl)
  | .asgIx i a e => snS (fun X sc x W G tk K L h => by
    cases x with
    | Assign ts v p =>
      rcases ts with _ | ⟨y, _ | ⟨y2, r⟩⟩ <;> first | (simp [ckS] at h; done) | skip
      cases y with
      | Subscript y z ps =>
        cases y with
        | Name w q =>
          simp only [ckS, Bool.and_eq_true, decide_eq_true_eq, Bool.not_eq_true'] at h
          obtain ⟨⟨⟨⟨⟨⟨⟨hq, h1⟩, h2⟩, h3⟩, h4⟩, h5⟩, h6⟩, h7⟩ := h
          exact s_asgIx (G.goodS hq).toGood h1 h2 h3 ((snd a).E X sc z W G.toGoodM tk K h4) ((snd e).E X sc v W G.toGoodM tk K h5) h6 h7
        | _ => simp [ckS] at h
      | _ => simp [ckS] at h
    | _ => simp [ckS] at h) (by intros; rfl)
  | .app i e => snS (fun X sc x W G tk K L h => by
    cases x with
    | Expr x p =>
      cases x with
      | Call f xs ks pc =>
        cases f with
        | Attribute o m pa =>
          cases o with
          | Name w q =>
            rcases ks with _ | ⟨k1, k2⟩ <;> rcases xs with _ | ⟨y, _ | ⟨z, r⟩⟩ <;> first | (cases (show false = true from h); done) | skip
            simp only [ckS, Bool.and_eq_true, decide_eq_true_eq, Bool.not_eq_true'] at h
            obtain ⟨⟨⟨⟨⟨⟨⟨hq, h0⟩, rfl⟩, h1⟩, h2⟩, h3⟩, h4⟩, h5⟩ := h
            exact s_app (G.goodS hq).toGood h0 h1 h2 h3 ((snd e).E X sc y W G.toGoodM tk K h4) h5
          | _ => exact absurd h (by simp [ckS])
        | _ => exact absurd h (by simp [ckS])
      | _ => exact absurd h (by simp [ckS])
    | _ => exact absurd h (by simp [ckS])) (by intros; rfl)
  | .pop i => snS (fun X sc x W G tk K L h => by
    cases x with
    | Expr x p =>
      cases x with
      | Call f xs ks pc =>
        cases f with
        | Attribute o m pa =>
          cases o with
          | Name w q =>
            rcases ks with _ | ⟨k1, k2⟩ <;> rcases xs with _ | ⟨y, r⟩ <;> first | (cases (show false = true from h); done) | skip
            simp only [ckS, Bool.and_eq_true, decide_eq_true_eq, Bool.not_eq_true'] at h
            obtain ⟨⟨⟨⟨⟨hq, h0⟩, rfl⟩, h1⟩, h2⟩, h3⟩ := h
            exact s_pop (G.goodS hq).toGood h0 h1 h2 h3
          | _ => exact absurd h (by simp [ckS])
        | _ => exact absurd h (by simp [ckS])
      | _ => exact absurd h (by simp [ckS])
    | _ => exact absurd h (by simp [ckS])) (by intros; rfl)
  | .expr e => snS (fun X sc x W G tk K L h => by
    cases x with
    | Expr x p =>
      simp only [ckS, Bool.and_eq_true, Bool.not_eq_true'] at h
      exact s_expr ((snd e).E X sc x W G.toGoodM tk K h.1) h.2
    | _ => simp [ckS] at h) (by intros; rfl)
  | .ife c a b => snS (fun X sc x W G tk K L h => by
    cases x with
    | If z xs ys p =>
      simp only [ckS, Bool.and_eq_true] at h
      exact s_ife ((snd c).Tt X sc z W G.toGoodM tk K h.1.1) ((sns a).B X sc xs W G tk K L h.1.2) ((sns b).B X sc ys W G tk K L h.2)
    | _ => simp [ckS] at h) (by intros; rfl)
  | .for_ t it body => snS (fun X sc x W G tk K L h => by
    cases x with
    | For y x xs el p =>
      cases el with
      | nil =>
        simp only [ckS, Bool.and_eq_true, Bool.not_eq_true'] at h
        obtain ⟨⟨⟨⟨⟨hq, h1⟩, h2⟩, h3⟩, h4⟩, h5⟩ := h
        exact s_for (G.goodS hq) ((snd it).I X sc x y W G.toGoodM tk K h1 h3) (g_of (G.goodS hq).toGood h2) ((sns body).B X sc xs W G tk K L h5) h4
      | cons _ _ => simp [ckS] at h
    | _ => simp [ckS] at h) (by intros; rfl)
  | .while_ c body => snS (fun X sc x W G tk K L h => by
    cases x with
    | While z xs el p =>
      cases el with
      | nil =>
        simp only [ckS, Bool.and_eq_true, Bool.not_eq_true'] at h
        obtain ⟨⟨hq, h1⟩, h2⟩ := h
        exact s_while (G.goodS hq) ((snd c).Tt X sc z W G.toGoodM tk K h1) ((sns body).B X sc xs W G tk K L h2)
      | cons _ _ => simp [ckS] at h
    | _ => simp [ckS] at h) (by intros; rfl)
  | .frz is s => snS (fun X sc x W G tk K L h => by simp only [ckS] at h; exact s_frz ((sns s).S X sc x W G tk K L h)) (by intros; rfl)
  | .bad => snS (fun X sc x W G tk K L h => s_bad) (by intros; rfl)
  | .retA i j => snS (fun X sc x W G tk K L h => by
    cases x with
    | Return v p =>
      rcases v with _ | v
      · exact absurd h (by simp [ckS])
      cases v with
      | Call f xs ks p3 =>
        cases f with
        | Name f q =>
          rcases xs with _ | ⟨y, _ | ⟨y2, r⟩⟩
          · exact absurd h (by simp [ckS])
          rotate_left
          · exact absurd h (by simp [ckS])
          cases y with
          | Name x q2 =>
            rcases ks with _ | ⟨⟨k0, e1, kp⟩, _ | ⟨y2, r⟩⟩
            · exact absurd h (by simp [ckS])
            rotate_left
            · exact absurd h (by simp [ckS])
            rcases k0 with _ | k0
            · exact absurd h (by simp [ckS])
            cases e1 with
            | Lambda ps b sc2 lp =>
              cases b with
              | BinOp b1 o1 b2 p9 =>
                cases b1 with
                | Subscript b3 b4 p4 =>
                  cases b3 with
                  | Name a p1 =>
                    cases b4 with
                    | Constant v1 k1 p2 =>
                      cases v1 with
                      | int u0 =>
                        cases b2 with
                        | BinOp b5 o2 b6 p8 =>
                          cases b5 with
                          | Name c p5 =>
                            cases b6 with
                            | Subscript b7 b8 p7 =>
                              cases b7 with
                              | Name a2 p6 =>
                                cases b8 with
                                | Constant v2 k2 p10 =>
                                  cases v2 with
                                  | int u1 =>
                                    simp only [ckS, Bool.and_eq_true, decide_eq_true_eq, Bool.not_eq_true'] at h
                                    obtain ⟨⟨⟨⟨⟨⟨⟨⟨⟨⟨⟨⟨⟨⟨⟨⟨⟨⟨⟨rfl, rfl⟩, rfl⟩, rfl⟩, hq⟩, hl⟩, rfl⟩, rfl⟩, h1⟩, h2⟩, h3⟩, h4⟩, h5⟩, rfl⟩, rfl⟩, rfl⟩, h6⟩, h7⟩, h8⟩, h9⟩ := h
                                    exact s_retA (G.goodS hq) (L hl) K h1 h2 h3 h4 h5 h6 h7 h8 h9
                                  | _ => exact absurd h (by simp [ckS])
                                | _ => exact absurd h (by simp [ckS])
                              | _ => exact absurd h (by simp [ckS])
                            | _ => exact absurd h (by simp [ckS])
                          | _ => exact absurd h (by simp [ckS])
                        | _ => exact absurd h (by simp [ckS])
                      | _ => exact absurd h (by simp [ckS])
                    | _ => exact absurd h (by simp [ckS])
                  | _ => exact absurd h (by simp [ckS])
                | _ => exact absurd h (by simp [ckS])
              | _ => exact absurd h (by simp [ckS])
            | _ => exact absurd h (by simp [ckS])
          | _ => exact absurd h (by simp [ckS])
        | _ => exact absurd h (by simp [ckS])
      | _ => exact absurd h (by simp [ckS])
    | _ => exact absurd h (by simp [ckS])) (by intros; rfl)
  | .raise_ j => snS (fun X sc x W G tk K L h => by
    cases x with
    | Raise e c p =>
      rcases e with _ | e
      · exact absurd h (by simp [ckS])
      cases e with
      | Call f xs ks p3 =>
        cases f with
        | Name x q =>
          rcases xs with _ | ⟨y, _ | ⟨y2, r⟩⟩
          · exact absurd h (by simp [ckS])
          · cases y with
            | Constant v k p2 =>
              cases v with
              | str m =>
                rcases ks with _ | ⟨k1, k2⟩ <;> rcases c with _ | c <;> first | (cases (show false = true from h); done) | skip
                simp only [ckS, Bool.and_eq_true, decide_eq_true_eq, Bool.not_eq_true'] at h
                obtain ⟨⟨⟨hq, h1⟩, h2⟩, h3⟩ := h
                exact s_raise (G.goodS hq) tk K h1 h2 h3
              | _ => exact absurd h (by simp [ckS])
            | _ => exact absurd h (by simp [ckS])
          · exact absurd h (by simp [ckS])
        | _ => exact absurd h (by simp [ckS])
      | _ => exact absurd h (by simp [ckS])
    | _ => exact absurd h (by simp [ckS])) (by intros; rfl)
  | .tryAs i j body suite => snS (fun X sc x W G tk K L h => by
    cases x with
    | Try xs hs el fi p =>
      rcases hs with _ | ⟨⟨t, m, ss, ps⟩, hr⟩
      · exact absurd h (by simp [ckS])
      rcases t with _ | t
      · exact absurd h (by simp [ckS])
      cases t with
      | Name x np =>
        rcases hr with _ | ⟨h2, hr⟩ <;> rcases el with _ | ⟨e1, e2⟩ <;> rcases fi with _ | ⟨f1, f2⟩ <;> rcases m with _ | m <;> rcases ss with _ | ⟨b0, ss⟩ <;> first | (cases (show false = true from h); done) | skip
        simp only [ckS, Bool.and_eq_true, decide_eq_true_eq, Bool.not_eq_true'] at h
        obtain ⟨⟨⟨⟨⟨⟨⟨hq, h1⟩, h2⟩, h3⟩, h4⟩, h5⟩, h6⟩, h7⟩ := h
        exact s_tryAs hq (G.goodS hq) tk K h1 h2 h3 h4 h5 (fun pn xe W' G' tk' K' => (sns body).B (X.tr pn xe) sc xs W' G' tk' K' (fun z => L z) h6) (fun X' W' G' tk' K' => (sns suite (T := Tb.hot _)).B X' sc _ W' G' tk' K' (fun z => Bool.noConfusion (show false = true from z)) h7)
      | _ => exact absurd h (by simp [ckS])
    | _ => exact absurd h (by simp [ckS])) (by intros; rfl)
  | .tryOnly j body suite => snS (fun X sc x W G tk K L h => by
    cases x with
    | Try xs hs el fi p =>
      rcases hs with _ | ⟨⟨t, m, ss, ps⟩, hr⟩
      · exact absurd h (by simp [ckS])
      rcases t with _ | t
      · exact absurd h (by simp [ckS])
      cases t with
      | Name x np =>
        rcases hr with _ | ⟨h2, hr⟩ <;> rcases el with _ | ⟨e1, e2⟩ <;> rcases fi with _ | ⟨f1, f2⟩ <;> rcases m with _ | m <;> rcases ss with _ | ⟨b0, ss⟩ <;> first | (cases (show false = true from h); done) | skip
        simp only [ckS, Bool.and_eq_true, decide_eq_true_eq, Bool.not_eq_true'] at h
        obtain ⟨⟨⟨⟨⟨hq, h3⟩, h4⟩, h5⟩, h6⟩, h7⟩ := h
        exact s_tryOnly hq (G.goodS hq) tk K h3 h4 h5 (fun pn xe W' G' tk' K' => (sns body).B (X.tr pn xe) sc xs W' G' tk' K' (fun z => L z) h6) (fun X' W' G' tk' K' => (sns suite (T := Tb.hot _)).B X' sc _ W' G' tk' K' (fun z => Bool.noConfusion (show false = true from z)) h7)
      | _ => exact absurd h (by simp [ckS])
    | _ => exact absurd h (by simp [ckS])) (by intros; rfl)

/-! ### defs -/
/-- a def by its body: np parameters, nn names -/
noncomputable def runFn (np nn : Nat) (T : Tb) (B : Rf.S) : Fn := fun ds => if ds.length = np then (match ex T B (ds.map (fun d => some (.v d)) ++ List.replicate (nn - np) none) with
    | .nx _ => .ok .non
    | .rt d => .ok d
    | .err x _ => .err x
    | _ => .bad) else .bad
theorem start_sr {g : G} {N : List Str} {H Hf : Hp} {vs : List V} {ds : List D} (sub : Same Hf H) (tb : TbOk g H Hf) (r : Reps g Hf vs ds) : SR g H Hf (L2.start N vs) H Hf (ds.map (fun d => some (Sl.v d)) ++ List.replicate (N.length - ds.length) none) := by
  have hl := r.length
  have get : ∀ (i : Nat) (s : Sl), (ds.map (fun d => some (Sl.v d)) ++ List.replicate (N.length - ds.length) none)[i]? = some (some s) → ∃ d, s = .v d ∧ ds[i]? = some d := fun i s h => by
    by_cases hi : i < ds.length
    · rw [List.getElem?_append_left (by simpa using hi), List.getElem?_map] at h
      rw [List.getElem?_eq_getElem hi] at h ⊢
      cases h
      exact ⟨_, rfl, rfl⟩
    · rw [List.getElem?_append_right (by simp; omega), List.getElem?_replicate] at h
      split at h <;> cases h
  refine ⟨Fut.refl sub, by simp [L2.start, hl], fun i s h => ?_, fun i j xs ys _ h1 _ => ?_, tb⟩
  · obtain ⟨d, rfl, hd⟩ := get i s h
    obtain ⟨v, hv, rv⟩ := r.get hd
    refine ⟨v, ?_, .v rv⟩
    unfold L2.start
    have hi : i < vs.length := (List.getElem?_eq_some_iff.mp hv).1
    rw [List.getElem?_append_left (by simpa using hi), List.getElem?_map, hv]; rfl
  · obtain ⟨d, e, _⟩ := get i _ h1
    cases e
theorem fn_ok {g : G} {n : Nat} {f : Addr} {name qual : Str} {params : Arguments} {body : List Stmt} {scope : Scope} {dV kV doc pm cdv ct oc : Value} {an od : Option Addr} {osl : Array (Option Value)} {N ps : List Str} {T : Tb} {B : Rf.S}
    (lk : g.K.lookup f = some ⟨oc, od, .func (PySem.W.fnOf name qual params body scope dV kV doc pm an cdv ct), osl⟩) (hcd : PySem.W.codeIn g.K cdv qual = true) (S : FnScope N ps scope)
    (hn : g.hx = none) (hq : T.hm = false) (K : Know g n T) (hck : ckSs N T B scope body = true) (hlam : T.lam = true → ∃ c P, cdv = .ref c ∧ qual ++ ".<locals>." ++ "<lambda>" = lamName ∧ g.tbc c P := by intro z; exact Bool.noConfusion (show false = true from z)) :
    FnOk g.P g.w g.K g.mg g.base (L2.CX g.P g.w) (n + 1) f (PySem.W.fnOf name qual params body scope dV kV doc pm an cdv ct) ps (spD g (runFn ps.length N.length T B)) := by
  obtain ⟨P0, w0, K0, mg0, base0, hx0⟩ := g
  obtain rfl : hx0 = none := hn
  let g : G := ⟨P0, w0, K0, mg0, base0, none⟩
  have hlen : ∀ vs H Q E, spD g (runFn ps.length N.length T B) vs H Q E → vs.length = ps.length := fun vs H Q E ⟨Hf, ds, sub, tb, r, h⟩ => by
    unfold runFn at h
    by_cases hd : ds.length = ps.length
    · rw [r.length, hd]
    · rw [if_neg hd] at h; exact h.elim
  refine fn_of lk hcd S hlen fun A outer s H vs Q E hr h => ?_
  obtain ⟨Hf, ds, sub, tb, r, h⟩ := h
  unfold runFn at h
  by_cases hd : ds.length = ps.length
  · rw [if_pos hd] at h
    let X := cxOf (L2.CX g.P g.w) g.P g.w g.K g.mg g.base N qual scope f cdv A outer s H E
    have hX : gOf X = g := rfl
    have G : GoodS N scope n X := {
      eN := rfl, vis := fun x hx => vis_of hx, gl := fun x hx => by
        unfold glB at hx; split at hx
        · assumption
        · cases hx
      loc := fun x hx => ⟨loc_of hx, .inl rfl⟩, cf := fun x hx => hx, calm := rfl, room := hr, nd := S.nd, un := Nat.lt_of_le_of_lt (Nat.add_le_add_right (Nat.le_add_right _ _) _) hr.un, eS := rfl, kind := S.kind, po := passes_of rfl, stk := rfl, fr := rfl }
    refine ⟨tDS g T (fun cls d _ H' => E cls d H') B, (sns B).B X scope body _ ⟨gmq hq G.toGood, G.eS, G.kind, G.po, G.stk, G.fr⟩ (takes_of rfl rfl rfl rfl) K (fun z => hlam z) hck, ?_⟩
    have sr := start_sr (g := g) (N := N) sub tb r
    rw [hd] at sr
    refine ⟨H, Hf, Hf, _, sr, ?_⟩
    generalize ex T B (ds.map (fun d => some (Sl.v d)) ++ List.replicate (N.length - ps.length) none) = o at h ⊢
    cases o with
    | nx env => exact fun σ' H' Hf' r' _ => h .non H' Hf' r'.fut .non
    | rt d => exact fun v H' Hf' f r' => h v H' Hf' f r'
    | err x env => exact fun σ' H' Hf' cls dx r' _ xr => h cls dx H' Hf' r'.fut xr
    | bk env => exact h.elim
    | ct env => exact h.elim
    | bad => exact h.elim
  · rw [if_neg hd] at h; exact h.elim
/-- a def's promise, called by its name with all arguments but the defaults at the end -/
theorem prm_of {g : G} {n : Nat} {x : Str} {f : Addr} {fd : FuncData} {ps : List Str} {F : Fn} {dvs : List V} {dds : List D} {dus : List Value} (hf : FnOk g.P g.w g.K g.mg g.base (L2.CX g.P g.w) n f fd ps (spD g F)) (hm : g.mg x = some (.ref f)) (hk : PySem.W.keepIn g.K (.ref f) = true) (hb : Binds g.K fd ps dus)
    (hd : Vals dvs dus) (hr : ∀ H, Reps g H dvs dds) : Prm g n x (fun ds => F (ds ++ dds)) := by
  refine ⟨f, hm, hk, fun X hX room W tk pins s σ H Hf Q us vs ds I rv sub tb rr h => ?_⟩
  subst hX
  have h' : spD (gOf X) F (vs ++ dvs) H Q (fun cls d H' => W cls d σ H') := ⟨Hf, ds ++ dds, sub, tb, rr.append (hr Hf), by
    cases hF : F (ds ++ dds) with
    | ok d => rw [hF] at h; exact h
    | err x => rw [hF] at h; exact h
    | bad => rw [hF] at h; exact h⟩
  have r2 : Vals (vs ++ dvs) (us ++ dus) := rv.append hd
  have hl : (us ++ dus).length = ps.length := by rw [← r2.length]; exact hf.len _ _ _ _ h'
  refine wpAny_call (codeAny_mono (hf.run X.A X.stack s H ⟨us, []⟩ (us ++ dus) (vs ++ dvs) Q _ room I.env0 (hb s us I.kIn hl) r2 h') fun r s' hq => ?_)
  cases r with
  | error e => exact passAt tk σ pins H s e s' I hq
  | ok fl =>
    cases fl with
    | ret u => exact I.after hq
    | next => exact False.elim hq
    | brk => exact False.elim hq
    | cont => exact False.elim hq
theorem Prm.mono {g : G} {n m : Nat} {x : Str} {F : Fn} (h : Prm g n x F) (hl : n ≤ m) : Prm g m x F := by
  obtain ⟨f, h1, h2, h3⟩ := h.ex
  exact ⟨f, h1, h2, fun X hX room => h3 X hX (room.mono hl)⟩
end
end Rf
/-! # Rf14: defs of the module, by what the head gives -/
namespace Rf
open PySem PySem.Spec L2
def scB (N P : List Str) (sc : Scope) : Bool :=
  (match sc.kind with | .function => true | _ => false) && !sc.isCoroutine && !sc.isGenerator && decide N.Nodup && decide (N.take P.length = P) && P.all (fun x => locB sc x) && sc.names.all (fun y => match y.2 with | .free => false | _ => true)
theorem fnScope_by' {N P : List Str} {sc : Scope} (h : scB N P sc = true) : FnScope N P sc := by
  unfold scB at h
  simp only [Bool.and_eq_true, Bool.not_eq_true', decide_eq_true_eq, List.all_eq_true] at h
  obtain ⟨⟨⟨⟨⟨⟨h1, h2⟩, h3⟩, h4⟩, h5⟩, h6⟩, h7⟩ := h
  refine ⟨?_, h2, h3, h4, h5, fun x hx => loc_of (h6 x hx), fun y hy e => ?_⟩
  · split at h1
    · assumption
    · cases h1
  · have z := h7 y hy
    rw [e] at z
    cases z
/-- a def of the module stands under its name -/
def DefAt (g : G) (x : Str) (st : Stmt) : Prop := g.hx = none ∧ ∃ (f : Addr) (oc : Value) (od : Option Addr) (kV doc pm : Value) (an : Option Addr) (cdv ct : Value) (osl : Array (Option Value)),
  g.mg x = some (.ref f) ∧ g.K.lookup f = some ⟨oc, od, .func (PySem.W.fnOf x x (defArgs st) (defBody st) (defScope st) .none kV doc pm an cdv ct), osl⟩ ∧ PySem.W.codeIn g.K cdv x = true ∧ PySem.W.keepIn g.K (.ref f) = true
def DefFd (g : G) (x : Str) (st : Stmt) (fd : FuncData) : Prop := ∃ (kV doc pm : Value) (an : Option Addr) (cdv ct : Value), fd = PySem.W.fnOf x x (defArgs st) (defBody st) (defScope st) .none kV doc pm an cdv ct
theorem def_ok {g : G} {n : Nat} {x : Str} {st : Stmt} {N ps : List Str} {T : Tb} {B : Rf.S} (h : DefAt g x st) (S : FnScope N ps (defScope st)) (K : Know g n T) (hck : ckSs N T B (defScope st) (defBody st) = true) (hq : T.hm = false := by rfl) (hl : T.lam = false := by rfl) :
    ∃ f fd, FnOk g.P g.w g.K g.mg g.base (L2.CX g.P g.w) (n + 1) f fd ps (spD g (runFn ps.length N.length T B)) ∧ g.mg x = some (.ref f) ∧ PySem.W.keepIn g.K (.ref f) = true ∧ DefFd g x st fd := by
  obtain ⟨hn, f, oc, od, kV, doc, pm, an, cdv, ct, osl, h1, h2, h3, h4⟩ := h
  exact ⟨f, _, fn_ok h2 h3 S hn hq K hck (fun z => by rw [hl] at z; cases z), h1, h4, _, _, _, _, _, _, rfl⟩
/-- ascending's code and its table are known -/
def TabAt (g : G) : Prop := ∃ c P, g.tbc c P
theorem def_okL {g : G} {n : Nat} {st : Stmt} {N ps : List Str} {T : Tb} {B : Rf.S} (h : DefAt g "ascending" st) (tab : TabAt g) (S : FnScope N ps (defScope st)) (K : Know g n T) (hck : ckSs N T B (defScope st) (defBody st) = true) (hq : T.hm = false := by rfl) :
    ∃ f fd, FnOk g.P g.w g.K g.mg g.base (L2.CX g.P g.w) (n + 1) f fd ps (spD g (runFn ps.length N.length T B)) ∧ g.mg "ascending" = some (.ref f) ∧ PySem.W.keepIn g.K (.ref f) = true ∧ DefFd g "ascending" st fd := by
  obtain ⟨hn, f, oc, od, kV, doc, pm, an, cdv, ct, osl, h1, h2, h3, h4⟩ := h
  refine ⟨f, _, fn_ok h2 h3 S hn hq K hck (fun _ => ?_), h1, h4, _, _, _, _, _, _, rfl⟩
  obtain ⟨c, P, f', o, fd, e1, e2, e3, e4, e5⟩ := id tab
  rw [h1] at e1; cases e1
  rw [h2] at e2; cases e2
  cases e3
  exact ⟨c, P, e4, by decide, _, _, _, h1, h2, rfl, e4, e5⟩
theorem def_prm {g : G} {n : Nat} {x : Str} {st : Stmt} {ps : List Str} {F : Fn} (h : ∃ f fd, FnOk g.P g.w g.K g.mg g.base (L2.CX g.P g.w) n f fd ps (spD g F) ∧ g.mg x = some (.ref f) ∧ PySem.W.keepIn g.K (.ref f) = true ∧ DefFd g x st fd)
    (hb : ∀ (kV doc pm : Value) (an : Option Addr) (cdv ct : Value) (us : List Value), us.length = ps.length → bindArgs (PySem.W.fnOf x x (defArgs st) (defBody st) (defScope st) .none kV doc pm an cdv ct) ⟨us, []⟩ = pure (ps.zip us)) : Prm g n x F := by
  obtain ⟨f, fd, h1, h2, h3, kV, doc, pm, an, cdv, ct, rfl⟩ := h
  have := prm_of (dvs := []) (dds := []) h1 h2 h3 (Binds.all (hb kV doc pm an cdv ct)) .nil (fun _ => .nil)
  simpa using this
end Rf
namespace Rf
open PySem PySem.Spec L2
/-- a list that is to be read, where the object at its place is known -/
theorem ls_of_sq {K : PySem.W.Frag} {h : Heap} {H : Hp} {a : Addr} {xs : List V} {us : Array Value} (kin : K.In h) (ho : h.get? a = some { cls := .type "list", data := .seq us }) (q : SqL K H a xs) : LsK K H a xs := by
  cases q with
  | inl r => exact Or.inl r
  | inr r =>
    obtain ⟨o, its, n, look, c1, c2, c3, le, vals⟩ := r
    have same : o = { cls := .type "list", data := .seq us } := Option.some.inj ((kin a o look).symm.trans ho)
    rw [same] at look c3
    cases c3
    exact Or.inr ⟨us.toList, _, by simpa using look, by simpa using le, vals⟩
/-- the law's def, whose function gives True of every script -/
structure LawOk (P : Program) (w : World) (K : PySem.W.Frag) (mg : Str → Option Value) (k : Nat) (fa : Addr) (fd : FuncData) (x : Str) (F : Fn) : Prop where
  binds : ∀ (s : Shared) (u : Value), BindsTo s fd ⟨[u], []⟩ [(x, u)]
  fn : ∀ base : Heap, TabAt ⟨P, w, K, mg, base, none⟩ → FnOk P w K mg base (L2.CX P w) k fa fd [x] (spD ⟨P, w, K, mg, base, none⟩ F)
theorem tb_one {g : G} {h : Heap} {c P : Addr} (kb : g.K.In g.base) (kh : g.K.In h) (ns : h.Ns mainGlobals g.mg) (ht : PySem.W.tabIn g.K "ascending" = some (c, P)) {P' : Addr} (t : g.tb P') : P' = P := by
  obtain ⟨c', f, o, fd, hm, hl, hd, hc, TB⟩ := t
  unfold PySem.W.tabIn at ht
  split at ht
  · rename_i f2 hf
    have e1 := PySem.W.mg_of kh ns hf
    rw [e1] at hm; cases hm
    rw [hl] at ht
    split at ht
    · rename_i hfo
      cases hfo
      cases hd
      split at ht
      · rename_i c2 hc2
        rw [hc] at hc2; cases hc2
        split at ht
        · rename_i hco
          have e3 := kb _ _ hco
          obtain ⟨o2, vs2, file, tf, flags, tg, inF, text, tt, g1, g2, g3, g4, _⟩ := TB.code
          rw [e3] at g1; cases g1
          cases g3
          split at ht
          · rename_i P2 hv
            rw [g4] at hv; cases hv
            cases ht
            rfl
          · cases ht
        · cases ht
      · cases ht
    · cases ht
  · cases ht
theorem tbc_of {P : Program} {w : World} {K : PySem.W.Frag} {mg : Str → Option Value} {base h : Heap} {c Pt : Addr} (kh : K.In h) (ns : h.Ns mainGlobals mg) (ht : PySem.W.tabIn K "ascending" = some (c, Pt)) (TB : LamX.TabB base mg c Pt) : (⟨P, w, K, mg, base, none⟩ : G).tbc c Pt := by
  unfold PySem.W.tabIn at ht
  split at ht
  · rename_i f2 hf
    have e1 := PySem.W.mg_of kh ns hf
    split at ht
    · rename_i hfo
      split at ht
      · rename_i c2 hc2
        split at ht
        · split at ht
          · cases ht
            exact ⟨f2, _, _, e1, hfo, rfl, hc2, TB⟩
          · cases ht
        · cases ht
      · cases ht
    · cases ht
  · cases ht
/-- the heap without its tables -/
def noTbl (H : Hp) : Hp := fun b => match H b with
  | some (.tbl _) => none
  | o => o
theorem noTbl_same (H : Hp) : Same (noTbl H) H := fun b u e => by
  unfold noTbl at e
  split at e
  · cases e
  · exact e
theorem noTbl_lst {K : PySem.W.Frag} {H : Hp} {a : Addr} {xs : List V} (h : LsK K H a xs) : LsK K (noTbl H) a xs := by
  rcases h with (h | ⟨u, h⟩) | h
  · exact .inl (.inl (by unfold noTbl; rw [h]))
  · exact .inl (.inr ⟨u, by unfold noTbl; rw [h]⟩)
  · exact .inr h
theorem law_walk {l : PySem.W.OpenLaw} {q : Program} {loose : List Str} {XP : (Str → Option Value) → Heap → Prop} {YP : World → Heap → Prop} {d : DefRec} {Kp : Params → PySem.W.Frag} {x : Str} {k : Nat} {F : Fn}
    (most : l.most = some 63) (nodf : d.params.defaults = []) (room : Room k callerA) (kin : ∀ (w : World) (h : Heap), YP w h → (Kp w.params).In h)
    (rec_ : ((PyProof.Rows.recsOf q).find? fun e => e.name == ("ascending" : Str)).isSome = true)
    (tab : ∀ (w : World), ∃ c P, PySem.W.tabIn (Kp w.params) "ascending" = some (c, P) ∧ (Kp w.params).lookup P = none)
    (ok : ∀ (w : World) (mg : Str → Option Value) (fa : Addr) (h : Heap), (Kp w.params).In h → h.Ns mainGlobals mg → mg d.name = some (.ref fa) → ∃ fd, LawOk l.prog w (Kp w.params) mg k fa fd x F)
    (holds : ∀ ns : List Int, ns.length ≤ 63 → F [.lst (ns.map D.int)] = .ok (.bl true)) : PySem.W.WalkO q loose XP YP l.row.toRowW d [] (fun f vs => PySem.call f vs) := by
  apply Att.attach_callB most nodf
  intro w s₀ s₁ mg mb fa o pm cd doc a vs ns ground yp _ _ _ atLaw atScript hInts le63 _ nogen
  have kheap := kin w s₁.heap yp
  obtain ⟨fd, law⟩ := ok w mg fa s₁.heap kheap ground.T.g atLaw
  obtain ⟨c, P, ht, hnP⟩ := tab w
  obtain ⟨dA, hdA⟩ := Option.isSome_iff_exists.mp rec_
  obtain ⟨hC, hP⟩ := PySem.W.tab_of ground.T kheap hdA ht
  let want : Sp := fun us H Q _ => us = [V.ref a] ∧ LsK (Kp w.params) H a (ns.map V.int) ∧ H P = some (.tbl #[]) ∧ ∀ H', Q (.bl true) H'
  have promise : ∀ base : Heap, (Kp w.params).In base → base.Ns mainGlobals mg → (∀ p ∈ [(c, P)], LamX.TabB base mg p.1 p.2) → FnOk l.prog w (Kp w.params) mg base (L2.CX l.prog w) k fa fd [x] want := fun base kb nb tbs => (law.fn base ⟨c, P, tbc_of kheap ground.T.g ht (tbs (c, P) (List.mem_singleton.mpr rfl))⟩).imp fun us H Q _ hw => by
    obtain ⟨e, ls, tb, fin⟩ := hw
    subst e
    refine ⟨noTbl H, [.lst (ns.map D.int)], noTbl_same H, fun P' t => ?_, .cons (.lst (noTbl_lst ls) (reps_ints ns)) .nil, ?_⟩
    · obtain rfl := tb_one (g := ⟨l.prog, w, Kp w.params, mg, base, none⟩) kb kheap ground.T.g ht t
      exact ⟨.nil tb, by unfold noTbl; rw [tb]⟩
    · rw [holds ns le63]
      intro v H' Hf' _ r
      cases r
      exact fin H'
  exact LamX.law_callTs (cs := [(c, P)]) (sp := want) kheap ground.T.g ground.T.b ground.T.builtins ground.T.nolimit nogen (fun p hp => by rw [List.mem_singleton.mp hp]; exact hP) (fun p hp => by rw [List.mem_singleton.mp hp]; exact hnP) (fun p hp => by rw [List.mem_singleton.mp hp]; exact hC) ground.T.bmain
    atScript hInts (by rw [sizeLine_val]; omega) room promise law.binds
    (fun H hH sq => ⟨rfl, ls_of_sq kheap atScript sq, hH (c, P) (List.mem_singleton.mpr rfl), fun _ => rfl⟩) (fun H e s' c => by obtain ⟨_, _, _, _, _, _, _, _, _, _, _, _, z⟩ := c; exact z)
/-- from the table of a def to the law -/
theorem law_of {P : Program} {w : World} {K : PySem.W.Frag} {mg : Str → Option Value} {x y : Str} {st : Stmt} {N : List Str} {T : Tb} {B : Rf.S} {n : Nat} {fa : Addr} (hfa : mg y = some (.ref fa)) (h : ∀ base, DefAt ⟨P, w, K, mg, base, none⟩ y st) (S : FnScope N [x] (defScope st)) (Kn : ∀ base, TabAt ⟨P, w, K, mg, base, none⟩ → Know ⟨P, w, K, mg, base, none⟩ n T) (hck : ckSs N T B (defScope st) (defBody st) = true) (hq : T.hm = false := by rfl) (hl : T.lam = false := by rfl)
    (hb : ∀ (kV doc pm : Value) (an : Option Addr) (cdv ct : Value) (us : List Value), us.length = 1 → bindArgs (PySem.W.fnOf y y (defArgs st) (defBody st) (defScope st) .none kV doc pm an cdv ct) ⟨us, []⟩ = pure ([x].zip us)) : ∃ fd, LawOk P w K mg (n + 1) fa fd x (runFn 1 N.length T B) := by
  obtain ⟨_, f, oc, od, kV, doc, pm, an, cdv, ct, osl, h1, h2, h3, h4⟩ := h default
  have e : f = fa := by
    have z : some (Value.ref f) = some (Value.ref fa) := h1.symm.trans hfa
    cases z; rfl
  subst e
  exact ⟨_, ⟨fun s u => .of_eq (hb kV doc pm an cdv ct [u] rfl), fun base tab => fn_ok (g := ⟨P, w, K, mg, base, none⟩) (ps := [x]) h2 h3 S rfl hq (Kn base tab) hck (fun z => by rw [hl] at z; cases z)⟩⟩
end Rf
namespace Rf
open PySem PySem.Spec L2
/-- what the head's word finds of a def -/
theorem defAt {P : Program} {w : World} {K : PySem.W.Frag} {h : Heap} {mg : Str → Option Value} {x : Str} {st : Stmt} {f : Addr} {oc kV doc pm cdv ct : Value} {od an : Option Addr} {osl : Array (Option Value)} (X : K.In h) (G : h.Ns mainGlobals mg)
    (a : PySem.W.nsIn K mainGlobals x = some (some (.ref f))) (l : K.lookup f = some ⟨oc, od, .func (PySem.W.fnOf x x (defArgs st) (defBody st) (defScope st) .none kV doc pm an cdv ct), osl⟩) (c : PySem.W.codeIn K cdv x = true) (k : PySem.W.keepIn K (.ref f) = true) :
    ∀ base, DefAt ⟨P, w, K, mg, base, none⟩ x st := fun base => ⟨rfl, f, oc, od, kV, doc, pm, an, cdv, ct, osl, PySem.W.mg_of X G a, l, c, k⟩
/-- a module's constant: a tuple, a list of written things -/
def flatOf : Value → Option D
  | .none => some .non
  | .bool b => some (.bl b)
  | .int i _ => some (.int i)
  | .str s _ => some (.str s)
  | _ => none
theorem rep_flat {g : G} {H : Hp} {u : Value} {d : D} (h : flatOf u = some d) : ∃ v, RelV v u ∧ Rep g H v d := by
  cases u with
  | none => cases h; exact ⟨.non, rfl, .non⟩
  | bool b => cases h; exact ⟨.bl b, rfl, .bl b⟩
  | int i t => cases h; exact ⟨.int i, ⟨t, rfl⟩, .int i⟩
  | str s t => cases h; exact ⟨.str s, ⟨t, rfl⟩, .str s⟩
  | _ => cases h
def flatAll : List Value → Option (List D)
  | [] => some []
  | u :: us => match flatOf u, flatAll us with
    | some d, some ds => some (d :: ds)
    | _, _ => none
theorem reps_flat {g : G} : ∀ {us : List Value} {ds : List D}, flatAll us = some ds → ∃ vs, Vals vs us ∧ ∀ H, Reps g H vs ds
  | [], ds, h => by cases h; exact ⟨[], .nil, fun _ => .nil⟩
  | u :: us, ds, h => by
    unfold flatAll at h
    split at h
    · rename_i d ds' h1 h2
      cases h
      obtain ⟨vs, r, q⟩ := reps_flat (g := g) h2
      have : ∃ v, RelV v u ∧ ∀ H, Rep g H v d := by
        cases u with
        | none => cases h1; exact ⟨.non, rfl, fun _ => .non⟩
        | bool b => cases h1; exact ⟨.bl b, rfl, fun _ => .bl b⟩
        | int i t => cases h1; exact ⟨.int i, ⟨t, rfl⟩, fun _ => .int i⟩
        | str s t => cases h1; exact ⟨.str s, ⟨t, rfl⟩, fun _ => .str s⟩
        | _ => cases h1
      obtain ⟨v, rv, hv⟩ := this
      exact ⟨v :: vs, .cons rv r, fun H => .cons (hv H) (q H)⟩
    · cases h
theorem gconTup {P : Program} {w : World} {K : PySem.W.Frag} {h : Heap} {mg : Str → Option Value} {x : Str} {a : Addr} {dd : Option Addr} {its : Array Value} {n : Nat} {sl : Array (Option Value)} {ds : List D} (X : K.In h) (G : h.Ns mainGlobals mg)
    (e : PySem.W.nsIn K mainGlobals x = some (some (.ref a))) (l : K.lookup a = some ⟨.type "tuple", dd, .seq its n, sl⟩) (hd : flatAll its.toList = some ds) (hs : its.size ≤ 16777216) : ∀ base, Gcon ⟨P, w, K, mg, base, none⟩ x (.tup ds) := fun base => by
  obtain ⟨vs, r, q⟩ := reps_flat (g := ⟨P, w, K, mg, base, none⟩) hd
  exact ⟨.ref a, _, PySem.W.mg_of X G e, rfl, fun H => .tup (.inr ⟨_, its, n, l, rfl, rfl, by rw [sizeLine_val]; exact hs, r⟩) (q H)⟩
end Rf
/-! # Rf15: the readings by simp -/
namespace Rf
open PySem
@[simp] theorem ev_var (T : Tb) (i : Nat) (env : Env) : ev T (.var i) env = (getV env i) := by first | exact id rfl | simp only [ev]
@[simp] theorem ev_int (T : Tb) (i : Int) (env : Env) : ev T (.int i) env = (.ok (.int i)) := by first | exact id rfl | simp only [ev]
@[simp] theorem ev_bl (T : Tb) (b : Bool) (env : Env) : ev T (.bl b) env = (.ok (.bl b)) := by first | exact id rfl | simp only [ev]
@[simp] theorem ev_non (T : Tb)  (env : Env) : ev T .non env = (.ok .non) := by first | exact id rfl | simp only [ev]
@[simp] theorem ev_str (T : Tb) (s : Str) (env : Env) : ev T (.str s) env = (.ok (.str s)) := by first | exact id rfl | simp only [ev]
@[simp] theorem ev_glob (T : Tb) (j : Nat) (env : Env) : ev T (.glob j) env = (match T.gl[j]? with
    | some (_, d) => .ok d
    | none => .bad) := by first | exact id rfl | simp only [ev]
@[simp] theorem ev_bin (T : Tb) (op : BOp) (a b : E) (env : Env) : ev T (.bin op a b) env = ((ev T a env).bind fun x => (ev T b env).bind fun y => bop op x y) := by first | exact id rfl | simp only [ev]
@[simp] theorem ev_neg (T : Tb) (a : E) (env : Env) : ev T (.neg a) env = ((ev T a env).bind fun x => match x with
    | .int i => .ok (.int (-i))
    | _ => .bad) := by first | exact id rfl | simp only [ev]
@[simp] theorem ev_cmp (T : Tb) (op : COp) (a b : E) (env : Env) : ev T (.cmp op a b) env = ((ev T a env).bind fun x => (ev T b env).bind fun y => cop op x y) := by first | exact id rfl | simp only [ev]
@[simp] theorem ev_isN (T : Tb) (a : E) (ng : Bool) (env : Env) : ev T (.isN a ng) env = ((ev T a env).bind fun x => .ok (.bl (if ng then !isNon x else isNon x))) := by first | exact id rfl | simp only [ev]
@[simp] theorem ev_chain (T : Tb) (op op' : COp) (a b c : E) (env : Env) : ev T (.chain op op' a b c) env = ((ev T a env).bind fun x => (ev T b env).bind fun y => (asB (cop op x y)).bind fun k =>
      if k = true then (ev T c env).bind fun z => cop op' y z else .ok (.bl false)) := by first | exact id rfl | simp only [ev]
@[simp] theorem ev_and (T : Tb) (a b : E) (env : Env) : ev T (.and a b) env = ((asB (ev T a env)).bind fun k => if k = true then ev T b env else .ok (.bl false)) := by first | exact id rfl | simp only [ev]
@[simp] theorem ev_or (T : Tb) (a b : E) (env : Env) : ev T (.or a b) env = ((asB (ev T a env)).bind fun k => if k = true then .ok (.bl true) else ev T b env) := by first | exact id rfl | simp only [ev]
@[simp] theorem ev_not (T : Tb) (a : E) (env : Env) : ev T (.not a) env = ((asB (ev T a env)).bind fun k => .ok (.bl (!k))) := by first | exact id rfl | simp only [ev]
@[simp] theorem ev_ife (T : Tb) (c a b : E) (env : Env) : ev T (.ife c a b) env = ((evT T c env).bind fun k => if k = true then ev T a env else ev T b env) := by first | exact id rfl | simp only [ev]
@[simp] theorem ev_tup (T : Tb) (es : E) (env : Env) : ev T (.tup es) env = ((evs T es env).bind fun ds => if okLen ds.length = true then .ok (.tup ds) else .bad) := by first | exact id rfl | simp only [ev]
@[simp] theorem ev_lst (T : Tb) (es : E) (env : Env) : ev T (.lst es) env = ((evs T es env).bind fun ds => if okLen ds.length = true then .ok (.lst ds) else .bad) := by first | exact id rfl | simp only [ev]
@[simp] theorem ev_ix (T : Tb) (a b : E) (env : Env) : ev T (.ix a b) env = ((ev T a env).bind fun x => (ev T b env).bind fun y => ixD x y) := by first | exact id rfl | simp only [ev]
@[simp] theorem ev_sl (T : Tb) (a lo hi : E) (env : Env) : ev T (.sl a lo hi) env = ((ev T a env).bind fun x => (evP T lo env).bind fun l => (evP T hi env).bind fun h => slD x l h) := by first | exact id rfl | simp only [ev]
@[simp] theorem ev_call (T : Tb) (j : Nat) (es : E) (env : Env) : ev T (.call j es) env = ((evs T es env).bind fun ds => match T.fn[j]? with
    | some (_, F) => F ds
    | none => .bad) := by first | exact id rfl | simp only [ev]
@[simp] theorem ev_bi (T : Tb) (b : Bi) (es : E) (env : Env) : ev T (.bi b es) env = ((evs T es env).bind fun ds => biF b ds) := by first | exact id rfl | simp only [ev]
@[simp] theorem ev_isi (T : Tb) (a : E) (t : Ty) (env : Env) : ev T (.isi a t) env = ((ev T a env).bind fun x => (isiB t x).bind fun b => .ok (.bl b)) := by first | exact id rfl | simp only [ev]
@[simp] theorem ev_isx (T : Tb) (a : E) (j : Nat) (env : Env) : ev T (.isx a j) env = ((ev T a env).bind fun x => isxD T.xi j x) := by first | exact id rfl | simp only [ev]
@[simp] theorem ev_att (T : Tb) (a : E) (f : Str) (env : Env) : ev T (.att a f) env = ((ev T a env).bind fun x => fldD T.at_ f x) := by first | exact id rfl | simp only [ev]
@[simp] theorem ev_comp (T : Tb) (elt : E) (tg : Tg) (it cond : E) (own : List Nat) (env : Env) : ev T (.comp elt tg it cond own) env = ((evI T it env).bind fun ds =>
      (compL (fun env' => (evC T cond env').bind fun k => if k = true then (ev T elt env').bind fun d => .ok (some d) else .ok none) tg (wipeE (hideO env) own) ds).bind fun rs =>
        if okLen rs.length = true then .ok (.lst rs) else .bad) := by first | exact id rfl | simp only [ev]
@[simp] theorem ev_oix (T : Tb) (i : Nat) (b : E) (env : Env) : ev T (.oix i b) env = ((getL env i).bind fun xs => (ev T b env).bind fun y => ixD (.lst xs) y) := by first | exact id rfl | simp only [ev]
@[simp] theorem ev_olen (T : Tb) (i : Nat) (env : Env) : ev T (.olen i) env = ((getL env i).bind fun xs => .ok (.int xs.length)) := by first | exact id rfl | simp only [ev]
@[simp] theorem evT_and (T : Tb) (a b : E) (env : Env) : evT T (.and a b) env = ((evT T a env).bind fun k => if k = true then evT T b env else .ok false) := by first | exact id rfl | simp only [evT]
@[simp] theorem evT_or (T : Tb) (a b : E) (env : Env) : evT T (.or a b) env = ((evT T a env).bind fun k => if k = true then .ok true else evT T b env) := by first | exact id rfl | simp only [evT]
@[simp] theorem evT_not (T : Tb) (a : E) (env : Env) : evT T (.not a) env = ((evT T a env).bind fun k => .ok (!k)) := by first | exact id rfl | simp only [evT]
@[simp] theorem evT_bl (T : Tb) (b : Bool) (env : Env) : evT T (.bl b) env = (.ok b) := by first | exact id rfl | simp only [evT]
@[simp] theorem evT_int (T : Tb) (i : Int) (env : Env) : evT T (.int i) env = (.ok (i != 0)) := by first | exact id rfl | simp only [evT]
@[simp] theorem evT_var (T : Tb) (i : Nat) (env : Env) : evT T (.var i) env = ((getV env i).bind truD) := by first | exact id rfl | simp only [evT]
@[simp] theorem evT_cmp (T : Tb) (op : COp) (a b : E) (env : Env) : evT T (.cmp op a b) env = ((ev T a env).bind fun x => (ev T b env).bind fun y => asB (cop op x y)) := by first | exact id rfl | simp only [evT]
@[simp] theorem evT_isN (T : Tb) (a : E) (ng : Bool) (env : Env) : evT T (.isN a ng) env = ((ev T a env).bind fun x => .ok (if ng then !isNon x else isNon x)) := by first | exact id rfl | simp only [evT]
@[simp] theorem evT_chain (T : Tb) (op op' : COp) (a b c : E) (env : Env) : evT T (.chain op op' a b c) env = ((ev T a env).bind fun x => (ev T b env).bind fun y => (asB (cop op x y)).bind fun k =>
      if k = true then (ev T c env).bind fun z => asB (cop op' y z) else .ok false) := by first | exact id rfl | simp only [evT]
@[simp] theorem evT_ix (T : Tb) (a b : E) (env : Env) : evT T (.ix a b) env = (((ev T a env).bind fun x => (ev T b env).bind fun y => ixD x y).bind truD) := by first | exact id rfl | simp only [evT]
@[simp] theorem evT_call (T : Tb) (j : Nat) (es : E) (env : Env) : evT T (.call j es) env = (((evs T es env).bind fun ds => match T.fn[j]? with
    | some (_, F) => F ds
    | none => .bad).bind truD) := by first | exact id rfl | simp only [evT]
@[simp] theorem evT_bi (T : Tb) (b : Bi) (es : E) (env : Env) : evT T (.bi b es) env = (((evs T es env).bind fun ds => biF b ds).bind truD) := by first | exact id rfl | simp only [evT]
@[simp] theorem evT_isi (T : Tb) (a : E) (t : Ty) (env : Env) : evT T (.isi a t) env = ((ev T a env).bind fun x => isiB t x) := by first | exact id rfl | simp only [evT]
@[simp] theorem evT_isx (T : Tb) (a : E) (j : Nat) (env : Env) : evT T (.isx a j) env = (((ev T a env).bind fun x => isxD T.xi j x).bind truD) := by first | exact id rfl | simp only [evT]
@[simp] theorem evT_att (T : Tb) (a : E) (f : Str) (env : Env) : evT T (.att a f) env = (((ev T a env).bind fun x => fldD T.at_ f x).bind truD) := by first | exact id rfl | simp only [evT]
@[simp] theorem evs_nil (T : Tb)  (env : Env) : evs T .nil env = (.ok []) := by first | exact id rfl | simp only [evs]
@[simp] theorem evs_cons (T : Tb) (a es : E) (env : Env) : evs T (.cons a es) env = ((ev T a env).bind fun d => (evs T es env).bind fun ds => .ok (d :: ds)) := by first | exact id rfl | simp only [evs]
@[simp] theorem evP_nil (T : Tb)  (env : Env) : evP T .nil env = (.ok none) := by first | exact id rfl | simp only [evP]
@[simp] theorem evP_cons (T : Tb) (a : E) (env : Env) : evP T (.cons a .nil) env = ((ev T a env).bind partD) := by first | exact id rfl | simp only [evP]
@[simp] theorem evC_nil (T : Tb)  (env : Env) : evC T .nil env = (.ok true) := by first | exact id rfl | simp only [evC]
@[simp] theorem evC_cons (T : Tb) (a : E) (env : Env) : evC T (.cons a .nil) env = (evT T a env) := by first | exact id rfl | simp only [evC]
@[simp] theorem evI_rng1 (T : Tb) (a : E) (env : Env) : evI T (.rng1 a) env = ((ev T a env).bind fun x => match x with
    | .int j => if okRng j = true then .ok (rngD 0 j) else .bad
    | _ => .bad) := by first | exact id rfl | simp only [evI]
@[simp] theorem evI_rng2 (T : Tb) (a b : E) (env : Env) : evI T (.rng2 a b) env = ((ev T a env).bind fun x => (ev T b env).bind fun y => match x, y with
    | .int i, .int j => if (okRng i && okRng j) = true then .ok (rngD i j) else .bad
    | _, _ => .bad) := by first | exact id rfl | simp only [evI]
@[simp] theorem evI_enum (T : Tb) (a : E) (env : Env) : evI T (.enum a) env = ((ev T a env).bind fun x => match x with
    | .lst xs => .ok (enumD xs)
    | _ => .bad) := by first | exact id rfl | simp only [evI]
@[simp] theorem evI_zip (T : Tb) (a b : E) (env : Env) : evI T (.zip a b) env = ((ev T a env).bind fun x => (ev T b env).bind fun y => match x, y with
    | .lst xs, .lst ys => .ok (zipD xs ys)
    | _, _ => .bad) := by first | exact id rfl | simp only [evI]
@[simp] theorem evI_cons (T : Tb) (a : E) (env : Env) : evI T (.cons a .nil) env = ((ev T a env).bind itemsD) := by first | exact id rfl | simp only [evI]
@[simp] theorem ex_nil (T : Tb)  (env : Env) : ex T .nil env = (.nx env) := by first | exact id rfl | simp only [ex]
@[simp] theorem ex_cons (T : Tb) (s r : S) (env : Env) : ex T (.cons s r) env = ((ex T s env).andThen (ex T r)) := by first | exact id rfl | simp only [ex]
@[simp] theorem ex_pass (T : Tb)  (env : Env) : ex T .pass env = (.nx env) := by first | exact id rfl | simp only [ex]
@[simp] theorem ex_brk (T : Tb)  (env : Env) : ex T .brk env = (.bk env) := by first | exact id rfl | simp only [ex]
@[simp] theorem ex_ct (T : Tb)  (env : Env) : ex T .ct env = (.ct env) := by first | exact id rfl | simp only [ex]
@[simp] theorem ex_retN (T : Tb)  (env : Env) : ex T .retN env = (.rt .non) := by first | exact id rfl | simp only [ex]
@[simp] theorem ex_ret (T : Tb) (e : E) (env : Env) : ex T (.ret e) env = (Out.of env .rt (ev T e env)) := by first | exact id rfl | simp only [ex]
@[simp] theorem ex_asg (T : Tb) (t : Tg) (e : E) (env : Env) : ex T (.asg t e) env = (Out.of env (fun d => match setT t d env with | some env' => .nx env' | none => .bad) (ev T e env)) := by first | exact id rfl | simp only [ex]
@[simp] theorem ex_asgO (T : Tb) (i : Nat) (e : E) (env : Env) : ex T (.asgO i e) env = (Out.of env (fun d => match d with | .lst xs => .nx (env.set i (some (.o xs))) | _ => .bad) (ev T e env)) := by first | exact id rfl | simp only [ex]
@[simp] theorem ex_par2 (T : Tb) (i j : Nat) (a b : E) (env : Env) : ex T (.par2 i j a b) env = (Out.of env (fun x => Out.of env (fun y => .nx ((env.set i (some (.v x))).set j (some (.v y)))) (ev T b env)) (ev T a env)) := by first | exact id rfl | simp only [ex]
@[simp] theorem ex_asgIx (T : Tb) (i : Nat) (a e : E) (env : Env) : ex T (.asgIx i a e) env = (Out.of env (fun x => Out.of env (fun xs => Out.of env (fun k => Out.of env (fun ys => .nx (env.set i (some (.o ys)))) (setD xs k x)) (ev T a env)) (getO env i)) (ev T e env)) := by first | exact id rfl | simp only [ex]
@[simp] theorem ex_app (T : Tb) (i : Nat) (e : E) (env : Env) : ex T (.app i e) env = (Out.of env (fun xs => Out.of env (fun x => if xs.length < 16777216 then .nx (env.set i (some (.o (xs ++ [x])))) else .bad) (ev T e env)) (getO env i)) := by first | exact id rfl | simp only [ex]
@[simp] theorem ex_pop (T : Tb) (i : Nat) (env : Env) : ex T (.pop i) env = (Out.of env (fun xs => if xs ≠ [] then .nx (env.set i (some (.o xs.dropLast))) else .bad) (getO env i)) := by first | exact id rfl | simp only [ex]
@[simp] theorem ex_expr (T : Tb) (e : E) (env : Env) : ex T (.expr e) env = (Out.of env (fun _ => .nx env) (ev T e env)) := by first | exact id rfl | simp only [ex]
@[simp] theorem ex_ife (T : Tb) (c : E) (a b : S) (env : Env) : ex T (.ife c a b) env = (Out.of env (fun k => if k = true then ex T a env else ex T b env) (evT T c env)) := by first | exact id rfl | simp only [ex]
@[simp] theorem ex_frz (T : Tb) (is : List Nat) (s : S) (env : Env) : ex T (.frz is s) env = (ex T s (frzE env is)) := by first | exact id rfl | simp only [ex]
@[simp] theorem ex_bad (T : Tb)  (env : Env) : ex T .bad env = (.bad) := by first | exact id rfl | simp only [ex]
@[simp] theorem ex_raise_ (T : Tb) (j : Nat) (env : Env) : ex T (.raise_ j) env = (match T.xc[j]? with
    | some c => .err ⟨c, []⟩ env
    | none => .bad) := by first | exact id rfl | simp only [ex]
@[simp] theorem ex_retA (T : Tb) (i j : Nat) (env : Env) : ex T (.retA i j) env = (Out.of env .rt ((getV env i).bind fun x => (getV env j).bind fun c => sortA x c)) := by first | exact id rfl | simp only [ex]
@[simp] theorem ex_tryAs (T : Tb) (i j : Nat) (body suite : S) (env : Env) : ex T (.tryAs i j body suite) env = (match ex T body env with
    | .err x env' => match capt T.xh j x.cls with
      | some true => afterS (fun e => e.set i none) (ex T.hot suite (env'.set i (some (.v (.exc x.cls x.fs)))))
      | some false => .err x env'
      | none => .bad
    | o => o) := by first | exact id rfl | simp only [ex]
@[simp] theorem ex_tryOnly (T : Tb) (j : Nat) (body suite : S) (env : Env) : ex T (.tryOnly j body suite) env = (match ex T body env with
    | .err x env' => match capt T.xh j x.cls with
      | some true => afterS (fun e => e) (ex T.hot suite env')
      | some false => .err x env'
      | none => .bad
    | o => o) := by first | exact id rfl | simp only [ex]
theorem ex_for (T : Tb) (t : Tg) (it : E) (body : S) (env : Env) : ex T (.for_ t it body) env = Out.of env (fun ds => forL (fun d e => match setT t d e with | some e' => ex T body e' | none => .bad) ds env) (evI T it env) := by first | rfl | (simp only [ex]; rfl) | (rw [ex]; rfl)
theorem ex_while (T : Tb) (c : E) (body : S) (env : Env) : ex T (.while_ c body) env = whileS (evT T c) (ex T body) env := by simp only [ex]
@[simp] theorem getV_zero (d : D) (env : Env) : getV (some (.v d) :: env) 0 = .ok d := id rfl
@[simp] theorem getV_succ (s : Option Sl) (env : Env) (n : Nat) : getV (s :: env) (n + 1) = getV env n := id rfl
@[simp] theorem getO_zero (d : List D) (env : Env) : getO (some (.o d) :: env) 0 = .ok d := id rfl
@[simp] theorem getO_succ (s : Option Sl) (env : Env) (n : Nat) : getO (s :: env) (n + 1) = getO env n := id rfl
@[simp] theorem getL_zeroO (d : List D) (env : Env) : getL (some (.o d) :: env) 0 = .ok d := id rfl
@[simp] theorem getL_zeroV (d : List D) (env : Env) : getL (some (.v (.lst d)) :: env) 0 = .ok d := id rfl
@[simp] theorem getL_succ (s : Option Sl) (env : Env) (n : Nat) : getL (s :: env) (n + 1) = getL env n := id rfl
@[simp] theorem setT_name (i : Nat) (d : D) (env : Env) : setT (.name i) d env = some (env.set i (some (.v d))) := by simp only [setT]
@[simp] theorem setT_tup (r : Tg) (ds : List D) (env : Env) : setT (.tup r) (.tup ds) env = setT r (.tup ds) env := by simp only [setT]
@[simp] theorem setT_nil (env : Env) : setT .nil (.tup []) env = some env := by simp only [setT]
@[simp] theorem setT_cons (a r : Tg) (d : D) (ds : List D) (env : Env) : setT (.cons a r) (.tup (d :: ds)) env = (setT a d env).bind fun env' => setT r (.tup ds) env' := by simp only [setT]
@[simp] theorem andThen_nx (env : Env) (k : Env → Out) : (Out.nx env).andThen k = k env := id rfl
@[simp] theorem andThen_rt (d : D) (k : Env → Out) : (Out.rt d).andThen k = .rt d := id rfl
@[simp] theorem andThen_bk (env : Env) (k : Env → Out) : (Out.bk env).andThen k = .bk env := id rfl
@[simp] theorem andThen_ct (env : Env) (k : Env → Out) : (Out.ct env).andThen k = .ct env := id rfl
@[simp] theorem andThen_err (x : Exn) (env : Env) (k : Env → Out) : (Out.err x env).andThen k = .err x env := id rfl
@[simp] theorem andThen_bad (k : Env → Out) : Out.bad.andThen k = .bad := id rfl
@[simp] theorem forL_nil (f : D → Env → Out) (env : Env) : forL f [] env = .nx env := id rfl
theorem forL_cons (f : D → Env → Out) (d : D) (ds : List D) (env : Env) : forL f (d :: ds) env = (match f d env with | .nx e => forL f ds e | .ct e => forL f ds e | .bk e => .nx e | o => o) := by first | rfl | (rw [forL]; rfl) | (simp only [forL]; cases f d env <;> rfl)
@[simp] theorem wipeE_nil (env : Env) : wipeE env [] = env := id rfl
@[simp] theorem wipeE_cons (env : Env) (v : Nat) (vs : List Nat) : wipeE env (v :: vs) = (wipeE env vs).set v none := id rfl
@[simp] theorem hide_nil : hideO [] = [] := id rfl
def hide1 : Option Sl → Option Sl
  | some (.v d) => some (.v d)
  | _ => none
@[simp] theorem hide_cons (x : Option Sl) (env : Env) : hideO (x :: env) = hide1 x :: hideO env := by
  show List.map _ _ = _
  rw [List.map_cons]
  congr 1
@[simp] theorem hide_v (d : D) : hide1 (some (.v d)) = some (.v d) := id rfl
@[simp] theorem hide_o (d : List D) : hide1 (some (.o d)) = none := id rfl
@[simp] theorem hide_n : hide1 none = none := id rfl
@[simp] theorem frzE_nil (env : Env) : frzE env [] = env := id rfl
@[simp] theorem asB_bl (b : Bool) : asB (.ok (.bl b)) = .ok b := id rfl
@[simp] theorem asB_err (x : Exn) : asB (.err x) = .err x := id rfl
@[simp] theorem truD_bl (b : Bool) : truD (.bl b) = .ok b := id rfl
@[simp] theorem truD_non : truD .non = .ok false := id rfl
@[simp] theorem truD_int (i : Int) : truD (.int i) = .ok (i != 0) := id rfl
@[simp] theorem truD_lst (xs : List D) : truD (.lst xs) = .ok (!xs.isEmpty) := id rfl
@[simp] theorem truD_tup (xs : List D) : truD (.tup xs) = .ok (!xs.isEmpty) := id rfl
@[simp] theorem bop_add (i j : Int) : bop .add (.int i) (.int j) = .ok (.int (i + j)) := id rfl
@[simp] theorem bop_sub (i j : Int) : bop .sub (.int i) (.int j) = .ok (.int (i - j)) := id rfl
theorem bop_mul {i j : Int} (h : okMul i j = true) : bop .mul (.int i) (.int j) = .ok (.int (i * j)) := by simp [bop, h]
theorem bop_fdiv {i j : Int} (h : okDiv j = true) : bop .fdiv (.int i) (.int j) = .ok (.int (i.fdiv j)) := by simp [bop, h]
theorem bop_mod {i j : Int} (h : j ≠ 0) : bop .mod (.int i) (.int j) = .ok (.int (i.fmod j)) := by simp [bop, h]
theorem bop_pow {i j : Int} (h : okPow i j = true) : bop .pow (.int i) (.int j) = .ok (.int (i ^ j.toNat)) := by simp [bop, h]
theorem bop_cat {xs ys : List D} (h : xs.length + ys.length ≤ 16777216) : bop .add (.lst xs) (.lst ys) = .ok (.lst (xs ++ ys)) := by simp [bop, okLen, h]
@[simp] theorem cop_lt (i j : Int) : cop .lt (.int i) (.int j) = .ok (.bl (decide (i < j))) := id rfl
@[simp] theorem cop_le (i j : Int) : cop .le (.int i) (.int j) = .ok (.bl (decide (i ≤ j))) := id rfl
@[simp] theorem cop_gt (i j : Int) : cop .gt (.int i) (.int j) = .ok (.bl (decide (j < i))) := id rfl
@[simp] theorem cop_ge (i j : Int) : cop .ge (.int i) (.int j) = .ok (.bl (decide (j ≤ i))) := id rfl
theorem cop_eq {d e : D} {b : Bool} (h : eqD d e = .ok b) : cop .eq d e = .ok (.bl b) := by simp [cop, h]
theorem cop_ne' {d e : D} {b : Bool} (h : eqD d e = .ok b) : cop .ne d e = .ok (.bl (!b)) := by simp [cop, h]
@[simp] theorem isNon_non : isNon .non = true := id rfl
@[simp] theorem isNon_bl (b : Bool) : isNon (.bl b) = false := id rfl
@[simp] theorem isNon_int (b : Int) : isNon (.int b) = false := id rfl
@[simp] theorem isNon_str (b : Str) : isNon (.str b) = false := id rfl
@[simp] theorem isNon_tup (b : List D) : isNon (.tup b) = false := id rfl
@[simp] theorem isNon_lst (b : List D) : isNon (.lst b) = false := id rfl
@[simp] theorem isNon_obj (c : Str) (b : List (Str × D)) : isNon (.obj c b) = false := id rfl
@[simp] theorem itemsD_lst (xs : List D) : itemsD (.lst xs) = .ok xs := id rfl
@[simp] theorem itemsD_tup (xs : List D) : itemsD (.tup xs) = .ok xs := id rfl
@[simp] theorem bi_abs (i : Int) : biF .abs [.int i] = .ok (.int (if i < 0 then -i else i)) := id rfl
@[simp] theorem bi_int (i : Int) : biF .int [.int i] = .ok (.int i) := id rfl
@[simp] theorem bi_lenL (xs : List D) : biF .len [.lst xs] = .ok (.int xs.length) := id rfl
@[simp] theorem bi_lenT (xs : List D) : biF .len [.tup xs] = .ok (.int xs.length) := id rfl
@[simp] theorem bi_listL (xs : List D) : biF .list [.lst xs] = .ok (.lst xs) := id rfl
@[simp] theorem bi_listT (xs : List D) : biF .list [.tup xs] = .ok (.lst xs) := id rfl
@[simp] theorem bi_tupL (xs : List D) : biF .tuple [.lst xs] = .ok (.tup xs) := id rfl
@[simp] theorem bi_tupT (xs : List D) : biF .tuple [.tup xs] = .ok (.tup xs) := id rfl
@[simp] theorem bi_min (i j : Int) : biF .min2 [.int i, .int j] = .ok (.int (if j < i then j else i)) := id rfl
@[simp] theorem bi_max (i j : Int) : biF .max2 [.int i, .int j] = .ok (.int (if j > i then j else i)) := id rfl
@[simp] theorem bi_gcd (i j : Int) : biF .gcd [.int i, .int j] = .ok (.int (Nat.gcd i.natAbs j.natAbs : Nat)) := id rfl
@[simp] theorem okLen_small {n : Nat} (h : n ≤ 16777216) : okLen n = true := decide_eq_true h
/-- an item at a place that is not negative -/
theorem ixD_nat {xs : List D} {i : Nat} {d : D} (h : xs[i]? = some d) : ixD (.lst xs) (.int (i : Int)) = .ok d := by
  have hl := (List.getElem?_eq_some_iff.mp h).1
  have e : L2.ixN xs.length (i : Int) = some i := by unfold L2.ixN; rw [if_pos (by omega), if_pos (by omega)]; simp
  simp [ixD, L2.atI, e, h, ofO]
theorem ixD_natT {xs : List D} {i : Nat} {d : D} (h : xs[i]? = some d) : ixD (.tup xs) (.int (i : Int)) = .ok d := by
  have hl := (List.getElem?_eq_some_iff.mp h).1
  have e : L2.ixN xs.length (i : Int) = some i := by unfold L2.ixN; rw [if_pos (by omega), if_pos (by omega)]; simp
  simp [ixD, L2.atI, e, h, ofO]
@[simp] theorem ixT0 (a : D) (xs : List D) : ixD (.tup (a :: xs)) (.int 0) = .ok a := ixD_natT (i := 0) rfl
@[simp] theorem ixT1 (a b : D) (xs : List D) : ixD (.tup (a :: b :: xs)) (.int 1) = .ok b := ixD_natT (i := 1) rfl
@[simp] theorem ixT2 (a b c : D) (xs : List D) : ixD (.tup (a :: b :: c :: xs)) (.int 2) = .ok c := ixD_natT (i := 2) rfl
@[simp] theorem ixT3 (a b c d : D) (xs : List D) : ixD (.tup (a :: b :: c :: d :: xs)) (.int 3) = .ok d := ixD_natT (i := 3) rfl
@[simp] theorem ixT4 (a b c d e : D) (xs : List D) : ixD (.tup (a :: b :: c :: d :: e :: xs)) (.int 4) = .ok e := ixD_natT (i := 4) rfl
@[simp] theorem ixL0 (a : D) (xs : List D) : ixD (.lst (a :: xs)) (.int 0) = .ok a := ixD_nat (i := 0) rfl
@[simp] theorem ixL1 (a b : D) (xs : List D) : ixD (.lst (a :: b :: xs)) (.int 1) = .ok b := ixD_nat (i := 1) rfl
@[simp] theorem ixL2 (a b c : D) (xs : List D) : ixD (.lst (a :: b :: c :: xs)) (.int 2) = .ok c := ixD_nat (i := 2) rfl
@[simp] theorem ixL3 (a b c d : D) (xs : List D) : ixD (.lst (a :: b :: c :: d :: xs)) (.int 3) = .ok d := ixD_nat (i := 3) rfl
/-! ### sizes -/
theorem okMul_of {a b : Int} {m n : Nat} (ha : a.natAbs < 2 ^ m) (hb : b.natAbs < 2 ^ n) (h : m + n ≤ 100000000) (h0 : 0 < m := by decide) (h1 : 0 < n := by decide) : okMul a b = true := by
  have x := PySem.Flt.log2_lt_of h0 ha
  have y := PySem.Flt.log2_lt_of h1 hb
  unfold okMul
  exact decide_eq_true (by omega)
theorem okDiv_of {b : Int} {n : Nat} (hb : b.natAbs < 2 ^ n) (h : b ≠ 0) (hn : n ≤ 9000) (h1 : 0 < n := by decide) : okDiv b = true := by
  have y := PySem.Flt.log2_lt_of h1 hb
  unfold okDiv
  simp only [Bool.and_eq_true, decide_eq_true_eq]
  exact ⟨h, by omega⟩
/-! ### a def called -/
theorem runFn_eq {np nn : Nat} {T : Tb} {B : S} {ds : List D} (h : ds.length = np) : runFn np nn T B ds = (match ex T B (ds.map (fun d => some (.v d)) ++ List.replicate (nn - np) none) with
    | .nx _ => .ok .non
    | .rt d => .ok d
    | .err x _ => .err x
    | _ => .bad) := by
  first
    | (unfold runFn; rw [if_pos h]; done)
    | (unfold runFn; rw [if_pos h]; cases ex T B (ds.map (fun d => some (.v d)) ++ List.replicate (nn - np) none) <;> rfl)
/-- what a body's outcome gives to the caller -/
def outR : Out → R D
  | .nx _ => .ok .non
  | .rt d => .ok d
  | .err x _ => .err x
  | _ => .bad
@[simp] theorem outR_rt (d : D) : outR (.rt d) = .ok d := id rfl
@[simp] theorem outR_nx (env : Env) : outR (.nx env) = .ok .non := id rfl
@[simp] theorem outR_err (x : Exn) (env : Env) : outR (.err x env) = .err x := id rfl
theorem runFn_out {np nn : Nat} {T : Tb} {B : S} {ds : List D} {env : Env} {o : Out} (h : ds.length = np) (he : ds.map (fun d => some (.v d)) ++ List.replicate (nn - np) none = env) (ho : ex T B env = o) : runFn np nn T B ds = outR o := by
  rw [runFn_eq h, he, ho]
  cases o <;> rfl
end Rf
/-! # Rf16: equality of data, loops over data -/
namespace Rf
open PySem

/-- data that == reads, of depth at most n -/
def okN : Nat → D → Bool
  | _, .non => true
  | _, .bl _ => true
  | _, .int _ => true
  | _, .str s => PyData.strOk s
  | n + 1, .tup xs => xs.all (okN n)
  | n + 1, .lst xs => xs.all (okN n)
  | _, _ => false
theorem pys_of {n : Nat} (ih : ∀ d, okN n d = true → ∃ p, d.py = some p ∧ p.canLay0 = true ∧ p.depth ≤ n) : ∀ xs : List D, xs.all (okN n) = true → ∃ ps, pys xs = some ps ∧ PyData.canLayAll0 ps = true ∧ PyData.depthAll ps ≤ n
  | [], _ => ⟨[], by simp [pys], by simp [PyData.canLayAll0], by simp [PyData.depthAll]⟩
  | x :: xs, h => by
    simp only [List.all_cons, Bool.and_eq_true] at h
    obtain ⟨p, h1, h2, h3⟩ := ih x h.1
    obtain ⟨ps, k1, k2, k3⟩ := pys_of ih xs h.2
    exact ⟨p :: ps, by simp [pys, h1, k1], by simp [PyData.canLayAll0, h2, k2], by simp only [PyData.depthAll]; omega⟩
theorem okN_py : ∀ (n : Nat) (d : D), okN n d = true → ∃ p, d.py = some p ∧ p.canLay0 = true ∧ p.depth ≤ n
  | n, .non, _ => ⟨.none, by simp [D.py], by simp [PyData.canLay0], by simp [PyData.depth]⟩
  | n, .bl b, _ => ⟨.bool b, by simp [D.py], by simp [PyData.canLay0], by simp [PyData.depth]⟩
  | n, .int b, _ => ⟨.int b, by simp [D.py], by simp [PyData.canLay0], by simp [PyData.depth]⟩
  | n, .str b, h => ⟨.str b, by simp [D.py], by cases n <;> simpa [PyData.canLay0, okN] using h, by simp [PyData.depth]⟩
  | n + 1, .tup xs, h => by
    obtain ⟨ps, k1, k2, k3⟩ := pys_of (okN_py n) xs (by simpa [okN] using h)
    exact ⟨.tuple ps, by simp [D.py, k1], by simpa [PyData.canLay0] using k2, by simp only [PyData.depth]; omega⟩
  | n + 1, .lst xs, h => by
    obtain ⟨ps, k1, k2, k3⟩ := pys_of (okN_py n) xs (by simpa [okN] using h)
    exact ⟨.list ps, by simp [D.py, k1], by simpa [PyData.canLay0] using k2, by simp only [PyData.depth]; omega⟩
  | 0, .tup _, h => by simp [okN] at h
  | 0, .lst _, h => by simp [okN] at h
  | 0, .obj _ _, h => by simp [okN] at h
  | 0, .exc _ _, h => by simp [okN] at h
  | n + 1, .obj _ _, h => by simp [okN] at h
  | n + 1, .exc _ _, h => by simp [okN] at h
/-- no int against a bool -/
def nice : Nat → D → D → Bool
  | _, .bl _, .int _ => false
  | _, .int _, .bl _ => false
  | 0, .tup _, .tup _ => false
  | 0, .lst _, .lst _ => false
  | n + 1, .tup xs, .tup ys => (xs.zip ys).all fun p => nice n p.1 p.2
  | n + 1, .lst xs, .lst ys => (xs.zip ys).all fun p => nice n p.1 p.2
  | _, _, _ => true
open Classical in
theorem eqvAll_of {n : Nat} (ih : ∀ d e p q, nice n d e = true → d.py = some p → e.py = some q → PyData.eqv p q = decide (d = e)) : ∀ (xs ys : List D) (ps qs : List PyData), ((xs.zip ys).all fun p => nice n p.1 p.2) = true → pys xs = some ps → pys ys = some qs → PyData.eqvAll ps qs = decide (xs = ys)
  | [], [], ps, qs, _, h, k => by simp [pys] at h k; subst h; subst k; simp [PyData.eqvAll]
  | [], y :: ys, ps, qs, _, h, k => by
    simp only [pys] at h k
    split at k
    · injection h with h; injection k with k; subst h; subst k; simp [PyData.eqvAll]
    · cases k
  | x :: xs, [], ps, qs, _, h, k => by
    simp only [pys] at h k
    split at h
    · injection h with h; injection k with k; subst h; subst k; simp [PyData.eqvAll]
    · cases h
  | x :: xs, y :: ys, ps, qs, hn, h, k => by
    simp only [List.zip_cons_cons, List.all_cons, Bool.and_eq_true] at hn
    simp only [pys] at h k
    split at h
    · split at k
      · injection h with h; injection k with k; subst h; subst k
        rename_i h1 h2 _ _ _ _ k1 k2
        simp [PyData.eqvAll, ih x y _ _ hn.1 h1 k1, eqvAll_of ih xs ys _ _ hn.2 h2 k2]
      · cases k
    · cases h
open Classical in
theorem eqv_of : ∀ (n : Nat) (d e : D) (p q : PyData), nice n d e = true → d.py = some p → e.py = some q → PyData.eqv p q = decide (d = e)
  | n, d, e, p, q, hn, hp, hq => by
    cases d <;> cases e <;> simp only [D.py, Option.map_eq_some_iff, Option.some.injEq, reduceCtorEq] at hp hq
    all_goals first
      | (subst hp; subst hq; simp [PyData.eqv]; done)
      | (subst hp; subst hq; cases n <;> simp [nice] at hn; done)
      | (subst hp; obtain ⟨qs, k1, k2⟩ := hq; subst k2; simp [PyData.eqv]; done)
      | (subst hq; obtain ⟨qs, k1, k2⟩ := hp; subst k2; simp [PyData.eqv]; done)
      | (obtain ⟨ps, h1, h2⟩ := hp; obtain ⟨qs, k1, k2⟩ := hq; subst h2; subst k2
         cases n with
         | zero => simp [nice] at hn
         | succ n => simp only [PyData.eqv, D.tup.injEq, D.lst.injEq]; exact eqvAll_of (eqv_of n) _ _ _ _ (by simpa [nice] using hn) h1 k1)
      | (obtain ⟨ps, h1, h2⟩ := hp; obtain ⟨qs, k1, k2⟩ := hq; subst h2; subst k2; simp [PyData.eqv]; done)
      | (rename_i a b; subst hp; subst hq; by_cases h : a = b
         · subst h; simp [PyData.eqv]
         · simp [PyData.eqv, h])
open Classical in
theorem eqD_of {d e : D} {n : Nat} (hd : okN n d = true) (he : okN n e = true) (hn : nice n d e = true) (h : n ≤ 64 := by decide) : eqD d e = .ok (decide (d = e)) := by
  obtain ⟨p, h1, h2, h3⟩ := okN_py n d hd
  obtain ⟨q, k1, k2, k3⟩ := okN_py n e he
  have a : SeqAt.shaped p = true := by simp only [SeqAt.shaped, h2, Bool.true_and, decide_eq_true_eq]; omega
  have b : SeqAt.shaped q = true := by simp only [SeqAt.shaped, k2, Bool.true_and, decide_eq_true_eq]; omega
  simp only [eqD, h1, k1, eqP, a, b, Bool.and_self, if_true, eqv_of n d e p q hn h1 k1]
@[simp] theorem eqD_int (i j : Int) : eqD (.int i) (.int j) = .ok (decide (i = j)) := by
  rw [eqD_of (n := 1) rfl rfl rfl]; simp
@[simp] theorem eqD_bl (i j : Bool) : eqD (.bl i) (.bl j) = .ok (decide (i = j)) := by
  rw [eqD_of (n := 1) rfl rfl rfl]; simp
@[simp] theorem cop_eq_int (i j : Int) : cop .eq (.int i) (.int j) = .ok (.bl (decide (i = j))) := by simp [cop]
@[simp] theorem cop_ne_int (i j : Int) : cop .ne (.int i) (.int j) = .ok (.bl (!decide (i = j))) := by simp [cop]
@[simp] theorem cop_ne_bl (i j : Bool) : cop .ne (.bl i) (.bl j) = .ok (.bl (!decide (i = j))) := by simp [cop]
@[simp] theorem cop_eq_bl (i j : Bool) : cop .eq (.bl i) (.bl j) = .ok (.bl (decide (i = j))) := by simp [cop]
theorem ok_ints (l : List Int) : okN 1 (.lst (l.map D.int)) = true := by simp [okN]
theorem nice_ints (l m : List Int) : nice 1 (.lst (l.map D.int)) (.lst (m.map D.int)) = true := by
  simp only [nice, List.all_eq_true]
  rintro ⟨x, y⟩ h
  obtain ⟨h1, h2⟩ := List.of_mem_zip h
  obtain ⟨a, _, rfl⟩ := List.mem_map.mp h1
  obtain ⟨b, _, rfl⟩ := List.mem_map.mp h2
  rfl
theorem intInj : Function.Injective D.int := fun a b h => by injection h
theorem eqD_ints (l m : List Int) : eqD (.lst (l.map D.int)) (.lst (m.map D.int)) = .ok (decide (l = m)) := by
  rw [eqD_of (ok_ints l) (ok_ints m) (nice_ints l m)]
  congr 1
  exact decide_eq_decide.mpr ⟨fun h => by injection h with h; exact (List.map_inj_right (fun a b h => by injection h)).mp h, fun h => by rw [h]⟩
open Classical in
theorem memD_of {x : D} : ∀ {xs : List D}, (∀ d ∈ xs, eqD d x = .ok (decide (d = x))) → memD x xs = .ok (decide (x ∈ xs))
  | [], _ => by simp [memD]
  | d :: ds, h => by
    simp only [memD, h d (List.mem_cons_self ..), memD_of fun d hd => h d (List.mem_cons_of_mem _ hd), R.bind_ok, R.ok.injEq]
    by_cases e : d = x
    · subst e; simp
    · have : ¬ x = d := fun k => e k.symm
      simp [e, this]
theorem mem_ints (i : Int) (l : List Int) : memD (.int i) (l.map D.int) = .ok (decide (i ∈ l)) := by
  rw [memD_of (by intro d hd; obtain ⟨a, _, rfl⟩ := List.mem_map.mp hd; simp)]
  congr 1
  exact decide_eq_decide.mpr ⟨fun h => by obtain ⟨a, ha, h⟩ := List.mem_map.mp h; injection h with h; exact h ▸ ha, fun h => List.mem_map_of_mem h⟩
/-! ### ranges -/
theorem rngD_zero (n : Nat) : rngD 0 (n : Int) = (List.range n).map fun k : Nat => D.int (k : Int) := by
  unfold rngD
  rw [show ((n : Int) - 0).toNat = n by omega]
  exact List.map_congr_left fun k _ => by rw [Int.zero_add]
theorem rngD_from (m n : Nat) : rngD (m : Int) (n : Int) = (List.range' m (n - m)).map fun k : Nat => D.int (k : Int) := by
  unfold rngD
  rw [show ((n : Int) - m).toNat = n - m by omega, List.range'_eq_map_range, List.map_map]
  exact List.map_congr_left fun k _ => by simp
theorem okRng_nat {n : Nat} (h : n ≤ 1000000000) : okRng (n : Int) = true := by
  unfold okRng
  simp only [Bool.and_eq_true, decide_eq_true_eq]
  omega
theorem evI_rng1_nat {T : Tb} {a : E} {env : Env} {n : Nat} (h : ev T a env = .ok (.int (n : Int))) (hn : n ≤ 1000000000) : evI T (.rng1 a) env = .ok ((List.range n).map fun k : Nat => D.int (k : Int)) := by
  rw [evI_rng1, h, R.bind_ok]
  show (if okRng (n : Int) = true then _ else _) = _
  rw [if_pos (okRng_nat hn), rngD_zero]
theorem evI_rng2_nat {T : Tb} {a b : E} {env : Env} {m n : Nat} (h : ev T a env = .ok (.int (m : Int))) (k : ev T b env = .ok (.int (n : Int))) (hm : m ≤ 1000000000) (hn : n ≤ 1000000000) : evI T (.rng2 a b) env = .ok ((List.range' m (n - m)).map fun k : Nat => D.int (k : Int)) := by
  rw [evI_rng2, h, R.bind_ok, k, R.bind_ok]
  show (if (okRng (m : Int) && okRng (n : Int)) = true then _ else _) = _
  rw [if_pos (by rw [okRng_nat hm, okRng_nat hn]; rfl), rngD_from]
/-! ### loops -/
section
variable {β : Type} (enc : β → D)
theorem compL_map {f : Env → R (Option D)} {tg : Tg} {env : Env} (p : β → Bool) (r : β → D) : ∀ (l : List β), (∀ b ∈ l, ∃ env', setT tg (enc b) env = some env' ∧ f env' = .ok (if p b = true then some (r b) else none)) → compL f tg env (l.map enc) = .ok ((l.filter p).map r)
  | [], _ => by simp [compL]
  | b :: l, h => by
    obtain ⟨env', h1, h2⟩ := h b (List.mem_cons_self ..)
    have ih := compL_map p r l fun b hb => h b (List.mem_cons_of_mem _ hb)
    by_cases hp : p b = true
    · simp [compL, h1, h2, ih, hp]
    · simp [compL, h1, h2, ih, hp]
theorem ev_comp_map {T : Tb} {elt it cond : E} {tg : Tg} {own : List Nat} {env : Env} (l : List β) (p : β → Bool) (r : β → D) (hI : evI T it env = .ok (l.map enc)) (hb : ∀ b ∈ l, ∃ env', setT tg (enc b) (wipeE (hideO env) own) = some env' ∧ evC T cond env' = .ok (p b) ∧ (p b = true → ev T elt env' = .ok (r b))) (hn : l.length ≤ 16777216) : ev T (.comp elt tg it cond own) env = .ok (.lst ((l.filter p).map r)) := by
  rw [ev_comp, hI, R.bind_ok, compL_map enc p r l, R.bind_ok, if_pos]
  · rw [List.length_map]; exact okLen_small (Nat.le_trans (List.length_filter_le _ _) hn)
  · intro b hb'
    obtain ⟨env', h1, h2, h3⟩ := hb b hb'
    refine ⟨env', h1, ?_⟩
    rw [h2, R.bind_ok]
    by_cases hp : p b = true
    · rw [if_pos hp, if_pos hp, h3 hp, R.bind_ok]
    · rw [if_neg hp, if_neg hp]
theorem forL_inv {f : D → Env → Out} (I : List β → Env → Prop) : ∀ (l pre : List β) (env : Env), I pre env → (∀ a b c env, l = a ++ b :: c → I (pre ++ a) env → ∃ env', (f (enc b) env = .nx env' ∨ f (enc b) env = .ct env') ∧ I (pre ++ a ++ [b]) env') → ∃ env', forL f (l.map enc) env = .nx env' ∧ I (pre ++ l) env'
  | [], pre, env, h, _ => ⟨env, rfl, by simpa using h⟩
  | b :: l, pre, env, h, hs => by
    obtain ⟨e1, k1, k2⟩ := hs [] b l env rfl (by simpa using h)
    obtain ⟨e2, k3, k4⟩ := forL_inv I l (pre ++ [b]) e1 (by simpa using k2) fun a b' c env hl hi => by
      obtain ⟨e, x, y⟩ := hs (b :: a) b' c env (by rw [hl]; rfl) (by simpa using hi)
      exact ⟨e, x, by simpa using y⟩
    refine ⟨e2, ?_, by simpa using k4⟩
    rw [List.map_cons, forL_cons]
    rcases k1 with k1 | k1 <;> rw [k1] <;> exact k3
theorem forL_run {f : D → Env → Out} {l : List β} (I : List β → Env → Prop) {env : Env} (h : I [] env) (hs : ∀ a b c env, l = a ++ b :: c → I a env → ∃ env', (f (enc b) env = .nx env' ∨ f (enc b) env = .ct env') ∧ I (a ++ [b]) env') : ∃ env', forL f (l.map enc) env = .nx env' ∧ I l env' :=
  forL_inv enc I l [] env h hs
/-- a loop that looks for an answer -/
theorem forL_find {f : D → Env → Out} (I : Env → Prop) (g : β → Option D) : ∀ (l : List β) (env : Env), I env → (∀ b ∈ l, ∀ env, I env → (∃ d, g b = some d ∧ f (enc b) env = .rt d) ∨ (g b = none ∧ ∃ env', (f (enc b) env = .nx env' ∨ f (enc b) env = .ct env') ∧ I env')) →
    (∃ d, l.findSome? g = some d ∧ forL f (l.map enc) env = .rt d) ∨ (l.findSome? g = none ∧ ∃ env', forL f (l.map enc) env = .nx env' ∧ I env')
  | [], env, h, _ => .inr ⟨rfl, env, rfl, h⟩
  | b :: l, env, h, hs => by
    rcases hs b (List.mem_cons_self ..) env h with ⟨d, h1, h2⟩ | ⟨h1, e1, h2, h3⟩
    · exact .inl ⟨d, by simp [h1], by rw [List.map_cons, forL_cons, h2]⟩
    · have ih := forL_find I g l e1 h3 fun b hb => hs b (List.mem_cons_of_mem _ hb)
      have e : forL f ((b :: l).map enc) env = forL f (l.map enc) e1 := by
        rw [List.map_cons, forL_cons]; rcases h2 with h2 | h2 <;> rw [h2]
      rw [e]
      simpa [h1] using ih
theorem ex_for_run {T : Tb} {t : Tg} {it : E} {body : S} {env : Env} (l : List β) (I : List β → Env → Prop) (hI : evI T it env = .ok (l.map enc)) (h0 : I [] env) (hs : ∀ a b c env, l = a ++ b :: c → I a env → ∃ e1, setT t (enc b) env = some e1 ∧ ∃ env', (ex T body e1 = .nx env' ∨ ex T body e1 = .ct env') ∧ I (a ++ [b]) env') : ∃ env', ex T (.for_ t it body) env = .nx env' ∧ I l env' := by
  obtain ⟨env', h1, h2⟩ := forL_run enc (f := fun d e => match setT t d e with | some e' => ex T body e' | none => .bad) I h0 fun a b c env hl hi => by
    obtain ⟨e1, k1, env', k2, k3⟩ := hs a b c env hl hi
    exact ⟨env', by simp only [k1]; exact k2, k3⟩
  exact ⟨env', by rw [ex_for, hI, Out.of_ok]; exact h1, h2⟩
theorem ex_for_find {T : Tb} {t : Tg} {it : E} {body : S} {env : Env} (l : List β) (I : Env → Prop) (g : β → Option D) (hI : evI T it env = .ok (l.map enc)) (h0 : I env) (hs : ∀ b ∈ l, ∀ env, I env → ∃ e1, setT t (enc b) env = some e1 ∧ ((∃ d, g b = some d ∧ ex T body e1 = .rt d) ∨ (g b = none ∧ ∃ env', (ex T body e1 = .nx env' ∨ ex T body e1 = .ct env') ∧ I env'))) :
    (∃ d, l.findSome? g = some d ∧ ex T (.for_ t it body) env = .rt d) ∨ (l.findSome? g = none ∧ ∃ env', ex T (.for_ t it body) env = .nx env' ∧ I env') := by
  have h := forL_find enc (f := fun d e => match setT t d e with | some e' => ex T body e' | none => .bad) I g l env h0 fun b hb env hi => by
    obtain ⟨e1, k1, k⟩ := hs b hb env hi
    simp only [k1]
    exact k
  rw [ex_for, hI, Out.of_ok]
  exact h
end
end Rf
/-! # Rf17: defs with defaults -/
namespace Rf
open PySem PySem.Spec L2
/-- a def of the module whose defaults are flat data -/
def DefAtD (g : G) (x : Str) (st : Stmt) (dds : List D) : Prop := g.hx = none ∧ ∃ (f : Addr) (oc : Value) (od : Option Addr) (T : Addr) (oT : Obj) (its : Array Value) (m : Nat) (kV doc pm : Value) (an : Option Addr) (cdv ct : Value) (osl : Array (Option Value)),
  g.mg x = some (.ref f) ∧ g.K.lookup f = some ⟨oc, od, .func (PySem.W.fnOf x x (defArgs st) (defBody st) (defScope st) (.ref T) kV doc pm an cdv ct), osl⟩ ∧ PySem.W.codeIn g.K cdv x = true ∧ PySem.W.keepIn g.K (.ref f) = true ∧
    g.K.lookup T = some oT ∧ oT.data = .seq its m ∧ flatAll its.toList = some dds
def DefFdD (g : G) (x : Str) (st : Stmt) (dds : List D) (fd : FuncData) : Prop := ∃ (T : Addr) (oT : Obj) (its : Array Value) (m : Nat) (kV doc pm : Value) (an : Option Addr) (cdv ct : Value),
  fd = PySem.W.fnOf x x (defArgs st) (defBody st) (defScope st) (.ref T) kV doc pm an cdv ct ∧ g.K.lookup T = some oT ∧ oT.data = .seq its m ∧ flatAll its.toList = some dds
theorem def_okD {g : G} {n : Nat} {x : Str} {st : Stmt} {dds : List D} {N ps : List Str} {T : Tb} {B : Rf.S} (h : DefAtD g x st dds) (S : FnScope N ps (defScope st)) (K : Know g n T) (hck : ckSs N T B (defScope st) (defBody st) = true) (hq : T.hm = false := by rfl) (hl : T.lam = false := by rfl) :
    ∃ f fd, FnOk g.P g.w g.K g.mg g.base (L2.CX g.P g.w) (n + 1) f fd ps (spD g (runFn ps.length N.length T B)) ∧ g.mg x = some (.ref f) ∧ PySem.W.keepIn g.K (.ref f) = true ∧ DefFdD g x st dds fd := by
  obtain ⟨hn, f, oc, od, Ta, oT, its, m, kV, doc, pm, an, cdv, ct, osl, h1, h2, h3, h4, h5, h6, h7⟩ := h
  exact ⟨f, _, fn_ok h2 h3 S hn hq K hck (fun z => by rw [hl] at z; cases z), h1, h4, Ta, oT, its, m, kV, doc, pm, an, cdv, ct, rfl, h5, h6, h7⟩
theorem flatAll_len : ∀ {us : List Value} {ds : List D}, flatAll us = some ds → us.length = ds.length
  | [], ds, h => by cases h; rfl
  | u :: us, ds, h => by
    unfold flatAll at h
    split at h
    · rename_i d ds' h1 h2
      cases h
      rw [List.length_cons, List.length_cons, flatAll_len h2]
    · cases h
/-- called with m values; the defaults behind the first j fill up -/
theorem def_prmD {g : G} {n : Nat} {x : Str} {st : Stmt} {ps : List Str} {dds : List D} {F : Fn} (j m : Nat) (h : ∃ f fd, FnOk g.P g.w g.K g.mg g.base (L2.CX g.P g.w) n f fd ps (spD g F) ∧ g.mg x = some (.ref f) ∧ PySem.W.keepIn g.K (.ref f) = true ∧ DefFdD g x st dds fd)
    (hn : m + (dds.length - j) = ps.length)
    (hb : ∀ (T : Addr) (kV doc pm : Value) (an : Option Addr) (cdv ct : Value) (us its : List Value), us.length = m → its.length = dds.length →
      ∃ k, bindArgs (PySem.W.fnOf x x (defArgs st) (defBody st) (defScope st) (.ref T) kV doc pm an cdv ct) ⟨us, []⟩ = seqItems? (.ref T) >>= k ∧ k (some its.toArray) = pure (ps.zip (us ++ its.drop j))) :
    Prm g n x (fun ds => F (ds ++ dds.drop j)) := by
  obtain ⟨f, fd, h1, h2, h3, T, oT, its, mm, kV, doc, pm, an, cdv, ct, rfl, lT, oTd, hfl⟩ := h
  have hl := flatAll_len hfl
  obtain ⟨vs, rv, rr⟩ := reps_flat (g := g) hfl
  refine prm_of (dvs := vs.drop j) (dds := dds.drop j) (dus := its.toList.drop j) h1 h2 h3 ?_ (rv.drop j) (fun H => (rr H).drop j)
  intro s us X hlen
  have hlen' : us.length = m := by
    rw [List.length_append, List.length_drop, hl] at hlen
    omega
  obtain ⟨k, e1, e2⟩ := hb T kV doc pm an cdv ct us its.toList hlen' hl
  refine BindsTo.of_looks fun M => ?_
  rw [e1]
  exact looks_items X lT oTd (.of_pure e2)
/-- what the head's word finds of a def with defaults -/
theorem defAtD {P : Program} {w : World} {K : PySem.W.Frag} {h : Heap} {mg : Str → Option Value} {x : Str} {st : Stmt} {f T : Addr} {oc kV doc pm cdv ct : Value} {od an dT : Option Addr} {osl sT : Array (Option Value)} {cT : Value} {its : Array Value} {m : Nat} {dds : List D} (X : K.In h) (G : h.Ns mainGlobals mg)
    (a : PySem.W.nsIn K mainGlobals x = some (some (.ref f))) (l : K.lookup f = some ⟨oc, od, .func (PySem.W.fnOf x x (defArgs st) (defBody st) (defScope st) (.ref T) kV doc pm an cdv ct), osl⟩) (c : PySem.W.codeIn K cdv x = true) (k : PySem.W.keepIn K (.ref f) = true)
    (lT : K.lookup T = some ⟨cT, dT, .seq its m, sT⟩) (hd : flatAll its.toList = some dds) :
    ∀ base, DefAtD ⟨P, w, K, mg, base, none⟩ x st dds := fun base => ⟨rfl, f, oc, od, T, _, its, m, kV, doc, pm, an, cdv, ct, osl, PySem.W.mg_of X G a, l, c, k, lT, rfl, hd⟩
end Rf
/-! # Rf20: defs called within a suite -/
namespace Rf
open PySem PySem.Spec L2
open L2H (RoomH PinOk cxH inv_startH)
structure FnC (P : Program) (w : World) (K : PySem.W.Frag) (mg : Str → Option Value) (base : Heap) (k : Nat) (f : Addr) (fd : FuncData) (ps : List Str) (sp : Addr × Obj → Sp) : Prop where
  len : ∀ p vs H Q E, sp p vs H Q E → vs.length = ps.length
  go : ∀ (A : Around) (outer : List PySem.Env) (s : Shared) (H : Hp) (args : Args) (us : List Value) (vs : List V) (Q : VK) (E : XK) (p : Addr × Obj), RoomH k A → PinOk outer H s p → Env0 P w K mg base A outer s H → BindsTo s fd args (ps.zip us) → Vals vs us → sp p vs H Q E → codeAny (model P w) A (.call (.ref f) args) (CR (L2.CX P w) outer P w H s Q E) s
theorem fnC_of {P : Program} {w : World} {K : PySem.W.Frag} {mg : Str → Option Value} {base : Heap} {k : Nat} {f : Addr} {name qual : Str} {params : Arguments} {body : List Stmt} {scope : Scope} {dV kV doc pm cdv ct oc : Value} {an od : Option Addr} {osl : Array (Option Value)} {N ps : List Str} {sp : Addr × Obj → Sp}
    (lk : K.lookup f = some ⟨oc, od, .func (PySem.W.fnOf name qual params body scope dV kV doc pm an cdv ct), osl⟩) (hcd : PySem.W.codeIn K cdv qual = true) (S : FnScope N ps scope) (len : ∀ p vs H Q E, sp p vs H Q E → vs.length = ps.length)
    (hbody : ∀ (A : Around) (outer : List PySem.Env) (s : Shared) (H : Hp) (vs : List V) (Q : VK) (E : XK) (p : Addr × Obj), RoomH k (A.deeper (PyProof.Rows.envOfC qual scope s.heap.objs.size f cdv)) → sp p vs H Q E →
      ∃ t, PSs (cxH (L2.CX P w) P w K mg base N qual scope f cdv A outer s H E p) body t ∧ t { nx := fun _ H' => Q .non H', rt := Q } (L2.start N vs) H) :
    FnC P w K mg base (k + 1) f (PySem.W.fnOf name qual params body scope dV kV doc pm an cdv ct) ps sp := by
  refine ⟨len, fun A outer s H args us vs Q E p room pin e0 binds r hsp => ?_⟩
  have hl := len _ _ _ _ _ hsp; have KX : K.In s.heap := e0.mod.kin.keeps fun b o e => (e0.bs b o e).1; have lim : s.heap.NoLimit := e0.mod.nolimit.keeps fun b o e => (e0.bs b o e).1
  have kinds : ∀ y ∈ ps.zip us, scope.names.lookup y.1 = some .local ∨ (scope.names.lookup y.1 = some .cell ∧ ((cellsFrom (s.heap.objs.size + 1) scope.names []).lookup y.1).isSome = true) := fun ⟨m, v⟩ hy => by
    rcases S.par m (List.of_mem_zip hy).1 with q | q <;> first | exact .inl q | exact .inr ⟨q, PySem.W.cellsFrom_some _ _ _ (.inl q)⟩
  refine codeAny_call_function room.depth (KX _ _ lk) rfl S.co S.gen rfl (PySem.W.codeRec_of KX hcd) (binds _ _ _ _ (wpAny_newFunctionEnv_cells S.kind kinds fun env he s1 x => ?_))
  subst he; refine ⟨lim.keeps x.toInCall.keep, codeAny_func ?_⟩
  obtain ⟨t, ht, hq⟩ := hbody A outer s H vs Q E p (room.deeper _) hsp
  have I := inv_startH (CX := L2.CX P w) (E := E) (f := f) (cd := cdv) (qual := qual) S pin e0 hl r x
  refine wpAny_mono (ht.run [] s1 (L2.start N vs) H _ I hq) (fun fl s' hs => ?_) fun e s' hs => hs
  cases fl with
  | ret u => obtain ⟨v, σ', H', J, rv, q⟩ := hs; exact ⟨v, H', J.os, J.bare, J.base, J.hok, rv, q⟩
  | next => obtain ⟨σ', H', J, q⟩ := hs; exact ⟨.non, H', J.os, J.bare, J.base, J.hok, rfl, q⟩
  | brk => obtain ⟨_, _, _, q⟩ := hs; exact q.elim
  | cont => obtain ⟨_, _, _, q⟩ := hs; exact q.elim
section
variable {X : Cx} {k : Nat} {f : Addr} {fd : FuncData} {ps : List Str} {sp : Addr × Obj → Sp} {E : St → XK}
theorem run_fnC {pins : List (Addr × Obj)} {σ : St} {H : Hp} {s : Shared} {Q : VK} {us : List Value} {vs : List V} {p : Addr × Obj} (F : FnC X.prog X.w X.K X.mg X.base k f fd ps sp) (room : RoomH k X.A) (hp : p ∈ X.pn) (hb : Binds X.K fd ps []) (hx : PassesAt (L2.CX X.prog X.w) X σ (E σ)) (I : Inv X pins σ H s) (r : Vals vs us) (h : sp p vs H Q (E σ)) :
    wpAny (model X.prog X.w) X.A (call (.ref f) us) (EP X pins σ Q) X.xe s := by
  have hl : us.length = ps.length := r.length.symm.trans (F.len _ _ _ _ _ h)
  have b := hb s us I.kIn (by simpa using hl); rw [List.append_nil] at b
  have P1 := I.pin p (List.mem_append_left _ hp)
  have pin : PinOk X.stack H s p := ⟨P1.1, P1.2.1, fun hm => (List.mem_cons.mp (I.stkSub p.1 hm)).elim P1.2.2.1 P1.2.2.2.1, P1.2.2.2.2⟩
  refine wpAny_call (codeAny_mono (F.go X.A X.stack s H ⟨us, []⟩ us vs Q (E σ) p room pin I.env0 b r h) fun r s' hq => ?_)
  cases r with
  | error e => exact hx pins H s e s' I hq
  | ok fl => cases fl with
    | ret u => exact I.after hq
    | _ => exact hq.elim
end

/-- a promise within a suite -/
def spC (g : G) (F : Fn) : Addr × Obj → Sp := fun p vs H Q Ex => (∃ fv, p.2.data = .fields fv) ∧ spD (g.hot p) F vs H Q Ex
theorem fnC_ok {g : G} {n : Nat} {f : Addr} {name qual : Str} {params : Arguments} {body : List Stmt} {scope : Scope} {dV kV doc pm cdv ct oc : Value} {an od : Option Addr} {osl : Array (Option Value)} {N ps : List Str} {T : Tb} {B : Rf.S}
    (lk : g.K.lookup f = some ⟨oc, od, .func (PySem.W.fnOf name qual params body scope dV kV doc pm an cdv ct), osl⟩) (hcd : PySem.W.codeIn g.K cdv qual = true) (S : FnScope N ps scope)
    (hq : T.hm = true) (hl : T.lam = false) (K : ∀ p : Addr × Obj, (∃ vs, p.2.data = .fields vs) → Know (g.hot p) n T) (hck : ckSs N T B scope body = true) :
    FnC g.P g.w g.K g.mg g.base (n + 1) f (PySem.W.fnOf name qual params body scope dV kV doc pm an cdv ct) ps (spC g (runFn ps.length N.length T B)) := by
  have hlen : ∀ p vs H Q E, spC g (runFn ps.length N.length T B) p vs H Q E → vs.length = ps.length := fun p vs H Q E ⟨_, Hf, ds, sub, tb, r, h⟩ => by
    unfold runFn at h
    by_cases hd : ds.length = ps.length
    · rw [r.length, hd]
    · rw [if_neg hd] at h; exact h.elim
  refine fnC_of lk hcd S hlen fun A outer s H vs Q E p hr h => ?_
  obtain ⟨hf, Hf, ds, sub, tb, r, h⟩ := h
  unfold runFn at h
  by_cases hd : ds.length = ps.length
  · rw [if_pos hd] at h
    let X := cxH (L2.CX g.P g.w) g.P g.w g.K g.mg g.base N qual scope f cdv A outer s H E p
    have hX : gOf X = g.hot p := rfl
    have G : GoodSM N scope n true X :=
      ⟨⟨⟨rfl, fun x hx => vis_of hx, (fun x hx => by
        unfold glB at hx; split at hx
        · assumption
        · cases hx), fun x hx => ⟨loc_of hx, .inl rfl⟩, fun x hx => hx, S.nd, Nat.lt_of_le_of_lt (Nat.add_le_add_right (Nat.le_add_right _ _) _) hr.un⟩, fun z => Bool.noConfusion z, fun _ => ⟨rfl, ⟨p, [], rfl, hf⟩, hr⟩⟩, rfl, S.kind, passes_of rfl, rfl, rfl⟩
    refine ⟨tDS (g.hot p) T (fun cls d _ H' => E cls d H') B, (sns B).B X scope body _ (by rw [hq]; exact G) (takes_of rfl rfl rfl rfl) (K p hf) (fun z => by rw [hl] at z; cases z) hck, ?_⟩
    have sr := start_sr (g := g.hot p) (N := N) sub tb r
    rw [hd] at sr
    refine ⟨H, Hf, Hf, _, sr, ?_⟩
    generalize ex T B (ds.map (fun d => some (Sl.v d)) ++ List.replicate (N.length - ps.length) none) = o at h ⊢
    cases o with
    | nx env => exact fun σ' H' Hf' r' _ => h .non H' Hf' r'.fut .non
    | rt d => exact fun v H' Hf' f r' => h v H' Hf' f r'
    | err x env => exact fun σ' H' Hf' cls dx r' _ xr => h cls dx H' Hf' r'.fut xr
    | bk env => exact h.elim
    | ct env => exact h.elim
    | bad => exact h.elim
  · rw [if_neg hd] at h; exact h.elim
theorem def_okC {g : G} {n : Nat} {x : Str} {st : Stmt} {N ps : List Str} {T : Tb} {B : Rf.S} (h : DefAt g x st) (S : FnScope N ps (defScope st)) (hq : T.hm = true) (hl : T.lam = false) (K : ∀ p : Addr × Obj, (∃ vs, p.2.data = .fields vs) → Know (g.hot p) n T) (hck : ckSs N T B (defScope st) (defBody st) = true) :
    ∃ f fd, FnC g.P g.w g.K g.mg g.base (n + 1) f fd ps (spC g (runFn ps.length N.length T B)) ∧ g.mg x = some (.ref f) ∧ PySem.W.keepIn g.K (.ref f) = true ∧ DefFd g x st fd := by
  obtain ⟨hn, f, oc, od, kV, doc, pm, an, cdv, ct, osl, h1, h2, h3, h4⟩ := h
  exact ⟨f, _, fnC_ok h2 h3 S hq hl K hck, h1, h4, _, _, _, _, _, _, rfl⟩
theorem def_prmC {g : G} {n : Nat} {x : Str} {st : Stmt} {ps : List Str} {F : Fn} (h : ∃ f fd, FnC g.P g.w g.K g.mg g.base n f fd ps (spC g F) ∧ g.mg x = some (.ref f) ∧ PySem.W.keepIn g.K (.ref f) = true ∧ DefFd g x st fd)
    (hb : ∀ (kV doc pm : Value) (an : Option Addr) (cdv ct : Value) (us : List Value), us.length = ps.length → bindArgs (PySem.W.fnOf x x (defArgs st) (defBody st) (defScope st) .none kV doc pm an cdv ct) ⟨us, []⟩ = pure (ps.zip us)) :
    ∀ p : Addr × Obj, PrmC (g.hot p) n x F := by
  intro p
  obtain ⟨f, fd, h1, h2, h3, kV, doc, pm, an, cdv, ct, rfl⟩ := h
  refine ⟨f, h2, h3, fun X hX hot W tk pins s σ H Hf Q us vs ds I rv sub tb rr h => ?_⟩
  have hx : (gOf X).hx = some p := by rw [hX]
  have hf := hx_fields hot hx
  have hp := hx_mem hx
  obtain ⟨P0, w0, K0, mg0, base0, hx0⟩ := g
  have e1 : X.prog = P0 := congrArg G.P hX
  have e2 : X.w = w0 := congrArg G.w hX
  have e3 : X.K = K0 := congrArg G.K hX
  have e4 : X.mg = mg0 := congrArg G.mg hX
  have e5 : X.base = base0 := congrArg G.base hX
  subst e1 e2 e3 e4 e5
  refine run_fnC (E := fun σ cls d H' => W cls d σ H') h1 hot.room hp (Binds.all (hb kV doc pm an cdv ct)) (passAt tk σ) I rv ⟨hf, Hf, ds, sub, tb, rr, ?_⟩
  cases hF : F ds with
  | ok d => rw [hF] at h; exact h
  | err x => rw [hF] at h; exact h
  | bad => rw [hF] at h; exact h
theorem PrmC.mono {g : G} {n m : Nat} {x : Str} {F : Fn} (h : PrmC g n x F) (hl : n ≤ m) : PrmC g m x F := by
  obtain ⟨f, h1, h2, h3⟩ := h.ex
  exact ⟨f, h1, h2, fun X hX room => h3 X hX ⟨room.cold, room.pin, room.room.mono hl⟩⟩
theorem know_up {g : G} {n : Nat} {T : Tb} (hn : g.hx = none) (hq : T.hm = true) (fh : ∀ p : Addr × Obj, (∃ vs, p.2.data = .fields vs) → ∀ q ∈ T.fn, PrmC (g.hot p) n q.1 q.2) (gl : ∀ p ∈ T.gl, Gcon g p.1 p.2) (mt : T.mt = []) (bn : ∀ x ∈ T.bn, g.mg x = none) (md : ∀ p ∈ T.md, g.mg p.1 = some (.builtin p.2))
    (at_ : ∀ p ∈ T.at_, ∃ C, g.mg p.1 = some (.ref C) ∧ Cls g.K C ∧ NoAttr g.K C p.2) (xc : ∀ x ∈ T.xc, XcOk g x) (xh : ∀ p ∈ T.xh, XhOk g p.1 p.2) (xi : ∀ p ∈ T.xi, XiOk g p.1 p.2) : ∀ p : Addr × Obj, (∃ vs, p.2.data = .fields vs) → Know (g.hot p) n T := fun p hp => {
  fn := fun z => by rw [hq] at z; cases z
  fh := fun _ => fh p hp
  gl := fun q hq => by obtain ⟨v, u, h1, h2, h3⟩ := gl q hq; exact ⟨v, u, h1, h2, fun H => (h3 H).up hn⟩
  mt := fun q hq => by rw [mt] at hq; cases hq
  bn := bn
  md := md
  at_ := at_
  xc := fun x hx => ⟨(xc x hx).ex⟩
  xh := fun x hx => ⟨(xh x hx).ex⟩
  xi := fun x hx => ⟨(xi x hx).ex⟩
  su := fun z => by rw [hq] at z; cases z }
/-! ### what the head's words must say of classes of errors -/
section
open PySem.W
variable {P : Program} {w : World} {K : Frag} {h : Heap} {mg : Str → Option Value}
def nsRef (K : Frag) (x : Str) : Option Addr := match nsIn K mainGlobals x with
  | some (some (.ref a)) => some a
  | _ => none
theorem nsRef_mg {x : Str} {a : Addr} (X : K.In h) (G : h.Ns mainGlobals mg) (e : nsRef K x = some a) : mg x = some (.ref a) := by
  unfold nsRef at e
  split at e
  · rename_i b hb; cases e; exact mg_of X G hb
  · cases e
def xcB (K : Frag) (x : Str) : Bool := match nsRef K x with
  | some C => excIn K C bmVE "ValueError.__new__" && keepIn K (.ref C) && decide (subIn K (.ref C) (.type "BaseException") = some true) && decide (typeIn K (.ref C) = some (.type "type"))
  | none => false
theorem xcOk {x : Str} (X : K.In h) (G : h.Ns mainGlobals mg) (e : xcB K x = true) : ∀ base, XcOk ⟨P, w, K, mg, base, none⟩ x := fun base => by
  unfold xcB at e
  split at e
  · rename_i C hC
    simp only [Bool.and_eq_true, decide_eq_true_eq] at e
    exact ⟨C, nsRef_mg X G hC, e.1.1.1, e.1.1.2, e.1.2, e.2⟩
  · cases e
def excB (K : Frag) (D : Addr) : Bool := decide (findIn K (.ref D) "__getattribute__" = some (some (.builtin "BaseException.__getattribute__"))) && decide (findIn K (.ref D) "__getattr__" = some none) && decide (subIn K (.ref D) (.type "BaseException") = some true) && hasDictIn K D &&
  decide (findIn K (.ref D) "__class__" = some (some (.builtin "object.__class__"))) && decide (specialIn K (.builtin "object.__class__") "__get__" = some (some (.builtin "getset_descriptor.__get__"))) && decide (takesIn K (.builtin "object.__class__") = some true) && decide (mroIn K D (.type "object") = some true)
theorem excB_ok {D : Addr} (e : excB K D = true) : L2.ExcC K D := by
  unfold excB at e
  simp only [Bool.and_eq_true, decide_eq_true_eq] at e
  obtain ⟨⟨⟨⟨⟨⟨⟨h1, h2⟩, h3⟩, h4⟩, h5⟩, h6⟩, h7⟩, h8⟩ := e
  exact ⟨h1, h2, h3, h4, h5, h6, h7, h8⟩
def xhB (K : Frag) (x : Str) (tb : List (Str × Bool)) : Bool := match nsRef K x with
  | some C => tb.all fun p => match nsRef K p.1 with
    | some D => decide (exmOne K (.ref D) (.ref C) = some p.2)
    | none => false
  | none => false
theorem xhOk {x : Str} {tb : List (Str × Bool)} (X : K.In h) (G : h.Ns mainGlobals mg) (e : xhB K x tb = true) : ∀ base, XhOk ⟨P, w, K, mg, base, none⟩ x tb := fun base => by
  unfold xhB at e
  split at e
  · rename_i C hC
    refine ⟨.ref C, .inl (nsRef_mg X G hC), fun p hp => ?_⟩
    have z := List.all_eq_true.mp e p hp
    split at z
    · rename_i D hD
      exact ⟨D, nsRef_mg X G hD, of_decide_eq_true z⟩
    · cases z
  · cases e
def xiB (K : Frag) (x : Str) (tb : List (Str × Bool)) : Bool := match nsRef K x with
  | some C => tb.all fun p => match nsRef K p.1 with
    | some D => excB K D && decide (kitOne K (.ref D) (.ref C) = some p.2)
    | none => false
  | none => false
theorem xiOk {x : Str} {tb : List (Str × Bool)} (X : K.In h) (G : h.Ns mainGlobals mg) (e : xiB K x tb = true) : ∀ base, XiOk ⟨P, w, K, mg, base, none⟩ x tb := fun base => by
  unfold xiB at e
  split at e
  · rename_i C hC
    refine ⟨.ref C, .ref C, rfl, fun u r => r, .inl (nsRef_mg X G hC), fun p hp => ?_⟩
    have z := List.all_eq_true.mp e p hp
    split at z
    · rename_i D hD
      rw [Bool.and_eq_true] at z
      exact ⟨D, nsRef_mg X G hD, excB_ok z.1, of_decide_eq_true z.2⟩
    · cases z
  · cases e
/-- a built-in class -/
def xiTB (K : Frag) (t : String) (x : Str) (tb : List (Str × Bool)) : Bool := decide (nsIn K mainGlobals x = some none) && decide (bootBuiltins x = some (.type t)) && tb.all fun p => match nsRef K p.1 with
    | some D => excB K D && decide (kitOne K (.ref D) (.type t) = some p.2)
    | none => false
theorem xiTOk {t : String} {x : Str} {tb : List (Str × Bool)} (X : K.In h) (G : h.Ns mainGlobals mg) (e : xiTB K t x tb = true) : ∀ base, XiOk ⟨P, w, K, mg, base, none⟩ x tb := fun base => by
  unfold xiTB at e
  simp only [Bool.and_eq_true, decide_eq_true_eq] at e
  obtain ⟨⟨h1, h2⟩, h3⟩ := e
  refine ⟨.type t, .ty t, rfl, fun u r => r, .inr ⟨mg_none_of X G h1, t, rfl, rfl, h2⟩, fun p hp => ?_⟩
  have z := List.all_eq_true.mp h3 p hp
  split at z
  · rename_i D hD
    rw [Bool.and_eq_true] at z
    exact ⟨D, nsRef_mg X G hD, excB_ok z.1, of_decide_eq_true z.2⟩
  · cases z
def tabB (K : Frag) : Bool := match tabIn K "ascending" with
  | some (_, Pt) => (K.lookup Pt).isNone
  | none => false
theorem tabB_ok (e : tabB K = true) : ∃ c Pt, tabIn K "ascending" = some (c, Pt) ∧ K.lookup Pt = none := by
  unfold tabB at e
  split at e
  · rename_i c Pt hc
    exact ⟨c, Pt, hc, by simpa using e⟩
  · cases e
end
end Rf
/-! # F1: fractions as data -/
namespace Rf
open PySem
/-- a fraction as the program holds it -/
def fq (q : Rat) : D := .tup [.int q.num, .int (q.den : Int)]
theorem fq_inj {a b : Rat} (h : fq a = fq b) : a = b := by
  simp only [fq, D.tup.injEq, List.cons.injEq, D.int.injEq] at h
  exact Rat.ext h.1 (by omega)
@[simp] theorem fq_eq {a b : Rat} : fq a = fq b ↔ a = b := ⟨fq_inj, fun h => by rw [h]⟩
theorem okN_fq (n : Nat) (q : Rat) : okN (n + 1) (fq q) = true := by simp [okN, fq]
theorem nice_fq (n : Nat) (a b : Rat) : nice (n + 1) (fq a) (fq b) = true := by simp [nice, fq]
@[simp] theorem eqD_fq (a b : Rat) : eqD (fq a) (fq b) = .ok (decide (a = b)) := by
  rw [eqD_of (okN_fq 0 a) (okN_fq 0 b) (nice_fq 0 a b)]
  congr 1
  exact decide_eq_decide.mpr fq_eq
@[simp] theorem cop_eq_fq (a b : Rat) : cop .eq (fq a) (fq b) = .ok (.bl (decide (a = b))) := cop_eq (eqD_fq a b)
@[simp] theorem cop_ne_fq (a b : Rat) : cop .ne (fq a) (fq b) = .ok (.bl (!decide (a = b))) := cop_ne' (eqD_fq a b)
@[simp] theorem ix_fq0 (q : Rat) : ixD (fq q) (.int 0) = .ok (.int q.num) := ixT0 _ _
@[simp] theorem ix_fq1 (q : Rat) : ixD (fq q) (.int 1) = .ok (.int (q.den : Int)) := ixT1 _ _ _
@[simp] theorem isi_fq (q : Rat) : isiB .tuple (fq q) = .ok true := id rfl
@[simp] theorem len_fq (q : Rat) : biF .len [fq q] = .ok (.int 2) := id rfl
theorem fq_of {N M : Int} {q : Rat} (h1 : q.num = N) (h2 : (q.den : Int) = M) : D.tup [.int N, .int M] = fq q := by rw [fq, h1, h2]
@[simp] theorem fq_zero : D.tup [.int 0, .int 1] = fq 0 := fq_of rfl rfl
@[simp] theorem fq_one : D.tup [.int 1, .int 1] = fq 1 := fq_of rfl rfl
theorem half_num : ((1 : Rat) / 2).num = 1 := by decide +kernel
theorem half_den : ((1 : Rat) / 2).den = 2 := by decide +kernel
@[simp] theorem fq_half : D.tup [.int 1, .int 2] = fq (1 / 2) := fq_of half_num (by rw [half_den]; rfl)

/-! ### sizes -/
/-- both parts below 2 ^ k -/
def Sz (k : Nat) (q : Rat) : Prop := q.num.natAbs < 2 ^ k ∧ q.den < 2 ^ k
theorem Sz.mono {j k : Nat} {q : Rat} (h : Sz j q) (hl : j ≤ k) : Sz k q :=
  ⟨Nat.lt_of_lt_of_le h.1 (Nat.pow_le_pow_right (by decide) hl), Nat.lt_of_lt_of_le h.2 (Nat.pow_le_pow_right (by decide) hl)⟩
/-- n / d has no larger parts than n, d -/
theorem divInt_parts (n d : Int) (hd : d ≠ 0) : ((n : Rat) / d).num.natAbs ≤ n.natAbs ∧ ((n : Rat) / d).den ≤ d.natAbs := by
  rw [← Rat.divInt_eq_div]
  constructor
  · rw [Rat.num_divInt]
    have h1 : (d.sign * n / (d.gcd n : Int)).natAbs ≤ (d.sign * n).natAbs := Int.natAbs_ediv_le_natAbs _ _
    rw [Int.natAbs_mul, Int.natAbs_sign_of_ne_zero hd, Nat.one_mul] at h1
    exact h1
  · rw [Rat.den_divInt, if_neg hd]
    exact Nat.div_le_self _ _
theorem Sz.div_int {k : Nat} {n d : Int} (h1 : n.natAbs < 2 ^ k) (h2 : d.natAbs < 2 ^ k) (hd : d ≠ 0) : Sz k ((n : Rat) / d) :=
  ⟨Nat.lt_of_le_of_lt (divInt_parts n d hd).1 h1, Nat.lt_of_le_of_lt (divInt_parts n d hd).2 h2⟩
theorem rat_eq (q : Rat) : q = (q.num : Rat) / (q.den : Int) := by
  rw [← Rat.divInt_eq_div]; exact (Rat.num_divInt_den q).symm
theorem den_ne (q : Rat) : (q.den : Int) ≠ 0 := by have := q.den_nz; omega
theorem den_pos (q : Rat) : 0 < (q.den : Int) := by have := q.den_pos; omega
theorem add_eq (a b : Rat) : a + b = ((a.num * b.den + b.num * a.den : Int) : Rat) / ((a.den * b.den : Int) : Rat) := by
  rw [← Rat.divInt_eq_div, Rat.add_def', ← Rat.divInt_ofNat]; rfl
theorem sub_eq (a b : Rat) : a - b = ((a.num * b.den - b.num * a.den : Int) : Rat) / ((a.den * b.den : Int) : Rat) := by
  rw [← Rat.divInt_eq_div, Rat.sub_def', ← Rat.divInt_ofNat]; rfl
theorem mul_eq (a b : Rat) : a * b = ((a.num * b.num : Int) : Rat) / ((a.den * b.den : Int) : Rat) := by
  rw [← Rat.divInt_eq_div, Rat.mul_def', ← Rat.divInt_ofNat]; rfl
theorem div_eq (a b : Rat) : a / b = ((a.num * b.den : Int) : Rat) / ((a.den * b.num : Int) : Rat) := by
  rw [← Rat.divInt_eq_div, ← Rat.divInt_mul_divInt, Rat.num_divInt_den, ← Rat.inv_def, Rat.div_def]
theorem Sz.pow_mul {j k : Nat} {x y : Nat} (hx : x < 2 ^ j) (hy : y < 2 ^ k) : x * y < 2 ^ (j + k) := by
  rw [Nat.pow_add]; exact Nat.mul_lt_mul'' hx hy
theorem two_pow (k : Nat) : 2 ^ (k + 1) = 2 ^ k + 2 ^ k := by rw [Nat.pow_succ]; omega
theorem sum_lt {k : Nat} {x y : Int} (hx : x.natAbs < 2 ^ k) (hy : y.natAbs < 2 ^ k) : (x + y).natAbs < 2 ^ (k + 1) ∧ (x - y).natAbs < 2 ^ (k + 1) := by
  have := two_pow k
  constructor <;> omega
theorem mul_na {j k : Nat} {x y : Int} (hx : x.natAbs < 2 ^ j) (hy : y.natAbs < 2 ^ k) : (x * y).natAbs < 2 ^ (j + k) := by
  rw [Int.natAbs_mul]; exact Sz.pow_mul hx hy
theorem Sz.den_na {k : Nat} {q : Rat} (h : Sz k q) : (q.den : Int).natAbs < 2 ^ k := by rw [Int.natAbs_natCast]; exact h.2
section
variable {j k : Nat} {a b : Rat}
theorem Sz.add (ha : Sz j a) (hb : Sz k b) : Sz (j + k + 1) (a + b) := by
  rw [add_eq]
  refine Sz.div_int (sum_lt (mul_na ha.1 hb.den_na) ?_).1 ?_ ?_
  · have := mul_na hb.1 ha.den_na; rwa [Nat.add_comm] at this
  · exact Nat.lt_trans (mul_na ha.den_na hb.den_na) (Nat.pow_lt_pow_right (by decide) (by omega))
  · exact Int.mul_ne_zero (den_ne a) (den_ne b)
theorem Sz.sub (ha : Sz j a) (hb : Sz k b) : Sz (j + k + 1) (a - b) := by
  rw [sub_eq]
  refine Sz.div_int (sum_lt (mul_na ha.1 hb.den_na) ?_).2 ?_ ?_
  · have := mul_na hb.1 ha.den_na; rwa [Nat.add_comm] at this
  · exact Nat.lt_trans (mul_na ha.den_na hb.den_na) (Nat.pow_lt_pow_right (by decide) (by omega))
  · exact Int.mul_ne_zero (den_ne a) (den_ne b)
theorem Sz.mul (ha : Sz j a) (hb : Sz k b) : Sz (j + k) (a * b) := by
  rw [mul_eq]
  exact Sz.div_int (mul_na ha.1 hb.1) (mul_na ha.den_na hb.den_na) (Int.mul_ne_zero (den_ne a) (den_ne b))
theorem num_ne (h : b ≠ 0) : b.num ≠ 0 := fun z => h (Rat.num_eq_zero.mp z)
theorem Sz.div (ha : Sz j a) (hb : Sz k b) (h : b ≠ 0) : Sz (j + k) (a / b) := by
  rw [div_eq]
  exact Sz.div_int (mul_na ha.1 hb.den_na) (mul_na ha.den_na hb.1) (Int.mul_ne_zero (den_ne a) (num_ne h))
theorem Sz.neg (ha : Sz j a) : Sz j (-a) := ⟨by rw [Rat.neg_num, Int.natAbs_neg]; exact ha.1, ha.2⟩
theorem Sz.int {n : Int} (h : n.natAbs < 2 ^ k) (hk : 0 < k) : Sz k (n : Rat) := ⟨h, by show 1 < 2 ^ k; exact Nat.one_lt_two_pow (by omega)⟩
theorem Sz.zero : Sz 1 0 := ⟨by decide, by decide⟩
theorem Sz.one : Sz 1 1 := ⟨by decide, by decide⟩
theorem Sz.half : Sz 2 (1 / 2) := ⟨by rw [half_num]; decide, by rw [half_den]; decide⟩
end
/-- the parts of n / d, as gcd gives them -/
theorem parts_gcd (n d : Int) (hd : d ≠ 0) (s : Int) (hs : s = if d < 0 then -((Nat.gcd n.natAbs d.natAbs : Nat) : Int) else ((Nat.gcd n.natAbs d.natAbs : Nat) : Int)) : ((n : Rat) / d).num = n.fdiv s ∧ (((n : Rat) / d).den : Int) = d.fdiv s := by
  have hg : 0 < Nat.gcd n.natAbs d.natAbs := Nat.gcd_pos_of_pos_right _ (Int.natAbs_pos.mpr hd)
  have d1 : ((Nat.gcd n.natAbs d.natAbs : Nat) : Int) ∣ n := Int.natAbs_dvd_natAbs.mp (by rw [Int.natAbs_natCast]; exact Nat.gcd_dvd_left _ _)
  have d2 : ((Nat.gcd n.natAbs d.natAbs : Nat) : Int) ∣ d := Int.natAbs_dvd_natAbs.mp (by rw [Int.natAbs_natCast]; exact Nat.gcd_dvd_right _ _)
  have hgc : d.gcd n = Nat.gcd n.natAbs d.natAbs := Nat.gcd_comm _ _
  rw [← Rat.divInt_eq_div, Rat.num_divInt, Rat.den_divInt, if_neg hd, hgc]
  generalize Nat.gcd n.natAbs d.natAbs = g at *
  obtain ⟨x, rfl⟩ := d1
  obtain ⟨y, rfl⟩ := d2
  have gp : (0 : Int) < g := by omega
  have y0 : y ≠ 0 := fun z => hd (by rw [z, Int.mul_zero])
  have e1 : ∀ z : Int, ((g : Int) * z) / (g : Int) = z := fun z => Int.mul_ediv_cancel_left z (by omega)
  have f1 : ∀ z : Int, ((g : Int) * z).fdiv g = z := fun z => by rw [Int.fdiv_eq_ediv_of_nonneg _ (by omega)]; exact e1 z
  have f2 : ∀ z : Int, ((g : Int) * z).fdiv (-(g : Int)) = -z := fun z => by
    have : ((g : Int) * z) = (-(g : Int)) * (-z) := by rw [Int.neg_mul_neg]
    rw [this, Int.mul_fdiv_cancel_left _ (by omega)]
  rcases Int.lt_or_gt_of_ne y0 with h | h
  · have hn : (g : Int) * y < 0 := Int.mul_neg_of_pos_of_neg gp h
    rw [if_pos hn] at hs
    subst hs
    have sg : Int.sign ((g : Int) * y) = -1 := Int.sign_eq_neg_one_of_neg hn
    rw [sg, f2, f2]
    refine ⟨?_, ?_⟩
    · have : (-1 : Int) * ((g : Int) * x) = g * (-x) := by rw [Int.neg_one_mul, Int.mul_neg]
      rw [this, e1]
    · have : ((g : Int) * y).natAbs = g * y.natAbs := by rw [Int.natAbs_mul, Int.natAbs_natCast]
      rw [this, Nat.mul_div_cancel_left _ (by omega)]
      omega
  · have hn : 0 < (g : Int) * y := Int.mul_pos gp h
    rw [if_neg (by omega)] at hs
    subst hs
    have sg : Int.sign ((g : Int) * y) = 1 := Int.sign_eq_one_of_pos hn
    rw [sg, f1, f1]
    refine ⟨by rw [Int.one_mul, e1], ?_⟩
    have : ((g : Int) * y).natAbs = g * y.natAbs := by rw [Int.natAbs_mul, Int.natAbs_natCast]
    rw [this, Nat.mul_div_cancel_left _ (by omega)]
    omega
/-! ### slices of lists -/
theorem slD_to (xs : List D) (k : Nat) : slD (.lst xs) none (some (k : Int)) = .ok (.lst (xs.take k)) := by
  have e : HT.sIx xs.length 0 none = 0 := rfl
  simp only [slD, cutD, HT.sIx_nat, e, List.drop_zero, Nat.sub_zero, R.ok.injEq, D.lst.injEq]
  rw [← List.take_eq_take_min]
theorem slD_from (xs : List D) (k : Nat) : slD (.lst xs) (some (k : Int)) none = .ok (.lst (xs.drop k)) := by
  have e : HT.sIx xs.length xs.length none = xs.length := rfl
  simp only [slD, cutD, HT.sIx_nat, e, R.ok.injEq, D.lst.injEq]
  rw [List.take_of_length_le (by rw [List.length_drop]; omega)]
  rcases Nat.le_total k xs.length with h | h
  · rw [Nat.min_eq_left h]
  · rw [Nat.min_eq_right h, List.drop_of_length_le (Nat.le_refl _), List.drop_of_length_le h]
theorem slD_mid (xs : List D) (i j : Nat) : slD (.lst xs) (some (i : Int)) (some (j : Int)) = .ok (.lst ((xs.drop i).take (j - i))) := by
  simp only [slD, cutD, HT.sIx_nat, R.ok.injEq, D.lst.injEq]
  rcases Nat.le_total i xs.length with h | h
  · rw [Nat.min_eq_left h]
    rcases Nat.le_total j xs.length with h' | h'
    · rw [Nat.min_eq_left h']
    · rw [Nat.min_eq_right h', List.take_of_length_le (by rw [List.length_drop]; omega), List.take_of_length_le (by rw [List.length_drop]; omega)]
  · rw [Nat.min_eq_right h, List.drop_of_length_le (Nat.le_refl _), List.drop_of_length_le h]
    simp
end Rf
namespace Pg
open PySem PySem.Spec L2 Rf
def topS (i : Nat) : Stmt := PySem.Challenge.pw_whattwosettle_k86_exact_fractions.main.body.getD i (.Pass ⟨0, 0, 0, 0⟩)
/-! frac(n, d): 0 n, 1 d, 2 shared -/
noncomputable def frac_T : Tb := { md := [("gcd", "math.gcd")], xc := ["BadNumber"] }
@[simp] theorem frac_xc0 : frac_T.xc[0]? = some ("BadNumber" : Str) := id rfl
def frac_B : S := (.cons (.ife (.cmp .eq (.var 1) (.int 0)) (.cons (.raise_ 0)
    .nil) .nil)
    (.cons (.asg (.name 2) (.bi .gcd (.cons (.var 0) (.cons (.var 1) .nil))))
    (.cons (.ife (.cmp .lt (.var 1) (.int 0)) (.cons (.asg (.name 2) (.neg (.var 2)))
    .nil) .nil)
    (.cons (.ret (.tup (.cons (.bin .fdiv (.var 0) (.var 2)) (.cons (.bin .fdiv (.var 1) (.var 2)) .nil))))
    .nil))))
noncomputable def frac_F : Fn := runFn 2 3 frac_T frac_B
/-! below(a, b): 0 a, 1 b -/
noncomputable def below_T : Tb := {  }
def below_B : S := (.cons (.ret (.cmp .lt (.bin .mul (.ix (.var 0) (.int 0)) (.ix (.var 1) (.int 1))) (.bin .mul (.ix (.var 1) (.int 0)) (.ix (.var 0) (.int 1)))))
    .nil)
noncomputable def below_F : Fn := runFn 2 2 below_T below_B
/-! at_most(a, b): 0 a, 1 b -/
noncomputable def at_most_T : Tb := {  }
def at_most_B : S := (.cons (.ret (.cmp .le (.bin .mul (.ix (.var 0) (.int 0)) (.ix (.var 1) (.int 1))) (.bin .mul (.ix (.var 1) (.int 0)) (.ix (.var 0) (.int 1)))))
    .nil)
noncomputable def at_most_F : Fn := runFn 2 2 at_most_T at_most_B
/-! round_up(a): 0 a -/
noncomputable def round_up_T : Tb := {  }
def round_up_B : S := (.cons (.ret (.neg (.bin .fdiv (.neg (.ix (.var 0) (.int 0))) (.ix (.var 0) (.int 1)))))
    .nil)
noncomputable def round_up_F : Fn := runFn 1 1 round_up_T round_up_B
/-! ascending(numbers): 0 numbers, 1 common, 2 number -/
noncomputable def ascending_T : Tb := { bn := ["sorted"], md := [("lcm", "math.lcm")], lam := true }
def ascending_W1 : S := (.cons (.asg (.name 1) (.bi .lcm (.cons (.var 1) (.cons (.ix (.var 2) (.int 1)) .nil))))
    .nil)
def ascending_L1 : S := .for_ (.name 2) (.cons (.var 0) .nil) ascending_W1
def ascending_B : S := (.cons (.asg (.name 1) (.int 1))
    (.cons ascending_L1
    (.cons (.retA 0 1)
    .nil)))
noncomputable def ascending_F : Fn := runFn 1 3 ascending_T ascending_B
/-! _law_cell(script, k): 0 script, 1 k -/
noncomputable def law_cell_T : Tb := { bn := ["len"] }
def law_cell_B : S := (.cons (.ife (.cmp .lt (.var 1) (.bi .len (.cons (.var 0) .nil))) (.cons (.ret (.ix (.var 0) (.var 1)))
    .nil) .nil)
    (.cons (.ret (.int 0))
    .nil))
noncomputable def law_cell_F : Fn := runFn 2 2 law_cell_T law_cell_B
/-! _law_whole(cell): 0 cell -/
noncomputable def law_whole_T : Tb := { bn := ["abs", "int"] }
def law_whole_B : S := (.cons (.ife (.cmp .lt (.bi .abs (.cons (.var 0) .nil)) (.bin .pow (.int 10) (.int 6))) (.cons (.ret (.bin .sub (.bin .mod (.bi .int (.cons (.var 0) .nil)) (.int 41)) (.int 20)))
    .nil) .nil)
    (.cons (.ret (.bin .add (.bin .sub (.bin .mod (.bi .int (.cons (.var 0) .nil)) (.bin .sub (.bin .mul (.int 2) (.bin .pow (.int 10) (.int 40))) (.int 1))) (.bin .pow (.int 10) (.int 40))) (.int 1)))
    .nil))
noncomputable def law_whole_F : Fn := runFn 1 1 law_whole_T law_whole_B
/-! _law_lowest(n, d): 0 n, 1 d, 2 a, 3 b, 4 c -/
noncomputable def law_lowest_T : Tb := { bn := ["abs"] }
def law_lowest_W1 : S := (.cons (.asg (.name 4) (.bin .sub (.var 2) (.bin .mul (.bin .fdiv (.var 2) (.var 3)) (.var 3))))
    (.cons (.asg (.name 2) (.var 3))
    (.cons (.asg (.name 3) (.var 4))
    .nil)))
def law_lowest_L1 : S := .while_ (.cmp .gt (.var 3) (.int 0)) law_lowest_W1
def law_lowest_B : S := (.cons (.ife (.cmp .lt (.var 1) (.int 0)) (.cons (.asg (.name 0) (.neg (.var 0)))
    (.cons (.asg (.name 1) (.neg (.var 1)))
    .nil)) .nil)
    (.cons (.asg (.name 2) (.bi .abs (.cons (.var 0) .nil)))
    (.cons (.asg (.name 3) (.var 1))
    (.cons law_lowest_L1
    (.cons (.ret (.tup (.cons (.bin .fdiv (.var 0) (.var 2)) (.cons (.bin .fdiv (.var 1) (.var 2)) .nil))))
    .nil)))))
noncomputable def law_lowest_F : Fn := runFn 2 5 law_lowest_T law_lowest_B
/-! _law_is_whole(value): 0 value -/
noncomputable def law_is_whole_T : Tb := { bn := ["isinstance", "int", "bool"] }
def law_is_whole_B : S := (.cons (.ret (.and (.isi (.var 0) .int) (.not (.isi (.var 0) .bool))))
    .nil)
noncomputable def law_is_whole_F : Fn := runFn 1 1 law_is_whole_T law_is_whole_B
/-! _law_says(actual, due): 0 actual, 1 due -/
noncomputable def law_says_T : Tb := { bn := ["isinstance", "bool"] }
def law_says_B : S := (.cons (.ret (.and (.isi (.var 0) .bool) (.cmp .eq (.var 0) (.var 1))))
    .nil)
noncomputable def law_says_F : Fn := runFn 2 2 law_says_T law_says_B
/-! _law_due_error(e): 0 e -/
noncomputable def law_due_errorH_T : Tb := { bn := ["isinstance"], xi := [("NoGain", [("BadNumber", false)]), ("Outside", [("BadNumber", false)]), ("TooMany", [("BadNumber", false)]), ("BadNumber", [("BadNumber", true)]), ("ValueError", [("BadNumber", true)])], hm := true }
@[simp] theorem law_due_errorH_xi : law_due_errorH_T.xi = ([("NoGain", [("BadNumber", false)]), ("Outside", [("BadNumber", false)]), ("TooMany", [("BadNumber", false)]), ("BadNumber", [("BadNumber", true)]), ("ValueError", [("BadNumber", true)])] : List (Str × List (Str × Bool))) := rfl
def law_due_errorH_B : S := (.cons (.ife (.or (.isx (.var 0) 0) (.or (.isx (.var 0) 1) (.isx (.var 0) 2))) (.cons (.ret (.bl false))
    .nil) .nil)
    (.cons (.ret (.and (.isx (.var 0) 3) (.isx (.var 0) 4)))
    .nil))
noncomputable def law_due_errorH_F : Fn := runFn 1 1 law_due_errorH_T law_due_errorH_B
/-! _law_sorted(numbers): 0 numbers, 1 row, 2 number, 3 k -/
noncomputable def law_sorted_T : Tb := { bn := ["len"] }
def law_sorted_W1 : S := (.cons (.asg (.name 3) (.bin .sub (.var 3) (.int 1)))
    .nil)
def law_sorted_L1 : S := .while_ (.and (.cmp .gt (.var 3) (.int 0)) (.cmp .lt (.bin .mul (.ix (.var 2) (.int 0)) (.ix (.ix (.var 1) (.bin .sub (.var 3) (.int 1))) (.int 1))) (.bin .mul (.ix (.ix (.var 1) (.bin .sub (.var 3) (.int 1))) (.int 0)) (.ix (.var 2) (.int 1))))) law_sorted_W1
def law_sorted_W2 : S := (.cons (.asg (.name 3) (.bi .len (.cons (.var 1) .nil)))
    (.cons law_sorted_L1
    (.cons (.asg (.name 1) (.bin .add (.bin .add (.sl (.var 1) .nil (.cons (.var 3) .nil)) (.lst (.cons (.var 2) .nil))) (.sl (.var 1) (.cons (.var 3) .nil) .nil)))
    .nil)))
def law_sorted_L2 : S := .for_ (.name 2) (.cons (.var 0) .nil) law_sorted_W2
def law_sorted_B : S := (.cons (.asg (.name 1) (.lst .nil))
    (.cons law_sorted_L2
    (.cons (.ret (.var 1))
    .nil)))
noncomputable def law_sorted_F : Fn := runFn 1 4 law_sorted_T law_sorted_B
/-! plus(a, b): 0 a, 1 b -/
noncomputable def plus_T : Tb := { fn := [("frac", frac_F)] }
@[simp] theorem plus_fn0 : plus_T.fn[0]? = some (("frac" : Str), frac_F) := id rfl
def plus_B : S := (.cons (.ret (.call 0 (.cons (.bin .add (.bin .mul (.ix (.var 0) (.int 0)) (.ix (.var 1) (.int 1))) (.bin .mul (.ix (.var 1) (.int 0)) (.ix (.var 0) (.int 1)))) (.cons (.bin .mul (.ix (.var 0) (.int 1)) (.ix (.var 1) (.int 1))) .nil))))
    .nil)
noncomputable def plus_F : Fn := runFn 2 2 plus_T plus_B
/-! minus(a, b): 0 a, 1 b -/
noncomputable def minus_T : Tb := { fn := [("frac", frac_F)] }
@[simp] theorem minus_fn0 : minus_T.fn[0]? = some (("frac" : Str), frac_F) := id rfl
def minus_B : S := (.cons (.ret (.call 0 (.cons (.bin .sub (.bin .mul (.ix (.var 0) (.int 0)) (.ix (.var 1) (.int 1))) (.bin .mul (.ix (.var 1) (.int 0)) (.ix (.var 0) (.int 1)))) (.cons (.bin .mul (.ix (.var 0) (.int 1)) (.ix (.var 1) (.int 1))) .nil))))
    .nil)
noncomputable def minus_F : Fn := runFn 2 2 minus_T minus_B
/-! times(a, b): 0 a, 1 b -/
noncomputable def times_T : Tb := { fn := [("frac", frac_F)] }
@[simp] theorem times_fn0 : times_T.fn[0]? = some (("frac" : Str), frac_F) := id rfl
def times_B : S := (.cons (.ret (.call 0 (.cons (.bin .mul (.ix (.var 0) (.int 0)) (.ix (.var 1) (.int 0))) (.cons (.bin .mul (.ix (.var 0) (.int 1)) (.ix (.var 1) (.int 1))) .nil))))
    .nil)
noncomputable def times_F : Fn := runFn 2 2 times_T times_B
/-! over(a, b): 0 a, 1 b -/
noncomputable def over_T : Tb := { fn := [("frac", frac_F)], xc := ["BadNumber"] }
@[simp] theorem over_fn0 : over_T.fn[0]? = some (("frac" : Str), frac_F) := id rfl
@[simp] theorem over_xc0 : over_T.xc[0]? = some ("BadNumber" : Str) := id rfl
def over_B : S := (.cons (.ife (.cmp .eq (.ix (.var 1) (.int 0)) (.int 0)) (.cons (.raise_ 0)
    .nil) .nil)
    (.cons (.ret (.call 0 (.cons (.bin .mul (.ix (.var 0) (.int 0)) (.ix (.var 1) (.int 1))) (.cons (.bin .mul (.ix (.var 0) (.int 1)) (.ix (.var 1) (.int 0))) .nil))))
    .nil))
noncomputable def over_F : Fn := runFn 2 2 over_T over_B
/-! smaller(a, b): 0 a, 1 b -/
noncomputable def smaller_T : Tb := { fn := [("below", below_F)] }
@[simp] theorem smaller_fn0 : smaller_T.fn[0]? = some (("below" : Str), below_F) := id rfl
def smaller_B : S := (.cons (.ife (.call 0 (.cons (.var 1) (.cons (.var 0) .nil))) (.cons (.ret (.var 1))
    .nil) .nil)
    (.cons (.ret (.var 0))
    .nil))
noncomputable def smaller_F : Fn := runFn 2 2 smaller_T smaller_B
/-! larger(a, b): 0 a, 1 b -/
noncomputable def larger_T : Tb := { fn := [("below", below_F)] }
@[simp] theorem larger_fn0 : larger_T.fn[0]? = some (("below" : Str), below_F) := id rfl
def larger_B : S := (.cons (.ife (.call 0 (.cons (.var 0) (.cons (.var 1) .nil))) (.cons (.ret (.var 1))
    .nil) .nil)
    (.cons (.ret (.var 0))
    .nil))
noncomputable def larger_F : Fn := runFn 2 2 larger_T larger_B
/-! _law_same(actual, n, d): 0 actual, 1 n, 2 d -/
noncomputable def law_same_T : Tb := { fn := [("_law_is_whole", law_is_whole_F), ("_law_lowest", law_lowest_F)], bn := ["isinstance", "tuple", "len"] }
@[simp] theorem law_same_fn0 : law_same_T.fn[0]? = some (("_law_is_whole" : Str), law_is_whole_F) := id rfl
@[simp] theorem law_same_fn1 : law_same_T.fn[1]? = some (("_law_lowest" : Str), law_lowest_F) := id rfl
def law_same_B : S := (.cons (.ife (.or (.not (.isi (.var 0) .tuple)) (.cmp .ne (.bi .len (.cons (.var 0) .nil)) (.int 2))) (.cons (.ret (.bl false))
    .nil) .nil)
    (.cons (.ife (.or (.not (.call 0 (.cons (.ix (.var 0) (.int 0)) .nil))) (.not (.call 0 (.cons (.ix (.var 0) (.int 1)) .nil)))) (.cons (.ret (.bl false))
    .nil) .nil)
    (.cons (.ret (.cmp .eq (.var 0) (.call 1 (.cons (.var 1) (.cons (.var 2) .nil)))))
    .nil)))
noncomputable def law_same_F : Fn := runFn 3 3 law_same_T law_same_B
/-! _law_rounded(n, d, a): 0 n, 1 d, 2 a, 3 k, 4 low -/
noncomputable def law_rounded_T : Tb := { fn := [("round_up", round_up_F), ("_law_is_whole", law_is_whole_F), ("_law_lowest", law_lowest_F)] }
@[simp] theorem law_rounded_fn0 : law_rounded_T.fn[0]? = some (("round_up" : Str), round_up_F) := id rfl
@[simp] theorem law_rounded_fn1 : law_rounded_T.fn[1]? = some (("_law_is_whole" : Str), law_is_whole_F) := id rfl
@[simp] theorem law_rounded_fn2 : law_rounded_T.fn[2]? = some (("_law_lowest" : Str), law_lowest_F) := id rfl
def law_rounded_B : S := (.cons (.asg (.name 3) (.call 0 (.cons (.var 2) .nil)))
    (.cons (.ife (.not (.call 1 (.cons (.var 3) .nil))) (.cons (.ret (.bl false))
    .nil) .nil)
    (.cons (.asg (.name 4) (.call 2 (.cons (.var 0) (.cons (.var 1) .nil))))
    (.cons (.ret (.and (.cmp .ge (.bin .mul (.var 3) (.ix (.var 4) (.int 1))) (.ix (.var 4) (.int 0))) (.cmp .lt (.bin .mul (.bin .sub (.var 3) (.int 1)) (.ix (.var 4) (.int 1))) (.ix (.var 4) (.int 0)))))
    .nil))))
noncomputable def law_rounded_F : Fn := runFn 3 5 law_rounded_T law_rounded_B
/-! middle(a, b): 0 a, 1 b -/
noncomputable def middle_T : Tb := { fn := [("plus", plus_F), ("times", times_F)], gl := [("HALF", (.tup [(.int 1), (.int 2)]))] }
@[simp] theorem middle_fn0 : middle_T.fn[0]? = some (("plus" : Str), plus_F) := id rfl
@[simp] theorem middle_fn1 : middle_T.fn[1]? = some (("times" : Str), times_F) := id rfl
@[simp] theorem middle_gl0 : middle_T.gl[0]? = some (("HALF" : Str), (.tup [(.int 1), (.int 2)])) := id rfl
def middle_B : S := (.cons (.ret (.call 1 (.cons (.call 0 (.cons (.var 0) (.cons (.var 1) .nil))) (.cons (.glob 0) .nil))))
    .nil)
noncomputable def middle_F : Fn := runFn 2 2 middle_T middle_B
/-! total(numbers): 0 numbers, 1 result, 2 number -/
noncomputable def total_T : Tb := { fn := [("plus", plus_F)], gl := [("ZERO", (.tup [(.int 0), (.int 1)]))] }
@[simp] theorem total_fn0 : total_T.fn[0]? = some (("plus" : Str), plus_F) := id rfl
@[simp] theorem total_gl0 : total_T.gl[0]? = some (("ZERO" : Str), (.tup [(.int 0), (.int 1)])) := id rfl
def total_W1 : S := (.cons (.asg (.name 1) (.call 0 (.cons (.var 1) (.cons (.var 2) .nil))))
    .nil)
def total_L1 : S := .for_ (.name 2) (.cons (.var 0) .nil) total_W1
def total_B : S := (.cons (.asg (.name 1) (.glob 0))
    (.cons total_L1
    (.cons (.ret (.var 1))
    .nil)))
noncomputable def total_F : Fn := runFn 1 3 total_T total_B
/-! power(a, k): 0 a, 1 k, 2 result, 3 _ -/
noncomputable def power_T : Tb := { fn := [("times", times_F)], gl := [("ONE", (.tup [(.int 1), (.int 1)]))], bn := ["range"] }
@[simp] theorem power_fn0 : power_T.fn[0]? = some (("times" : Str), times_F) := id rfl
@[simp] theorem power_gl0 : power_T.gl[0]? = some (("ONE" : Str), (.tup [(.int 1), (.int 1)])) := id rfl
def power_W1 : S := (.cons (.asg (.name 2) (.call 0 (.cons (.var 2) (.cons (.var 0) .nil))))
    .nil)
def power_L1 : S := .for_ (.name 3) (.rng1 (.var 1)) power_W1
def power_B : S := (.cons (.asg (.name 2) (.glob 0))
    (.cons power_L1
    (.cons (.ret (.var 2))
    .nil)))
noncomputable def power_F : Fn := runFn 2 4 power_T power_B
/-! _law_refusals(n, a): 0 n, 1 a, 2 e -/
noncomputable def law_refusals_T : Tb := { fn := [("frac", frac_F), ("over", over_F)], xh := [("SettleError", [("BadNumber", true)])], hfn := [("_law_due_error", law_due_errorH_F)] }
@[simp] theorem law_refusals_fn0 : law_refusals_T.fn[0]? = some (("frac" : Str), frac_F) := id rfl
@[simp] theorem law_refusals_fn1 : law_refusals_T.fn[1]? = some (("over" : Str), over_F) := id rfl
@[simp] theorem law_refusals_hfn0 : law_refusals_T.hfn[0]? = some (("_law_due_error" : Str), law_due_errorH_F) := id rfl
@[simp] theorem law_refusals_xh : law_refusals_T.xh = ([("SettleError", [("BadNumber", true)])] : List (Str × List (Str × Bool))) := rfl
def law_refusals_B : S := (.cons (.tryAs 2 0 (.cons (.expr (.call 0 (.cons (.var 0) (.cons (.int 0) .nil))))
    (.cons (.ret (.bl false))
    .nil))
    (.cons (.ife (.not (.call 0 (.cons (.var 2) .nil))) (.cons (.ret (.bl false))
    .nil) .nil)
    .nil))
    (.cons (.tryAs 2 0 (.cons (.expr (.call 1 (.cons (.var 1) (.cons (.tup (.cons (.int 0) (.cons (.int 1) .nil))) .nil))))
    (.cons (.ret (.bl false))
    .nil))
    (.cons (.ret (.call 0 (.cons (.var 2) .nil)))
    .nil))
    .nil))
noncomputable def law_refusals_F : Fn := runFn 2 3 law_refusals_T law_refusals_B
/-! _law_order(n, d, m, e, a, b): 0 n, 1 d, 2 m, 3 e, 4 a, 5 b, 6 lead, 7 low, 8 high -/
noncomputable def law_order_T : Tb := { fn := [("below", below_F), ("_law_says", law_says_F), ("at_most", at_most_F), ("smaller", smaller_F), ("_law_same", law_same_F), ("larger", larger_F)] }
@[simp] theorem law_order_fn0 : law_order_T.fn[0]? = some (("below" : Str), below_F) := id rfl
@[simp] theorem law_order_fn1 : law_order_T.fn[1]? = some (("_law_says" : Str), law_says_F) := id rfl
@[simp] theorem law_order_fn2 : law_order_T.fn[2]? = some (("at_most" : Str), at_most_F) := id rfl
@[simp] theorem law_order_fn3 : law_order_T.fn[3]? = some (("smaller" : Str), smaller_F) := id rfl
@[simp] theorem law_order_fn4 : law_order_T.fn[4]? = some (("_law_same" : Str), law_same_F) := id rfl
@[simp] theorem law_order_fn5 : law_order_T.fn[5]? = some (("larger" : Str), larger_F) := id rfl
def law_order_B : S := (.cons (.asg (.name 6) (.bin .mul (.bin .mul (.bin .sub (.bin .mul (.var 0) (.var 3)) (.bin .mul (.var 2) (.var 1))) (.var 1)) (.var 3)))
    (.cons (.ife (.or (.not (.call 1 (.cons (.call 0 (.cons (.var 4) (.cons (.var 5) .nil))) (.cons (.cmp .lt (.var 6) (.int 0)) .nil)))) (.not (.call 1 (.cons (.call 2 (.cons (.var 4) (.cons (.var 5) .nil))) (.cons (.cmp .le (.var 6) (.int 0)) .nil))))) (.cons (.ret (.bl false))
    .nil) .nil)
    (.cons (.ife (.or (.not (.call 1 (.cons (.call 0 (.cons (.var 4) (.cons (.var 4) .nil))) (.cons (.bl false) .nil)))) (.not (.call 1 (.cons (.call 2 (.cons (.var 4) (.cons (.var 4) .nil))) (.cons (.bl true) .nil))))) (.cons (.ret (.bl false))
    .nil) .nil)
    (.cons (.asg (.name 7) (.tup (.cons (.var 0) (.cons (.var 1) .nil))))
    (.cons (.asg (.name 8) (.tup (.cons (.var 2) (.cons (.var 3) .nil))))
    (.cons (.ife (.cmp .gt (.var 6) (.int 0)) (.cons (.asg (.name 7) (.tup (.cons (.var 2) (.cons (.var 3) .nil))))
    (.cons (.asg (.name 8) (.tup (.cons (.var 0) (.cons (.var 1) .nil))))
    .nil)) .nil)
    (.cons (.ret (.and (.call 4 (.cons (.call 3 (.cons (.var 4) (.cons (.var 5) .nil))) (.cons (.ix (.var 7) (.int 0)) (.cons (.ix (.var 7) (.int 1)) .nil)))) (.call 4 (.cons (.call 5 (.cons (.var 4) (.cons (.var 5) .nil))) (.cons (.ix (.var 8) (.int 0)) (.cons (.ix (.var 8) (.int 1)) .nil))))))
    .nil)))))))
noncomputable def law_order_F : Fn := runFn 6 9 law_order_T law_order_B
/-! _law_sums(n, d, m, e, a, b): 0 n, 1 d, 2 m, 3 e, 4 a, 5 b -/
noncomputable def law_sums_T : Tb := { fn := [("plus", plus_F), ("_law_same", law_same_F), ("minus", minus_F), ("times", times_F), ("over", over_F), ("middle", middle_F)] }
@[simp] theorem law_sums_fn0 : law_sums_T.fn[0]? = some (("plus" : Str), plus_F) := id rfl
@[simp] theorem law_sums_fn1 : law_sums_T.fn[1]? = some (("_law_same" : Str), law_same_F) := id rfl
@[simp] theorem law_sums_fn2 : law_sums_T.fn[2]? = some (("minus" : Str), minus_F) := id rfl
@[simp] theorem law_sums_fn3 : law_sums_T.fn[3]? = some (("times" : Str), times_F) := id rfl
@[simp] theorem law_sums_fn4 : law_sums_T.fn[4]? = some (("over" : Str), over_F) := id rfl
@[simp] theorem law_sums_fn5 : law_sums_T.fn[5]? = some (("middle" : Str), middle_F) := id rfl
def law_sums_B : S := (.cons (.ife (.not (.call 1 (.cons (.call 0 (.cons (.var 4) (.cons (.var 5) .nil))) (.cons (.bin .add (.bin .mul (.var 0) (.var 3)) (.bin .mul (.var 2) (.var 1))) (.cons (.bin .mul (.var 1) (.var 3)) .nil))))) (.cons (.ret (.bl false))
    .nil) .nil)
    (.cons (.ife (.not (.call 1 (.cons (.call 2 (.cons (.var 4) (.cons (.var 5) .nil))) (.cons (.bin .sub (.bin .mul (.var 0) (.var 3)) (.bin .mul (.var 2) (.var 1))) (.cons (.bin .mul (.var 1) (.var 3)) .nil))))) (.cons (.ret (.bl false))
    .nil) .nil)
    (.cons (.ife (.not (.call 1 (.cons (.call 3 (.cons (.var 4) (.cons (.var 5) .nil))) (.cons (.bin .mul (.var 0) (.var 2)) (.cons (.bin .mul (.var 1) (.var 3)) .nil))))) (.cons (.ret (.bl false))
    .nil) .nil)
    (.cons (.ife (.and (.cmp .ne (.var 2) (.int 0)) (.not (.call 1 (.cons (.call 4 (.cons (.var 4) (.cons (.var 5) .nil))) (.cons (.bin .mul (.var 0) (.var 3)) (.cons (.bin .mul (.var 1) (.var 2)) .nil)))))) (.cons (.ret (.bl false))
    .nil) .nil)
    (.cons (.ret (.call 1 (.cons (.call 5 (.cons (.var 4) (.cons (.var 5) .nil))) (.cons (.bin .add (.bin .mul (.var 0) (.var 3)) (.bin .mul (.var 2) (.var 1))) (.cons (.bin .mul (.bin .mul (.int 2) (.var 1)) (.var 3)) .nil)))))
    .nil)))))
noncomputable def law_sums_F : Fn := runFn 6 6 law_sums_T law_sums_B
/-! _law_powers(n, d, a): 0 n, 1 d, 2 a, 3 top, 4 bottom, 5 k -/
noncomputable def law_powers_T : Tb := { fn := [("power", power_F), ("_law_same", law_same_F)], bn := ["range"] }
@[simp] theorem law_powers_fn0 : law_powers_T.fn[0]? = some (("power" : Str), power_F) := id rfl
@[simp] theorem law_powers_fn1 : law_powers_T.fn[1]? = some (("_law_same" : Str), law_same_F) := id rfl
def law_powers_W1 : S := (.cons (.ife (.not (.call 1 (.cons (.call 0 (.cons (.var 2) (.cons (.var 5) .nil))) (.cons (.var 3) (.cons (.var 4) .nil))))) (.cons (.ret (.bl false))
    .nil) .nil)
    (.cons (.asg (.name 3) (.bin .mul (.var 3) (.var 0)))
    (.cons (.asg (.name 4) (.bin .mul (.var 4) (.var 1)))
    .nil)))
def law_powers_L1 : S := .for_ (.name 5) (.rng1 (.int 7)) law_powers_W1
def law_powers_B : S := (.cons (.asg (.name 3) (.int 1))
    (.cons (.asg (.name 4) (.int 1))
    (.cons law_powers_L1
    (.cons (.ret (.bl true))
    .nil))))
noncomputable def law_powers_F : Fn := runFn 3 6 law_powers_T law_powers_B
/-! _law_lists(script, numbers): 0 script, 1 numbers, 2 top, 3 bottom, 4 number, 5 handed, 6 told, 7 low -/
noncomputable def law_lists_T : Tb := { fn := [("_law_lowest", law_lowest_F), ("total", total_F), ("_law_same", law_same_F), ("ascending", ascending_F), ("_law_is_whole", law_is_whole_F), ("_law_sorted", law_sorted_F)], bn := ["list", "isinstance", "tuple", "len"] }
@[simp] theorem law_lists_fn0 : law_lists_T.fn[0]? = some (("_law_lowest" : Str), law_lowest_F) := id rfl
@[simp] theorem law_lists_fn1 : law_lists_T.fn[1]? = some (("total" : Str), total_F) := id rfl
@[simp] theorem law_lists_fn2 : law_lists_T.fn[2]? = some (("_law_same" : Str), law_same_F) := id rfl
@[simp] theorem law_lists_fn3 : law_lists_T.fn[3]? = some (("ascending" : Str), ascending_F) := id rfl
@[simp] theorem law_lists_fn4 : law_lists_T.fn[4]? = some (("_law_is_whole" : Str), law_is_whole_F) := id rfl
@[simp] theorem law_lists_fn5 : law_lists_T.fn[5]? = some (("_law_sorted" : Str), law_sorted_F) := id rfl
def law_lists_W1 : S := (.cons (.asg (.name 2) (.bin .add (.bin .mul (.var 2) (.ix (.var 4) (.int 1))) (.bin .mul (.ix (.var 4) (.int 0)) (.var 3))))
    (.cons (.asg (.name 3) (.bin .mul (.var 3) (.ix (.var 4) (.int 1))))
    (.cons (.asg (.name 7) (.call 0 (.cons (.var 2) (.cons (.var 3) .nil))))
    (.cons (.asg (.name 2) (.ix (.var 7) (.int 0)))
    (.cons (.asg (.name 3) (.ix (.var 7) (.int 1)))
    .nil)))))
def law_lists_L1 : S := .for_ (.name 4) (.cons (.var 1) .nil) law_lists_W1
def law_lists_W2 : S := (.cons (.ife (.or (.not (.isi (.var 4) .tuple)) (.cmp .ne (.bi .len (.cons (.var 4) .nil)) (.int 2))) (.cons (.ret (.bl false))
    .nil) .nil)
    (.cons (.ife (.or (.not (.call 4 (.cons (.ix (.var 4) (.int 0)) .nil))) (.not (.call 4 (.cons (.ix (.var 4) (.int 1)) .nil)))) (.cons (.ret (.bl false))
    .nil) .nil)
    .nil))
def law_lists_L2 : S := .for_ (.name 4) (.cons (.var 6) .nil) law_lists_W2
def law_lists_B : S := (.cons (.asg (.name 2) (.int 0))
    (.cons (.asg (.name 3) (.int 1))
    (.cons law_lists_L1
    (.cons (.asg (.name 5) (.bi .list (.cons (.var 1) .nil)))
    (.cons (.ife (.or (.not (.call 2 (.cons (.call 1 (.cons (.var 5) .nil)) (.cons (.var 2) (.cons (.var 3) .nil))))) (.cmp .ne (.var 5) (.var 1))) (.cons (.ret (.bl false))
    .nil) .nil)
    (.cons (.asg (.name 6) (.call 3 (.cons (.var 5) .nil)))
    (.cons (.ife (.or (.not (.isi (.var 6) .list)) (.cmp .ne (.var 5) (.var 1))) (.cons (.ret (.bl false))
    .nil) .nil)
    (.cons law_lists_L2
    (.cons (.ret (.cmp .eq (.var 6) (.call 5 (.cons (.var 1) .nil))))
    .nil)))))))))
noncomputable def law_lists_F : Fn := runFn 2 8 law_lists_T law_lists_B
/-! law(script): 0 script, 1 n, 2 d, 3 m, 4 e, 5 a, 6 b, 7 numbers, 8 cell -/
noncomputable def law_T : Tb := { fn := [("_law_cell", law_cell_F), ("_law_whole", law_whole_F), ("frac", frac_F), ("_law_same", law_same_F), ("frac", (fun ds => frac_F (ds ++ [(.int 1)]))), ("_law_lowest", law_lowest_F), ("_law_refusals", law_refusals_F), ("_law_sums", law_sums_F), ("_law_order", law_order_F), ("_law_rounded", law_rounded_F), ("_law_powers", law_powers_F), ("_law_lists", law_lists_F)], gl := [("ZERO", (.tup [(.int 0), (.int 1)])), ("ONE", (.tup [(.int 1), (.int 1)])), ("HALF", (.tup [(.int 1), (.int 2)]))], bn := ["int"] }
@[simp] theorem law_fn0 : law_T.fn[0]? = some (("_law_cell" : Str), law_cell_F) := id rfl
@[simp] theorem law_fn1 : law_T.fn[1]? = some (("_law_whole" : Str), law_whole_F) := id rfl
@[simp] theorem law_fn2 : law_T.fn[2]? = some (("frac" : Str), frac_F) := id rfl
@[simp] theorem law_fn3 : law_T.fn[3]? = some (("_law_same" : Str), law_same_F) := id rfl
@[simp] theorem law_fn4 : law_T.fn[4]? = some (("frac" : Str), (fun ds => frac_F (ds ++ [(.int 1)]))) := id rfl
@[simp] theorem law_fn5 : law_T.fn[5]? = some (("_law_lowest" : Str), law_lowest_F) := id rfl
@[simp] theorem law_fn6 : law_T.fn[6]? = some (("_law_refusals" : Str), law_refusals_F) := id rfl
@[simp] theorem law_fn7 : law_T.fn[7]? = some (("_law_sums" : Str), law_sums_F) := id rfl
@[simp] theorem law_fn8 : law_T.fn[8]? = some (("_law_order" : Str), law_order_F) := id rfl
@[simp] theorem law_fn9 : law_T.fn[9]? = some (("_law_rounded" : Str), law_rounded_F) := id rfl
@[simp] theorem law_fn10 : law_T.fn[10]? = some (("_law_powers" : Str), law_powers_F) := id rfl
@[simp] theorem law_fn11 : law_T.fn[11]? = some (("_law_lists" : Str), law_lists_F) := id rfl
@[simp] theorem law_gl0 : law_T.gl[0]? = some (("ZERO" : Str), (.tup [(.int 0), (.int 1)])) := id rfl
@[simp] theorem law_gl1 : law_T.gl[1]? = some (("ONE" : Str), (.tup [(.int 1), (.int 1)])) := id rfl
@[simp] theorem law_gl2 : law_T.gl[2]? = some (("HALF" : Str), (.tup [(.int 1), (.int 2)])) := id rfl
def law_W1 : S := (.cons (.app 7 (.call 5 (.cons (.bin .sub (.bin .mod (.bi .int (.cons (.var 8) .nil)) (.int 2001)) (.int 1000)) (.cons (.bin .add (.int 1) (.bin .mod (.bi .int (.cons (.bin .fdiv (.var 8) (.int 2001)) .nil)) (.int 12))) .nil))))
    .nil)
def law_L1 : S := .for_ (.name 8) (.cons (.sl (.var 0) (.cons (.int 4) .nil) (.cons (.int 63) .nil)) .nil) law_W1
def law_B : S := (.cons (.ife (.or (.cmp .ne (.glob 0) (.tup (.cons (.int 0) (.cons (.int 1) .nil)))) (.or (.cmp .ne (.glob 1) (.tup (.cons (.int 1) (.cons (.int 1) .nil)))) (.cmp .ne (.glob 2) (.tup (.cons (.int 1) (.cons (.int 2) .nil)))))) (.cons (.ret (.bl false))
    .nil) .nil)
    (.cons (.asg (.name 1) (.call 1 (.cons (.call 0 (.cons (.var 0) (.cons (.int 0) .nil))) .nil)))
    (.cons (.asg (.name 2) (.call 1 (.cons (.call 0 (.cons (.var 0) (.cons (.int 1) .nil))) .nil)))
    (.cons (.asg (.name 3) (.call 1 (.cons (.call 0 (.cons (.var 0) (.cons (.int 2) .nil))) .nil)))
    (.cons (.asg (.name 4) (.call 1 (.cons (.call 0 (.cons (.var 0) (.cons (.int 3) .nil))) .nil)))
    (.cons (.ife (.cmp .eq (.var 2) (.int 0)) (.cons (.asg (.name 2) (.neg (.int 7)))
    .nil) .nil)
    (.cons (.ife (.cmp .eq (.var 4) (.int 0)) (.cons (.asg (.name 4) (.int 9))
    .nil) .nil)
    (.cons (.ife (.or (.not (.call 3 (.cons (.call 2 (.cons (.var 1) (.cons (.var 2) .nil))) (.cons (.var 1) (.cons (.var 2) .nil))))) (.or (.not (.call 3 (.cons (.call 2 (.cons (.var 3) (.cons (.var 4) .nil))) (.cons (.var 3) (.cons (.var 4) .nil))))) (.not (.call 3 (.cons (.call 4 (.cons (.var 1) .nil)) (.cons (.var 1) (.cons (.int 1) .nil))))))) (.cons (.ret (.bl false))
    .nil) .nil)
    (.cons (.asg (.name 5) (.call 5 (.cons (.var 1) (.cons (.var 2) .nil))))
    (.cons (.asg (.name 6) (.call 5 (.cons (.var 3) (.cons (.var 4) .nil))))
    (.cons (.ife (.or (.not (.call 6 (.cons (.var 1) (.cons (.var 5) .nil)))) (.or (.not (.call 7 (.cons (.var 1) (.cons (.var 2) (.cons (.var 3) (.cons (.var 4) (.cons (.var 5) (.cons (.var 6) .nil)))))))) (.not (.call 8 (.cons (.var 1) (.cons (.var 2) (.cons (.var 3) (.cons (.var 4) (.cons (.var 5) (.cons (.var 6) .nil)))))))))) (.cons (.ret (.bl false))
    .nil) .nil)
    (.cons (.ife (.or (.not (.call 9 (.cons (.var 1) (.cons (.var 2) (.cons (.var 5) .nil))))) (.not (.call 10 (.cons (.var 1) (.cons (.var 2) (.cons (.var 5) .nil)))))) (.cons (.ret (.bl false))
    .nil) .nil)
    (.cons (.asgO 7 (.lst (.cons (.var 5) (.cons (.var 6) .nil))))
    (.cons law_L1
    (.cons (.frz [7] (.ife (.not (.call 11 (.cons (.var 0) (.cons (.var 7) .nil)))) (.cons (.ret (.bl false))
    .nil) .nil))
    (.cons (.frz [7] (.ret (.call 11 (.cons (.var 0) (.cons (.sl (.var 7) (.cons (.int 2) .nil) .nil) .nil)))))
    .nil))))))))))))))))
noncomputable def law_F : Fn := runFn 1 9 law_T law_B
/-- what the head gives -/
structure Facts (g : G) : Prop where
  f_frac : DefAtD g "frac" (topS 11) [(.int 1)]
  f_below : DefAt g "below" (topS 16)
  f_at_most : DefAt g "at_most" (topS 17)
  f_round_up : DefAt g "round_up" (topS 23)
  f_ascending : DefAt g "ascending" (topS 24)
  f_law_cell : DefAt g "_law_cell" (topS 26)
  f_law_whole : DefAt g "_law_whole" (topS 27)
  f_law_lowest : DefAt g "_law_lowest" (topS 28)
  f_law_is_whole : DefAt g "_law_is_whole" (topS 29)
  f_law_says : DefAt g "_law_says" (topS 31)
  f_law_due_error : DefAt g "_law_due_error" (topS 32)
  f_law_sorted : DefAt g "_law_sorted" (topS 38)
  f_plus : DefAt g "plus" (topS 12)
  f_minus : DefAt g "minus" (topS 13)
  f_times : DefAt g "times" (topS 14)
  f_over : DefAt g "over" (topS 15)
  f_smaller : DefAt g "smaller" (topS 18)
  f_larger : DefAt g "larger" (topS 19)
  f_law_same : DefAt g "_law_same" (topS 30)
  f_law_rounded : DefAt g "_law_rounded" (topS 36)
  f_middle : DefAt g "middle" (topS 20)
  f_total : DefAt g "total" (topS 21)
  f_power : DefAt g "power" (topS 22)
  f_law_refusals : DefAt g "_law_refusals" (topS 33)
  f_law_order : DefAt g "_law_order" (topS 35)
  f_law_sums : DefAt g "_law_sums" (topS 34)
  f_law_powers : DefAt g "_law_powers" (topS 37)
  f_law_lists : DefAt g "_law_lists" (topS 39)
  f_law : DefAt g "law" (topS 40)
  b_sorted : g.mg "sorted" = none
  b_len : g.mg "len" = none
  b_abs : g.mg "abs" = none
  b_int : g.mg "int" = none
  b_isinstance : g.mg "isinstance" = none
  b_bool : g.mg "bool" = none
  b_tuple : g.mg "tuple" = none
  b_range : g.mg "range" = none
  b_list : g.mg "list" = none
  m_gcd : g.mg "gcd" = some (.builtin "math.gcd")
  m_lcm : g.mg "lcm" = some (.builtin "math.lcm")
  c_HALF : Gcon g "HALF" (.tup [(.int 1), (.int 2)])
  c_ZERO : Gcon g "ZERO" (.tup [(.int 0), (.int 1)])
  c_ONE : Gcon g "ONE" (.tup [(.int 1), (.int 1)])
  xc_BadNumber : XcOk g "BadNumber"
  xh_0 : XhOk g "SettleError" [("BadNumber", true)]
  xi_0 : XiOk g "NoGain" [("BadNumber", false)]
  xi_1 : XiOk g "Outside" [("BadNumber", false)]
  xi_2 : XiOk g "TooMany" [("BadNumber", false)]
  xi_3 : XiOk g "BadNumber" [("BadNumber", true)]
  xi_4 : XiOk g "ValueError" [("BadNumber", true)]
  tab : TabAt g
section
variable {g : G} (h : Facts g)
include h
theorem frac_know : Know g 0 frac_T := ⟨(fun _ => (List.forall_mem_nil _)), (fun z => Bool.noConfusion (show false = true from z)), (List.forall_mem_nil _), List.forall_mem_nil _, (List.forall_mem_nil _), (List.forall_mem_cons.2 ⟨h.m_gcd, (List.forall_mem_nil _)⟩), List.forall_mem_nil _, (List.forall_mem_cons.2 ⟨h.xc_BadNumber, (List.forall_mem_nil _)⟩), (List.forall_mem_nil _), (List.forall_mem_nil _), (fun _ p _ => (List.forall_mem_nil _))⟩
theorem frac_ok : ∃ f fd, FnOk g.P g.w g.K g.mg g.base (L2.CX g.P g.w) 1 f fd ["n", "d"] (spD g frac_F) ∧ g.mg "frac" = some (.ref f) ∧ PySem.W.keepIn g.K (.ref f) = true ∧ DefFdD g "frac" (topS 11) [(.int 1)] fd :=
  def_okD (N := ["n", "d", "shared"]) h.f_frac (fnScope_by' (by decide +kernel)) (frac_know h) (by decide +kernel)
theorem frac_prmD1 : Prm g 1 "frac" (fun ds => frac_F (ds ++ [(.int 1)])) := def_prmD 0 1 (frac_ok h) rfl (fun _ _ _ _ _ _ _ us its h1 h2 => match us, its, h1, h2 with | [_], [_], _, _ => ⟨_, rfl, rfl⟩)
theorem frac_prm : Prm g 1 "frac" frac_F := by
  have z := def_prmD 1 2 (frac_ok h) rfl (fun _ _ _ _ _ _ _ us its h1 h2 => match us, its, h1, h2 with | [_, _], [_], _, _ => ⟨_, rfl, rfl⟩)
  simpa using z
theorem below_know : Know g 0 below_T := ⟨(fun _ => (List.forall_mem_nil _)), (fun z => Bool.noConfusion (show false = true from z)), (List.forall_mem_nil _), List.forall_mem_nil _, (List.forall_mem_nil _), (List.forall_mem_nil _), List.forall_mem_nil _, (List.forall_mem_nil _), (List.forall_mem_nil _), (List.forall_mem_nil _), (fun _ p _ => (List.forall_mem_nil _))⟩
theorem below_ok : ∃ f fd, FnOk g.P g.w g.K g.mg g.base (L2.CX g.P g.w) 1 f fd ["a", "b"] (spD g below_F) ∧ g.mg "below" = some (.ref f) ∧ PySem.W.keepIn g.K (.ref f) = true ∧ DefFd g "below" (topS 16) fd :=
  def_ok (N := ["a", "b"]) h.f_below (fnScope_by' (by decide +kernel)) (below_know h) (by decide +kernel)
theorem below_prm : Prm g 1 "below" below_F := def_prm (below_ok h) (fun _ _ _ _ _ _ us hl => match us, hl with | [_, _], _ => rfl)
theorem at_most_know : Know g 0 at_most_T := ⟨(fun _ => (List.forall_mem_nil _)), (fun z => Bool.noConfusion (show false = true from z)), (List.forall_mem_nil _), List.forall_mem_nil _, (List.forall_mem_nil _), (List.forall_mem_nil _), List.forall_mem_nil _, (List.forall_mem_nil _), (List.forall_mem_nil _), (List.forall_mem_nil _), (fun _ p _ => (List.forall_mem_nil _))⟩
theorem at_most_ok : ∃ f fd, FnOk g.P g.w g.K g.mg g.base (L2.CX g.P g.w) 1 f fd ["a", "b"] (spD g at_most_F) ∧ g.mg "at_most" = some (.ref f) ∧ PySem.W.keepIn g.K (.ref f) = true ∧ DefFd g "at_most" (topS 17) fd :=
  def_ok (N := ["a", "b"]) h.f_at_most (fnScope_by' (by decide +kernel)) (at_most_know h) (by decide +kernel)
theorem at_most_prm : Prm g 1 "at_most" at_most_F := def_prm (at_most_ok h) (fun _ _ _ _ _ _ us hl => match us, hl with | [_, _], _ => rfl)
theorem round_up_know : Know g 0 round_up_T := ⟨(fun _ => (List.forall_mem_nil _)), (fun z => Bool.noConfusion (show false = true from z)), (List.forall_mem_nil _), List.forall_mem_nil _, (List.forall_mem_nil _), (List.forall_mem_nil _), List.forall_mem_nil _, (List.forall_mem_nil _), (List.forall_mem_nil _), (List.forall_mem_nil _), (fun _ p _ => (List.forall_mem_nil _))⟩
theorem round_up_ok : ∃ f fd, FnOk g.P g.w g.K g.mg g.base (L2.CX g.P g.w) 1 f fd ["a"] (spD g round_up_F) ∧ g.mg "round_up" = some (.ref f) ∧ PySem.W.keepIn g.K (.ref f) = true ∧ DefFd g "round_up" (topS 23) fd :=
  def_ok (N := ["a"]) h.f_round_up (fnScope_by' (by decide +kernel)) (round_up_know h) (by decide +kernel)
theorem round_up_prm : Prm g 1 "round_up" round_up_F := def_prm (round_up_ok h) (fun _ _ _ _ _ _ us hl => match us, hl with | [_], _ => rfl)
theorem ascending_know : Know g 0 ascending_T := ⟨(fun _ => (List.forall_mem_nil _)), (fun z => Bool.noConfusion (show false = true from z)), (List.forall_mem_nil _), List.forall_mem_nil _, (List.forall_mem_cons.2 ⟨h.b_sorted, (List.forall_mem_nil _)⟩), (List.forall_mem_cons.2 ⟨h.m_lcm, (List.forall_mem_nil _)⟩), List.forall_mem_nil _, (List.forall_mem_nil _), (List.forall_mem_nil _), (List.forall_mem_nil _), (fun _ p _ => (List.forall_mem_nil _))⟩
theorem ascending_ok : ∃ f fd, FnOk g.P g.w g.K g.mg g.base (L2.CX g.P g.w) 1 f fd ["numbers"] (spD g ascending_F) ∧ g.mg "ascending" = some (.ref f) ∧ PySem.W.keepIn g.K (.ref f) = true ∧ DefFd g "ascending" (topS 24) fd :=
  def_okL (N := ["numbers", "common", "number"]) h.f_ascending h.tab (fnScope_by' (by decide +kernel)) (ascending_know h) (by decide +kernel)
theorem ascending_prm : Prm g 1 "ascending" ascending_F := def_prm (ascending_ok h) (fun _ _ _ _ _ _ us hl => match us, hl with | [_], _ => rfl)
theorem law_cell_know : Know g 0 law_cell_T := ⟨(fun _ => (List.forall_mem_nil _)), (fun z => Bool.noConfusion (show false = true from z)), (List.forall_mem_nil _), List.forall_mem_nil _, (List.forall_mem_cons.2 ⟨h.b_len, (List.forall_mem_nil _)⟩), (List.forall_mem_nil _), List.forall_mem_nil _, (List.forall_mem_nil _), (List.forall_mem_nil _), (List.forall_mem_nil _), (fun _ p _ => (List.forall_mem_nil _))⟩
theorem law_cell_ok : ∃ f fd, FnOk g.P g.w g.K g.mg g.base (L2.CX g.P g.w) 1 f fd ["script", "k"] (spD g law_cell_F) ∧ g.mg "_law_cell" = some (.ref f) ∧ PySem.W.keepIn g.K (.ref f) = true ∧ DefFd g "_law_cell" (topS 26) fd :=
  def_ok (N := ["script", "k"]) h.f_law_cell (fnScope_by' (by decide +kernel)) (law_cell_know h) (by decide +kernel)
theorem law_cell_prm : Prm g 1 "_law_cell" law_cell_F := def_prm (law_cell_ok h) (fun _ _ _ _ _ _ us hl => match us, hl with | [_, _], _ => rfl)
theorem law_whole_know : Know g 0 law_whole_T := ⟨(fun _ => (List.forall_mem_nil _)), (fun z => Bool.noConfusion (show false = true from z)), (List.forall_mem_nil _), List.forall_mem_nil _, (List.forall_mem_cons.2 ⟨h.b_abs, (List.forall_mem_cons.2 ⟨h.b_int, (List.forall_mem_nil _)⟩)⟩), (List.forall_mem_nil _), List.forall_mem_nil _, (List.forall_mem_nil _), (List.forall_mem_nil _), (List.forall_mem_nil _), (fun _ p _ => (List.forall_mem_nil _))⟩
theorem law_whole_ok : ∃ f fd, FnOk g.P g.w g.K g.mg g.base (L2.CX g.P g.w) 1 f fd ["cell"] (spD g law_whole_F) ∧ g.mg "_law_whole" = some (.ref f) ∧ PySem.W.keepIn g.K (.ref f) = true ∧ DefFd g "_law_whole" (topS 27) fd :=
  def_ok (N := ["cell"]) h.f_law_whole (fnScope_by' (by decide +kernel)) (law_whole_know h) (by decide +kernel)
theorem law_whole_prm : Prm g 1 "_law_whole" law_whole_F := def_prm (law_whole_ok h) (fun _ _ _ _ _ _ us hl => match us, hl with | [_], _ => rfl)
theorem law_lowest_know : Know g 0 law_lowest_T := ⟨(fun _ => (List.forall_mem_nil _)), (fun z => Bool.noConfusion (show false = true from z)), (List.forall_mem_nil _), List.forall_mem_nil _, (List.forall_mem_cons.2 ⟨h.b_abs, (List.forall_mem_nil _)⟩), (List.forall_mem_nil _), List.forall_mem_nil _, (List.forall_mem_nil _), (List.forall_mem_nil _), (List.forall_mem_nil _), (fun _ p _ => (List.forall_mem_nil _))⟩
theorem law_lowest_ok : ∃ f fd, FnOk g.P g.w g.K g.mg g.base (L2.CX g.P g.w) 1 f fd ["n", "d"] (spD g law_lowest_F) ∧ g.mg "_law_lowest" = some (.ref f) ∧ PySem.W.keepIn g.K (.ref f) = true ∧ DefFd g "_law_lowest" (topS 28) fd :=
  def_ok (N := ["n", "d", "a", "b", "c"]) h.f_law_lowest (fnScope_by' (by decide +kernel)) (law_lowest_know h) (by decide +kernel)
theorem law_lowest_prm : Prm g 1 "_law_lowest" law_lowest_F := def_prm (law_lowest_ok h) (fun _ _ _ _ _ _ us hl => match us, hl with | [_, _], _ => rfl)
theorem law_is_whole_know : Know g 0 law_is_whole_T := ⟨(fun _ => (List.forall_mem_nil _)), (fun z => Bool.noConfusion (show false = true from z)), (List.forall_mem_nil _), List.forall_mem_nil _, (List.forall_mem_cons.2 ⟨h.b_isinstance, (List.forall_mem_cons.2 ⟨h.b_int, (List.forall_mem_cons.2 ⟨h.b_bool, (List.forall_mem_nil _)⟩)⟩)⟩), (List.forall_mem_nil _), List.forall_mem_nil _, (List.forall_mem_nil _), (List.forall_mem_nil _), (List.forall_mem_nil _), (fun _ p _ => (List.forall_mem_nil _))⟩
theorem law_is_whole_ok : ∃ f fd, FnOk g.P g.w g.K g.mg g.base (L2.CX g.P g.w) 1 f fd ["value"] (spD g law_is_whole_F) ∧ g.mg "_law_is_whole" = some (.ref f) ∧ PySem.W.keepIn g.K (.ref f) = true ∧ DefFd g "_law_is_whole" (topS 29) fd :=
  def_ok (N := ["value"]) h.f_law_is_whole (fnScope_by' (by decide +kernel)) (law_is_whole_know h) (by decide +kernel)
theorem law_is_whole_prm : Prm g 1 "_law_is_whole" law_is_whole_F := def_prm (law_is_whole_ok h) (fun _ _ _ _ _ _ us hl => match us, hl with | [_], _ => rfl)
theorem law_says_know : Know g 0 law_says_T := ⟨(fun _ => (List.forall_mem_nil _)), (fun z => Bool.noConfusion (show false = true from z)), (List.forall_mem_nil _), List.forall_mem_nil _, (List.forall_mem_cons.2 ⟨h.b_isinstance, (List.forall_mem_cons.2 ⟨h.b_bool, (List.forall_mem_nil _)⟩)⟩), (List.forall_mem_nil _), List.forall_mem_nil _, (List.forall_mem_nil _), (List.forall_mem_nil _), (List.forall_mem_nil _), (fun _ p _ => (List.forall_mem_nil _))⟩
theorem law_says_ok : ∃ f fd, FnOk g.P g.w g.K g.mg g.base (L2.CX g.P g.w) 1 f fd ["actual", "due"] (spD g law_says_F) ∧ g.mg "_law_says" = some (.ref f) ∧ PySem.W.keepIn g.K (.ref f) = true ∧ DefFd g "_law_says" (topS 31) fd :=
  def_ok (N := ["actual", "due"]) h.f_law_says (fnScope_by' (by decide +kernel)) (law_says_know h) (by decide +kernel)
theorem law_says_prm : Prm g 1 "_law_says" law_says_F := def_prm (law_says_ok h) (fun _ _ _ _ _ _ us hl => match us, hl with | [_, _], _ => rfl)
theorem law_due_errorH_know : ∀ p : Addr × Obj, (∃ vs, p.2.data = .fields vs) → Know (g.hot p) 0 law_due_errorH_T := know_up h.f_law_due_error.1 rfl (fun p _ => (List.forall_mem_nil _)) (List.forall_mem_nil _) rfl (List.forall_mem_cons.2 ⟨h.b_isinstance, (List.forall_mem_nil _)⟩) (List.forall_mem_nil _) (List.forall_mem_nil _) (List.forall_mem_nil _) (List.forall_mem_nil _) (List.forall_mem_cons.2 ⟨h.xi_0, (List.forall_mem_cons.2 ⟨h.xi_1, (List.forall_mem_cons.2 ⟨h.xi_2, (List.forall_mem_cons.2 ⟨h.xi_3, (List.forall_mem_cons.2 ⟨h.xi_4, (List.forall_mem_nil _)⟩)⟩)⟩)⟩)⟩)
theorem law_due_errorH_ok : ∃ f fd, FnC g.P g.w g.K g.mg g.base 1 f fd ["e"] (spC g law_due_errorH_F) ∧ g.mg "_law_due_error" = some (.ref f) ∧ PySem.W.keepIn g.K (.ref f) = true ∧ DefFd g "_law_due_error" (topS 32) fd :=
  def_okC (N := ["e"]) h.f_law_due_error (fnScope_by' (by decide +kernel)) rfl rfl (law_due_errorH_know h) (by decide +kernel)
theorem law_due_errorH_prm : ∀ p : Addr × Obj, PrmC (g.hot p) 1 "_law_due_error" law_due_errorH_F := def_prmC (law_due_errorH_ok h) (fun _ _ _ _ _ _ us hl => match us, hl with | [_], _ => rfl)
theorem law_sorted_know : Know g 0 law_sorted_T := ⟨(fun _ => (List.forall_mem_nil _)), (fun z => Bool.noConfusion (show false = true from z)), (List.forall_mem_nil _), List.forall_mem_nil _, (List.forall_mem_cons.2 ⟨h.b_len, (List.forall_mem_nil _)⟩), (List.forall_mem_nil _), List.forall_mem_nil _, (List.forall_mem_nil _), (List.forall_mem_nil _), (List.forall_mem_nil _), (fun _ p _ => (List.forall_mem_nil _))⟩
theorem law_sorted_ok : ∃ f fd, FnOk g.P g.w g.K g.mg g.base (L2.CX g.P g.w) 1 f fd ["numbers"] (spD g law_sorted_F) ∧ g.mg "_law_sorted" = some (.ref f) ∧ PySem.W.keepIn g.K (.ref f) = true ∧ DefFd g "_law_sorted" (topS 38) fd :=
  def_ok (N := ["numbers", "row", "number", "k"]) h.f_law_sorted (fnScope_by' (by decide +kernel)) (law_sorted_know h) (by decide +kernel)
theorem law_sorted_prm : Prm g 1 "_law_sorted" law_sorted_F := def_prm (law_sorted_ok h) (fun _ _ _ _ _ _ us hl => match us, hl with | [_], _ => rfl)
theorem plus_know : Know g 1 plus_T := ⟨(fun _ => (List.forall_mem_cons.2 ⟨(frac_prm h).mono (by decide), (List.forall_mem_nil _)⟩)), (fun z => Bool.noConfusion (show false = true from z)), (List.forall_mem_nil _), List.forall_mem_nil _, (List.forall_mem_nil _), (List.forall_mem_nil _), List.forall_mem_nil _, (List.forall_mem_nil _), (List.forall_mem_nil _), (List.forall_mem_nil _), (fun _ p _ => (List.forall_mem_nil _))⟩
theorem plus_ok : ∃ f fd, FnOk g.P g.w g.K g.mg g.base (L2.CX g.P g.w) 2 f fd ["a", "b"] (spD g plus_F) ∧ g.mg "plus" = some (.ref f) ∧ PySem.W.keepIn g.K (.ref f) = true ∧ DefFd g "plus" (topS 12) fd :=
  def_ok (N := ["a", "b"]) h.f_plus (fnScope_by' (by decide +kernel)) (plus_know h) (by decide +kernel)
theorem plus_prm : Prm g 2 "plus" plus_F := def_prm (plus_ok h) (fun _ _ _ _ _ _ us hl => match us, hl with | [_, _], _ => rfl)
theorem minus_know : Know g 1 minus_T := ⟨(fun _ => (List.forall_mem_cons.2 ⟨(frac_prm h).mono (by decide), (List.forall_mem_nil _)⟩)), (fun z => Bool.noConfusion (show false = true from z)), (List.forall_mem_nil _), List.forall_mem_nil _, (List.forall_mem_nil _), (List.forall_mem_nil _), List.forall_mem_nil _, (List.forall_mem_nil _), (List.forall_mem_nil _), (List.forall_mem_nil _), (fun _ p _ => (List.forall_mem_nil _))⟩
theorem minus_ok : ∃ f fd, FnOk g.P g.w g.K g.mg g.base (L2.CX g.P g.w) 2 f fd ["a", "b"] (spD g minus_F) ∧ g.mg "minus" = some (.ref f) ∧ PySem.W.keepIn g.K (.ref f) = true ∧ DefFd g "minus" (topS 13) fd :=
  def_ok (N := ["a", "b"]) h.f_minus (fnScope_by' (by decide +kernel)) (minus_know h) (by decide +kernel)
theorem minus_prm : Prm g 2 "minus" minus_F := def_prm (minus_ok h) (fun _ _ _ _ _ _ us hl => match us, hl with | [_, _], _ => rfl)
theorem times_know : Know g 1 times_T := ⟨(fun _ => (List.forall_mem_cons.2 ⟨(frac_prm h).mono (by decide), (List.forall_mem_nil _)⟩)), (fun z => Bool.noConfusion (show false = true from z)), (List.forall_mem_nil _), List.forall_mem_nil _, (List.forall_mem_nil _), (List.forall_mem_nil _), List.forall_mem_nil _, (List.forall_mem_nil _), (List.forall_mem_nil _), (List.forall_mem_nil _), (fun _ p _ => (List.forall_mem_nil _))⟩
theorem times_ok : ∃ f fd, FnOk g.P g.w g.K g.mg g.base (L2.CX g.P g.w) 2 f fd ["a", "b"] (spD g times_F) ∧ g.mg "times" = some (.ref f) ∧ PySem.W.keepIn g.K (.ref f) = true ∧ DefFd g "times" (topS 14) fd :=
  def_ok (N := ["a", "b"]) h.f_times (fnScope_by' (by decide +kernel)) (times_know h) (by decide +kernel)
theorem times_prm : Prm g 2 "times" times_F := def_prm (times_ok h) (fun _ _ _ _ _ _ us hl => match us, hl with | [_, _], _ => rfl)
theorem over_know : Know g 1 over_T := ⟨(fun _ => (List.forall_mem_cons.2 ⟨(frac_prm h).mono (by decide), (List.forall_mem_nil _)⟩)), (fun z => Bool.noConfusion (show false = true from z)), (List.forall_mem_nil _), List.forall_mem_nil _, (List.forall_mem_nil _), (List.forall_mem_nil _), List.forall_mem_nil _, (List.forall_mem_cons.2 ⟨h.xc_BadNumber, (List.forall_mem_nil _)⟩), (List.forall_mem_nil _), (List.forall_mem_nil _), (fun _ p _ => (List.forall_mem_nil _))⟩
theorem over_ok : ∃ f fd, FnOk g.P g.w g.K g.mg g.base (L2.CX g.P g.w) 2 f fd ["a", "b"] (spD g over_F) ∧ g.mg "over" = some (.ref f) ∧ PySem.W.keepIn g.K (.ref f) = true ∧ DefFd g "over" (topS 15) fd :=
  def_ok (N := ["a", "b"]) h.f_over (fnScope_by' (by decide +kernel)) (over_know h) (by decide +kernel)
theorem over_prm : Prm g 2 "over" over_F := def_prm (over_ok h) (fun _ _ _ _ _ _ us hl => match us, hl with | [_, _], _ => rfl)
theorem smaller_know : Know g 1 smaller_T := ⟨(fun _ => (List.forall_mem_cons.2 ⟨(below_prm h).mono (by decide), (List.forall_mem_nil _)⟩)), (fun z => Bool.noConfusion (show false = true from z)), (List.forall_mem_nil _), List.forall_mem_nil _, (List.forall_mem_nil _), (List.forall_mem_nil _), List.forall_mem_nil _, (List.forall_mem_nil _), (List.forall_mem_nil _), (List.forall_mem_nil _), (fun _ p _ => (List.forall_mem_nil _))⟩
theorem smaller_ok : ∃ f fd, FnOk g.P g.w g.K g.mg g.base (L2.CX g.P g.w) 2 f fd ["a", "b"] (spD g smaller_F) ∧ g.mg "smaller" = some (.ref f) ∧ PySem.W.keepIn g.K (.ref f) = true ∧ DefFd g "smaller" (topS 18) fd :=
  def_ok (N := ["a", "b"]) h.f_smaller (fnScope_by' (by decide +kernel)) (smaller_know h) (by decide +kernel)
theorem smaller_prm : Prm g 2 "smaller" smaller_F := def_prm (smaller_ok h) (fun _ _ _ _ _ _ us hl => match us, hl with | [_, _], _ => rfl)
theorem larger_know : Know g 1 larger_T := ⟨(fun _ => (List.forall_mem_cons.2 ⟨(below_prm h).mono (by decide), (List.forall_mem_nil _)⟩)), (fun z => Bool.noConfusion (show false = true from z)), (List.forall_mem_nil _), List.forall_mem_nil _, (List.forall_mem_nil _), (List.forall_mem_nil _), List.forall_mem_nil _, (List.forall_mem_nil _), (List.forall_mem_nil _), (List.forall_mem_nil _), (fun _ p _ => (List.forall_mem_nil _))⟩
theorem larger_ok : ∃ f fd, FnOk g.P g.w g.K g.mg g.base (L2.CX g.P g.w) 2 f fd ["a", "b"] (spD g larger_F) ∧ g.mg "larger" = some (.ref f) ∧ PySem.W.keepIn g.K (.ref f) = true ∧ DefFd g "larger" (topS 19) fd :=
  def_ok (N := ["a", "b"]) h.f_larger (fnScope_by' (by decide +kernel)) (larger_know h) (by decide +kernel)
theorem larger_prm : Prm g 2 "larger" larger_F := def_prm (larger_ok h) (fun _ _ _ _ _ _ us hl => match us, hl with | [_, _], _ => rfl)
theorem law_same_know : Know g 1 law_same_T := ⟨(fun _ => (List.forall_mem_cons.2 ⟨(law_is_whole_prm h).mono (by decide), (List.forall_mem_cons.2 ⟨(law_lowest_prm h).mono (by decide), (List.forall_mem_nil _)⟩)⟩)), (fun z => Bool.noConfusion (show false = true from z)), (List.forall_mem_nil _), List.forall_mem_nil _, (List.forall_mem_cons.2 ⟨h.b_isinstance, (List.forall_mem_cons.2 ⟨h.b_tuple, (List.forall_mem_cons.2 ⟨h.b_len, (List.forall_mem_nil _)⟩)⟩)⟩), (List.forall_mem_nil _), List.forall_mem_nil _, (List.forall_mem_nil _), (List.forall_mem_nil _), (List.forall_mem_nil _), (fun _ p _ => (List.forall_mem_nil _))⟩
theorem law_same_ok : ∃ f fd, FnOk g.P g.w g.K g.mg g.base (L2.CX g.P g.w) 2 f fd ["actual", "n", "d"] (spD g law_same_F) ∧ g.mg "_law_same" = some (.ref f) ∧ PySem.W.keepIn g.K (.ref f) = true ∧ DefFd g "_law_same" (topS 30) fd :=
  def_ok (N := ["actual", "n", "d"]) h.f_law_same (fnScope_by' (by decide +kernel)) (law_same_know h) (by decide +kernel)
theorem law_same_prm : Prm g 2 "_law_same" law_same_F := def_prm (law_same_ok h) (fun _ _ _ _ _ _ us hl => match us, hl with | [_, _, _], _ => rfl)
theorem law_rounded_know : Know g 1 law_rounded_T := ⟨(fun _ => (List.forall_mem_cons.2 ⟨(round_up_prm h).mono (by decide), (List.forall_mem_cons.2 ⟨(law_is_whole_prm h).mono (by decide), (List.forall_mem_cons.2 ⟨(law_lowest_prm h).mono (by decide), (List.forall_mem_nil _)⟩)⟩)⟩)), (fun z => Bool.noConfusion (show false = true from z)), (List.forall_mem_nil _), List.forall_mem_nil _, (List.forall_mem_nil _), (List.forall_mem_nil _), List.forall_mem_nil _, (List.forall_mem_nil _), (List.forall_mem_nil _), (List.forall_mem_nil _), (fun _ p _ => (List.forall_mem_nil _))⟩
theorem law_rounded_ok : ∃ f fd, FnOk g.P g.w g.K g.mg g.base (L2.CX g.P g.w) 2 f fd ["n", "d", "a"] (spD g law_rounded_F) ∧ g.mg "_law_rounded" = some (.ref f) ∧ PySem.W.keepIn g.K (.ref f) = true ∧ DefFd g "_law_rounded" (topS 36) fd :=
  def_ok (N := ["n", "d", "a", "k", "low"]) h.f_law_rounded (fnScope_by' (by decide +kernel)) (law_rounded_know h) (by decide +kernel)
theorem law_rounded_prm : Prm g 2 "_law_rounded" law_rounded_F := def_prm (law_rounded_ok h) (fun _ _ _ _ _ _ us hl => match us, hl with | [_, _, _], _ => rfl)
theorem middle_know : Know g 2 middle_T := ⟨(fun _ => (List.forall_mem_cons.2 ⟨(plus_prm h).mono (by decide), (List.forall_mem_cons.2 ⟨(times_prm h).mono (by decide), (List.forall_mem_nil _)⟩)⟩)), (fun z => Bool.noConfusion (show false = true from z)), (List.forall_mem_cons.2 ⟨h.c_HALF, (List.forall_mem_nil _)⟩), List.forall_mem_nil _, (List.forall_mem_nil _), (List.forall_mem_nil _), List.forall_mem_nil _, (List.forall_mem_nil _), (List.forall_mem_nil _), (List.forall_mem_nil _), (fun _ p _ => (List.forall_mem_nil _))⟩
theorem middle_ok : ∃ f fd, FnOk g.P g.w g.K g.mg g.base (L2.CX g.P g.w) 3 f fd ["a", "b"] (spD g middle_F) ∧ g.mg "middle" = some (.ref f) ∧ PySem.W.keepIn g.K (.ref f) = true ∧ DefFd g "middle" (topS 20) fd :=
  def_ok (N := ["a", "b"]) h.f_middle (fnScope_by' (by decide +kernel)) (middle_know h) (by decide +kernel)
theorem middle_prm : Prm g 3 "middle" middle_F := def_prm (middle_ok h) (fun _ _ _ _ _ _ us hl => match us, hl with | [_, _], _ => rfl)
theorem total_know : Know g 2 total_T := ⟨(fun _ => (List.forall_mem_cons.2 ⟨(plus_prm h).mono (by decide), (List.forall_mem_nil _)⟩)), (fun z => Bool.noConfusion (show false = true from z)), (List.forall_mem_cons.2 ⟨h.c_ZERO, (List.forall_mem_nil _)⟩), List.forall_mem_nil _, (List.forall_mem_nil _), (List.forall_mem_nil _), List.forall_mem_nil _, (List.forall_mem_nil _), (List.forall_mem_nil _), (List.forall_mem_nil _), (fun _ p _ => (List.forall_mem_nil _))⟩
theorem total_ok : ∃ f fd, FnOk g.P g.w g.K g.mg g.base (L2.CX g.P g.w) 3 f fd ["numbers"] (spD g total_F) ∧ g.mg "total" = some (.ref f) ∧ PySem.W.keepIn g.K (.ref f) = true ∧ DefFd g "total" (topS 21) fd :=
  def_ok (N := ["numbers", "result", "number"]) h.f_total (fnScope_by' (by decide +kernel)) (total_know h) (by decide +kernel)
theorem total_prm : Prm g 3 "total" total_F := def_prm (total_ok h) (fun _ _ _ _ _ _ us hl => match us, hl with | [_], _ => rfl)
theorem power_know : Know g 2 power_T := ⟨(fun _ => (List.forall_mem_cons.2 ⟨(times_prm h).mono (by decide), (List.forall_mem_nil _)⟩)), (fun z => Bool.noConfusion (show false = true from z)), (List.forall_mem_cons.2 ⟨h.c_ONE, (List.forall_mem_nil _)⟩), List.forall_mem_nil _, (List.forall_mem_cons.2 ⟨h.b_range, (List.forall_mem_nil _)⟩), (List.forall_mem_nil _), List.forall_mem_nil _, (List.forall_mem_nil _), (List.forall_mem_nil _), (List.forall_mem_nil _), (fun _ p _ => (List.forall_mem_nil _))⟩
theorem power_ok : ∃ f fd, FnOk g.P g.w g.K g.mg g.base (L2.CX g.P g.w) 3 f fd ["a", "k"] (spD g power_F) ∧ g.mg "power" = some (.ref f) ∧ PySem.W.keepIn g.K (.ref f) = true ∧ DefFd g "power" (topS 22) fd :=
  def_ok (N := ["a", "k", "result", "_"]) h.f_power (fnScope_by' (by decide +kernel)) (power_know h) (by decide +kernel)
theorem power_prm : Prm g 3 "power" power_F := def_prm (power_ok h) (fun _ _ _ _ _ _ us hl => match us, hl with | [_, _], _ => rfl)
theorem law_refusals_know : Know g 2 law_refusals_T := ⟨(fun _ => (List.forall_mem_cons.2 ⟨(frac_prm h).mono (by decide), (List.forall_mem_cons.2 ⟨(over_prm h).mono (by decide), (List.forall_mem_nil _)⟩)⟩)), (fun z => Bool.noConfusion (show false = true from z)), (List.forall_mem_nil _), List.forall_mem_nil _, (List.forall_mem_nil _), (List.forall_mem_nil _), List.forall_mem_nil _, (List.forall_mem_nil _), (List.forall_mem_cons.2 ⟨h.xh_0, (List.forall_mem_nil _)⟩), (List.forall_mem_nil _), (fun _ p _ => (List.forall_mem_cons.2 ⟨(law_due_errorH_prm h p).mono (by decide), (List.forall_mem_nil _)⟩))⟩
theorem law_refusals_ok : ∃ f fd, FnOk g.P g.w g.K g.mg g.base (L2.CX g.P g.w) 3 f fd ["n", "a"] (spD g law_refusals_F) ∧ g.mg "_law_refusals" = some (.ref f) ∧ PySem.W.keepIn g.K (.ref f) = true ∧ DefFd g "_law_refusals" (topS 33) fd :=
  def_ok (N := ["n", "a", "e"]) h.f_law_refusals (fnScope_by' (by decide +kernel)) (law_refusals_know h) (by decide +kernel)
theorem law_refusals_prm : Prm g 3 "_law_refusals" law_refusals_F := def_prm (law_refusals_ok h) (fun _ _ _ _ _ _ us hl => match us, hl with | [_, _], _ => rfl)
theorem law_order_know : Know g 2 law_order_T := ⟨(fun _ => (List.forall_mem_cons.2 ⟨(below_prm h).mono (by decide), (List.forall_mem_cons.2 ⟨(law_says_prm h).mono (by decide), (List.forall_mem_cons.2 ⟨(at_most_prm h).mono (by decide), (List.forall_mem_cons.2 ⟨(smaller_prm h).mono (by decide), (List.forall_mem_cons.2 ⟨(law_same_prm h).mono (by decide), (List.forall_mem_cons.2 ⟨(larger_prm h).mono (by decide), (List.forall_mem_nil _)⟩)⟩)⟩)⟩)⟩)⟩)), (fun z => Bool.noConfusion (show false = true from z)), (List.forall_mem_nil _), List.forall_mem_nil _, (List.forall_mem_nil _), (List.forall_mem_nil _), List.forall_mem_nil _, (List.forall_mem_nil _), (List.forall_mem_nil _), (List.forall_mem_nil _), (fun _ p _ => (List.forall_mem_nil _))⟩
theorem law_order_ok : ∃ f fd, FnOk g.P g.w g.K g.mg g.base (L2.CX g.P g.w) 3 f fd ["n", "d", "m", "e", "a", "b"] (spD g law_order_F) ∧ g.mg "_law_order" = some (.ref f) ∧ PySem.W.keepIn g.K (.ref f) = true ∧ DefFd g "_law_order" (topS 35) fd :=
  def_ok (N := ["n", "d", "m", "e", "a", "b", "lead", "low", "high"]) h.f_law_order (fnScope_by' (by decide +kernel)) (law_order_know h) (by decide +kernel)
theorem law_order_prm : Prm g 3 "_law_order" law_order_F := def_prm (law_order_ok h) (fun _ _ _ _ _ _ us hl => match us, hl with | [_, _, _, _, _, _], _ => rfl)
theorem law_sums_know : Know g 3 law_sums_T := ⟨(fun _ => (List.forall_mem_cons.2 ⟨(plus_prm h).mono (by decide), (List.forall_mem_cons.2 ⟨(law_same_prm h).mono (by decide), (List.forall_mem_cons.2 ⟨(minus_prm h).mono (by decide), (List.forall_mem_cons.2 ⟨(times_prm h).mono (by decide), (List.forall_mem_cons.2 ⟨(over_prm h).mono (by decide), (List.forall_mem_cons.2 ⟨(middle_prm h).mono (by decide), (List.forall_mem_nil _)⟩)⟩)⟩)⟩)⟩)⟩)), (fun z => Bool.noConfusion (show false = true from z)), (List.forall_mem_nil _), List.forall_mem_nil _, (List.forall_mem_nil _), (List.forall_mem_nil _), List.forall_mem_nil _, (List.forall_mem_nil _), (List.forall_mem_nil _), (List.forall_mem_nil _), (fun _ p _ => (List.forall_mem_nil _))⟩
theorem law_sums_ok : ∃ f fd, FnOk g.P g.w g.K g.mg g.base (L2.CX g.P g.w) 4 f fd ["n", "d", "m", "e", "a", "b"] (spD g law_sums_F) ∧ g.mg "_law_sums" = some (.ref f) ∧ PySem.W.keepIn g.K (.ref f) = true ∧ DefFd g "_law_sums" (topS 34) fd :=
  def_ok (N := ["n", "d", "m", "e", "a", "b"]) h.f_law_sums (fnScope_by' (by decide +kernel)) (law_sums_know h) (by decide +kernel)
theorem law_sums_prm : Prm g 4 "_law_sums" law_sums_F := def_prm (law_sums_ok h) (fun _ _ _ _ _ _ us hl => match us, hl with | [_, _, _, _, _, _], _ => rfl)
theorem law_powers_know : Know g 3 law_powers_T := ⟨(fun _ => (List.forall_mem_cons.2 ⟨(power_prm h).mono (by decide), (List.forall_mem_cons.2 ⟨(law_same_prm h).mono (by decide), (List.forall_mem_nil _)⟩)⟩)), (fun z => Bool.noConfusion (show false = true from z)), (List.forall_mem_nil _), List.forall_mem_nil _, (List.forall_mem_cons.2 ⟨h.b_range, (List.forall_mem_nil _)⟩), (List.forall_mem_nil _), List.forall_mem_nil _, (List.forall_mem_nil _), (List.forall_mem_nil _), (List.forall_mem_nil _), (fun _ p _ => (List.forall_mem_nil _))⟩
theorem law_powers_ok : ∃ f fd, FnOk g.P g.w g.K g.mg g.base (L2.CX g.P g.w) 4 f fd ["n", "d", "a"] (spD g law_powers_F) ∧ g.mg "_law_powers" = some (.ref f) ∧ PySem.W.keepIn g.K (.ref f) = true ∧ DefFd g "_law_powers" (topS 37) fd :=
  def_ok (N := ["n", "d", "a", "top", "bottom", "k"]) h.f_law_powers (fnScope_by' (by decide +kernel)) (law_powers_know h) (by decide +kernel)
theorem law_powers_prm : Prm g 4 "_law_powers" law_powers_F := def_prm (law_powers_ok h) (fun _ _ _ _ _ _ us hl => match us, hl with | [_, _, _], _ => rfl)
theorem law_lists_know : Know g 3 law_lists_T := ⟨(fun _ => (List.forall_mem_cons.2 ⟨(law_lowest_prm h).mono (by decide), (List.forall_mem_cons.2 ⟨(total_prm h).mono (by decide), (List.forall_mem_cons.2 ⟨(law_same_prm h).mono (by decide), (List.forall_mem_cons.2 ⟨(ascending_prm h).mono (by decide), (List.forall_mem_cons.2 ⟨(law_is_whole_prm h).mono (by decide), (List.forall_mem_cons.2 ⟨(law_sorted_prm h).mono (by decide), (List.forall_mem_nil _)⟩)⟩)⟩)⟩)⟩)⟩)), (fun z => Bool.noConfusion (show false = true from z)), (List.forall_mem_nil _), List.forall_mem_nil _, (List.forall_mem_cons.2 ⟨h.b_list, (List.forall_mem_cons.2 ⟨h.b_isinstance, (List.forall_mem_cons.2 ⟨h.b_tuple, (List.forall_mem_cons.2 ⟨h.b_len, (List.forall_mem_nil _)⟩)⟩)⟩)⟩), (List.forall_mem_nil _), List.forall_mem_nil _, (List.forall_mem_nil _), (List.forall_mem_nil _), (List.forall_mem_nil _), (fun _ p _ => (List.forall_mem_nil _))⟩
theorem law_lists_ok : ∃ f fd, FnOk g.P g.w g.K g.mg g.base (L2.CX g.P g.w) 4 f fd ["script", "numbers"] (spD g law_lists_F) ∧ g.mg "_law_lists" = some (.ref f) ∧ PySem.W.keepIn g.K (.ref f) = true ∧ DefFd g "_law_lists" (topS 39) fd :=
  def_ok (N := ["script", "numbers", "top", "bottom", "number", "handed", "told", "low"]) h.f_law_lists (fnScope_by' (by decide +kernel)) (law_lists_know h) (by decide +kernel)
theorem law_lists_prm : Prm g 4 "_law_lists" law_lists_F := def_prm (law_lists_ok h) (fun _ _ _ _ _ _ us hl => match us, hl with | [_, _], _ => rfl)
theorem law_know : Know g 4 law_T := ⟨(fun _ => (List.forall_mem_cons.2 ⟨(law_cell_prm h).mono (by decide), (List.forall_mem_cons.2 ⟨(law_whole_prm h).mono (by decide), (List.forall_mem_cons.2 ⟨(frac_prm h).mono (by decide), (List.forall_mem_cons.2 ⟨(law_same_prm h).mono (by decide), (List.forall_mem_cons.2 ⟨(frac_prmD1 h).mono (by decide), (List.forall_mem_cons.2 ⟨(law_lowest_prm h).mono (by decide), (List.forall_mem_cons.2 ⟨(law_refusals_prm h).mono (by decide), (List.forall_mem_cons.2 ⟨(law_sums_prm h).mono (by decide), (List.forall_mem_cons.2 ⟨(law_order_prm h).mono (by decide), (List.forall_mem_cons.2 ⟨(law_rounded_prm h).mono (by decide), (List.forall_mem_cons.2 ⟨(law_powers_prm h).mono (by decide), (List.forall_mem_cons.2 ⟨(law_lists_prm h).mono (by decide), (List.forall_mem_nil _)⟩)⟩)⟩)⟩)⟩)⟩)⟩)⟩)⟩)⟩)⟩)⟩)), (fun z => Bool.noConfusion (show false = true from z)), (List.forall_mem_cons.2 ⟨h.c_ZERO, (List.forall_mem_cons.2 ⟨h.c_ONE, (List.forall_mem_cons.2 ⟨h.c_HALF, (List.forall_mem_nil _)⟩)⟩)⟩), List.forall_mem_nil _, (List.forall_mem_cons.2 ⟨h.b_int, (List.forall_mem_nil _)⟩), (List.forall_mem_nil _), List.forall_mem_nil _, (List.forall_mem_nil _), (List.forall_mem_nil _), (List.forall_mem_nil _), (fun _ p _ => (List.forall_mem_nil _))⟩
theorem law_ok : ∃ f fd, FnOk g.P g.w g.K g.mg g.base (L2.CX g.P g.w) 5 f fd ["script"] (spD g law_F) ∧ g.mg "law" = some (.ref f) ∧ PySem.W.keepIn g.K (.ref f) = true ∧ DefFd g "law" (topS 40) fd :=
  def_ok (N := ["script", "n", "d", "m", "e", "a", "b", "numbers", "cell"]) h.f_law (fnScope_by' (by decide +kernel)) (law_know h) (by decide +kernel)
theorem law_prm : Prm g 5 "law" law_F := def_prm (law_ok h) (fun _ _ _ _ _ _ us hl => match us, hl with | [_], _ => rfl)
end
theorem all_mk {P : Program} {w : World} {K : PySem.W.Frag} {mg : Str → Option Value} {fa : Addr} (hfa : mg "law" = some (.ref fa))
    (f_frac : ∀ base, DefAtD ⟨P, w, K, mg, base, none⟩ "frac" (topS 11) [(.int 1)])
    (f_below : ∀ base, DefAt ⟨P, w, K, mg, base, none⟩ "below" (topS 16))
    (f_at_most : ∀ base, DefAt ⟨P, w, K, mg, base, none⟩ "at_most" (topS 17))
    (f_round_up : ∀ base, DefAt ⟨P, w, K, mg, base, none⟩ "round_up" (topS 23))
    (f_ascending : ∀ base, DefAt ⟨P, w, K, mg, base, none⟩ "ascending" (topS 24))
    (f_law_cell : ∀ base, DefAt ⟨P, w, K, mg, base, none⟩ "_law_cell" (topS 26))
    (f_law_whole : ∀ base, DefAt ⟨P, w, K, mg, base, none⟩ "_law_whole" (topS 27))
    (f_law_lowest : ∀ base, DefAt ⟨P, w, K, mg, base, none⟩ "_law_lowest" (topS 28))
    (f_law_is_whole : ∀ base, DefAt ⟨P, w, K, mg, base, none⟩ "_law_is_whole" (topS 29))
    (f_law_says : ∀ base, DefAt ⟨P, w, K, mg, base, none⟩ "_law_says" (topS 31))
    (f_law_due_error : ∀ base, DefAt ⟨P, w, K, mg, base, none⟩ "_law_due_error" (topS 32))
    (f_law_sorted : ∀ base, DefAt ⟨P, w, K, mg, base, none⟩ "_law_sorted" (topS 38))
    (f_plus : ∀ base, DefAt ⟨P, w, K, mg, base, none⟩ "plus" (topS 12))
    (f_minus : ∀ base, DefAt ⟨P, w, K, mg, base, none⟩ "minus" (topS 13))
    (f_times : ∀ base, DefAt ⟨P, w, K, mg, base, none⟩ "times" (topS 14))
    (f_over : ∀ base, DefAt ⟨P, w, K, mg, base, none⟩ "over" (topS 15))
    (f_smaller : ∀ base, DefAt ⟨P, w, K, mg, base, none⟩ "smaller" (topS 18))
    (f_larger : ∀ base, DefAt ⟨P, w, K, mg, base, none⟩ "larger" (topS 19))
    (f_law_same : ∀ base, DefAt ⟨P, w, K, mg, base, none⟩ "_law_same" (topS 30))
    (f_law_rounded : ∀ base, DefAt ⟨P, w, K, mg, base, none⟩ "_law_rounded" (topS 36))
    (f_middle : ∀ base, DefAt ⟨P, w, K, mg, base, none⟩ "middle" (topS 20))
    (f_total : ∀ base, DefAt ⟨P, w, K, mg, base, none⟩ "total" (topS 21))
    (f_power : ∀ base, DefAt ⟨P, w, K, mg, base, none⟩ "power" (topS 22))
    (f_law_refusals : ∀ base, DefAt ⟨P, w, K, mg, base, none⟩ "_law_refusals" (topS 33))
    (f_law_order : ∀ base, DefAt ⟨P, w, K, mg, base, none⟩ "_law_order" (topS 35))
    (f_law_sums : ∀ base, DefAt ⟨P, w, K, mg, base, none⟩ "_law_sums" (topS 34))
    (f_law_powers : ∀ base, DefAt ⟨P, w, K, mg, base, none⟩ "_law_powers" (topS 37))
    (f_law_lists : ∀ base, DefAt ⟨P, w, K, mg, base, none⟩ "_law_lists" (topS 39))
    (f_law : ∀ base, DefAt ⟨P, w, K, mg, base, none⟩ "law" (topS 40))
    (b_sorted : mg "sorted" = none)
    (b_len : mg "len" = none)
    (b_abs : mg "abs" = none)
    (b_int : mg "int" = none)
    (b_isinstance : mg "isinstance" = none)
    (b_bool : mg "bool" = none)
    (b_tuple : mg "tuple" = none)
    (b_range : mg "range" = none)
    (b_list : mg "list" = none)
    (m_gcd : mg "gcd" = some (.builtin "math.gcd"))
    (m_lcm : mg "lcm" = some (.builtin "math.lcm"))
    (c_HALF : ∀ base, Gcon ⟨P, w, K, mg, base, none⟩ "HALF" (.tup [(.int 1), (.int 2)]))
    (c_ZERO : ∀ base, Gcon ⟨P, w, K, mg, base, none⟩ "ZERO" (.tup [(.int 0), (.int 1)]))
    (c_ONE : ∀ base, Gcon ⟨P, w, K, mg, base, none⟩ "ONE" (.tup [(.int 1), (.int 1)]))
    (xc_BadNumber : ∀ base, XcOk ⟨P, w, K, mg, base, none⟩ "BadNumber")
    (xh_0 : ∀ base, XhOk ⟨P, w, K, mg, base, none⟩ "SettleError" [("BadNumber", true)])
    (xi_0 : ∀ base, XiOk ⟨P, w, K, mg, base, none⟩ "NoGain" [("BadNumber", false)])
    (xi_1 : ∀ base, XiOk ⟨P, w, K, mg, base, none⟩ "Outside" [("BadNumber", false)])
    (xi_2 : ∀ base, XiOk ⟨P, w, K, mg, base, none⟩ "TooMany" [("BadNumber", false)])
    (xi_3 : ∀ base, XiOk ⟨P, w, K, mg, base, none⟩ "BadNumber" [("BadNumber", true)])
    (xi_4 : ∀ base, XiOk ⟨P, w, K, mg, base, none⟩ "ValueError" [("BadNumber", true)])
    : ∃ fd, LawOk P w K mg 5 fa fd "script" law_F := by
  have F : ∀ base, TabAt ⟨P, w, K, mg, base, none⟩ → Facts ⟨P, w, K, mg, base, none⟩ := fun base tab => ⟨f_frac base, f_below base, f_at_most base, f_round_up base, f_ascending base, f_law_cell base, f_law_whole base, f_law_lowest base, f_law_is_whole base, f_law_says base, f_law_due_error base, f_law_sorted base, f_plus base, f_minus base, f_times base, f_over base, f_smaller base, f_larger base, f_law_same base, f_law_rounded base, f_middle base, f_total base, f_power base, f_law_refusals base, f_law_order base, f_law_sums base, f_law_powers base, f_law_lists base, f_law base, b_sorted, b_len, b_abs, b_int, b_isinstance, b_bool, b_tuple, b_range, b_list, m_gcd, m_lcm, c_HALF base, c_ZERO base, c_ONE base, xc_BadNumber base, xh_0 base, xi_0 base, xi_1 base, xi_2 base, xi_3 base, xi_4 base, tab⟩
  exact law_of (N := ["script", "n", "d", "m", "e", "a", "b", "numbers", "cell"]) (B := law_B) (T := law_T) hfa f_law (fnScope_by' (by decide +kernel)) (fun base tab => law_know (F base tab)) (by decide +kernel) rfl rfl (fun _ _ _ _ _ _ us hl => match us, hl with | [_], _ => rfl)
end Pg
/-! # F2: what fracs.py computes -/
namespace Pg
open PySem Rf
theorem gcd_div {n d : Int} (hd : d ≠ 0) (hz : d.natAbs < 2 ^ 8900) : okDiv ((Nat.gcd n.natAbs d.natAbs : Nat) : Int) = true ∧ okDiv (-((Nat.gcd n.natAbs d.natAbs : Nat) : Int)) = true := by
  have hg : 0 < Nat.gcd n.natAbs d.natAbs := Nat.gcd_pos_of_pos_right _ (Int.natAbs_pos.mpr hd)
  have hl : Nat.gcd n.natAbs d.natAbs < 2 ^ 8900 := Nat.lt_of_le_of_lt (Nat.gcd_le_right _ (Int.natAbs_pos.mpr hd)) hz
  exact ⟨okDiv_of (n := 8900) (by rw [Int.natAbs_natCast]; exact hl) (by omega) (by decide), okDiv_of (n := 8900) (by rw [Int.natAbs_neg, Int.natAbs_natCast]; exact hl) (by omega) (by decide)⟩
theorem frac_v (n d : Int) (hd : d ≠ 0) (hz : d.natAbs < 2 ^ 8900) : frac_F [.int n, .int d] = .ok (fq ((n : Rat) / d)) := by
  obtain ⟨g1, g2⟩ := gcd_div (n := n) hd hz
  by_cases h : d < 0
  · obtain ⟨p1, p2⟩ := parts_gcd n d hd _ (by rw [if_pos h])
    rw [fq, p1, p2]
    simp [frac_F, runFn, frac_B, hd, h, bop_fdiv g2]
  · obtain ⟨p1, p2⟩ := parts_gcd n d hd _ (by rw [if_neg h])
    rw [fq, p1, p2]
    simp [frac_F, runFn, frac_B, hd, h, bop_fdiv g1]
theorem frac_e (n : Int) : frac_F [.int n, .int 0] = .err ⟨"BadNumber", []⟩ := by
  simp [frac_F, runFn, frac_B]
section
variable {j k : Nat} {a b : Rat}
theorem mulA (ha : Sz j a) (hb : Sz k b) (h : j + k ≤ 8800) (hj : 0 < j := by omega) (hk : 0 < k := by omega) :
    okMul a.num b.den = true ∧ okMul b.num a.den = true ∧ okMul a.den b.den = true ∧ okMul a.num b.num = true ∧ okMul a.den b.num = true :=
  ⟨okMul_of ha.1 hb.den_na (by omega) hj hk, okMul_of hb.1 ha.den_na (by omega) hk hj, okMul_of ha.den_na hb.den_na (by omega) hj hk, okMul_of ha.1 hb.1 (by omega) hj hk, okMul_of ha.den_na hb.1 (by omega) hj hk⟩
theorem Sz.pos (ha : Sz k a) : 0 < k := by
  rcases Nat.eq_zero_or_pos k with h | h
  · subst h
    have := ha.2
    have := a.den_pos
    simp at *
    omega
  · exact h
theorem dd_lt (ha : Sz j a) (hb : Sz k b) (h : j + k ≤ 8800) : ((a.den : Int) * b.den).natAbs < 2 ^ 8900 :=
  Nat.lt_of_lt_of_le (mul_na ha.den_na hb.den_na) (Nat.pow_le_pow_right (by decide) (by omega))
theorem plus_v (ha : Sz j a) (hb : Sz k b) (h : j + k ≤ 8800) : plus_F [fq a, fq b] = .ok (fq (a + b)) := by
  obtain ⟨m1, m2, m3, _, _⟩ := mulA ha hb h (Sz.pos ha) (Sz.pos hb)
  have e := frac_v (a.num * b.den + b.num * a.den) (a.den * b.den) (Int.mul_ne_zero (den_ne a) (den_ne b)) (dd_lt ha hb h)
  rw [← add_eq] at e
  simp [plus_F, runFn, plus_B, bop_mul m1, bop_mul m2, bop_mul m3, e]
theorem minus_v (ha : Sz j a) (hb : Sz k b) (h : j + k ≤ 8800) : minus_F [fq a, fq b] = .ok (fq (a - b)) := by
  obtain ⟨m1, m2, m3, _, _⟩ := mulA ha hb h (Sz.pos ha) (Sz.pos hb)
  have e := frac_v (a.num * b.den - b.num * a.den) (a.den * b.den) (Int.mul_ne_zero (den_ne a) (den_ne b)) (dd_lt ha hb h)
  rw [← sub_eq] at e
  simp [minus_F, runFn, minus_B, bop_mul m1, bop_mul m2, bop_mul m3, e]
theorem times_v (ha : Sz j a) (hb : Sz k b) (h : j + k ≤ 8800) : times_F [fq a, fq b] = .ok (fq (a * b)) := by
  obtain ⟨m1, m2, m3, m4, _⟩ := mulA ha hb h (Sz.pos ha) (Sz.pos hb)
  have e := frac_v (a.num * b.num) (a.den * b.den) (Int.mul_ne_zero (den_ne a) (den_ne b)) (dd_lt ha hb h)
  rw [← mul_eq] at e
  simp [times_F, runFn, times_B, bop_mul m3, bop_mul m4, e]
theorem over_v (ha : Sz j a) (hb : Sz k b) (h : j + k ≤ 8800) (h0 : b ≠ 0) : over_F [fq a, fq b] = .ok (fq (a / b)) := by
  obtain ⟨m1, m2, m3, m4, m5⟩ := mulA ha hb h (Sz.pos ha) (Sz.pos hb)
  have e := frac_v (a.num * b.den) (a.den * b.num) (Int.mul_ne_zero (den_ne a) (num_ne h0)) (Nat.lt_of_lt_of_le (mul_na ha.den_na hb.1) (Nat.pow_le_pow_right (by decide) (by omega)))
  rw [← div_eq] at e
  simp [over_F, runFn, over_B, num_ne h0, bop_mul m1, bop_mul m5, e]
theorem over_e (a : Rat) : over_F [fq a, fq 0] = .err ⟨"BadNumber", []⟩ := by
  simp [over_F, runFn, over_B]
theorem below_v (ha : Sz j a) (hb : Sz k b) (h : j + k ≤ 8800) : below_F [fq a, fq b] = .ok (.bl (decide (a < b))) := by
  obtain ⟨m1, m2, _, _, _⟩ := mulA ha hb h (Sz.pos ha) (Sz.pos hb)
  simp [below_F, runFn, below_B, bop_mul m1, bop_mul m2, Rat.lt_iff]
theorem at_most_v (ha : Sz j a) (hb : Sz k b) (h : j + k ≤ 8800) : at_most_F [fq a, fq b] = .ok (.bl (decide (a ≤ b))) := by
  obtain ⟨m1, m2, _, _, _⟩ := mulA ha hb h (Sz.pos ha) (Sz.pos hb)
  simp [at_most_F, runFn, at_most_B, bop_mul m1, bop_mul m2, Rat.le_iff]
theorem smaller_v (ha : Sz j a) (hb : Sz k b) (h : j + k ≤ 8800) : smaller_F [fq a, fq b] = .ok (fq (if b < a then b else a)) := by
  have e := below_v hb ha (by omega)
  by_cases c : b < a
  · simp [smaller_F, runFn, smaller_B, e, c]
  · simp [smaller_F, runFn, smaller_B, e, c]
theorem larger_v (ha : Sz j a) (hb : Sz k b) (h : j + k ≤ 8800) : larger_F [fq a, fq b] = .ok (fq (if a < b then b else a)) := by
  have e := below_v ha hb (by omega)
  by_cases c : a < b
  · simp [larger_F, runFn, larger_B, e, c]
  · simp [larger_F, runFn, larger_B, e, c]
theorem middle_v (ha : Sz j a) (hb : Sz k b) (h : j + k ≤ 7800) : middle_F [fq a, fq b] = .ok (fq ((a + b) * (1 / 2))) := by
  have e := plus_v ha hb (by omega)
  have e2 := times_v (ha.add hb) Sz.half (by omega)
  simp [middle_F, runFn, middle_B, e, e2]
end
end Pg
/-! # F3: lists of fractions, lowest terms -/
namespace Pg
open PySem Rf
theorem low_L : ∀ (b a : Nat) (n d : D) (x : Option Sl), a < 2 ^ 8900 → b < 2 ^ 8900 → ∃ x', ex law_lowest_T law_lowest_L1 [some (.v n), some (.v d), some (.v (.int (a : Int))), some (.v (.int (b : Int))), x] =
    .nx [some (.v n), some (.v d), some (.v (.int ((Nat.gcd a b : Nat) : Int))), some (.v (.int 0)), x'] := by
  intro b
  induction b using Nat.strongRecOn with
  | _ b ih =>
    intro a n d x ha hb
    rw [law_lowest_L1, ex_while, whileS_eq]
    rcases Nat.eq_zero_or_pos b with h0 | h0
    · subst h0
      exact ⟨x, by simp⟩
    · have hd : okDiv (b : Int) = true := okDiv_of (n := 8900) (by rw [Int.natAbs_natCast]; exact hb) (by omega) (by decide)
      have hq : ((a : Int)).fdiv b = ((a / b : Nat) : Int) := by rw [Int.fdiv_eq_ediv_of_nonneg _ (by omega)]; rfl
      have hm : okMul ((a / b : Nat) : Int) (b : Int) = true := okMul_of (m := 8900) (n := 8900) (by rw [Int.natAbs_natCast]; exact Nat.lt_of_le_of_lt (Nat.div_le_self a b) ha) (by rw [Int.natAbs_natCast]; exact hb) (by decide)
      have hs : (a : Int) - ((a / b : Nat) : Int) * b = ((a % b : Nat) : Int) := by
        have := Nat.div_add_mod a b
        have : (b : Int) * ((a / b : Nat) : Int) + ((a % b : Nat) : Int) = a := by exact_mod_cast this
        rw [Int.mul_comm]; omega
      obtain ⟨x', e⟩ := ih (a % b) (Nat.mod_lt _ h0) b n d (some (.v (.int ((a % b : Nat) : Int)))) hb (Nat.lt_trans (Nat.mod_lt _ h0) hb)
      refine ⟨x', ?_⟩
      have hc : evT law_lowest_T (.cmp .gt (.var 3) (.int 0)) [some (.v n), some (.v d), some (.v (.int (a : Int))), some (.v (.int (b : Int))), x] = .ok true := by simp; omega
      have hw : ex law_lowest_T law_lowest_W1 [some (.v n), some (.v d), some (.v (.int (a : Int))), some (.v (.int (b : Int))), x] = .nx [some (.v n), some (.v d), some (.v (.int (b : Int))), some (.v (.int ((a % b : Nat) : Int))), some (.v (.int ((a % b : Nat) : Int)))] := by
        simp only [law_lowest_W1, ex_cons, ex_asg, ev_bin, ev_var, getV_zero, getV_succ, R.bind_ok, bop_fdiv hd, hq, bop_mul hm, bop_sub, hs, Out.of_ok, setT_name, List.set, andThen_nx, ex_nil]
      rw [hc, hw]
      have e' : whileS (evT law_lowest_T (.cmp .gt (.var 3) (.int 0))) (ex law_lowest_T law_lowest_W1) [some (.v n), some (.v d), some (.v (.int (b : Int))), some (.v (.int ((a % b : Nat) : Int))), some (.v (.int ((a % b : Nat) : Int)))] = _ := e
      rw [Nat.gcd_comm a b, Nat.gcd_rec b a, Nat.gcd_comm (a % b) b]
      exact e'
theorem law_lowest_v (n d : Int) (hd : d ≠ 0) (hn : n.natAbs < 2 ^ 8900) (hz : d.natAbs < 2 ^ 8900) : law_lowest_F [.int n, .int d] = .ok (fq ((n : Rat) / d)) := by
  obtain ⟨g1, _⟩ := gcd_div (n := n) hd hz
  have ha : ∀ n : Int, (if n < 0 then -n else n) = (n.natAbs : Int) := fun n => by split <;> omega
  by_cases h : d < 0
  · obtain ⟨p1, p2⟩ := parts_gcd n d hd _ (by rw [if_pos h])
    rw [fq, p1, p2]
    obtain ⟨x', e⟩ := low_L d.natAbs n.natAbs (.int (-n)) (.int (-d)) none hn hz
    have hdn : (d.natAbs : Int) = -d := by omega
    rw [hdn] at e
    have hnn : (n.natAbs : Int) = ((-n).natAbs : Int) := by rw [Int.natAbs_neg]
    rw [hnn] at e
    have ha2 : (if 0 < n then n else -n) = ((-n).natAbs : Int) := by split <;> omega
    have f : ∀ x y : Int, (-x).fdiv y = x.fdiv (-y) := fun x y => by rw [← Int.neg_fdiv_neg, Int.neg_neg]
    simp [law_lowest_F, runFn, law_lowest_B, h, ha2, -Int.natAbs_neg, e, bop_fdiv g1, f]
  · obtain ⟨p1, p2⟩ := parts_gcd n d hd _ (by rw [if_neg h])
    rw [fq, p1, p2]
    obtain ⟨x', e⟩ := low_L d.natAbs n.natAbs (.int n) (.int d) none hn hz
    have hdn : (d.natAbs : Int) = d := by omega
    rw [hdn] at e
    simp [law_lowest_F, runFn, law_lowest_B, h, ha, e, bop_fdiv g1]
/-- the sum of a list -/
def sumQ : List Rat → Rat
  | [] => 0
  | q :: qs => q + sumQ qs
theorem sumQ_append (xs ys : List Rat) : sumQ (xs ++ ys) = sumQ xs + sumQ ys := by
  induction xs with
  | nil => simp [sumQ, Rat.zero_add]
  | cons a xs ih => simp [sumQ, ih, Rat.add_assoc]
theorem evI_lst {T : Tb} {i : Nat} {env : Rf.Env} {xs : List D} (h : getV env i = .ok (.lst xs)) : evI T (.cons (.var i) .nil) env = .ok xs := by simp [h]
theorem sz_sum {k : Nat} : ∀ {qs : List Rat}, (∀ q ∈ qs, Sz k q) → Sz (qs.length * (k + 1) + 1) (sumQ qs)
  | [], _ => by simpa [sumQ] using Sz.zero
  | q :: qs, h => by
    have h1 := (h q (List.mem_cons_self ..)).add (sz_sum fun x hx => h x (List.mem_cons_of_mem _ hx))
    refine h1.mono ?_
    rw [List.length_cons, Nat.add_mul]; omega
theorem total_v {k : Nat} (qs : List Rat) (h : ∀ q ∈ qs, Sz k q) (hk : (qs.length + 1) * (k + 1) ≤ 8800) : total_F [.lst (qs.map fq)] = .ok (fq (sumQ qs)) := by
  obtain ⟨env', e1, x, rfl⟩ := ex_for_run fq (T := total_T) (t := .name 2) (it := .cons (.var 0) .nil) (body := total_W1)
      (env := [some (.v (.lst (qs.map fq))), some (.v (fq 0)), none]) qs
      (fun a env => ∃ x, env = [some (.v (.lst (qs.map fq))), some (.v (fq (sumQ a))), x])
      (evI_lst (by simp)) ⟨none, rfl⟩ (by
        rintro a b c env hl ⟨x, rfl⟩
        refine ⟨_, rfl, _, .inl ?_, some (.v (fq b)), rfl⟩
        have hla : a.length + 1 ≤ qs.length := by rw [hl]; simp
        have s1 := sz_sum (k := k) (qs := a) fun q hq => h q (by rw [hl]; simp [hq])
        have s2 : Sz k b := h b (by rw [hl]; simp)
        have hz : a.length * (k + 1) + 1 + k ≤ 8800 := by
          have : (a.length + 1) * (k + 1) ≤ (qs.length + 1) * (k + 1) := Nat.mul_le_mul_right _ (by omega)
          rw [Nat.add_mul] at this
          omega
        have e := plus_v s1 s2 hz
        simp [total_W1, e, sumQ_append, sumQ, Rat.add_zero])
  have e2 : ex total_T total_L1 [some (.v (.lst (qs.map fq))), some (.v (fq 0)), none] = _ := e1
  simp [total_F, runFn, total_B, e2]
theorem power_v {k : Nat} {q : Rat} (h : Sz k q) (m : Nat) (hm : m ≤ 1000) (hk : (m + 1) * k ≤ 8800) : power_F [fq q, .int (m : Int)] = .ok (fq (q ^ m)) := by
  have hk0 := Sz.pos h
  obtain ⟨env', e1, r, x, rfl, _, hr⟩ := ex_for_run (fun i : Nat => D.int (i : Int)) (T := power_T) (t := .name 3) (it := .rng1 (.var 1)) (body := power_W1)
      (env := [some (.v (fq q)), some (.v (.int (m : Int))), some (.v (fq 1)), none]) (List.range m)
      (fun a env => ∃ r x, env = [some (.v (fq q)), some (.v (.int (m : Int))), some (.v (fq r)), x] ∧ Sz (a.length * k + 1) r ∧ r = q ^ a.length)
      (evI_rng1_nat (by simp) (by omega)) ⟨1, none, rfl, Sz.one.mono (by omega), by simp⟩ (by
        rintro a b c env hl ⟨r, x, rfl, hs, hr⟩
        have hla : a.length + 1 ≤ m := by
          have := congrArg List.length hl
          simp at this
          omega
        have hz : a.length * k + 1 + k ≤ 8800 := by
          have : (a.length + 1) * k ≤ (m + 1) * k := Nat.mul_le_mul_right _ (by omega)
          have : (m + 1) * k = m * k + k := by rw [Nat.add_mul]; omega
          have : (a.length + 1) * k = a.length * k + k := by rw [Nat.add_mul]; omega
          have : (a.length + 1) * k ≤ m * k := Nat.mul_le_mul_right _ hla
          omega
        have e := times_v hs h hz
        refine ⟨_, rfl, [some (.v (fq q)), some (.v (.int (m : Int))), some (.v (fq (r * q))), some (.v (.int (b : Int)))], .inl (by simp [power_W1, e]), r * q, some (.v (.int (b : Int))), rfl, (hs.mul h).mono ?_, ?_⟩
        · rw [List.length_append, Nat.add_mul]; simp; omega
        · rw [List.length_append, hr]; exact (Rat.pow_succ q a.length).symm)
  rw [List.length_range] at hr
  subst hr
  have e2 : ex power_T power_L1 [some (.v (fq q)), some (.v (.int (m : Int))), some (.v (fq 1)), none] = .nx [some (.v (fq q)), some (.v (.int (m : Int))), some (.v (fq (q ^ m))), x] := by rw [power_L1]; exact e1
  have e3 : ex power_T power_B [some (.v (fq q)), some (.v (.int (m : Int))), none, none] = .rt (fq (q ^ m)) := by
    rw [power_B, ex_cons, ex_asg, ev_glob, power_gl0]
    simp only [Out.of_ok, setT_name, fq_one, List.set, andThen_nx, ex_cons, e2]
    simp only [ex_ret, ev_var, getV_zero, getV_succ, Out.of_ok, andThen_rt]
  have e4 := runFn_out (np := 2) (nn := 4) (T := power_T) (B := power_B) (ds := [fq q, .int (m : Int)]) (env := [some (.v (fq q)), some (.v (.int (m : Int))), none, none]) (o := .rt (fq (q ^ m))) rfl (by rfl) e3
  rw [power_F, e4, outR_rt]
end Pg
/-! # F4: round_up, ascending -/
namespace Pg
open PySem Rf
theorem round_up_v {k : Nat} {q : Rat} (h : Sz k q) (hk : k ≤ 8800) : round_up_F [fq q] = .ok (.int (-((-q.num).fdiv q.den))) := by
  have d : okDiv (q.den : Int) = true := okDiv_of h.den_na (den_ne q) (by omega) (Sz.pos h)
  simp [round_up_F, runFn, round_up_B, bop_fdiv d]
/-- in ascending order -/
def sortQ (qs : List Rat) : List Rat := qs.mergeSort fun a b => decide (a ≤ b)
theorem bi_lcm {i j : Int} (h : okLcm i j = true) : biF .lcm [.int i, .int j] = .ok (.int (Nat.lcm i.natAbs j.natAbs : Nat)) := by simp [biF, h]
theorem okLcm_of {i j : Int} {m n : Nat} (hi : i.natAbs < 2 ^ m) (hj : j.natAbs < 2 ^ n) (hm : m ≤ 12900) (hn : n ≤ 12900) (h0 : 0 < m) (h1 : 0 < n) : okLcm i j = true := by
  have x := PySem.Flt.log2_lt_of h0 hi
  have y := PySem.Flt.log2_lt_of h1 hj
  unfold okLcm
  rw [Bool.and_eq_true]
  exact ⟨decide_eq_true (by omega), decide_eq_true (by omega)⟩
theorem lcm_pos {c d : Nat} (hc : 0 < c) (hd : 0 < d) : 0 < Nat.lcm c d := Nat.lcm_pos hc hd
theorem keyA_fq {c : Nat} {q : Rat} (h : q.den ∣ c) : ((keyA (c : Int) (fq q) : Int) : Rat) = q * c := by
  obtain ⟨e, rfl⟩ := h
  have hd : (0 : Int) < q.den := den_pos q
  have e1 : (((q.den * e : Nat) : Int)).fdiv (q.den : Int) = e := by
    rw [Int.natCast_mul, Int.mul_fdiv_cancel_left _ (by omega)]
  simp only [keyA, fq, e1]
  have e2 : q * (q.den : Rat) = q.num := by
    have := rat_eq q
    have hn : ((q.den : Int) : Rat) ≠ 0 := by
      intro z
      have : ((q.den : Int) : Rat).num = 0 := by rw [z]; rfl
      rw [Rat.num_intCast] at this
      omega
    have e3 : ((q.den : Int) : Rat) = (q.den : Rat) := rfl
    rw [e3] at this hn
    grind
  have e4 : ((q.den * e : Nat) : Rat) = (q.den : Rat) * (e : Rat) := by push_cast; rfl
  rw [e4, ← Rat.mul_assoc, e2]
  push_cast
  rfl
theorem leA_fq {c : Nat} {a b : Rat} (hc : 0 < c) (ha : a.den ∣ c) (hb : b.den ∣ c) : leA (c : Int) (fq a) (fq b) = decide (a ≤ b) := by
  unfold leA
  refine decide_eq_decide.mpr ?_
  have h1 := keyA_fq ha
  have h2 := keyA_fq hb
  have hp : (0 : Rat) < (c : Rat) := by exact_mod_cast hc
  have e : keyA (c : Int) (fq a) ≤ keyA (c : Int) (fq b) ↔ a * c ≤ b * c := by
    rw [← h1, ← h2]
    exact Rat.intCast_le_intCast.symm
  rw [e]
  constructor
  · intro h
    rcases Rat.le_total (a := a) (b := b) with z | z
    · exact z
    · by_cases y : a = b
      · rw [y]; exact Rat.le_refl
      · have : b < a := Rat.lt_of_le_of_ne z (fun q => y q.symm)
        have := Rat.mul_lt_mul_of_pos_right this hp
        grind
  · intro h
    exact Rat.mul_le_mul_of_nonneg_right h (Rat.le_of_lt hp)
theorem sort_fq {c : Nat} (hc : 0 < c) (qs : List Rat) (h : ∀ q ∈ qs, q.den ∣ c) : (qs.map fq).mergeSort (leA (c : Int)) = (sortQ qs).map fq := by
  unfold sortQ
  rw [List.map_mergeSort]
  intro a ha b hb
  exact (leA_fq hc (h a ha) (h b hb)).symm
theorem okKeyA_fq {k m : Nat} {c : Nat} {q : Rat} (h : Sz k q) (hk : k ≤ 8800) (hc : 0 < c) (hcm : c < 2 ^ m) (hm : m ≤ 20000) (hm0 : 0 < m) (hd : q.den ∣ c) : okKeyA (c : Int) (fq q) = true := by
  have d : okDiv (q.den : Int) = true := okDiv_of h.den_na (den_ne q) (by omega) (Sz.pos h)
  obtain ⟨e, rfl⟩ := hd
  have e1 : (((q.den * e : Nat) : Int)).fdiv (q.den : Int) = e := by
    rw [Int.natCast_mul, Int.mul_fdiv_cancel_left _ (den_ne q)]
  have he : e < 2 ^ m := Nat.lt_of_le_of_lt (Nat.le_mul_of_pos_left _ q.den_pos) hcm
  have mm : okMul q.num (e : Int) = true := okMul_of h.1 (by rw [Int.natAbs_natCast]; exact he) (by omega) (Sz.pos h) hm0
  rw [Int.natCast_mul] at e1
  simp [okKeyA, fq, d, e1, mm]
theorem ascending_v {k : Nat} (qs : List Rat) (h : ∀ q ∈ qs, Sz k q) (hk : k ≤ 8800) (hl : qs.length * k + 1 ≤ 12000) : ascending_F [.lst (qs.map fq)] = .ok (.lst ((sortQ qs).map fq)) := by
  rcases Nat.eq_zero_or_pos qs.length with h0 | h0
  · have : qs = [] := List.length_eq_zero_iff.mp h0
    subst this
    have e2 : ex ascending_T ascending_L1 [some (.v (.lst [])), some (.v (.int 1)), none] = .nx [some (.v (.lst [])), some (.v (.int 1)), none] := by
      rw [ascending_L1, ex_for]; simp
    simp [ascending_F, runFn, ascending_B, e2, sortA, sortQ]
  · have kp : 0 < k := by
      match qs, h0 with
      | q :: r, _ => exact Sz.pos (h q (by simp))
    obtain ⟨env', e1, c, x, rfl, hc, hcl, hdv⟩ := ex_for_run fq (T := ascending_T) (t := .name 2) (it := .cons (.var 0) .nil) (body := ascending_W1)
      (env := [some (.v (.lst (qs.map fq))), some (.v (.int 1)), none]) qs
      (fun a env => ∃ (c : Nat) (x : Option Sl), env = [some (.v (.lst (qs.map fq))), some (.v (.int (c : Int))), x] ∧ 0 < c ∧ c < 2 ^ (a.length * k + 1) ∧ ∀ q ∈ a, q.den ∣ c)
      (evI_lst (by simp)) ⟨1, none, rfl, by decide, by simp, by simp⟩ (by
        rintro a b cc env hq ⟨c, x, rfl, h1, h2, h3⟩
        have hla : a.length + 1 ≤ qs.length := by rw [hq]; simp
        have hb : Sz k b := h b (by rw [hq]; simp)
        have hz : a.length * k + 1 + k ≤ 12000 := by
          have : (a.length + 1) * k ≤ qs.length * k := Nat.mul_le_mul_right _ hla
          rw [Nat.add_mul] at this
          omega
        have ok1 : okLcm (c : Int) (b.den : Int) = true := okLcm_of (m := a.length * k + 1) (n := k) (by rw [Int.natAbs_natCast]; exact h2) hb.den_na (by omega) (by omega) (by omega) kp
        have e : biF .lcm [.int (c : Int), .int (b.den : Int)] = .ok (.int ((Nat.lcm c b.den : Nat) : Int)) := by rw [bi_lcm ok1]; rfl
        refine ⟨_, rfl, [some (.v (.lst (qs.map fq))), some (.v (.int ((Nat.lcm c b.den : Nat) : Int))), some (.v (fq b))], .inl (by simp [ascending_W1, e]), Nat.lcm c b.den, some (.v (fq b)), rfl, lcm_pos h1 b.den_pos, ?_, fun q hq' => ?_⟩
        · have l1 : Nat.lcm c b.den ≤ c * b.den := Nat.div_le_self _ _
          refine Nat.lt_of_le_of_lt l1 (Nat.lt_of_lt_of_le (Sz.pow_mul h2 hb.2) (Nat.pow_le_pow_right (by decide) ?_))
          rw [List.length_append, Nat.add_mul]; simp; omega
        · rcases List.mem_append.mp hq' with z | z
          · exact Nat.dvd_trans (h3 q z) (Nat.dvd_lcm_left _ _)
          · rw [List.mem_singleton.mp z]; exact Nat.dvd_lcm_right _ _)
    have e2 : ex ascending_T ascending_L1 [some (.v (.lst (qs.map fq))), some (.v (.int 1)), none] = .nx [some (.v (.lst (qs.map fq))), some (.v (.int (c : Int))), x] := by rw [ascending_L1]; exact e1
    have ok : (qs.map fq).all (okKeyA (c : Int)) = true := by
      rw [List.all_eq_true]
      intro d hd
      obtain ⟨q, hq, rfl⟩ := List.mem_map.mp hd
      exact okKeyA_fq (h q hq) hk hc hcl (by omega) (by omega) (hdv q hq)
    have e3 : sortA (.lst (qs.map fq)) (.int (c : Int)) = .ok (.lst ((sortQ qs).map fq)) := by
      simp only [sortA, ok, if_true, sort_fq hc qs hdv]
    simp [ascending_F, runFn, ascending_B, e2, e3]
end Pg
namespace Pg
open PySem Rf
theorem is_whole_v (i : Int) : law_is_whole_F [.int i] = .ok (.bl true) := by simp [law_is_whole_F, runFn, law_is_whole_B, isiB]
theorem says_v (b c : Bool) : law_says_F [.bl b, .bl c] = .ok (.bl (decide (b = c))) := by simp [law_says_F, runFn, law_says_B, isiB]
theorem same_v (x : Rat) (n d : Int) (hd : d ≠ 0) (hn : n.natAbs < 2 ^ 8900) (hz : d.natAbs < 2 ^ 8900) : law_same_F [fq x, .int n, .int d] = .ok (.bl (decide (x = (n : Rat) / d))) := by
  simp [law_same_F, runFn, law_same_B, is_whole_v, law_lowest_v n d hd hn hz]
theorem due_v : law_due_errorH_F [.exc "BadNumber" []] = .ok (.bl true) := by
  simp [law_due_errorH_F, runFn, law_due_errorH_B, isxD]
theorem refusals_v (n : Int) (a : Rat) : law_refusals_F [.int n, fq a] = .ok (.bl true) := by
  have e1 := frac_e n
  have e2 := over_e a
  have hx : capt [(("SettleError" : Str), [(("BadNumber" : Str), true)])] 0 "BadNumber" = some true := by decide +kernel
  have hn : noXE [some (.v (.int n)), some (.v (fq a)), none] = true := by simp [noXE, noX, noXs, fq]
  have hb : noX (.bl true) = true := rfl
  simp [law_refusals_F, runFn, law_refusals_B, e1, e2, due_v, hx, afterS, hn, hb]
theorem cell_ints (ns : List Int) (k : Nat) : law_cell_F [.lst (ns.map D.int), .int (k : Int)] = .ok (.int (ns.getD k 0)) := by
  by_cases c : k < ns.length
  · have h := ixD_nat (xs := ns.map D.int) (i := k) (d := .int (ns.getD k 0)) (by simp [c])
    have : (k : Int) < (ns.length : Int) := by omega
    simp [law_cell_F, runFn, law_cell_B, h, this]
  · have : ¬ (k : Int) < (ns.length : Int) := by omega
    simp [law_cell_F, runFn, law_cell_B, this, List.getD, List.getElem?_eq_none (Nat.le_of_not_lt c)]
theorem whole_v (z : Int) : ∃ w : Int, w.natAbs < 2 ^ 133 ∧ law_whole_F [.int z] = .ok (.int w) := by
  have p6 : bop .pow (.int 10) (.int 6) = .ok (.int 1000000) := by rw [bop_pow (by decide)]; rfl
  have p40 : bop .pow (.int 10) (.int 40) = .ok (.int 10000000000000000000000000000000000000000) := by rw [bop_pow (by decide)]; rfl
  have m : okMul 2 10000000000000000000000000000000000000000 = true := by decide
  generalize hr : (if z < 0 then -z else z) = r
  by_cases c : r < 1000000
  · have a1 := Int.fmod_nonneg_of_pos z (show (0 : Int) < 41 by decide)
    have a2 := Int.fmod_lt_of_pos z (show (0 : Int) < 41 by decide)
    exact ⟨z.fmod 41 - 20, by omega, by simp [law_whole_F, runFn, law_whole_B, hr, p6, c, bop_mod]⟩
  · have a1 := Int.fmod_nonneg_of_pos z (show (0 : Int) < 19999999999999999999999999999999999999999 by decide)
    have a2 := Int.fmod_lt_of_pos z (show (0 : Int) < 19999999999999999999999999999999999999999 by decide)
    exact ⟨z.fmod 19999999999999999999999999999999999999999 - 10000000000000000000000000000000000000000 + 1, by omega, by simp [law_whole_F, runFn, law_whole_B, hr, p6, p40, c, bop_mod, bop_mul m]⟩
end Pg
namespace Pg
open PySem Rf
theorem cast_ne {d : Int} (h : d ≠ 0) : (d : Rat) ≠ 0 := by exact_mod_cast h
theorem b_of {x : Int} {k : Nat} (h : x.natAbs < 2 ^ k) (hk : k ≤ 8900) : x.natAbs < 2 ^ 8900 := Nat.lt_of_lt_of_le h (Nat.pow_le_pow_right (by decide) hk)
section
variable {n d m e : Int} (hn : n.natAbs < 2 ^ 133) (hd : d.natAbs < 2 ^ 133) (hm : m.natAbs < 2 ^ 133) (he : e.natAbs < 2 ^ 133) (d0 : d ≠ 0) (e0 : e ≠ 0)
include hn hd hm he d0 e0
theorem sums_v : law_sums_F [.int n, .int d, .int m, .int e, fq ((n : Rat) / d), fq ((m : Rat) / e)] = .ok (.bl true) := by
  have sa : Sz 133 ((n : Rat) / d) := Sz.div_int hn hd d0
  have sb : Sz 133 ((m : Rat) / e) := Sz.div_int hm he e0
  have dq := cast_ne d0
  have eq := cast_ne e0
  have m1 : okMul n e = true := okMul_of hn he (by decide)
  have m2 : okMul m d = true := okMul_of hm hd (by decide)
  have m3 : okMul d e = true := okMul_of hd he (by decide)
  have m4 : okMul n m = true := okMul_of hn hm (by decide)
  have m5 : okMul d m = true := okMul_of hd hm (by decide)
  have m6 : okMul 2 d = true := okMul_of (m := 2) (by decide) hd (by decide)
  have b2d : (2 * d).natAbs < 2 ^ 134 := by have := two_pow 133; omega
  have m7 : okMul (2 * d) e = true := okMul_of b2d he (by decide)
  have de0 : d * e ≠ 0 := Int.mul_ne_zero d0 e0
  have bne := mul_na hn he
  have bmd := mul_na hm hd
  have bde := mul_na hd he
  have bnm := mul_na hn hm
  have bdm := mul_na hd hm
  have b2de := mul_na b2d he
  have s1 := same_v ((n : Rat) / d + (m : Rat) / e) (n * e + m * d) (d * e) de0 (b_of (sum_lt bne bmd).1 (by decide)) (b_of bde (by decide))
  have s2 := same_v ((n : Rat) / d - (m : Rat) / e) (n * e - m * d) (d * e) de0 (b_of (sum_lt bne bmd).2 (by decide)) (b_of bde (by decide))
  have s3 := same_v ((n : Rat) / d * ((m : Rat) / e)) (n * m) (d * e) de0 (b_of bnm (by decide)) (b_of bde (by decide))
  have s5 := same_v (((n : Rat) / d + (m : Rat) / e) * (1 / 2)) (n * e + m * d) (2 * d * e) (Int.mul_ne_zero (Int.mul_ne_zero (by decide) d0) e0) (b_of (sum_lt bne bmd).1 (by decide)) (b_of b2de (by decide))
  have t1 : (n : Rat) / d + (m : Rat) / e = ((n * e + m * d : Int) : Rat) / ((d * e : Int) : Rat) := by push_cast; grind
  have t2 : (n : Rat) / d - (m : Rat) / e = ((n * e - m * d : Int) : Rat) / ((d * e : Int) : Rat) := by push_cast; grind
  have t3 : (n : Rat) / d * ((m : Rat) / e) = ((n * m : Int) : Rat) / ((d * e : Int) : Rat) := by push_cast; grind
  have t5 : ((n : Rat) / d + (m : Rat) / e) * (1 / 2) = ((n * e + m * d : Int) : Rat) / ((2 * d * e : Int) : Rat) := by push_cast; grind
  rw [decide_eq_true t1] at s1
  rw [decide_eq_true t2] at s2
  rw [decide_eq_true t3] at s3
  rw [decide_eq_true t5] at s5
  have p1 := plus_v sa sb (by decide)
  have p2 := minus_v sa sb (by decide)
  have p3 := times_v sa sb (by decide)
  have p5 := middle_v sa sb (by decide)
  by_cases m0 : m = 0
  · have c0 : cop .ne (.int m) (.int 0) = .ok (.bl false) := by rw [cop_ne_int, decide_eq_true m0]; rfl
    simp [-cop_ne_int, c0, law_sums_F, runFn, law_sums_B, bop_mul m1, bop_mul m2, bop_mul m3, bop_mul m4, bop_mul m5, bop_mul m6, bop_mul m7, p1, p2, p3, p5, s1, s2, s3, s5]
  · have b0 : (m : Rat) / e ≠ 0 := by
      have := cast_ne m0
      intro z
      apply this
      have : (m : Rat) = (m : Rat) / e * e := by grind
      rw [this, z, Rat.zero_mul]
    have p4 := over_v sa sb (by decide) b0
    have s4 := same_v ((n : Rat) / d / ((m : Rat) / e)) (n * e) (d * m) (Int.mul_ne_zero d0 m0) (b_of bne (by decide)) (b_of bdm (by decide))
    have mq := cast_ne m0
    have t4 : (n : Rat) / d / ((m : Rat) / e) = ((n * e : Int) : Rat) / ((d * m : Int) : Rat) := by push_cast; grind
    rw [decide_eq_true t4] at s4
    simp [law_sums_F, runFn, law_sums_B, bop_mul m1, bop_mul m2, bop_mul m3, bop_mul m4, bop_mul m5, bop_mul m6, bop_mul m7, p1, p2, p3, p4, p5, s1, s2, s3, s4, s5, m0]
theorem order_v : law_order_F [.int n, .int d, .int m, .int e, fq ((n : Rat) / d), fq ((m : Rat) / e)] = .ok (.bl true) := by
  have sa : Sz 133 ((n : Rat) / d) := Sz.div_int hn hd d0
  have sb : Sz 133 ((m : Rat) / e) := Sz.div_int hm he e0
  have dq := cast_ne d0
  have eq := cast_ne e0
  have m1 : okMul n e = true := okMul_of hn he (by decide)
  have m2 : okMul m d = true := okMul_of hm hd (by decide)
  have bl : (n * e - m * d).natAbs < 2 ^ 267 := (sum_lt (mul_na hn he) (mul_na hm hd)).2
  have m3 : okMul (n * e - m * d) d = true := okMul_of bl hd (by decide)
  have bl2 := mul_na bl hd
  have m4 : okMul ((n * e - m * d) * d) e = true := okMul_of bl2 he (by decide)
  generalize hL : (n * e - m * d) * d * e = L at *
  have key : (L : Rat) = ((n : Rat) / d - (m : Rat) / e) * ((d : Rat) * e * (d * e)) := by rw [← hL]; push_cast; grind
  have sq : (0 : Rat) < (d : Rat) * e * (d * e) := by
    have h : (0 : Int) < (d * e) * (d * e) := by
      have h0 : d * e ≠ 0 := Int.mul_ne_zero d0 e0
      rcases Int.lt_or_gt_of_ne h0 with z | z
      · exact Int.mul_pos_of_neg_of_neg z z
      · exact Int.mul_pos z z
    exact_mod_cast h
  generalize ha : (n : Rat) / d = a at *
  generalize hb : (m : Rat) / e = b at *
  generalize hs : (d : Rat) * e * (d * e) = S at *
  have l1 : L < 0 ↔ a < b := by
    have : L < 0 ↔ (L : Rat) < 0 := by exact_mod_cast Iff.rfl
    rw [this, key]
    constructor
    · intro h
      rcases Rat.le_total (a := b) (b := a) with z | z
      · have : 0 ≤ (a - b) * S := Rat.mul_nonneg (by grind) (Rat.le_of_lt sq)
        grind
      · by_cases y : a = b
        · rw [y] at h; grind
        · exact Rat.lt_of_le_of_ne z y
    · intro h
      have : 0 < (b - a) * S := Rat.mul_pos (by grind) sq
      grind
  have l2 : 0 < L ↔ b < a := by
    have : 0 < L ↔ 0 < (L : Rat) := by exact_mod_cast Iff.rfl
    rw [this, key]
    constructor
    · intro h
      rcases Rat.le_total (a := a) (b := b) with z | z
      · have : 0 ≤ (b - a) * S := Rat.mul_nonneg (by grind) (Rat.le_of_lt sq)
        grind
      · by_cases y : a = b
        · rw [y] at h; grind
        · exact Rat.lt_of_le_of_ne z (fun q => y q.symm)
    · intro h
      exact Rat.mul_pos (by grind) sq
  have l3 : L ≤ 0 ↔ a ≤ b := by
    rw [← Int.not_lt, l2, Rat.not_lt]
  have p1 := below_v sa sb (by decide)
  have p2 := at_most_v sa sb (by decide)
  have p3 := below_v sa sa (by decide)
  have p4 := at_most_v sa sa (by decide)
  have p5 := smaller_v sa sb (by decide)
  have p6 := larger_v sa sb (by decide)
  have c1 : decide (L < 0) = decide (a < b) := decide_eq_decide.mpr l1
  have c2 : decide (L ≤ 0) = decide (a ≤ b) := decide_eq_decide.mpr l3
  have c3 : decide (0 < L) = decide (b < a) := decide_eq_decide.mpr l2
  have w1 : decide (a < a) = false := by simp [Rat.lt_irrefl]
  have w2 : decide (a ≤ a) = true := by simp [Rat.le_refl]
  rw [w1] at p3
  rw [w2] at p4
  have sn : ∀ x, law_same_F [fq x, .int n, .int d] = .ok (.bl (decide (x = a))) := fun x => by rw [same_v x n d d0 (b_of hn (by decide)) (b_of hd (by decide)), ha]
  have sm : ∀ x, law_same_F [fq x, .int m, .int e] = .ok (.bl (decide (x = b))) := fun x => by rw [same_v x m e e0 (b_of hm (by decide)) (b_of he (by decide)), hb]
  by_cases z : b < a
  · have z1 : ¬ a < b := by grind
    have z2 : ¬ a ≤ b := by grind
    simp only [z, z1, z2, decide_true, decide_false, if_true, if_false] at *
    simp [law_order_F, runFn, law_order_B, bop_mul m1, bop_mul m2, bop_mul m3, bop_mul m4, hL, p1, p2, p3, p4, p5, p6, c1, c2, c3, says_v, sn, sm]
  · have z1 : a ≤ b := by grind
    by_cases y : a < b
    · simp only [z, z1, y, decide_true, decide_false, if_true, if_false] at *
      simp [law_order_F, runFn, law_order_B, bop_mul m1, bop_mul m2, bop_mul m3, bop_mul m4, hL, p1, p2, p3, p4, p5, p6, c1, c2, c3, says_v, sn, sm]
    · have ab : a = b := by grind
      have sma := sm a
      rw [decide_eq_true ab] at sma
      simp only [z, z1, y, decide_true, decide_false, if_true, if_false] at *
      simp [law_order_F, runFn, law_order_B, bop_mul m1, bop_mul m2, bop_mul m3, bop_mul m4, hL, p1, p2, p3, p4, p5, p6, c1, c2, c3, says_v, sn, sma]
end
end Pg
namespace Pg
open PySem Rf
theorem rounded_v {n d : Int} (hn : n.natAbs < 2 ^ 133) (hd : d.natAbs < 2 ^ 133) (d0 : d ≠ 0) : law_rounded_F [.int n, .int d, fq ((n : Rat) / d)] = .ok (.bl true) := by
  have sa : Sz 133 ((n : Rat) / d) := Sz.div_int hn hd d0
  have e1 := round_up_v sa (by decide)
  have e2 := law_lowest_v n d d0 (b_of hn (by decide)) (b_of hd (by decide))
  generalize (n : Rat) / d = a at *
  have dp := den_pos a
  generalize hk : -((-a.num).fdiv a.den) = k at *
  have f1 := Int.mul_fdiv_add_fmod (-a.num) a.den
  have f2 := Int.fmod_nonneg_of_pos (-a.num) dp
  have f3 := Int.fmod_lt_of_pos (-a.num) dp
  have hk' : (-a.num).fdiv a.den = -k := by omega
  rw [hk'] at f1
  have c1 : a.num ≤ k * a.den := by
    have : (a.den : Int) * -k = -(k * a.den) := by rw [Int.mul_neg, Int.mul_comm]
    omega
  have c2 : (k - 1) * a.den < a.num := by
    have : (a.den : Int) * -k = -(k * a.den) := by rw [Int.mul_neg, Int.mul_comm]
    have : (k - 1) * (a.den : Int) = k * a.den - a.den := by rw [Int.sub_mul, Int.one_mul]
    omega
  have bk : k.natAbs < 2 ^ 135 := by
    have h1 : (-k).natAbs ≤ (-a.num).natAbs := by rw [← hk']; exact Int.natAbs_fdiv_le_natAbs (-a.num) ↑a.den
    have := sa.1
    rw [Int.natAbs_neg, Int.natAbs_neg] at h1
    exact Nat.lt_of_le_of_lt h1 (Nat.lt_trans this (by decide))
  have m1 : okMul k a.den = true := okMul_of bk sa.den_na (by decide)
  have m2 : okMul (k - 1) a.den = true := okMul_of (m := 136) (by have := two_pow 135; omega) sa.den_na (by decide)
  simp [law_rounded_F, runFn, law_rounded_B, e1, e2, is_whole_v, bop_mul m1, bop_mul m2, c1, c2]
theorem pow_div {n d : Int} (d0 : d ≠ 0) (k : Nat) : ((n : Rat) / d) ^ k = ((n ^ k : Int) : Rat) / ((d ^ k : Int) : Rat) := by
  induction k with
  | zero =>
    rw [Rat.pow_zero, Int.pow_zero, Int.pow_zero]
    decide +kernel
  | succ i ih =>
    have dq := cast_ne d0
    have dn : ((d ^ i : Int) : Rat) ≠ 0 := cast_ne (Int.pow_ne_zero d0)
    rw [Rat.pow_succ, ih, Int.pow_succ, Int.pow_succ, Rat.intCast_mul, Rat.intCast_mul]
    generalize ((d ^ i : Int) : Rat) = x at *
    generalize ((n ^ i : Int) : Rat) = y at *
    grind
theorem powers_v {n d : Int} (hn : n.natAbs < 2 ^ 133) (hd : d.natAbs < 2 ^ 133) (d0 : d ≠ 0) : law_powers_F [.int n, .int d, fq ((n : Rat) / d)] = .ok (.bl true) := by
  have sa : Sz 133 ((n : Rat) / d) := Sz.div_int hn hd d0
  generalize ha : (n : Rat) / d = a at *
  obtain ⟨env', e1, top, bot, x, rfl, _⟩ := ex_for_run (fun i : Nat => D.int (i : Int)) (T := law_powers_T) (t := .name 5) (it := .rng1 (.int 7)) (body := law_powers_W1)
      (env := [some (.v (.int n)), some (.v (.int d)), some (.v (fq a)), some (.v (.int 1)), some (.v (.int 1)), none]) (List.range 7)
      (fun l env => ∃ (top bot : Int) (x : Option Sl), env = [some (.v (.int n)), some (.v (.int d)), some (.v (fq a)), some (.v (.int top)), some (.v (.int bot)), x] ∧ top = n ^ l.length ∧ bot = d ^ l.length ∧ top.natAbs < 2 ^ (l.length * 133 + 1) ∧ bot.natAbs < 2 ^ (l.length * 133 + 1))
      (evI_rng1_nat (n := 7) (by simp) (by decide)) ⟨1, 1, none, rfl, by simp, by simp, by decide, by decide⟩ (by
        rintro l b c env hl ⟨top, bot, x, rfl, h1, h2, h3, h4⟩
        have hb : b = l.length := by
          have h := congrArg (fun z => z[l.length]?) hl
          simp at h
          have hlen := congrArg List.length hl
          simp at hlen
          rw [List.getElem?_range (by omega)] at h
          exact (Option.some.inj h).symm
        subst hb
        have hlen := congrArg List.length hl
        simp at hlen
        have h7 : l.length ≤ 6 := by omega
        have m1 : okMul top n = true := okMul_of h3 hn (by omega) (by omega)
        have m2 : okMul bot d = true := okMul_of h4 hd (by omega) (by omega)
        have pw := power_v sa l.length (by omega) (by omega)
        have bz : bot ≠ 0 := by rw [h2]; exact Int.pow_ne_zero d0
        have sm := same_v (a ^ l.length) top bot bz (b_of h3 (by omega)) (b_of h4 (by omega))
        have ee : a ^ l.length = (top : Rat) / bot := by
          rw [h1, h2, ← ha]; exact pow_div d0 _
        rw [decide_eq_true ee] at sm
        clear ee
        generalize a ^ l.length = q at pw sm
        refine ⟨_, rfl, [some (.v (.int n)), some (.v (.int d)), some (.v (fq a)), some (.v (.int (top * n))), some (.v (.int (bot * d))), some (.v (.int (l.length : Int)))], .inl ?_, top * n, bot * d, _, rfl, ?_, ?_, ?_, ?_⟩
        · simp [law_powers_W1, pw, sm, bop_mul m1, bop_mul m2]
        · rw [h1, List.length_append]; exact (Int.pow_succ n _).symm
        · rw [h2, List.length_append]; exact (Int.pow_succ d _).symm
        · have := mul_na h3 hn
          refine Nat.lt_of_lt_of_le this (Nat.pow_le_pow_right (by decide) ?_)
          rw [List.length_append]; simp; omega
        · have := mul_na h4 hd
          refine Nat.lt_of_lt_of_le this (Nat.pow_le_pow_right (by decide) ?_)
          rw [List.length_append]; simp; omega)
  have e2 : ex law_powers_T law_powers_L1 [some (.v (.int n)), some (.v (.int d)), some (.v (fq a)), some (.v (.int 1)), some (.v (.int 1)), none] = .nx [some (.v (.int n)), some (.v (.int d)), some (.v (fq a)), some (.v (.int top)), some (.v (.int bot)), x] := by rw [law_powers_L1]; exact e1
  simp [law_powers_F, runFn, law_powers_B, e2]
end Pg
namespace Pg
open PySem Rf
/-- the place of q in the list R, looked for from k downwards -/
theorem sorted_L1 {K : Nat} {nums : D} {q : Rat} {R : List Rat} (hK : K ≤ 4000) (hR : ∀ r ∈ R, Sz K r) (hq : Sz K q) : ∀ k : Nat, k ≤ R.length → ∃ k' : Nat, k' ≤ k ∧ ex law_sorted_T law_sorted_L1 [some (.v nums), some (.v (.lst (R.map fq))), some (.v (fq q)), some (.v (.int (k : Int)))] =
    .nx [some (.v nums), some (.v (.lst (R.map fq))), some (.v (fq q)), some (.v (.int (k' : Int)))] ∧ (k' = 0 ∨ ∃ r, R[k' - 1]? = some r ∧ r ≤ q) ∧ ∀ i, k' ≤ i → i < k → ∃ r, R[i]? = some r ∧ q < r := by
  intro k
  induction k with
  | zero =>
    intro _
    refine ⟨0, Nat.le_refl _, ?_, .inl rfl, fun i h1 h2 => by omega⟩
    rw [law_sorted_L1, ex_while, whileS_eq]
    simp
  | succ k ih =>
    intro hk
    have hr : R[k]? = some R[k] := List.getElem?_eq_getElem (by omega)
    have hs : Sz K R[k] := hR _ (List.getElem_mem _)
    have ix : ixD (.lst (R.map fq)) (.int (k : Int)) = .ok (fq R[k]) := ixD_nat (by simp [hr])
    have e1 : ((k + 1 : Nat) : Int) - 1 = (k : Int) := by omega
    obtain ⟨m1, m2, _, _, _⟩ := mulA hq hs (by omega) (Sz.pos hq) (Sz.pos hs)
    have hc : evT law_sorted_T (.and (.cmp .gt (.var 3) (.int 0)) (.cmp .lt (.bin .mul (.ix (.var 2) (.int 0)) (.ix (.ix (.var 1) (.bin .sub (.var 3) (.int 1))) (.int 1))) (.bin .mul (.ix (.ix (.var 1) (.bin .sub (.var 3) (.int 1))) (.int 0)) (.ix (.var 2) (.int 1)))))
        [some (.v nums), some (.v (.lst (R.map fq))), some (.v (fq q)), some (.v (.int ((k + 1 : Nat) : Int)))] = .ok (decide (q < R[k])) := by
      have h0 : (0 : Int) < ((k + 1 : Nat) : Int) := by omega
      simp only [evT_and, evT_cmp, ev_var, getV_zero, getV_succ, ev_int, Rf.R.bind_ok, cop_gt, decide_eq_true h0, asB_bl, if_true, ev_bin, ev_ix, bop_sub, e1, ix, ix_fq0, ix_fq1, bop_mul m1, bop_mul m2, cop_lt, Rat.lt_iff]
    by_cases c : q < R[k]
    · obtain ⟨k', h1, h2, h3, h4⟩ := ih (by omega)
      refine ⟨k', by omega, ?_, h3, fun i i1 i2 => ?_⟩
      · rw [law_sorted_L1, ex_while, whileS_eq, hc, decide_eq_true c]
        have hw : ex law_sorted_T law_sorted_W1 [some (.v nums), some (.v (.lst (R.map fq))), some (.v (fq q)), some (.v (.int ((k + 1 : Nat) : Int)))] = .nx [some (.v nums), some (.v (.lst (R.map fq))), some (.v (fq q)), some (.v (.int (k : Int)))] := by
          simp only [law_sorted_W1, ex_cons, ex_asg, ev_bin, ev_var, ev_int, getV_zero, getV_succ, Rf.R.bind_ok, bop_sub, e1, Out.of_ok, setT_name, List.set, andThen_nx, ex_nil]
        rw [hw]
        rw [law_sorted_L1, ex_while] at h2
        exact h2
      · rcases Nat.lt_or_ge i k with z | z
        · exact h4 i i1 z
        · obtain rfl : i = k := by omega
          exact ⟨_, hr, c⟩
    · refine ⟨k + 1, Nat.le_refl _, ?_, .inr ⟨_, by simpa using hr, Rat.not_lt.mp c⟩, fun i h1 h2 => by omega⟩
      rw [law_sorted_L1, ex_while, whileS_eq, hc, decide_eq_false c]
theorem insert_sorted {q : Rat} {R : List Rat} (hs : R.Pairwise (· ≤ ·)) {k' : Nat} (hk : k' ≤ R.length) (h1 : k' = 0 ∨ ∃ r, R[k' - 1]? = some r ∧ r ≤ q) (h2 : ∀ i, k' ≤ i → i < R.length → ∃ r, R[i]? = some r ∧ q < r) :
    (R.take k' ++ [q] ++ R.drop k').Pairwise (· ≤ ·) ∧ (R.take k' ++ [q] ++ R.drop k').Perm (R ++ [q]) := by
  constructor
  · have ht : (R.take k').Pairwise (· ≤ ·) := hs.sublist (List.take_sublist _ _)
    have hd : (R.drop k').Pairwise (· ≤ ·) := hs.sublist (List.drop_sublist _ _)
    have a1 : ∀ x ∈ R.take k', x ≤ q := by
      intro x hx
      rcases h1 with rfl | ⟨r, hr, hrq⟩
      · simp at hx
      · obtain ⟨i, hi, rfl⟩ := List.getElem_of_mem hx
        rw [List.getElem_take]
        have hi' : i < k' := by rw [List.length_take] at hi; omega
        obtain ⟨hl, rfl⟩ := List.getElem?_eq_some_iff.mp hr
        refine Rat.le_trans ?_ hrq
        rcases Nat.lt_or_ge i (k' - 1) with z | z
        · exact List.pairwise_iff_getElem.mp hs i (k' - 1) _ hl z
        · have : i = k' - 1 := by omega
          subst this; exact Rat.le_refl
    have a2 : ∀ x ∈ R.drop k', q ≤ x := by
      intro x hx
      obtain ⟨i, hi, rfl⟩ := List.getElem_of_mem hx
      rw [List.getElem_drop]
      rw [List.length_drop] at hi
      obtain ⟨r, hr, hqr⟩ := h2 (k' + i) (by omega) (by omega)
      obtain ⟨hl, rfl⟩ := List.getElem?_eq_some_iff.mp hr
      exact Rat.le_of_lt hqr
    rw [List.append_assoc, List.pairwise_append]
    refine ⟨ht, List.pairwise_append.mpr ⟨by simp, hd, fun a ha b hb => ?_⟩, fun a ha b hb => ?_⟩
    · rw [List.mem_singleton.mp ha]; exact a2 b hb
    · rcases List.mem_append.mp hb with hb | hb
      · rw [List.mem_singleton.mp hb]; exact a1 a ha
      · exact Rat.le_trans (a1 a ha) (a2 b hb)
  · have : (R ++ [q]).Perm (R.take k' ++ R.drop k' ++ [q]) := by rw [List.take_append_drop]
    refine List.Perm.symm (this.trans ?_)
    rw [List.append_assoc, List.append_assoc]
    exact List.Perm.append_left _ List.perm_append_comm
theorem sorted_v {K : Nat} (qs : List Rat) (hK : K ≤ 4000) (h : ∀ q ∈ qs, Sz K q) (hl : qs.length ≤ 1000) : law_sorted_F [.lst (qs.map fq)] = .ok (.lst ((sortQ qs).map fq)) := by
  obtain ⟨env', e1, R, x, y, rfl, hs, hp⟩ := ex_for_run fq (T := law_sorted_T) (t := .name 2) (it := .cons (.var 0) .nil) (body := law_sorted_W2)
      (env := [some (.v (.lst (qs.map fq))), some (.v (.lst [])), none, none]) qs
      (fun a env => ∃ (R : List Rat) (x y : Option Sl), env = [some (.v (.lst (qs.map fq))), some (.v (.lst (R.map fq))), x, y] ∧ R.Pairwise (· ≤ ·) ∧ R.Perm a)
      (evI_lst (by simp)) ⟨[], none, none, rfl, by simp, .refl _⟩ (by
        rintro a b c env hq ⟨R, x, y, rfl, hs, hp⟩
        have hR : ∀ r ∈ R, Sz K r := fun r hr => h r (by rw [hq]; simp [hp.mem_iff.mp hr])
        have hb : Sz K b := h b (by rw [hq]; simp)
        obtain ⟨k', k1, k2, k3, k4⟩ := sorted_L1 (nums := .lst (qs.map fq)) hK hR hb R.length (Nat.le_refl _)
        obtain ⟨i1, i2⟩ := insert_sorted hs k1 k3 k4
        have lR : R.length ≤ 1000 := by
          rw [hp.length_eq]
          have := congrArg List.length hq
          simp at this
          omega
        have s1 := slD_to (R.map fq) k'
        have s2 := slD_from (R.map fq) k'
        have c1 : bop .add (.lst ((R.map fq).take k')) (.lst [fq b]) = .ok (.lst ((R.map fq).take k' ++ [fq b])) := bop_cat (by simp; omega)
        have c2 : bop .add (.lst ((R.map fq).take k' ++ [fq b])) (.lst ((R.map fq).drop k')) = .ok (.lst ((R.map fq).take k' ++ [fq b] ++ (R.map fq).drop k')) := bop_cat (by simp; omega)
        have e3 : (R.map fq).take k' ++ [fq b] ++ (R.map fq).drop k' = (R.take k' ++ [b] ++ R.drop k').map fq := by simp
        rw [e3] at c2
        have p1 : partD (.int (k' : Int)) = .ok (some (k' : Int)) := rfl
        refine ⟨_, rfl, [some (.v (.lst (qs.map fq))), some (.v (.lst ((R.take k' ++ [b] ++ R.drop k').map fq))), some (.v (fq b)), some (.v (.int (k' : Int)))], .inl ?_, R.take k' ++ [b] ++ R.drop k', _, _, rfl, i1, i2.trans (hp.append_right _)⟩
        have e0 : ([some (Sl.v (.lst (qs.map fq))), some (.v (.lst (R.map fq))), x, y] : Rf.Env).set 2 (some (.v (fq b))) = [some (.v (.lst (qs.map fq))), some (.v (.lst (R.map fq))), some (.v (fq b)), y] := rfl
        have lk : ev law_sorted_T (.bi .len (.cons (.var 1) .nil)) [some (.v (.lst (qs.map fq))), some (.v (.lst (R.map fq))), some (.v (fq b)), y] = .ok (.int (R.length : Int)) := by simp
        rw [e0, law_sorted_W2]
        simp only [ex_cons, ex_asg, lk, Out.of_ok, setT_name, List.set, andThen_nx, k2, ev_bin, ev_sl, ev_var, ev_lst, evs_cons, evs_nil, getV_zero, getV_succ, Rf.R.bind_ok, evP_nil, evP_cons, p1, s1, s2, c1, c2, okLen_small (show [fq b].length ≤ 16777216 by simp), if_true, ex_nil])
  have e2 : ex law_sorted_T law_sorted_L2 [some (.v (.lst (qs.map fq))), some (.v (.lst [])), none, none] = _ := e1
  have e4 : R = sortQ qs := by
    have s2 : (sortQ qs).Pairwise (· ≤ ·) := by
      have := List.pairwise_mergeSort (le := fun a b : Rat => decide (a ≤ b)) (fun a b c h1 h2 => by simp at *; exact Rat.le_trans h1 h2) (fun a b => by simp; exact Rat.le_total) qs
      simpa [sortQ] using this
    exact List.Perm.eq_of_pairwise (fun a b _ _ h1 h2 => Rat.le_antisymm h1 h2) hs s2 (hp.trans (List.mergeSort_perm _ _).symm)
  rw [e4] at e2
  simp [law_sorted_F, runFn, law_sorted_B, e2]
end Pg
namespace Pg
open PySem Rf
theorem okN_fqs (qs : List Rat) : okN 2 (.lst (qs.map fq)) = true := by simp [okN, fq]
theorem nice_fqs (xs ys : List Rat) : nice 2 (.lst (xs.map fq)) (.lst (ys.map fq)) = true := by
  simp only [nice, List.all_eq_true]
  rintro ⟨x, y⟩ h
  obtain ⟨h1, h2⟩ := List.of_mem_zip h
  obtain ⟨a, _, rfl⟩ := List.mem_map.mp h1
  obtain ⟨b, _, rfl⟩ := List.mem_map.mp h2
  exact nice_fq 0 a b
theorem fqs_inj {xs ys : List Rat} : xs.map fq = ys.map fq ↔ xs = ys := List.map_inj_right fun a b h => fq_inj h
theorem eqD_fqs (xs ys : List Rat) : eqD (.lst (xs.map fq)) (.lst (ys.map fq)) = .ok (decide (xs = ys)) := by
  rw [eqD_of (okN_fqs xs) (okN_fqs ys) (nice_fqs xs ys)]
  congr 1
  exact decide_eq_decide.mpr ⟨fun h => fqs_inj.mp (by injection h), fun h => by rw [h]⟩
theorem lists_L1 {script : D} (qs : List Rat) (h : ∀ q ∈ qs, Sz 134 q) (hl : qs.length ≤ 61) : ∃ x y, ex law_lists_T law_lists_L1 [some (.v script), some (.v (.lst (qs.map fq))), some (.v (.int 0)), some (.v (.int 1)), none, none, none, none] =
    .nx [some (.v script), some (.v (.lst (qs.map fq))), some (.v (.int (sumQ qs).num)), some (.v (.int ((sumQ qs).den : Int))), x, none, none, y] := by
  obtain ⟨env', e1, x, y, rfl⟩ := ex_for_run fq (T := law_lists_T) (t := .name 4) (it := .cons (.var 1) .nil) (body := law_lists_W1)
      (env := [some (.v script), some (.v (.lst (qs.map fq))), some (.v (.int 0)), some (.v (.int 1)), none, none, none, none]) qs
      (fun a env => ∃ (x y : Option Sl), env = [some (.v script), some (.v (.lst (qs.map fq))), some (.v (.int (sumQ a).num)), some (.v (.int ((sumQ a).den : Int))), x, none, none, y])
      (evI_lst (by simp)) ⟨none, none, rfl⟩ (by
        rintro a b c env hq ⟨x, y, rfl⟩
        have hla : a.length + 1 ≤ 61 := by
          have := congrArg List.length hq
          simp at this
          omega
        have s1 := sz_sum (k := 134) (qs := a) fun q hq' => h q (by rw [hq]; simp [hq'])
        have s2 : Sz 134 b := h b (by rw [hq]; simp)
        have s1 : Sz 8110 (sumQ a) := s1.mono (by omega)
        obtain ⟨m1, m2, m3, _, _⟩ := mulA s1 s2 (by decide) (by decide) (by decide)
        have sa := (s1.add s2)
        have lw := law_lowest_v ((sumQ a).num * b.den + b.num * (sumQ a).den) ((sumQ a).den * b.den) (Int.mul_ne_zero (den_ne _) (den_ne b))
          (b_of (sum_lt (mul_na s1.1 s2.den_na) (by have := mul_na s2.1 s1.den_na; rwa [Nat.add_comm] at this)).1 (by decide)) (b_of (mul_na s1.den_na s2.den_na) (by decide))
        rw [← add_eq] at lw
        have e4 : sumQ (a ++ [b]) = sumQ a + b := by rw [sumQ_append]; simp [sumQ, Rat.add_zero]
        rw [← e4] at lw
        refine ⟨_, rfl, [some (.v script), some (.v (.lst (qs.map fq))), some (.v (.int (sumQ (a ++ [b])).num)), some (.v (.int ((sumQ (a ++ [b])).den : Int))), some (.v (fq b)), none, none, some (.v (fq (sumQ (a ++ [b]))))], .inl ?_, _, _, rfl⟩
        simp [law_lists_W1, bop_mul m1, bop_mul m2, bop_mul m3, lw])
  exact ⟨x, y, by rw [law_lists_L1]; exact e1⟩
theorem lists_L2 {script nums hd : D} {t b : Int} {x y : Option Sl} (qs : List Rat) : ∃ x', ex law_lists_T law_lists_L2 [some (.v script), some (.v nums), some (.v (.int t)), some (.v (.int b)), x, some (.v hd), some (.v (.lst (qs.map fq))), y] =
    .nx [some (.v script), some (.v nums), some (.v (.int t)), some (.v (.int b)), x', some (.v hd), some (.v (.lst (qs.map fq))), y] := by
  obtain ⟨env', e1, x', rfl⟩ := ex_for_run fq (T := law_lists_T) (t := .name 4) (it := .cons (.var 6) .nil) (body := law_lists_W2)
      (env := [some (.v script), some (.v nums), some (.v (.int t)), some (.v (.int b)), x, some (.v hd), some (.v (.lst (qs.map fq))), y]) qs
      (fun _ env => ∃ (x : Option Sl), env = [some (.v script), some (.v nums), some (.v (.int t)), some (.v (.int b)), x, some (.v hd), some (.v (.lst (qs.map fq))), y])
      (evI_lst (by simp)) ⟨x, rfl⟩ (by
        rintro a q c env hq ⟨x, rfl⟩
        refine ⟨_, rfl, [some (.v script), some (.v nums), some (.v (.int t)), some (.v (.int b)), some (.v (fq q)), some (.v hd), some (.v (.lst (qs.map fq))), y], .inl ?_, _, rfl⟩
        simp [law_lists_W2, is_whole_v])
  exact ⟨x', by rw [law_lists_L2]; exact e1⟩
theorem lists_v (script : D) (qs : List Rat) (h : ∀ q ∈ qs, Sz 134 q) (hl : qs.length ≤ 61) : law_lists_F [script, .lst (qs.map fq)] = .ok (.bl true) := by
  obtain ⟨x, y, e1⟩ := lists_L1 (script := script) qs h hl
  have s1 : Sz 8240 (sumQ qs) := (sz_sum h).mono (by omega)
  have e2 := total_v qs h (by omega)
  have e3 := same_v (sumQ qs) (sumQ qs).num (sumQ qs).den (den_ne _) (b_of s1.1 (by decide)) (b_of s1.den_na (by decide))
  rw [decide_eq_true (rat_eq (sumQ qs))] at e3
  have e4 := ascending_v qs h (by decide) (by omega)
  have e5 := sorted_v qs (by decide) h (by omega)
  have e6 := cop_ne' (eqD_fqs qs qs)
  have e7 := cop_eq (eqD_fqs (sortQ qs) (sortQ qs))
  obtain ⟨x', e8⟩ := lists_L2 (script := script) (nums := .lst (qs.map fq)) (hd := .lst (qs.map fq)) (t := (sumQ qs).num) (b := (sumQ qs).den) (x := x) (y := y) (sortQ qs)
  have i1 : isiB .list (.lst ((sortQ qs).map fq)) = .ok true := id rfl
  generalize sumQ qs = s at *
  generalize (sortQ qs) = so at *
  simp only [decide_true] at e6 e7
  simp [law_lists_F, runFn, law_lists_B, e1, e2, e3, e4, e5, e6, e7, e8, i1]
theorem law_W {script n d m e a b : D} (l : List D) (hl : l.length < 1000) (z : Int) : ∃ q : Rat, Sz 11 q ∧ ex law_T law_W1 [some (.v script), some (.v n), some (.v d), some (.v m), some (.v e), some (.v a), some (.v b), some (.o l), some (.v (.int z))] =
    .nx [some (.v script), some (.v n), some (.v d), some (.v m), some (.v e), some (.v a), some (.v b), some (.o (l ++ [fq q])), some (.v (.int z))] := by
  have a1 := Int.fmod_nonneg_of_pos z (show (0 : Int) < 2001 by decide)
  have a2 := Int.fmod_lt_of_pos z (show (0 : Int) < 2001 by decide)
  have a3 := Int.fmod_nonneg_of_pos (z.fdiv 2001) (show (0 : Int) < 12 by decide)
  have a4 := Int.fmod_lt_of_pos (z.fdiv 2001) (show (0 : Int) < 12 by decide)
  have d1 : okDiv 2001 = true := by decide
  have lw := law_lowest_v (z.fmod 2001 - 1000) (1 + (z.fdiv 2001).fmod 12) (by omega) (b_of (k := 11) (by omega) (by decide)) (b_of (k := 11) (by omega) (by decide))
  refine ⟨_, Sz.div_int (n := z.fmod 2001 - 1000) (d := 1 + (z.fdiv 2001).fmod 12) (k := 11) (by omega) (by omega) (by omega), ?_⟩
  have hl2 : l.length < 16777216 := by omega
  generalize ((z.fmod 2001 - 1000 : Int) : Rat) / ((1 + (z.fdiv 2001).fmod 12 : Int) : Rat) = q at *
  simp [law_W1, bop_mod, bop_fdiv d1, lw, hl2]
theorem law_L {n d m e : D} {a b : Rat} (ns : List Int) (hns : ns.length ≤ 63) : ∃ (l : List Rat) (x : Option Sl), (∀ q ∈ l, Sz 11 q) ∧ l.length ≤ 59 ∧ ex law_T law_L1 [some (.v (.lst (ns.map D.int))), some (.v n), some (.v d), some (.v m), some (.v e), some (.v (fq a)), some (.v (fq b)), some (.o [fq a, fq b]), none] =
    .nx [some (.v (.lst (ns.map D.int))), some (.v n), some (.v d), some (.v m), some (.v e), some (.v (fq a)), some (.v (fq b)), some (.o ((a :: b :: l).map fq)), x] := by
  have p1 : partD (.int 4) = .ok (some ((4 : Nat) : Int)) := rfl
  have p2 : partD (.int 63) = .ok (some ((63 : Nat) : Int)) := rfl
  have hI : evI law_T (.cons (.sl (.var 0) (.cons (.int 4) .nil) (.cons (.int 63) .nil)) .nil) [some (.v (.lst (ns.map D.int))), some (.v n), some (.v d), some (.v m), some (.v e), some (.v (fq a)), some (.v (fq b)), some (.o [fq a, fq b]), none] = .ok (((ns.drop 4).take 59).map D.int) := by
    simp only [evI_cons, ev_sl, ev_var, getV_zero, Rf.R.bind_ok, evP_cons, ev_int, p1, p2, slD_mid, itemsD_lst]
    rw [← List.map_drop, ← List.map_take]
  obtain ⟨env', e1, l, x, rfl, h1, h2⟩ := ex_for_run D.int (T := law_T) (t := .name 8) (body := law_W1) ((ns.drop 4).take 59)
      (fun c env => ∃ (l : List Rat) (x : Option Sl), env = [some (.v (.lst (ns.map D.int))), some (.v n), some (.v d), some (.v m), some (.v e), some (.v (fq a)), some (.v (fq b)), some (.o ((a :: b :: l).map fq)), x] ∧ (∀ q ∈ l, Sz 11 q) ∧ l.length = c.length)
      hI ⟨[], none, rfl, by simp, rfl⟩ (by
        rintro c z c' env hq ⟨l, x, rfl, h1, h2⟩
        have hlen := congrArg List.length hq
        have : c.length ≤ 59 := by
          rw [List.length_take] at hlen
          simp at hlen
          omega
        obtain ⟨q, q1, q2⟩ := law_W (script := .lst (ns.map D.int)) (n := n) (d := d) (m := m) (e := e) (a := fq a) (b := fq b) ((a :: b :: l).map fq) (by simp; omega) z
        refine ⟨_, rfl, _, .inl q2, l ++ [q], some (.v (.int z)), by simp, ?_, by simp [h2]⟩
        intro r hr
        rcases List.mem_append.mp hr with hr | hr
        · exact h1 r hr
        · rw [List.mem_singleton.mp hr]; exact q1)
  refine ⟨l, x, h1, ?_, by rw [law_L1]; exact e1⟩
  rw [h2, List.length_take]
  omega
theorem law_true : ∀ ns : List Int, ns.length ≤ 63 → law_F [.lst (ns.map D.int)] = .ok (.bl true) := by
  intro ns hns
  have c0 := cell_ints ns 0
  have c1 := cell_ints ns 1
  have c2 := cell_ints ns 2
  have c3 := cell_ints ns 3
  simp only [Int.ofNat_zero, Int.cast_ofNat_Int] at c0 c1 c2 c3
  obtain ⟨n, hn, w0⟩ := whole_v (ns.getD 0 0)
  obtain ⟨d', hd', w1⟩ := whole_v (ns.getD 1 0)
  obtain ⟨m, hm, w2⟩ := whole_v (ns.getD 2 0)
  obtain ⟨e', he', w3⟩ := whole_v (ns.getD 3 0)
  generalize ns.getD 0 0 = z0 at *
  generalize ns.getD 1 0 = z1 at *
  generalize ns.getD 2 0 = z2 at *
  generalize ns.getD 3 0 = z3 at *
  obtain ⟨d, hd0, hd, ed⟩ : ∃ d : Int, d ≠ 0 ∧ d.natAbs < 2 ^ 133 ∧ (if d' = 0 then -7 else d') = d := ⟨_, by split <;> omega, by split <;> first | decide | assumption, rfl⟩
  obtain ⟨e, he0, he, ee⟩ : ∃ e : Int, e ≠ 0 ∧ e.natAbs < 2 ^ 133 ∧ (if e' = 0 then 9 else e') = e := ⟨_, by split <;> omega, by split <;> first | decide | assumption, rfl⟩
  have sa : Sz 133 ((n : Rat) / d) := Sz.div_int hn hd hd0
  have sb : Sz 133 ((m : Rat) / e) := Sz.div_int hm he he0
  have f1 := frac_v n d hd0 (b_of hd (by decide))
  have f2 := frac_v m e he0 (b_of he (by decide))
  have f3 := frac_v n 1 (by decide) (by decide)
  have l1 := law_lowest_v n d hd0 (b_of hn (by decide)) (b_of hd (by decide))
  have l2 := law_lowest_v m e he0 (b_of hm (by decide)) (b_of he (by decide))
  have s1 := same_v ((n : Rat) / d) n d hd0 (b_of hn (by decide)) (b_of hd (by decide))
  have s2 := same_v ((m : Rat) / e) m e he0 (b_of hm (by decide)) (b_of he (by decide))
  have s3 := same_v ((n : Rat) / (1 : Int)) n 1 (by decide) (b_of hn (by decide)) (by decide)
  rw [decide_eq_true rfl] at s1 s2 s3
  have r := refusals_v n ((n : Rat) / d)
  have su := sums_v hn hd hm he hd0 he0
  have ord := order_v hn hd hm he hd0 he0
  have rd := rounded_v hn hd hd0
  have pw := powers_v hn hd hd0
  generalize (n : Rat) / (1 : Int) = q1 at *
  generalize (n : Rat) / d = a at *
  generalize (m : Rat) / e = b at *
  obtain ⟨l, x, hl, hl2, eL⟩ := law_L (n := .int n) (d := .int d) (m := .int m) (e := .int e) (a := a) (b := b) ns hns
  have v1 := lists_v (.lst (ns.map D.int)) (a :: b :: l) (by
    intro q hq
    rcases List.mem_cons.mp hq with rfl | hq
    · exact sa.mono (by decide)
    · rcases List.mem_cons.mp hq with rfl | hq
      · exact sb.mono (by decide)
      · exact (hl q hq).mono (by decide)) (by simp; omega)
  have v2 := lists_v (.lst (ns.map D.int)) l (fun q hq => (hl q hq).mono (by decide)) (by omega)
  have p2 : partD (.int 2) = .ok (some ((2 : Nat) : Int)) := rfl
  have sl := slD_from ((a :: b :: l).map fq) 2
  have dl : ((a :: b :: l).map fq).drop 2 = l.map fq := by simp
  rw [dl] at sl
  have zn : ∀ (z w : Int), (if decide (z = 0) = true then w else z) = if z = 0 then w else z := fun z w => by by_cases h : z = 0 <;> simp [h]
  have c_d : ∀ (E : Rf.Env), Out.of E (fun k => if k = true then Out.nx (E.set 2 (some (.v (.int (-7))))) else .nx E) (.ok (decide (d' = 0))) = .nx (if d' = 0 then E.set 2 (some (.v (.int (-7)))) else E) := fun E => by by_cases h : d' = 0 <;> simp [h]
  generalize hnm : (a :: b :: l).map fq = nums at *
  have sl' : slD (.lst nums) (some (2 : Int)) none = .ok (.lst (l.map fq)) := sl
  have p2' : partD (.int 2) = .ok (some (2 : Int)) := p2
  by_cases hz : d' = 0 <;> by_cases hy : e' = 0 <;> simp only [hz, hy, if_true, if_false] at ed ee <;> subst ed <;> subst ee <;>
    simp [law_F, runFn, law_B, c0, c1, c2, c3, w0, w1, w2, w3, hz, hy, f1, f2, f3, l1, l2, s1, s2, s3, r, su, ord, rd, pw, eL, v1, v2, frzE, p2', sl', okLen_small]
end Pg
open PySem PySem.W PyProof.Rows in
set_option maxRecDepth 100000 in
set_option maxHeartbeats 0 in
theorem PySem.Challenge.cw_whattwosettle_k86_exact_fractions_holds : PySem.Challenge.rw_whattwosettle_k86_exact_fractions.Holds := by
  w_on; o_law; k_head; (case hw => w_witness2)
  k_fill
  refine Rf.law_walk (x := "script") (k := 5) (F := Pg.law_F) rfl rfl ⟨rfl, by decide, by decide⟩ (fun w h Y => by first | exact PySem.W.km_in_of Y | exact PySem.W.kIn_of Y) (by kernel_rfl) ?T ?F Pg.law_true
  case T =>
    intro w
    exact Rf.tabB_ok (by kernel_rfl)
  case F =>
    intro w mg fa h KX G hmg
    refine' Pg.all_mk hmg ?f_frac ?f_below ?f_at_most ?f_round_up ?f_ascending ?f_law_cell ?f_law_whole ?f_law_lowest ?f_law_is_whole ?f_law_says ?f_law_due_error ?f_law_sorted ?f_plus ?f_minus ?f_times ?f_over ?f_smaller ?f_larger ?f_law_same ?f_law_rounded ?f_middle ?f_total ?f_power ?f_law_refusals ?f_law_order ?f_law_sums ?f_law_powers ?f_law_lists ?f_law ?b_sorted ?b_len ?b_abs ?b_int ?b_isinstance ?b_bool ?b_tuple ?b_range ?b_list ?m_gcd ?m_lcm ?c_HALF ?c_ZERO ?c_ONE ?xc_BadNumber ?xh_0 ?xi_0 ?xi_1 ?xi_2 ?xi_3 ?xi_4
    (case f_frac => refine' Rf.defAtD KX G ?a ?l ?c ?k ?t ?d; (case a => k_is); (case l => k_is); (case c => k_is); (case k => k_is); (case t => k_is); (case d => rfl))
    (case f_below => refine' Rf.defAt KX G ?a ?l ?c ?k; (case a => k_is); (case l => k_is); (case c => k_is); (case k => k_is))
    (case f_at_most => refine' Rf.defAt KX G ?a ?l ?c ?k; (case a => k_is); (case l => k_is); (case c => k_is); (case k => k_is))
    (case f_round_up => refine' Rf.defAt KX G ?a ?l ?c ?k; (case a => k_is); (case l => k_is); (case c => k_is); (case k => k_is))
    (case f_ascending => refine' Rf.defAt KX G ?a ?l ?c ?k; (case a => k_is); (case l => k_is); (case c => k_is); (case k => k_is))
    (case f_law_cell => refine' Rf.defAt KX G ?a ?l ?c ?k; (case a => k_is); (case l => k_is); (case c => k_is); (case k => k_is))
    (case f_law_whole => refine' Rf.defAt KX G ?a ?l ?c ?k; (case a => k_is); (case l => k_is); (case c => k_is); (case k => k_is))
    (case f_law_lowest => refine' Rf.defAt KX G ?a ?l ?c ?k; (case a => k_is); (case l => k_is); (case c => k_is); (case k => k_is))
    (case f_law_is_whole => refine' Rf.defAt KX G ?a ?l ?c ?k; (case a => k_is); (case l => k_is); (case c => k_is); (case k => k_is))
    (case f_law_says => refine' Rf.defAt KX G ?a ?l ?c ?k; (case a => k_is); (case l => k_is); (case c => k_is); (case k => k_is))
    (case f_law_due_error => refine' Rf.defAt KX G ?a ?l ?c ?k; (case a => k_is); (case l => k_is); (case c => k_is); (case k => k_is))
    (case f_law_sorted => refine' Rf.defAt KX G ?a ?l ?c ?k; (case a => k_is); (case l => k_is); (case c => k_is); (case k => k_is))
    (case f_plus => refine' Rf.defAt KX G ?a ?l ?c ?k; (case a => k_is); (case l => k_is); (case c => k_is); (case k => k_is))
    (case f_minus => refine' Rf.defAt KX G ?a ?l ?c ?k; (case a => k_is); (case l => k_is); (case c => k_is); (case k => k_is))
    (case f_times => refine' Rf.defAt KX G ?a ?l ?c ?k; (case a => k_is); (case l => k_is); (case c => k_is); (case k => k_is))
    (case f_over => refine' Rf.defAt KX G ?a ?l ?c ?k; (case a => k_is); (case l => k_is); (case c => k_is); (case k => k_is))
    (case f_smaller => refine' Rf.defAt KX G ?a ?l ?c ?k; (case a => k_is); (case l => k_is); (case c => k_is); (case k => k_is))
    (case f_larger => refine' Rf.defAt KX G ?a ?l ?c ?k; (case a => k_is); (case l => k_is); (case c => k_is); (case k => k_is))
    (case f_law_same => refine' Rf.defAt KX G ?a ?l ?c ?k; (case a => k_is); (case l => k_is); (case c => k_is); (case k => k_is))
    (case f_law_rounded => refine' Rf.defAt KX G ?a ?l ?c ?k; (case a => k_is); (case l => k_is); (case c => k_is); (case k => k_is))
    (case f_middle => refine' Rf.defAt KX G ?a ?l ?c ?k; (case a => k_is); (case l => k_is); (case c => k_is); (case k => k_is))
    (case f_total => refine' Rf.defAt KX G ?a ?l ?c ?k; (case a => k_is); (case l => k_is); (case c => k_is); (case k => k_is))
    (case f_power => refine' Rf.defAt KX G ?a ?l ?c ?k; (case a => k_is); (case l => k_is); (case c => k_is); (case k => k_is))
    (case f_law_refusals => refine' Rf.defAt KX G ?a ?l ?c ?k; (case a => k_is); (case l => k_is); (case c => k_is); (case k => k_is))
    (case f_law_order => refine' Rf.defAt KX G ?a ?l ?c ?k; (case a => k_is); (case l => k_is); (case c => k_is); (case k => k_is))
    (case f_law_sums => refine' Rf.defAt KX G ?a ?l ?c ?k; (case a => k_is); (case l => k_is); (case c => k_is); (case k => k_is))
    (case f_law_powers => refine' Rf.defAt KX G ?a ?l ?c ?k; (case a => k_is); (case l => k_is); (case c => k_is); (case k => k_is))
    (case f_law_lists => refine' Rf.defAt KX G ?a ?l ?c ?k; (case a => k_is); (case l => k_is); (case c => k_is); (case k => k_is))
    (case f_law => refine' Rf.defAt KX G ?a ?l ?c ?k; (case a => k_is); (case l => k_is); (case c => k_is); (case k => k_is))
    (case b_sorted => refine' PySem.W.mg_none_of KX G ?a; (case a => k_is))
    (case b_len => refine' PySem.W.mg_none_of KX G ?a; (case a => k_is))
    (case b_abs => refine' PySem.W.mg_none_of KX G ?a; (case a => k_is))
    (case b_int => refine' PySem.W.mg_none_of KX G ?a; (case a => k_is))
    (case b_isinstance => refine' PySem.W.mg_none_of KX G ?a; (case a => k_is))
    (case b_bool => refine' PySem.W.mg_none_of KX G ?a; (case a => k_is))
    (case b_tuple => refine' PySem.W.mg_none_of KX G ?a; (case a => k_is))
    (case b_range => refine' PySem.W.mg_none_of KX G ?a; (case a => k_is))
    (case b_list => refine' PySem.W.mg_none_of KX G ?a; (case a => k_is))
    (case m_gcd => refine' PySem.W.mg_of KX G ?a; (case a => k_is))
    (case m_lcm => refine' PySem.W.mg_of KX G ?a; (case a => k_is))
    (case c_HALF => refine' Rf.gconTup KX G ?a ?l ?d ?s; (case a => k_is); (case l => k_is); (case d => rfl); (case s => decide))
    (case c_ZERO => refine' Rf.gconTup KX G ?a ?l ?d ?s; (case a => k_is); (case l => k_is); (case d => rfl); (case s => decide))
    (case c_ONE => refine' Rf.gconTup KX G ?a ?l ?d ?s; (case a => k_is); (case l => k_is); (case d => rfl); (case s => decide))
    (case xc_BadNumber => exact Rf.xcOk KX G (by kernel_rfl))
    (case xh_0 => exact Rf.xhOk KX G (by kernel_rfl))
    (case xi_0 => exact Rf.xiOk KX G (by kernel_rfl))
    (case xi_1 => exact Rf.xiOk KX G (by kernel_rfl))
    (case xi_2 => exact Rf.xiOk KX G (by kernel_rfl))
    (case xi_3 => exact Rf.xiOk KX G (by kernel_rfl))
    (case xi_4 => exact Rf.xiTOk (t := "ValueError") KX G (by kernel_rfl))
