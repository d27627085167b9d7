import PyProof.Rows.All
import Wide.All
import OpenK.AllK
import Wide.FinOn
import HandS.ForMost
import HandS.ForExc
import HandS.Wide
import HandS.Gcd
import HandS.IsInst
import PySem.Challenge.RW_whattwosettle_k88_stretches_that_share_a
set_option Elab.async false
set_option linter.all false
set_option maxRecDepth 100000
set_option maxHeartbeats 4000000
/-! # Rf1: data, what stands for it in the heap, results -/
namespace Rf
open PySem PySem.Spec L2

/-- values of the pure reading: no addresses in them -/
inductive D where
  | non | bl (b : Bool) | int (i : Int) | str (s : Str) | tup (xs : List D) | lst (xs : List D)
  | obj (c : Str) (fs : List (Str × D)) | exc (c : Str) (fs : List (Str × D))
  deriving Inhabited
/-- an error of the pure reading: its class by name, its fields -/
structure Exn where
  cls : Str
  fs : List (Str × D)
inductive R (α : Type) where
  | ok (a : α) | err (x : Exn) | bad
def R.bind {α β : Type} (r : R α) (f : α → R β) : R β := match r with
  | .ok a => f a
  | .err x => .err x
  | .bad => .bad
@[simp] theorem R.bind_ok {α β : Type} (a : α) (f : α → R β) : (R.ok a).bind f = f a := rfl
@[simp] theorem R.bind_err {α β : Type} (x : Exn) (f : α → R β) : (R.err x : R α).bind f = .err x := rfl
@[simp] theorem R.bind_bad {α β : Type} (f : α → R β) : (R.bad : R α).bind f = .bad := rfl
abbrev Fn := List D → R D

/-- what is fixed for a whole program -/
structure G where
  P : Program
  w : World
  K : PySem.W.Frag
  mg : Str → Option Value
  base : Heap

/-- a list that is to be read -/
def LsK (K : PySem.W.Frag) (H : Hp) (a : Addr) (xs : List V) : Prop :=
  Rd H a (.lst xs) ∨ ∃ (its : List Value) (n : Nat), K.lookup a = some { cls := .type "list", data := .seq its.toArray n } ∧ its.length ≤ sizeLine ∧ Vals xs its
theorem LsK.of {K : PySem.W.Frag} {H : Hp} {a : Addr} {xs : List V} (h : H a = some (.lst xs)) : LsK K H a xs := .inl (.inl h)
theorem lsq {K : PySem.W.Frag} {H : Hp} {a : Addr} {xs : List V} (h : LsK K H a xs) : SqL K H a xs := by
  rcases h with h | ⟨its, n, hk, hl, r⟩
  · exact .inl h
  · exact .inr ⟨_, its.toArray, n, hk, rfl, rfl, rfl, by simpa using hl, by simpa using r⟩
mutual
inductive Rep (g : G) (H : Hp) : V → D → Prop where
  | non : Rep g H .non .non
  | bl (b : Bool) : Rep g H (.bl b) (.bl b)
  | int (i : Int) : Rep g H (.int i) (.int i)
  | str (x : Str) : Rep g H (.str x) (.str x)
  | tup {a : Addr} {vs : List V} {ds : List D} : SqT g.K H a vs → Reps g H vs ds → Rep g H (.ref a) (.tup ds)
  | lst {a : Addr} {vs : List V} {ds : List D} : LsK g.K H a vs → Reps g H vs ds → Rep g H (.ref a) (.lst ds)
  | obj {a C dx : Addr} {c : Str} {fs : List (Str × V)} {gs : List (Str × D)} : g.mg c = some (.ref C) → H a = some (.ins C dx fs) → RepF g H fs gs → Rep g H (.ref a) (.obj c gs)
inductive Reps (g : G) (H : Hp) : List V → List D → Prop where
  | nil : Reps g H [] []
  | cons {v : V} {d : D} {vs : List V} {ds : List D} : Rep g H v d → Reps g H vs ds → Reps g H (v :: vs) (d :: ds)
inductive RepF (g : G) (H : Hp) : List (Str × V) → List (Str × D) → Prop where
  | nil : RepF g H [] []
  | cons {f : Str} {v : V} {d : D} {fs : List (Str × V)} {gs : List (Str × D)} : Rep g H v d → RepF g H fs gs → RepF g H ((f, v) :: fs) ((f, d) :: gs)
end

theorem same_rd {K : PySem.W.Frag} {H H' : Hp} {a : Addr} {o : List V} (e : Same H H') (h : LsK K H a o) : LsK K H' a o := by
  rcases h with (h | ⟨u, h⟩) | h
  · exact .inl (.inl (e _ _ h))
  · exact .inl (.inr ⟨u, e _ _ h⟩)
  · exact .inr h
theorem same_sqT {K : PySem.W.Frag} {H H' : Hp} {a : Addr} {xs : List V} (e : Same H H') (h : SqT K H a xs) : SqT K H' a xs := by
  rcases h with (h | ⟨o, h⟩) | h
  · exact .inl (.inl (e _ _ h))
  · exact .inl (.inr ⟨o, e _ _ h⟩)
  · exact .inr h
mutual
theorem Rep.mono {g : G} {H H' : Hp} (e : Same H H') : ∀ {v : V} {d : D}, Rep g H v d → Rep g H' v d
  | _, _, .non => .non
  | _, _, .bl b => .bl b
  | _, _, .int b => .int b
  | _, _, .str b => .str b
  | _, _, .tup h r => .tup (same_sqT e h) (Reps.mono e r)
  | _, _, .lst h r => .lst (same_rd e h) (Reps.mono e r)
  | _, _, .obj m h r => .obj m (e _ _ h) (RepF.mono e r)
theorem Reps.mono {g : G} {H H' : Hp} (e : Same H H') : ∀ {v : List V} {d : List D}, Reps g H v d → Reps g H' v d
  | _, _, .nil => .nil
  | _, _, .cons h r => .cons (Rep.mono e h) (Reps.mono e r)
theorem RepF.mono {g : G} {H H' : Hp} (e : Same H H') : ∀ {v : List (Str × V)} {d : List (Str × D)}, RepF g H v d → RepF g H' v d
  | _, _, .nil => .nil
  | _, _, .cons h r => .cons (Rep.mono e h) (RepF.mono e r)
end
section
variable {g : G} {H : Hp}
theorem Reps.length : ∀ {vs : List V} {ds : List D}, Reps g H vs ds → vs.length = ds.length
  | _, _, .nil => rfl
  | _, _, .cons _ r => by rw [List.length_cons, List.length_cons, Reps.length r]
theorem Reps.get : ∀ {vs : List V} {ds : List D} {i : Nat} {d : D}, Reps g H vs ds → ds[i]? = some d → ∃ v, vs[i]? = some v ∧ Rep g H v d
  | _, _, _, _, .nil, e => by simp at e
  | _, _, 0, _, .cons r _, e => by simp at e; subst e; exact ⟨_, rfl, r⟩
  | _, _, i + 1, _, .cons _ t, e => by
    obtain ⟨u, h1, h2⟩ := Reps.get (i := i) t (by simpa using e)
    exact ⟨u, by simpa using h1, h2⟩
theorem Reps.append : ∀ {vs vs' : List V} {ds ds' : List D}, Reps g H vs ds → Reps g H vs' ds' → Reps g H (vs ++ vs') (ds ++ ds')
  | _, _, _, _, .nil, s => s
  | _, _, _, _, .cons r t, s => .cons r (Reps.append t s)
theorem Reps.take : ∀ {vs : List V} {ds : List D} (n : Nat), Reps g H vs ds → Reps g H (vs.take n) (ds.take n)
  | _, _, 0, _ => .nil
  | _, _, _ + 1, .nil => .nil
  | _, _, n + 1, .cons r t => .cons r (Reps.take n t)
theorem Reps.drop : ∀ {vs : List V} {ds : List D} (n : Nat), Reps g H vs ds → Reps g H (vs.drop n) (ds.drop n)
  | _, _, 0, r => r
  | _, _, _ + 1, .nil => .nil
  | _, _, n + 1, .cons r t => Reps.drop n t
theorem Reps.set {v : V} {d : D} (r : Rep g H v d) : ∀ {vs : List V} {ds : List D} (i : Nat), Reps g H vs ds → Reps g H (vs.set i v) (ds.set i d)
  | _, _, _, .nil => .nil
  | _, _, 0, .cons _ t => .cons r t
  | _, _, i + 1, .cons q t => .cons q (Reps.set r i t)
theorem Reps.dropLast {vs : List V} {ds : List D} (r : Reps g H vs ds) : Reps g H vs.dropLast ds.dropLast := by
  rw [List.dropLast_eq_take, List.dropLast_eq_take, r.length]; exact r.take _
theorem RepF.lookup {f : Str} : ∀ {fs : List (Str × V)} {gs : List (Str × D)} {d : D}, RepF g H fs gs → gs.lookup f = some d → ∃ v, fs.lookup f = some v ∧ Rep g H v d
  | _, _, _, .nil, e => by simp [List.lookup] at e
  | _, _, _, .cons (f := f') r t, e => by
    by_cases h : f = f'
    · subst h
      simp [List.lookup] at e ⊢
      subst e
      exact r
    · have hb : (f == f') = false := by simpa using h
      simp only [List.lookup, hb] at e ⊢
      exact RepF.lookup t e
theorem RepF.lookup_none {f : Str} : ∀ {fs : List (Str × V)} {gs : List (Str × D)}, RepF g H fs gs → gs.lookup f = none → fs.lookup f = none
  | _, _, .nil, e => rfl
  | _, _, .cons (f := f') r t, e => by
    by_cases h : f = f'
    · subst h
      simp [List.lookup] at e
    · have hb : (f == f') = false := by simpa using h
      simp only [List.lookup, hb] at e ⊢
      exact RepF.lookup_none t e
theorem reps_ints : ∀ (ns : List Int), Reps g H (ns.map V.int) (ns.map D.int)
  | [] => .nil
  | n :: ns => .cons (.int n) (reps_ints ns)
end

/-! ### data without objects: the library's own -/
mutual
def D.py : D → Option PyData
  | .non => some .none
  | .bl b => some (.bool b)
  | .int i => some (.int i)
  | .str s => some (.str s)
  | .tup xs => (pys xs).map .tuple
  | .lst xs => (pys xs).map .list
  | .obj _ _ => none
  | .exc _ _ => none
def pys : List D → Option (List PyData)
  | [] => some []
  | d :: ds => match d.py, pys ds with
    | some p, some ps => some (p :: ps)
    | _, _ => none
end
mutual
theorem Rep.dp {g : G} {H : Hp} : ∀ {v : V} {d : D} {p : PyData}, Rep g H v d → d.py = some p → Dp g.K H v p
  | _, _, _, .non, e => by simp [D.py] at e; subst e; exact .non
  | _, _, _, .bl b, e => by simp [D.py] at e; subst e; exact .bl b
  | _, _, _, .int b, e => by simp [D.py] at e; subst e; exact .int b
  | _, _, _, .str b, e => by simp [D.py] at e; subst e; exact .str b
  | _, _, _, .tup h r, e => by
    simp only [D.py, Option.map_eq_some_iff] at e
    obtain ⟨ps, e1, rfl⟩ := e
    exact .tup h (Reps.dps r e1)
  | _, _, _, .lst h r, e => by
    simp only [D.py, Option.map_eq_some_iff] at e
    obtain ⟨ps, e1, rfl⟩ := e
    exact .lst (lsq h) (Reps.dps r e1)
  | _, _, _, .obj _ _ _, e => by simp [D.py] at e
theorem Reps.dps {g : G} {H : Hp} : ∀ {v : List V} {d : List D} {p : List PyData}, Reps g H v d → pys d = some p → DpAll g.K H v p
  | _, _, _, .nil, e => by simp [pys] at e; subst e; exact .nil
  | _, _, _, .cons (d := d) (ds := ds) h r, e => by
    unfold pys at e
    split at e
    · rename_i p ps e1 e2
      cases e
      exact .cons (Rep.dp h e1) (Reps.dps r e2)
    · cases e
end

/-! ### the frozen heap Hf within H -/
structure Fut (H Hf H' Hf' : Hp) : Prop where
  s : Same H H'
  f : Same Hf Hf'
  i : Same Hf' H'
  n : ∀ p, H p ≠ none → Hf p = none → Hf' p = none
section
variable {H Hf H1 Hf1 H2 Hf2 : Hp}
theorem Fut.refl (h : Same Hf H) : Fut H Hf H Hf := ⟨.refl _, .refl _, h, fun _ _ h => h⟩
theorem Fut.trans (a : Fut H Hf H1 Hf1) (b : Fut H1 Hf1 H2 Hf2) : Fut H Hf H2 Hf2 :=
  ⟨a.s.trans b.s, a.f.trans b.f, b.i, fun p h1 h2 => b.n p (fun e => h1 (a.s.free e)) (a.n p h1 h2)⟩
theorem same_upd {H : Hp} {p : Addr} {o : HO} (h : H p = none) : Same H (upd H p o) := fun b u e => by rw [upd_ne (ne_of_none e h)]; exact e
/-- a new object that is frozen at once -/
theorem Fut.new {p : Addr} {o : HO} (h : Same Hf H) (hp : H p = none) : Fut H Hf (upd H p o) (upd Hf p o) := by
  refine ⟨same_upd hp, same_upd (h.free hp), fun b u e => ?_, fun q h1 h2 => ?_⟩
  · by_cases hb : b = p
    · subst hb; rw [upd_same] at e ⊢; exact e
    · rw [upd_ne hb] at e ⊢; exact h _ _ e
  · rw [upd_ne (fun z => h1 (by rw [z]; exact hp))]; exact h2
/-- a new object that is not frozen -/
theorem Fut.own {p : Addr} {o : HO} (h : Same Hf H) (hp : H p = none) : Fut H Hf (upd H p o) Hf :=
  ⟨same_upd hp, .refl _, h.trans (same_upd hp), fun _ _ h => h⟩
theorem Fut.add {p : Addr} {o : HO} (h : Same Hf H) (hp : H p = some o) (hn : H1 p = none) (a : Fut H1 Hf1 H Hf) (hf : Hf p = none) : Fut H1 Hf1 H (upd Hf p o) := by
  refine ⟨a.s, a.f.trans (same_upd hf), fun b u e => ?_, fun q h1 h2 => ?_⟩
  · by_cases hb : b = p
    · subst hb; rw [upd_same] at e; cases e; exact hp
    · rw [upd_ne hb] at e; exact h _ _ e
  · rw [upd_ne (fun z => h1 (by rw [z]; exact hn))]; exact a.n q h1 h2
end

/-! ### slots -/
inductive Sl where
  /-- data; a list that no one else holds -/
  | v (d : D) | o (xs : List D)
abbrev Env := List (Option Sl)
/-- slot by slot; H0: the heap at the entry -/
inductive SlRep (g : G) (H0 H Hf : Hp) : V → Sl → Prop where
  | v {u : V} {d : D} : Rep g Hf u d → SlRep g H0 H Hf u (.v d)
  | o {p : Addr} {vs : List V} {ds : List D} : H p = some (.lst vs) → Hf p = none → H0 p = none → Reps g Hf vs ds → SlRep g H0 H Hf (.ref p) (.o ds)
structure SR (g : G) (H0 Hf0 : Hp) (σ : St) (H Hf : Hp) (env : Env) : Prop where
  fut : Fut H0 Hf0 H Hf
  len : env.length = σ.length
  slot : ∀ (i : Nat) (s : Sl), env[i]? = some (some s) → ∃ v, σ[i]? = some (some v) ∧ SlRep g H0 H Hf v s
  dis : ∀ (i j : Nat) (xs ys : List D), i ≠ j → env[i]? = some (some (.o xs)) → env[j]? = some (some (.o ys)) → σ[i]? ≠ σ[j]?
section
variable {g : G} {H0 Hf0 H Hf H' Hf' : Hp} {σ : St} {env : Env}
theorem SlRep.mono {v : V} {s : Sl} (r : SlRep g H0 H Hf v s) (f : Fut H Hf H' Hf') : SlRep g H0 H' Hf' v s := by
  cases r with
  | v h => exact .v (h.mono f.f)
  | o h1 h2 h3 h4 => exact .o (f.s _ _ h1) (f.n _ (by rw [h1]; exact fun z => nomatch z) h2) h3 (h4.mono f.f)
theorem SR.mono (r : SR g H0 Hf0 σ H Hf env) (f : Fut H Hf H' Hf') : SR g H0 Hf0 σ H' Hf' env :=
  ⟨r.fut.trans f, r.len, fun i s h => let ⟨v, e, q⟩ := r.slot i s h; ⟨v, e, q.mono f⟩, r.dis⟩
theorem SR.sub (r : SR g H0 Hf0 σ H Hf env) : Same Hf H := r.fut.i
/-- a slot set to data -/
theorem SR.setv {i : Nat} {u : V} {d : D} (r : SR g H0 Hf0 σ H Hf env) (q : Rep g Hf u d) : SR g H0 Hf0 (σ.set i (some u)) H Hf (env.set i (some (.v d))) := by
  refine ⟨r.fut, by simp [r.len], fun j s h => ?_, fun j k xs ys hne h1 h2 => ?_⟩
  · by_cases hj : j = i
    · subst hj
      have hl : j < env.length := by
        rcases Nat.lt_or_ge j env.length with z | z
        · exact z
        · rw [List.getElem?_eq_none (by simpa using z)] at h; cases h
      rw [List.getElem?_set_self hl] at h; cases h
      exact ⟨u, by rw [List.getElem?_set_self (r.len ▸ hl)], .v q⟩
    · rw [List.getElem?_set_ne (Ne.symm hj)] at h
      obtain ⟨v, e, q⟩ := r.slot j s h
      exact ⟨v, by rw [List.getElem?_set_ne (Ne.symm hj)]; exact e, q⟩
  · have no : ∀ {j : Nat} {xs : List D}, (env.set i (some (.v d)))[j]? = some (some (.o xs)) → j ≠ i := fun {j xs} h e => by
      subst e
      by_cases hl : j < env.length
      · rw [List.getElem?_set_self hl] at h; cases h
      · rw [List.getElem?_eq_none (by simpa using hl)] at h; cases h
    have n1 := no h1
    have n2 := no h2
    rw [List.getElem?_set_ne (Ne.symm n1)] at h1 ⊢
    rw [List.getElem?_set_ne (Ne.symm n2)] at h2 ⊢
    exact r.dis j k xs ys hne h1 h2
/-- a slot set to a list of its own, new at p -/
theorem SR.seto {i : Nat} {p : Addr} {vs : List V} {ds : List D} (r : SR g H0 Hf0 σ H Hf env) (hp : H p = some (.lst vs)) (hf : Hf p = none) (h0 : H0 p = none) (q : Reps g Hf vs ds)
    (hd : ∀ (j : Nat) (xs : List D), j ≠ i → env[j]? = some (some (.o xs)) → σ[j]? ≠ some (some (.ref p))) : SR g H0 Hf0 (σ.set i (some (.ref p))) H Hf (env.set i (some (.o ds))) := by
  refine ⟨r.fut, by simp [r.len], fun j s h => ?_, fun j k xs ys hne h1 h2 => ?_⟩
  · by_cases hj : j = i
    · subst hj
      have hl : j < env.length := by
        rcases Nat.lt_or_ge j env.length with z | z
        · exact z
        · rw [List.getElem?_eq_none (by simpa using z)] at h; cases h
      rw [List.getElem?_set_self hl] at h; cases h
      exact ⟨.ref p, by rw [List.getElem?_set_self (r.len ▸ hl)], .o hp hf h0 q⟩
    · rw [List.getElem?_set_ne (Ne.symm hj)] at h
      obtain ⟨v, e, q⟩ := r.slot j s h
      exact ⟨v, by rw [List.getElem?_set_ne (Ne.symm hj)]; exact e, q⟩
  · by_cases n1 : j = i
    · subst n1
      have n2 : k ≠ j := Ne.symm hne
      have hl : j < env.length := by
        rcases Nat.lt_or_ge j env.length with z | z
        · exact z
        · rw [List.getElem?_eq_none (by simpa using z)] at h1; cases h1
      rw [List.getElem?_set_ne (Ne.symm n2)] at h2 ⊢
      rw [List.getElem?_set_self (r.len ▸ hl)]
      exact fun e => hd k ys n2 h2 e.symm
    · rw [List.getElem?_set_ne (Ne.symm n1)] at h1 ⊢
      by_cases n2 : k = i
      · subst n2
        have hl : k < env.length := by
          rcases Nat.lt_or_ge k env.length with z | z
          · exact z
          · rw [List.getElem?_eq_none (by simpa using z)] at h2; cases h2
        rw [List.getElem?_set_self (r.len ▸ hl)]
        exact hd j xs n1 h1
      · rw [List.getElem?_set_ne (Ne.symm n2)] at h2 ⊢
        exact r.dis j k xs ys hne h1 h2
/-- a slot forgotten -/
theorem SR.setn {i : Nat} (r : SR g H0 Hf0 σ H Hf env) (u : Option V) : SR g H0 Hf0 (σ.set i u) H Hf (env.set i none) := by
  have key : ∀ (j : Nat) (s : Sl), (env.set i none)[j]? = some (some s) → j ≠ i ∧ env[j]? = some (some s) := fun j s h => by
    have hj : j ≠ i := fun e => by
      subst e
      by_cases hl : j < env.length
      · rw [List.getElem?_set_self hl] at h; cases h
      · rw [List.getElem?_eq_none (by simpa using hl)] at h; cases h
    rw [List.getElem?_set_ne (Ne.symm hj)] at h
    exact ⟨hj, h⟩
  refine ⟨r.fut, by simp [r.len], fun j s h => ?_, fun j k xs ys hne h1 h2 => ?_⟩
  · obtain ⟨hj, h⟩ := key j s h
    obtain ⟨v, e, q⟩ := r.slot j s h
    exact ⟨v, by rw [List.getElem?_set_ne (Ne.symm hj)]; exact e, q⟩
  · obtain ⟨n1, h1⟩ := key j _ h1
    obtain ⟨n2, h2⟩ := key k _ h2
    rw [List.getElem?_set_ne (Ne.symm n1), List.getElem?_set_ne (Ne.symm n2)]
    exact r.dis j k xs ys hne h1 h2
/-- the list of slot i is changed -/
theorem SR.write {i : Nat} {p : Addr} {vs vs' : List V} {ds ds' : List D} (r : SR g H0 Hf0 σ H Hf env) (hi : env[i]? = some (some (.o ds))) (hσ : σ[i]? = some (some (.ref p))) (hp : H p = some (.lst vs)) (hf : Hf p = none) (h0 : H0 p = none)
    (q : Reps g Hf vs' ds') : SR g H0 Hf0 σ (upd H p (.lst vs')) Hf (env.set i (some (.o ds'))) := by
  have fut : Fut H0 Hf0 (upd H p (.lst vs')) Hf := ⟨fun b o e => by rw [upd_ne (ne_of_none e h0)]; exact r.fut.s _ _ e, r.fut.f, fun b o e => by rw [upd_ne (ne_of_none e hf)]; exact r.fut.i _ _ e, r.fut.n⟩
  have hl : i < env.length := (List.getElem?_eq_some_iff.mp hi).1
  refine ⟨fut, by simp [r.len], fun j s h => ?_, fun j k xs ys hne h1 h2 => ?_⟩
  · by_cases hj : j = i
    · subst hj
      rw [List.getElem?_set_self hl] at h; cases h
      exact ⟨.ref p, hσ, .o upd_same hf h0 q⟩
    · rw [List.getElem?_set_ne (Ne.symm hj)] at h
      obtain ⟨v, e, z⟩ := r.slot j s h
      refine ⟨v, e, ?_⟩
      cases z with
      | v z => exact .v z
      | @o p2 vs2 ds2 z1 z2 z3 z4 =>
        have ne : p2 ≠ p := fun ep => by
          subst ep
          exact r.dis j i _ _ hj h hi (e.trans hσ.symm)
        exact .o (by rw [upd_ne ne]; exact z1) z2 z3 z4
  · have old : ∀ {j : Nat} {xs : List D}, (env.set i (some (.o ds')))[j]? = some (some (.o xs)) → ∃ zs, env[j]? = some (some (.o zs)) := fun {j xs} h => by
      by_cases hj : j = i
      · subst hj; exact ⟨_, hi⟩
      · rw [List.getElem?_set_ne (Ne.symm hj)] at h; exact ⟨_, h⟩
    obtain ⟨z1, e1⟩ := old h1
    obtain ⟨z2, e2⟩ := old h2
    exact r.dis j k _ _ hne e1 e2
/-- the list of slot i is frozen -/
theorem SR.freeze {i : Nat} {ds : List D} (r : SR g H0 Hf0 σ H Hf env) (hi : env[i]? = some (some (.o ds))) : ∃ Hf', SR g H0 Hf0 σ H Hf' (env.set i (some (.v (.lst ds)))) ∧ Same Hf Hf' := by
  obtain ⟨v, hσ, z⟩ := r.slot i _ hi
  have hl : i < env.length := (List.getElem?_eq_some_iff.mp hi).1
  cases z with
  | @o p vs _ hp hf h0 q =>
    refine ⟨upd Hf p (.lst vs), ⟨Fut.add r.sub hp h0 r.fut hf, by simp [r.len], fun j s h => ?_, fun j k xs ys hne h1 h2 => ?_⟩, same_upd hf⟩
    · by_cases hj : j = i
      · subst hj
        rw [List.getElem?_set_self hl] at h; cases h
        exact ⟨.ref p, hσ, .v (.lst (LsK.of upd_same) (q.mono (same_upd hf)))⟩
      · rw [List.getElem?_set_ne (Ne.symm hj)] at h
        obtain ⟨v, e, z⟩ := r.slot j s h
        refine ⟨v, e, ?_⟩
        cases z with
        | v z => exact .v (z.mono (same_upd hf))
        | @o p2 vs2 ds2 z1 z2 z3 z4 =>
          have ne : p2 ≠ p := fun ep => by
            subst ep
            exact r.dis j i _ _ hj h hi (e.trans hσ.symm)
          exact .o z1 (by rw [upd_ne ne]; exact z2) z3 (z4.mono (same_upd hf))
    · have old : ∀ {j : Nat} {xs : List D}, (env.set i (some (.v (.lst ds))))[j]? = some (some (.o xs)) → env[j]? = some (some (.o xs)) := fun {j xs} h => by
        by_cases hj : j = i
        · subst hj; rw [List.getElem?_set_self hl] at h; cases h
        · rw [List.getElem?_set_ne (Ne.symm hj)] at h; exact h
      exact r.dis j k _ _ hne (old h1) (old h2)
end
end Rf
/-! # Rf2: operations on data, and that the machine's do the same -/
namespace Rf
open PySem PySem.Spec L2

def okMul (i j : Int) : Bool := decide (i.natAbs.log2 + j.natAbs.log2 < 100000000)
def okDiv (j : Int) : Bool := decide (j ≠ 0) && decide (j.natAbs.log2 < 9000)
def okPow (i j : Int) : Bool := decide (0 ≤ j) && decide (j ≤ 1000000) && decide (i.natAbs < 2 ^ 64)
def okLen (n : Nat) : Bool := decide (n ≤ 16777216)
inductive BOp where | add | sub | mul | fdiv | mod | pow
def bop : BOp → D → D → R D
  | .add, .int i, .int j => .ok (.int (i + j))
  | .sub, .int i, .int j => .ok (.int (i - j))
  | .mul, .int i, .int j => if okMul i j = true then .ok (.int (i * j)) else .bad
  | .fdiv, .int i, .int j => if okDiv j = true then .ok (.int (i.fdiv j)) else .bad
  | .mod, .int i, .int j => if j ≠ 0 then .ok (.int (i.fmod j)) else .bad
  | .pow, .int i, .int j => if okPow i j = true then .ok (.int (i ^ j.toNat)) else .bad
  | .add, .lst xs, .lst ys => if okLen (xs.length + ys.length) = true then .ok (.lst (xs ++ ys)) else .bad
  | .add, .tup xs, .tup ys => if okLen (xs.length + ys.length) && !xs.isEmpty then .ok (.tup (xs ++ ys)) else .bad
  | _, _, _ => .bad
/-- == -/
def eqP (p q : PyData) : R Bool := if SeqAt.shaped p && SeqAt.shaped q then .ok (PyData.eqv p q) else .bad
def eqD (d e : D) : R Bool := match d.py, e.py with
  | some p, some q => eqP p q
  | _, _ => .bad
/-- x in items -/
def memD (x : D) : List D → R Bool
  | [] => .ok false
  | d :: ds => (eqD d x).bind fun b => (memD x ds).bind fun c => .ok (b || c)
def itemsD : D → R (List D)
  | .lst xs => .ok xs
  | .tup xs => .ok xs
  | _ => .bad
inductive COp where | eq | ne | lt | le | gt | ge | isin | notin
def cop : COp → D → D → R D
  | .eq, d, e => (eqD d e).bind fun b => .ok (.bl b)
  | .ne, d, e => (eqD d e).bind fun b => .ok (.bl (!b))
  | .lt, .int i, .int j => .ok (.bl (decide (i < j)))
  | .le, .int i, .int j => .ok (.bl (decide (i ≤ j)))
  | .gt, .int i, .int j => .ok (.bl (decide (j < i)))
  | .ge, .int i, .int j => .ok (.bl (decide (j ≤ i)))
  | .isin, d, e => (itemsD e).bind fun xs => (memD d xs).bind fun b => .ok (.bl b)
  | .notin, d, e => (itemsD e).bind fun xs => (memD d xs).bind fun b => .ok (.bl (!b))
  | _, _, _ => .bad
def isNon : D → Bool
  | .non => true
  | _ => false
def truD : D → R Bool
  | .non => .ok false
  | .bl b => .ok b
  | .int i => .ok (i != 0)
  | .lst xs => .ok (!xs.isEmpty)
  | .tup xs => .ok (!xs.isEmpty)
  | _ => .bad
def ofO {α : Type} : Option α → R α
  | some a => .ok a
  | none => .bad
def ixD : D → D → R D
  | .lst xs, .int i => ofO (atI xs i)
  | .tup xs, .int i => ofO (atI xs i)
  | _, _ => .bad
def cutD (xs : List D) (lo hi : Option Int) : List D := (xs.drop (HT.sIx xs.length 0 lo)).take (HT.sIx xs.length xs.length hi - HT.sIx xs.length 0 lo)
def partD : D → R (Option Int)
  | .int i => .ok (some i)
  | _ => .bad
def slD (d : D) (lo hi : Option Int) : R D := match d with
  | .lst xs => .ok (.lst (cutD xs lo hi))
  | .tup xs => if HT.sIx xs.length 0 lo = 0 ∧ HT.sIx xs.length xs.length hi = xs.length then .bad else .ok (.tup (cutD xs lo hi))
  | _ => .bad

/-! ### what is wanted behind -/
/-- data, frozen -/
def OQ (g : G) (H Hf : Hp) (d : D) (Q : VK) : Prop := ∀ v H' Hf', Fut H Hf H' Hf' → Rep g Hf' v d → Q v H'
/-- a list of its own -/
def FQ (g : G) (H Hf : Hp) (ds : List D) (Q : VK) : Prop := ∀ p vs H' Hf', Fut H Hf H' Hf' → H p = none → H' p = some (.lst vs) → Hf' p = none → Reps g Hf' vs ds → Q (.ref p) H'
theorem FQ.of {g : G} {H Hf : Hp} {ds : List D} {Q : VK} (h : OQ g H Hf (.lst ds) Q) : FQ g H Hf ds Q := fun p vs H' Hf' f hn hp hf r =>
  h (.ref p) H' (upd Hf' p (.lst vs)) (Fut.add f.i hp hn f hf) (.lst (LsK.of upd_same) (r.mono (same_upd hf)))
/-- how a raised error stands for x -/
structure XRep (g : G) (H Hf : Hp) (cls : Value) (dx : Option Addr) (x : Exn) : Prop where
  c : g.mg x.cls = some cls
  d : (x.fs = [] ∧ dx = none) ∨ ∃ a vs, dx = some a ∧ H a = some (.xd vs) ∧ RepF g Hf vs x.fs
abbrev WE := Value → Option Addr → St → Hp → Prop
def EQ (g : G) (W : WE) (σ : St) (H Hf : Hp) (x : Exn) : Prop := ∀ cls dx H' Hf', Fut H Hf H' Hf' → XRep g H' Hf' cls dx x → W cls dx σ H'
def RQ (g : G) (W : WE) (σ : St) (H Hf : Hp) (r : R D) (Q : VK) : Prop := match r with
  | .ok d => OQ g H Hf d Q
  | .err x => EQ g W σ H Hf x
  | .bad => False
def RFQ (g : G) (W : WE) (σ : St) (H Hf : Hp) (r : R D) (Q : VK) : Prop := match r with
  | .ok (.lst ds) => FQ g H Hf ds Q
  | .err x => EQ g W σ H Hf x
  | _ => False
theorem RFQ.of {g : G} {W : WE} {σ : St} {H Hf : Hp} {r : R D} {Q : VK} (hl : ∀ d, r = .ok d → ∃ ds, d = .lst ds) (h : RQ g W σ H Hf r Q) : RFQ g W σ H Hf r Q := by
  cases r with
  | ok d => obtain ⟨ds, rfl⟩ := hl d rfl; exact FQ.of h
  | err x => exact h
  | bad => exact h

/-! ### the machine's operations, by data -/
abbrev gOf (X : Cx) : G := ⟨X.prog, X.w, X.K, X.mg, X.base⟩
def rD (g : G) (F : D → D → R D) : R2 := fun x y H Q => ∃ Hf d e, Same Hf H ∧ Rep g Hf x d ∧ Rep g Hf y e ∧ ∃ r, F d e = .ok r ∧ OQ g H Hf r Q
section
variable {X : Cx}
theorem okMul_ok {i j : Int} (h : okMul i j = true) : IntMulOk i j := by
  have b : ∀ x : Int, Builtin.Int.intBits x ≤ x.natAbs.log2 + 1 := fun x => by
    unfold Builtin.Int.intBits
    split <;> omega
  have h1 := b i
  have h2 := b j
  have h3 : i.natAbs.log2 + j.natAbs.log2 < 100000000 := of_decide_eq_true h
  have e : PySem.bitsLine = 134217728 := by decide
  unfold IntMulOk
  intro z
  rw [Bool.and_eq_true] at z
  have z2 := z.2
  unfold Builtin.Int.intTooBig at z2
  have z3 := of_decide_eq_true z2
  rw [e] at z3
  omega
theorem opMulG : OpR X (binaryOp .Mult) (rI (fun i j => okMul i j = true) fun i j => .int (i * j)) := opI fun _ _ _ _ _ _ _ hc q => PyProof.Rows.mul_int q (okMul_ok hc)
theorem opDivG : OpR X (binaryOp .FloorDiv) (rI (fun _ j => okDiv j = true) fun i j => .int (i.fdiv j)) := opI fun i j _ _ _ _ _ hc q => by
  unfold okDiv at hc
  rw [Bool.and_eq_true] at hc
  exact PyProof.Rows.floordiv_int (of_decide_eq_true hc.1) q (.inl (PyProof.noPylong_of_log2 (of_decide_eq_true hc.2)))
theorem ls_get {pins : List (Addr × Obj)} {σ : St} {H : Hp} {s : Shared} {a : Addr} {xs : List V} (I : Inv X pins σ H s) (h : LsK X.K H a xs) : ∃ (its : List Value) (n : Nat), Vals xs its ∧ s.heap.get? a = some { cls := .type "list", data := .seq its.toArray n } := by
  rcases h with h | ⟨its, n, hk, _, r⟩
  · obtain ⟨_, its, n, r, e⟩ := h.ok I.hok
    exact ⟨its, n, r, e⟩
  · exact ⟨its, n, r, I.kIn _ _ hk⟩
/-- list + list, any that can be read -/
theorem opCatL : OpR X (binaryOp .Add) (fun x y H Q => ∃ l b xs zs, x = .ref l ∧ y = .ref b ∧ LsK X.K H l xs ∧ LsK X.K H b zs ∧ xs.length + zs.length ≤ sizeLine ∧ ∀ p, H p = none → Q (.ref p) (upd H p (.lst (xs ++ zs)))) := by
  intro pins s σ H x y v u Q I rx ry h
  obtain ⟨l, b, xs, zs, rfl, rfl, hH, hB, hz, q⟩ := h
  cases rx
  cases ry
  obtain ⟨its, n, r, e⟩ := ls_get I hH
  obtain ⟨its2, n2, r2, e2⟩ := ls_get I hB
  have hl := r.length
  have hl2 := r2.length
  refine PySem.P.add_list e e2 ?_ (by rw [List.size_toArray, List.size_toArray]; omega)
  have ea : its.toArray ++ its2.toArray = (its ++ its2).toArray := by simp
  rw [ea]
  exact ⟨.ref _, _, I.lnew (t' := s.toks) (r.append r2) (by rw [List.length_append]; omega), rfl, q _ I.fresh⟩
theorem sizeLine_val : (sizeLine : Nat) = 16777216 := sizeLine_eq

/-- a new tuple -/
theorem oq_tup {g : G} {H Hf : Hp} {vs : List V} {ds : List D} {Q : VK} (h : Same Hf H) (r : Reps g Hf vs ds) (q : OQ g H Hf (.tup ds) Q) : ∀ p, H p = none → Q (.ref p) (upd H p (.tup vs)) := fun p hp =>
  q (.ref p) _ _ (Fut.new h hp) (.tup (SqT.of upd_same) (r.mono (same_upd (h.free hp))))
/-- a new list of its own -/
theorem fq_lst {g : G} {H Hf : Hp} {vs : List V} {ds : List D} {Q : VK} (h : Same Hf H) (r : Reps g Hf vs ds) (q : FQ g H Hf ds Q) : ∀ p, H p = none → Q (.ref p) (upd H p (.lst vs)) := fun p hp =>
  q p vs _ Hf (Fut.own h hp) hp upd_same (h.free hp) r
theorem oq_here {g : G} {H Hf : Hp} {v : V} {d : D} {Q : VK} (h : Same Hf H) (r : Rep g Hf v d) (q : OQ g H Hf d Q) : Q v H := q v H Hf (Fut.refl h) r

/-- data in, a list of its own or other data out -/
def rDF (g : G) (F : D → D → R D) : R2 := fun x y H Q => ∃ Hf d e, Same Hf H ∧ Rep g Hf x d ∧ Rep g Hf y e ∧ ∃ r, F d e = .ok r ∧ (match r with | .lst ds => FQ g H Hf ds Q | r => OQ g H Hf r Q)
theorem okLen_iff {n : Nat} (h : okLen n = true) : n ≤ sizeLine := by rw [sizeLine_val]; exact of_decide_eq_true h

theorem bop_ok (op : BOp) (o : Operator) (ho : o = match op with | .add => .Add | .sub => .Sub | .mul => .Mult | .fdiv => .FloorDiv | .mod => .Mod | .pow => .Pow) : OpR X (binaryOp o) (rDF (gOf X) (bop op)) := by
  subst ho
  intro pins s σ H x y v u Q I rx ry h
  obtain ⟨Hf, d, e, sub, rd, re, r, er, q⟩ := h
  cases op with
  | add =>
    cases rd with
    | int i =>
      cases re with
      | int j => simp [bop] at er; subst er; exact op_add pins s σ H _ _ v u Q I rx ry ⟨i, j, rfl, rfl, oq_here sub (.int _) q⟩
      | _ => simp [bop] at er
    | lst h1 r1 =>
      cases re with
      | lst h2 r2 =>
        simp only [bop] at er
        split at er
        · rename_i hz
          cases er
          exact opCatL pins s σ H _ _ v u Q I rx ry ⟨_, _, _, _, rfl, rfl, same_rd sub h1, same_rd sub h2, by rw [r1.length, r2.length]; exact okLen_iff hz, fq_lst sub (r1.append r2) q⟩
        · cases er
      | _ => simp [bop] at er
    | tup h1 r1 =>
      cases re with
      | @tup a2 vs2 ds2 h2 r2 =>
        simp only [bop] at er
        split at er
        · rename_i hz
          cases er
          rw [Bool.and_eq_true] at hz
          refine op_catT pins s σ H _ _ v u Q I rx ry ⟨_, _, _, _, rfl, rfl, same_sqT sub h1, same_sqT sub h2, ?_, by rw [r1.length, r2.length]; exact okLen_iff hz.1, ?_, fun _ => oq_tup sub (r1.append r2) q⟩
          · intro z; subst z; cases r1; simp at hz
          · intro z; subst z; cases r2; exact oq_here sub (.tup h1 r1) (by simpa using q)
        · cases er
      | _ => simp [bop] at er
    | _ => simp [bop] at er
  | sub =>
    cases rd with
    | int i =>
      cases re with
      | int j => simp [bop] at er; subst er; exact op_sub pins s σ H _ _ v u Q I rx ry ⟨i, j, rfl, rfl, oq_here sub (.int _) q⟩
      | _ => simp [bop] at er
    | _ => simp [bop] at er
  | mul =>
    cases rd with
    | int i =>
      cases re with
      | int j =>
        simp only [bop] at er
        split at er
        · rename_i hz; cases er; exact opMulG pins s σ H _ _ v u Q I rx ry ⟨i, j, rfl, rfl, hz, oq_here sub (.int _) q⟩
        · cases er
      | _ => simp [bop] at er
    | _ => simp [bop] at er
  | fdiv =>
    cases rd with
    | int i =>
      cases re with
      | int j =>
        simp only [bop] at er
        split at er
        · rename_i hz; cases er; exact opDivG pins s σ H _ _ v u Q I rx ry ⟨i, j, rfl, rfl, hz, oq_here sub (.int _) q⟩
        · cases er
      | _ => simp [bop] at er
    | _ => simp [bop] at er
  | mod =>
    cases rd with
    | int i =>
      cases re with
      | int j =>
        simp only [bop] at er
        split at er
        · rename_i hz; cases er; exact op_modN pins s σ H _ _ v u Q I rx ry ⟨i, j, rfl, rfl, hz, oq_here sub (.int _) q⟩
        · cases er
      | _ => simp [bop] at er
    | _ => simp [bop] at er
  | pow =>
    cases rd with
    | int i =>
      cases re with
      | int j =>
        simp only [bop] at er
        split at er
        · rename_i hz; cases er
          unfold okPow at hz
          simp only [Bool.and_eq_true, decide_eq_true_eq] at hz
          exact op_pow pins s σ H _ _ v u Q I rx ry ⟨i, j, rfl, rfl, ⟨hz.1.1, hz.1.2, hz.2⟩, oq_here sub (.int _) q⟩
        · cases er
      | _ => simp [bop] at er
    | _ => simp [bop] at er

theorem eqD_ok {d e : D} {b : Bool} (h : eqD d e = .ok b) : ∃ p q, d.py = some p ∧ e.py = some q ∧ SeqAt.shaped p = true ∧ SeqAt.shaped q = true ∧ b = PyData.eqv p q := by
  unfold eqD at h
  split at h
  · rename_i p q h1 h2
    unfold eqP at h
    split at h
    · rename_i hs
      rw [Bool.and_eq_true] at hs
      cases h
      exact ⟨p, q, h1, h2, hs.1, hs.2, rfl⟩
    · cases h
  · cases h
def eqB (x d : D) : Bool := match eqD d x with
  | .ok c => c
  | _ => false
theorem memD_ok {x : D} : ∀ {ds : List D} {b : Bool}, memD x ds = .ok b → (∀ d ∈ ds, eqD d x = .ok (eqB x d)) ∧ b = ds.any (eqB x)
  | [], b, h => by simp [memD] at h; exact ⟨by simp, by simp [h]⟩
  | d :: ds, b, h => by
    simp only [memD] at h
    cases e1 : eqD d x with
    | ok b1 =>
      rw [e1] at h
      simp only [R.bind_ok] at h
      have q1 : eqB x d = b1 := by unfold eqB; rw [e1]
      cases e2 : memD x ds with
      | ok b2 =>
        rw [e2] at h
        simp only [R.bind_ok, R.ok.injEq] at h
        obtain ⟨hf, hb⟩ := memD_ok e2
        refine ⟨fun z hz => ?_, by rw [List.any_cons, q1, ← hb, h]⟩
        rcases List.mem_cons.mp hz with rfl | hz
        · rw [e1, q1]
        · exact hf z hz
      | err y => rw [e2] at h; simp at h
      | bad => rw [e2] at h; simp at h
    | err y => rw [e1] at h; simp at h
    | bad => rw [e1] at h; simp at h
/-- one item -/
theorem item_eqAt {pins : List (Addr × Obj)} {σ : St} {H Hf : Hp} {s : Shared} {A : Around} (I : Inv X pins σ H s) (sub : Same Hf H) (hu : A.units + 64 < cLine) {x : V} {u : Value} {d : D} (rx : RelV x u) (rd : Rep (gOf X) Hf x d) {y : V} {w : Value} {q : PyData} (ry : RelV y w) (rq : Dp X.K H y q) (sq : SeqAt.shaped q = true)
    {c : Bool} {e : D} (hq : e.py = some q) (h : eqD d e = .ok c) : ∃ p as, Reads s.heap u p as ∧ SeqAt.shaped p = true ∧ c = PyData.eqv p q ∧ SeqAt.EqAt A s u w c := by
  obtain ⟨p, q', h1, h2, h3, h4, h5⟩ := eqD_ok h
  rw [hq] at h2; cases h2
  obtain ⟨as, r1⟩ := Dp.reads I p x u ((rd.mono sub).dp h1) rx
  obtain ⟨bs, r2⟩ := Dp.reads I q y w rq ry
  refine ⟨p, as, r1, h3, h5, ?_⟩
  rw [h5]
  exact SeqAt.eqAt_reads p q A s u w as bs r1 r2 (SeqAt.canLay_of_shaped h3) (SeqAt.canLay_of_shaped sq) (SeqAt.room_of_shaped h3 hu)
open Classical in
theorem in_items {pins : List (Addr × Obj)} {σ : St} {H Hf : Hp} {s : Shared} {A : Around} (I : Inv X pins σ H s) (sub : Same Hf H) (hu : A.units + 64 < cLine) {y : V} {w : Value} {q : PyData} (ry : RelV y w) (rq : Dp X.K H y q) (sq : SeqAt.shaped q = true) {e : D} (hq : e.py = some q) :
    ∀ {vs : List V} {us : List Value} {ds : List D}, Vals vs us → Reps (gOf X) Hf vs ds → (∀ d ∈ ds, eqD d e = .ok (eqB e d)) →
      (∀ u ∈ us, SeqAt.EqAt A s u w (decide (∃ p as, Reads s.heap u p as ∧ SeqAt.shaped p = true ∧ PyData.eqv p q = true))) ∧ us.any (fun u => decide (∃ p as, Reads s.heap u p as ∧ SeqAt.shaped p = true ∧ PyData.eqv p q = true)) = ds.any (eqB e)
  | _, _, _, .nil, .nil, _ => ⟨by simp, by simp⟩
  | _, _, _, .cons r1 t1, .cons (d := d) r2 t2, h => by
    rename_i v u vs us ds
    obtain ⟨p, as, hr, hs, hc, ha⟩ := item_eqAt I sub hu r1 r2 ry rq sq hq (h d List.mem_cons_self)
    obtain ⟨h1, h2⟩ := in_items I sub hu ry rq sq hq t1 t2 fun z hz => h z (List.mem_cons_of_mem _ hz)
    have key : decide (∃ p as, Reads s.heap u p as ∧ SeqAt.shaped p = true ∧ PyData.eqv p q = true) = eqB e d := by
      rw [hc]
      by_cases z : PyData.eqv p q = true
      · rw [z]; exact decide_eq_true ⟨p, as, hr, hs, z⟩
      · rw [Bool.not_eq_true] at z
        rw [z]
        refine decide_eq_false fun ⟨p', as', hr', hs', z'⟩ => ?_
        have := SeqAt.Reads.unique p p' u as as' (SeqAt.canLay_of_shaped hs) hr hr'
        subst this
        rw [z] at z'; cases z'
    refine ⟨fun z hz => ?_, ?_⟩
    · rcases List.mem_cons.mp hz with rfl | hz
      · rw [key]; exact ha
      · exact h1 z hz
    · rw [List.any_cons, List.any_cons, key, h2]
theorem py_some {d e : D} {b : Bool} (h : eqD d e = .ok b) : ∃ q, e.py = some q ∧ SeqAt.shaped q = true := by
  obtain ⟨_, q, _, h2, _, h4, _⟩ := eqD_ok h
  exact ⟨q, h2, h4⟩
/-- x in items, at any depth -/
theorem in_any {neg : Bool} (hu : X.A.units + 128 < cLine) {pins : List (Addr × Obj)} {s : Shared} {σ : St} {H : Hp} {x y : V} {v u : Value} {Q : VK} (I : Inv X pins σ H s) (rx : RelV x v) (ry : RelV y u)
    {Hf : Hp} {d e : D} (sub : Same Hf H) (rd : Rep (gOf X) Hf x d) (re : Rep (gOf X) Hf y e) {xs : List D} (hi : itemsD e = .ok xs) {b : Bool} (hm : memD d xs = .ok b) (q : Q (.bl (if neg then !b else b)) H) :
    wpAny (model X.prog X.w) X.A (compareOp (if neg then .NotIn else .In) v u) (EP X pins σ Q) X.xe s := by
  obtain ⟨hall, hb⟩ := memD_ok hm
  have hu' : X.A.in1.units + 64 < cLine := by show X.A.units + 1 + 64 < cLine; omega
  cases xs with
  | nil =>
    simp at hb
    subst hb
    cases re with
    | @lst a vs ds h1 r1 =>
      simp [itemsD] at hi; subst hi; cases r1
      cases ry
      obtain ⟨its, r, pl, hz⟩ := I.list ((lsq (same_rd sub h1)))
      cases r
      cases neg with
      | false => exact SeqAt.in_listAt (fun _ => true) pl.isList (fun w hw => by simp at hw) ⟨.bl _, H, I, rfl, by simpa using q⟩
      | true => exact SeqAt.notIn_listAt (fun _ => true) pl.isList (fun w hw => by simp at hw) ⟨.bl _, H, I, rfl, by simpa using q⟩
    | @tup a vs ds h1 r1 =>
      simp [itemsD] at hi; subst hi; cases r1
      cases ry
      obtain ⟨its, r, pl, hz⟩ := I.tuple (same_sqT sub h1)
      cases r
      cases neg with
      | false => exact SeqAt.in_tupleAt (fun _ => true) pl (fun w hw => by simp at hw) ⟨.bl _, H, I, rfl, by simpa using q⟩
      | true => exact SeqAt.notIn_tupleAt (fun _ => true) pl (fun w hw => by simp at hw) ⟨.bl _, H, I, rfl, by simpa using q⟩
    | _ => simp [itemsD] at hi
  | cons d0 ds0 =>
    obtain ⟨qd, hq, sq⟩ := py_some (hall d0 List.mem_cons_self)
    have dq := (rd.mono sub).dp hq
    cases re with
    | @lst a vs ds h1 r1 =>
      simp [itemsD] at hi; subst hi
      cases ry
      obtain ⟨its, r, pl, hz⟩ := I.list ((lsq (same_rd sub h1)))
      obtain ⟨k1, k2⟩ := in_items (A := X.A.in1) I sub hu' rx dq sq hq r r1 hall
      cases neg with
      | false => exact SeqAt.in_listAt _ pl.isList (fun w hw => k1 w (by simpa using hw)) ⟨.bl _, H, I, rfl, by rw [List.any_toArray, k2, ← hb]; exact q⟩
      | true => exact SeqAt.notIn_listAt _ pl.isList (fun w hw => k1 w (by simpa using hw)) ⟨.bl _, H, I, rfl, by rw [List.any_toArray, k2, ← hb]; exact q⟩
    | @tup a vs ds h1 r1 =>
      simp [itemsD] at hi; subst hi
      cases ry
      obtain ⟨its, r, pl, hz⟩ := I.tuple (same_sqT sub h1)
      obtain ⟨k1, k2⟩ := in_items (A := X.A.in1) I sub hu' rx dq sq hq r r1 hall
      cases neg with
      | false => exact SeqAt.in_tupleAt _ pl (fun w hw => k1 w (by simpa using hw)) ⟨.bl _, H, I, rfl, by rw [List.any_toArray, k2, ← hb]; exact q⟩
      | true => exact SeqAt.notIn_tupleAt _ pl (fun w hw => k1 w (by simpa using hw)) ⟨.bl _, H, I, rfl, by rw [List.any_toArray, k2, ← hb]; exact q⟩
    | _ => simp [itemsD] at hi

def copC : COp → CmpOp
  | .eq => .Eq | .ne => .NotEq | .lt => .Lt | .le => .LtE | .gt => .Gt | .ge => .GtE | .isin => .In | .notin => .NotIn
theorem oq_bl {g : G} {H Hf : Hp} {b : Bool} {Q : VK} (h : Same Hf H) (q : OQ g H Hf (.bl b) Q) : Q (.bl b) H := oq_here h (.bl b) q
theorem cop_ok (op : COp) (hu : X.A.units + 128 < cLine) : OpR X (compareOp (copC op)) (rD (gOf X) (cop op)) := by
  intro pins s σ H x y v u Q I rx ry h
  obtain ⟨Hf, d, e, sub, rd, re, r, er, q⟩ := h
  cases op with
  | eq =>
    simp only [cop] at er
    cases hb : eqD d e with
    | ok b =>
      rw [hb] at er; simp at er; subst er
      obtain ⟨p, q', h1, h2, h3, h4, h5⟩ := eqD_ok hb
      exact op_eqD (by omega) pins s σ H x y v u Q I rx ry ⟨p, q', (rd.mono sub).dp h1, (re.mono sub).dp h2, h3, h4, by rw [← h5]; exact oq_bl sub q⟩
    | err z => rw [hb] at er; simp at er
    | bad => rw [hb] at er; simp at er
  | ne =>
    simp only [cop] at er
    cases hb : eqD d e with
    | ok b =>
      rw [hb] at er; simp at er; subst er
      obtain ⟨p, q', h1, h2, h3, h4, h5⟩ := eqD_ok hb
      exact op_neD (by omega) pins s σ H x y v u Q I rx ry ⟨p, q', (rd.mono sub).dp h1, (re.mono sub).dp h2, h3, h4, by rw [← h5]; exact oq_bl sub q⟩
    | err z => rw [hb] at er; simp at er
    | bad => rw [hb] at er; simp at er
  | isin =>
    simp only [cop] at er
    cases hi : itemsD e with
    | ok xs =>
      rw [hi] at er; simp only [R.bind_ok] at er
      cases hm : memD d xs with
      | ok b => rw [hm] at er; simp at er; subst er; exact in_any (neg := false) hu I rx ry sub rd re hi hm (oq_bl sub q)
      | err z => rw [hm] at er; simp at er
      | bad => rw [hm] at er; simp at er
    | err z => rw [hi] at er; simp at er
    | bad => rw [hi] at er; simp at er
  | notin =>
    simp only [cop] at er
    cases hi : itemsD e with
    | ok xs =>
      rw [hi] at er; simp only [R.bind_ok] at er
      cases hm : memD d xs with
      | ok b => rw [hm] at er; simp at er; subst er; exact in_any (neg := true) hu I rx ry sub rd re hi hm (oq_bl sub q)
      | err z => rw [hm] at er; simp at er
      | bad => rw [hm] at er; simp at er
    | err z => rw [hi] at er; simp at er
    | bad => rw [hi] at er; simp at er
  | lt =>
    cases rd with
    | int i => cases re with
      | int j => simp [cop] at er; subst er; exact op_lt pins s σ H _ _ v u Q I rx ry ⟨i, j, rfl, rfl, oq_bl sub q⟩
      | _ => simp [cop] at er
    | _ => simp [cop] at er
  | le =>
    cases rd with
    | int i => cases re with
      | int j => simp [cop] at er; subst er; exact op_le pins s σ H _ _ v u Q I rx ry ⟨i, j, rfl, rfl, oq_bl sub q⟩
      | _ => simp [cop] at er
    | _ => simp [cop] at er
  | gt =>
    cases rd with
    | int i => cases re with
      | int j => simp [cop] at er; subst er; exact op_gt pins s σ H _ _ v u Q I rx ry ⟨i, j, rfl, rfl, oq_bl sub q⟩
      | _ => simp [cop] at er
    | _ => simp [cop] at er
  | ge =>
    cases rd with
    | int i => cases re with
      | int j => simp [cop] at er; subst er; exact op_ge pins s σ H _ _ v u Q I rx ry ⟨i, j, rfl, rfl, oq_bl sub q⟩
      | _ => simp [cop] at er
    | _ => simp [cop] at er
theorem neg_ok : UnR X (unaryOp .USub) (fun x H Q => ∃ Hf d, Same Hf H ∧ Rep (gOf X) Hf x d ∧ ∃ i, d = .int i ∧ OQ (gOf X) H Hf (.int (-i)) Q) := by
  intro pins s σ H x v Q I rx h
  obtain ⟨Hf, d, sub, rd, i, rfl, q⟩ := h
  cases rd
  exact un_neg pins s σ H _ v Q I rx ⟨i, rfl, oq_here sub (.int _) q⟩
theorem isNon_iff {g : G} {H : Hp} {v : V} {d : D} (r : Rep g H v d) : decide (v = .non) = isNon d := by
  cases r <;> simp [isNon]
theorem tru_rep {Hf H : Hp} {v : V} {d : D} {b : Bool} (sub : Same Hf H) (r : Rep (gOf X) Hf v d) (h : truD d = .ok b) : TruV X.K v H b := by
  cases r with
  | non => simp [truD] at h; subst h; exact rfl
  | bl c => simp [truD] at h; subst h; exact rfl
  | int c => simp [truD] at h; subst h; exact rfl
  | str c => simp [truD] at h
  | lst h1 r1 =>
    simp only [truD, R.ok.injEq] at h; subst h
    refine .inl ⟨_, (lsq (same_rd sub h1)), ?_⟩
    cases r1 <;> rfl
  | tup h1 r1 =>
    simp only [truD, R.ok.injEq] at h; subst h
    refine .inr (.inl ⟨_, same_sqT sub h1, ?_⟩)
    cases r1 <;> rfl
  | obj _ _ _ => simp [truD] at h
/-- xs[i] -/
theorem ix_ok : IxR X (rD (gOf X) ixD) := by
  intro value slice pins s σ H x y v u Q I rx ry h hs
  obtain ⟨Hf, d, e, sub, rd, re, r, er, q⟩ := h
  have key : ∀ {vs : List V} {ds : List D} {i : Int} {r : D}, Reps (gOf X) Hf vs ds → ofO (atI ds i) = .ok r → ∃ v, atI vs i = some v ∧ Rep (gOf X) Hf v r := fun {vs ds i r} rr h => by
    unfold atI at h ⊢
    rw [rr.length]
    cases hj : ixN ds.length i with
    | none => rw [hj] at h; simp [ofO] at h
    | some j =>
      rw [hj] at h
      simp only [Option.bind_some] at h ⊢
      cases hd : ds[j]? with
      | none => rw [hd] at h; simp [ofO] at h
      | some d' =>
        rw [hd] at h
        simp [ofO] at h
        subst h
        exact rr.get hd
  cases rd with
  | lst h1 r1 =>
    cases re with
    | int i =>
      simp only [ixD] at er
      obtain ⟨w, hw, rw'⟩ := key r1 er
      exact ix_list value slice pins s σ H _ _ v u Q I rx ry ⟨_, _, _, _, rfl, rfl, (lsq (same_rd sub h1)), hw, oq_here sub rw' q⟩ hs
    | _ => simp [ixD] at er
  | tup h1 r1 =>
    cases re with
    | int i =>
      simp only [ixD] at er
      obtain ⟨w, hw, rw'⟩ := key r1 er
      exact ix_tup value slice pins s σ H _ _ v u Q I rx ry ⟨_, _, _, _, rfl, rfl, same_sqT sub h1, hw, oq_here sub rw' q⟩ hs
    | _ => simp [ixD] at er
  | _ => simp [ixD] at er
theorem cut_reps {g : G} {H : Hp} {vs : List V} {ds : List D} (lo hi : Option Int) (r : Reps g H vs ds) : Reps g H (cutV vs lo hi) (cutD ds lo hi) := by
  unfold cutV cutD
  rw [r.length]
  exact (r.drop _).take _
/-- xs[lo:hi] -/
theorem sl_ok : SlR X (fun x lo hi H Q => ∃ Hf d, Same Hf H ∧ Rep (gOf X) Hf x d ∧ ∃ r, slD d lo hi = .ok r ∧ (match r with | .lst ds => FQ (gOf X) H Hf ds Q | r => OQ (gOf X) H Hf r Q)) := by
  intro pins s σ H x v vl vu lo hi sl Q I rx hs pl pu h
  obtain ⟨Hf, d, sub, rd, r, er, q⟩ := h
  cases rd with
  | lst h1 r1 =>
    simp [slD] at er; subst er
    exact sl_list pins s σ H _ v vl vu lo hi sl Q I rx hs pl pu ⟨_, _, rfl, (lsq (same_rd sub h1)), fq_lst sub (cut_reps lo hi r1) q⟩
  | tup h1 r1 =>
    simp only [slD] at er
    split at er
    · cases er
    · rename_i hz
      cases er
      exact sl_tup pins s σ H _ v vl vu lo hi sl Q I rx hs pl pu ⟨_, _, rfl, same_sqT sub h1, by rw [r1.length]; exact hz, oq_tup sub (cut_reps lo hi r1) q⟩
  | _ => simp [slD] at er
end
end Rf
/-! # Rf3: the small syntax of expressions, its reading, the look that it is the program's -/
namespace Rf
open PySem PySem.Spec L2

/-- built-in functions and types, called -/
inductive Bi where | abs | int | len | list | tuple | min2 | max2 | gcd | lcm
  deriving DecidableEq
def biF : Bi → List D → R D
  | .abs, [.int i] => .ok (.int (if i < 0 then -i else i))
  | .int, [.int i] => .ok (.int i)
  | .int, [.bl b] => .ok (.int (if b then 1 else 0))
  | .len, [.lst xs] => .ok (.int xs.length)
  | .len, [.tup xs] => .ok (.int xs.length)
  | .list, [.lst xs] => .ok (.lst xs)
  | .list, [.tup xs] => .ok (.lst xs)
  | .tuple, [.lst xs] => .ok (.tup xs)
  | .tuple, [.tup xs] => .ok (.tup xs)
  | .min2, [.int i, .int j] => .ok (.int (if j < i then j else i))
  | .max2, [.int i, .int j] => .ok (.int (if j > i then j else i))
  | .gcd, [.int i, .int j] => .ok (.int (Nat.gcd i.natAbs j.natAbs : Nat))
  | _, _ => .bad
/-- how a built-in is named, what it is -/
inductive BiK where | fn (id : String) | ty (n : String) | mod (id : String)
def Bi.nm : Bi → Str
  | .abs => "abs" | .int => "int" | .len => "len" | .list => "list" | .tuple => "tuple" | .min2 => "min" | .max2 => "max" | .gcd => "gcd" | .lcm => "lcm"
def Bi.kd : Bi → BiK
  | .abs => .fn "abs" | .int => .ty "int" | .len => .fn "len" | .list => .ty "list" | .tuple => .ty "tuple" | .min2 => .fn "min" | .max2 => .fn "max" | .gcd => .mod "math.gcd" | .lcm => .mod "math.lcm"
/-- isinstance with a built-in class -/
inductive Ty where | int | bool | tuple | list | str
  deriving DecidableEq
def Ty.nm : Ty → Str
  | .int => "int" | .bool => "bool" | .tuple => "tuple" | .list => "list" | .str => "str"
def Ty.st : Ty → String
  | .int => "int" | .bool => "bool" | .tuple => "tuple" | .list => "list" | .str => "str"
def tyD : D → Option String
  | .non => some "NoneType" | .bl _ => some "bool" | .int _ => some "int" | .str _ => some "str" | .tup _ => some "tuple" | .lst _ => some "list" | _ => none
def isiB : Ty → D → R Bool
  | .int, .int _ => .ok true
  | .int, .bl _ => .ok true
  | .bool, .bl _ => .ok true
  | .tuple, .tup _ => .ok true
  | .list, .lst _ => .ok true
  | .str, .str _ => .ok true
  | _, .obj _ _ => .bad
  | _, .exc _ _ => .bad
  | _, _ => .ok false

/-- targets -/
inductive Tg where
  | name (i : Nat) | tup (r : Tg) | nil | cons (a r : Tg)
/-- expressions; argument lists and what a for walks are among them -/
inductive E where
  | var (i : Nat)
  | int (i : Int) | bl (b : Bool) | non | str (s : Str)
  | glob (j : Nat)
  | bin (op : BOp) (a b : E)
  | neg (a : E)
  | cmp (op : COp) (a b : E)
  | isN (a : E) (ng : Bool)
  | chain (op op' : COp) (a b c : E)
  | and (a b : E) | or (a b : E) | not (a : E)
  | ife (c a b : E)
  | tup (es : E) | lst (es : E)
  | nil | cons (a es : E)
  | ix (a b : E)
  | sl (a lo hi : E)
  | call (j : Nat) (es : E)
  | bi (b : Bi) (es : E)
  | isi (a : E) (t : Ty)
  | att (a : E) (f : Str)
  | meth (j : Nat) (a : E) (es : E)
  | comp (elt : E) (tg : Tg) (it cond : E) (own : List Nat)
  | oix (i : Nat) (b : E) | olen (i : Nat)
  | rng1 (a : E) | rng2 (a b : E) | enum (a : E) | zip (a b : E)
/-- the tables of a def: what it calls, what constants it reads, whose methods it calls -/
structure Tb where
  fn : List (Str × Fn) := []
  gl : List (Str × D) := []
  mt : List (Str × Str × Fn) := []
  /-- names of built-ins that the module leaves alone; names of a module's functions -/
  at_ : List (Str × Str) := []
  bn : List Str := []
  md : List (Str × String) := []

def getV (env : Env) (i : Nat) : R D := match env[i]? with
  | some (some (.v d)) => .ok d
  | _ => .bad
def getO (env : Env) (i : Nat) : R (List D) := match env[i]? with
  | some (some (.o xs)) => .ok xs
  | _ => .bad
/-- a list, one's own or not -/
def getL (env : Env) (i : Nat) : R (List D) := match env[i]? with
  | some (some (.o xs)) => .ok xs
  | some (some (.v (.lst xs))) => .ok xs
  | _ => .bad
/-- without the lists of one's own -/
def hideO (env : Env) : Env := env.map fun s => match s with
  | some (.v d) => some (.v d)
  | _ => none
def setT : Tg → D → Env → Option Env
  | .name i, d, env => some (env.set i (some (.v d)))
  | .tup r, .tup ds, env => setT r (.tup ds) env
  | .nil, .tup [], env => some env
  | .cons a r, .tup (d :: ds), env => (setT a d env).bind fun env' => setT r (.tup ds) env'
  | _, _, _ => none
def Tg.slots : Tg → List Nat
  | .name i => [i]
  | .tup r => r.slots
  | .nil => []
  | .cons a r => a.slots ++ r.slots
def wipeE (env : Env) : List Nat → Env
  | [] => env
  | v :: vs => (wipeE env vs).set v none
def rngD (lo hi : Int) : List D := (List.range (hi - lo).toNat).map fun k : Nat => D.int (lo + (k : Int))
def okRng (i : Int) : Bool := decide (-(2 ^ 62) ≤ i) && decide (i < 2 ^ 62)
def enumD (xs : List D) : List D := xs.zipIdx.map fun p => D.tup [.int (p.2 : Int), p.1]
def zipD (xs ys : List D) : List D := (xs.zip ys).map fun p => D.tup [p.1, p.2]
/-- the comprehension's turns -/
def compL (f : Env → R (Option D)) (tg : Tg) (env : Env) : List D → R (List D)
  | [] => .ok []
  | d :: ds => match setT tg d env with
    | none => .bad
    | some env' => match f env' with
      | .ok o => (compL f tg env ds).bind fun rs => .ok (match o with | some r => r :: rs | none => rs)
      | _ => .bad
def asB : R D → R Bool
  | .ok (.bl b) => .ok b
  | .ok _ => .bad
  | .err x => .err x
  | .bad => .bad
def fldD (at_ : List (Str × Str)) (f : Str) : D → R D
  | .obj c fs => if (c, f) ∈ at_ then ofO (fs.lookup f) else .bad
  | _ => .bad
def ordOp : COp → Bool
  | .isin => false | .notin => false | _ => true
mutual
def ev (T : Tb) : E → Env → R D
  | .var i, env => getV env i
  | .int i, _ => .ok (.int i)
  | .bl b, _ => .ok (.bl b)
  | .non, _ => .ok .non
  | .str s, _ => .ok (.str s)
  | .glob j, _ => match T.gl[j]? with
    | some (_, d) => .ok d
    | none => .bad
  | .bin op a b, env => (ev T a env).bind fun x => (ev T b env).bind fun y => bop op x y
  | .neg a, env => (ev T a env).bind fun x => match x with
    | .int i => .ok (.int (-i))
    | _ => .bad
  | .cmp op a b, env => (ev T a env).bind fun x => (ev T b env).bind fun y => cop op x y
  | .isN a ng, env => (ev T a env).bind fun x => .ok (.bl (if ng then !isNon x else isNon x))
  | .chain op op' a b c, env => (ev T a env).bind fun x => (ev T b env).bind fun y => (asB (cop op x y)).bind fun k =>
      if k = true then (ev T c env).bind fun z => cop op' y z else .ok (.bl false)
  | .and a b, env => (asB (ev T a env)).bind fun k => if k = true then ev T b env else .ok (.bl false)
  | .or a b, env => (asB (ev T a env)).bind fun k => if k = true then .ok (.bl true) else ev T b env
  | .not a, env => (asB (ev T a env)).bind fun k => .ok (.bl (!k))
  | .ife c a b, env => (evT T c env).bind fun k => if k = true then ev T a env else ev T b env
  | .tup es, env => (evs T es env).bind fun ds => if okLen ds.length = true then .ok (.tup ds) else .bad
  | .lst es, env => (evs T es env).bind fun ds => if okLen ds.length = true then .ok (.lst ds) else .bad
  | .ix a b, env => (ev T a env).bind fun x => (ev T b env).bind fun y => ixD x y
  | .sl a lo hi, env => (ev T a env).bind fun x => (evP T lo env).bind fun l => (evP T hi env).bind fun h => slD x l h
  | .call j es, env => (evs T es env).bind fun ds => match T.fn[j]? with
    | some (_, F) => F ds
    | none => .bad
  | .bi b es, env => (evs T es env).bind fun ds => biF b ds
  | .isi a t, env => (ev T a env).bind fun x => (isiB t x).bind fun b => .ok (.bl b)
  | .att a f, env => (ev T a env).bind fun x => fldD T.at_ f x
  | .meth j a es, env => (ev T a env).bind fun x => match T.mt[j]?, x with
    | some (c, m, F), .obj c' fs => if c = c' ∧ fs.lookup m = none then (evs T es env).bind fun ds => F (.obj c' fs :: ds) else .bad
    | _, _ => .bad
  | .comp elt tg it cond own, env => (evI T it env).bind fun ds =>
      (compL (fun env' => (evC T cond env').bind fun k => if k = true then (ev T elt env').bind fun d => .ok (some d) else .ok none) tg (wipeE (hideO env) own) ds).bind fun rs =>
        if okLen rs.length = true then .ok (.lst rs) else .bad
  | .oix i b, env => (getL env i).bind fun xs => (ev T b env).bind fun y => ixD (.lst xs) y
  | .olen i, env => (getL env i).bind fun xs => .ok (.int xs.length)
  | _, _ => .bad
/-- as a test -/
def evT (T : Tb) : E → Env → R Bool
  | .and a b, env => (evT T a env).bind fun k => if k = true then evT T b env else .ok false
  | .or a b, env => (evT T a env).bind fun k => if k = true then .ok true else evT T b env
  | .not a, env => (evT T a env).bind fun k => .ok (!k)
  | .bl b, _ => .ok b
  | .int i, _ => .ok (i != 0)
  | .var i, env => (getV env i).bind truD
  | .cmp op a b, env => (ev T a env).bind fun x => (ev T b env).bind fun y => asB (cop op x y)
  | .isN a ng, env => (ev T a env).bind fun x => .ok (if ng then !isNon x else isNon x)
  | .chain op op' a b c, env => (ev T a env).bind fun x => (ev T b env).bind fun y => (asB (cop op x y)).bind fun k =>
      if k = true then (ev T c env).bind fun z => asB (cop op' y z) else .ok false
  | .ix a b, env => ((ev T a env).bind fun x => (ev T b env).bind fun y => ixD x y).bind truD
  | .call j es, env => ((evs T es env).bind fun ds => match T.fn[j]? with
    | some (_, F) => F ds
    | none => .bad).bind truD
  | .bi b es, env => ((evs T es env).bind fun ds => biF b ds).bind truD
  | .isi a t, env => (ev T a env).bind fun x => isiB t x
  | .att a f, env => ((ev T a env).bind fun x => fldD T.at_ f x).bind truD
  | .meth j a es, env => ((ev T a env).bind fun x => match T.mt[j]?, x with
    | some (c, m, F), .obj c' fs => if c = c' ∧ fs.lookup m = none then (evs T es env).bind fun ds => F (.obj c' fs :: ds) else .bad
    | _, _ => .bad).bind truD
  | _, _ => .bad
/-- an argument list -/
def evs (T : Tb) : E → Env → R (List D)
  | .nil, _ => .ok []
  | .cons a es, env => (ev T a env).bind fun d => (evs T es env).bind fun ds => .ok (d :: ds)
  | _, _ => .bad
/-- a part of a slice -/
def evP (T : Tb) : E → Env → R (Option Int)
  | .nil, _ => .ok none
  | .cons a .nil, env => (ev T a env).bind partD
  | _, _ => .bad
/-- a comprehension's if -/
def evC (T : Tb) : E → Env → R Bool
  | .nil, _ => .ok true
  | .cons a .nil, env => evT T a env
  | _, _ => .bad
/-- what a for walks: its items -/
def evI (T : Tb) : E → Env → R (List D)
  | .rng1 a, env => (ev T a env).bind fun x => match x with
    | .int j => if okRng j = true then .ok (rngD 0 j) else .bad
    | _ => .bad
  | .rng2 a b, env => (ev T a env).bind fun x => (ev T b env).bind fun y => match x, y with
    | .int i, .int j => if (okRng i && okRng j) = true then .ok (rngD i j) else .bad
    | _, _ => .bad
  | .enum a, env => (ev T a env).bind fun x => match x with
    | .lst xs => .ok (enumD xs)
    | _ => .bad
  | .zip a b, env => (ev T a env).bind fun x => (ev T b env).bind fun y => match x, y with
    | .lst xs, .lst ys => .ok (zipD xs ys)
    | _, _ => .bad
  | .cons a .nil, env => (ev T a env).bind itemsD
  | _, _ => .bad
end

/-! ### the look -/
def visB (sc : Scope) (x : Str) : Bool := match sc.names.lookup x with
  | some .local => true | some .cell => true | some .free => true | _ => false
def glB (sc : Scope) (x : Str) : Bool := match sc.names.lookup x with
  | some .globalImplicit => true | _ => false
def locB (sc : Scope) (x : Str) : Bool := match sc.names.lookup x with
  | some .local => true | some .cell => true | _ => false
def nmB (x : Str) : Bool := !(x == ("__debug__" : Str)) && !(x == ("__classdict__" : Str)) && !(x == ("__name__" : Str))
def slB : Expr → Bool
  | .Slice _ _ _ _ => true
  | _ => false
def staB : Expr → Bool
  | .Starred _ _ => true
  | _ => false
def setB : Expr → Bool
  | .Set _ _ _ => true
  | _ => false
def tgOkB : E → Expr → Bool
  | .enum _, .Tuple _ _ _ => true
  | .zip _ _, .Tuple _ _ _ => true
  | .enum _, _ => false
  | .zip _ _, _ => false
  | _, _ => true
def calB : Expr → Bool
  | .Call _ _ _ _ => true
  | _ => false
def bopC : BOp → Operator
  | .add => .Add | .sub => .Sub | .mul => .Mult | .fdiv => .FloorDiv | .mod => .Mod | .pow => .Pow
def ckTg (N : List Str) (sc : Scope) : Tg → Expr → Bool
  | .name i, .Name x _ => decide (N[i]? = some x) && locB sc x
  | .tup r, .Tuple es _ _ => ckTgs N sc r es
  | _, _ => false
where ckTgs (N : List Str) (sc : Scope) : Tg → List Expr → Bool
  | .nil, [] => true
  | .cons a r, e :: es => (match a, e with
      | .name i, .Name x _ => decide (N[i]? = some x) && locB sc x
      | .tup r', .Tuple es' _ _ => ckTgs N sc r' es'
      | _, _ => false) && ckTgs N sc r es
  | _, _ => false
mutual
def ckE (N : List Str) (T : Tb) : E → Scope → Expr → Bool
  | .var i, sc, .Name x _ => decide (N[i]? = some x) && visB sc x && nmB x
  | .int i, _, .Constant (.int j) _ _ => decide (i = j)
  | .bl b, _, .Constant (.bool c) _ _ => b == c
  | .non, _, .Constant .none _ _ => true
  | .str s, _, .Constant (.str t) _ _ => decide (s = t)
  | .glob j, sc, .Name x _ => decide ((T.gl[j]?).map (·.1) = some x) && glB sc x && nmB x
  | .bin op a b, sc, .BinOp x o y _ => decide (o = bopC op) && ckE N T a sc x && ckE N T b sc y
  | .neg a, sc, .UnaryOp .USub x _ => ckE N T a sc x
  | .cmp op a b, sc, .Compare x [o] [y] _ => decide (o = copC op) && ckE N T a sc x && ckE N T b sc y && !behindInMarks o y
  | .isN a ng, sc, .Compare x [o] [.Constant .none _ _] _ => decide (o = if ng then .IsNot else .Is) && ckE N T a sc x
  | .chain op op' a b c, sc, .Compare x [o, o'] [y, z] _ => decide (o = copC op) && decide (o' = copC op') && ckE N T a sc x && ckE N T b sc y && ckE N T c sc z && !lastMarks [o, o'] [y, z]
  | .and a b, sc, .BoolOp .And (x :: y :: r) p => ckE N T a sc x && (match r with | [] => ckE N T b sc y | _ => ckE N T b sc (.BoolOp .And (y :: r) p))
  | .or a b, sc, .BoolOp .Or (x :: y :: r) p => ckE N T a sc x && (match r with | [] => ckE N T b sc y | _ => ckE N T b sc (.BoolOp .Or (y :: r) p))
  | .not a, sc, .UnaryOp .Not x _ => ckE N T a sc x
  | .ife c a b, sc, .IfExp z x y _ => ckE N T c sc z && ckE N T a sc x && ckE N T b sc y
  | .tup es, sc, .Tuple xs _ _ => ckL N T es sc xs
  | .lst es, sc, .List xs _ => ckL N T es sc xs
  | .ix a b, sc, .Subscript x y _ => ckE N T a sc x && ckE N T b sc y && !slB y
  | .sl a lo hi, sc, .Subscript x (.Slice l h none _) _ => ckE N T a sc x && ckP N T lo sc l && ckP N T hi sc h
  | .call j es, sc, .Call (.Name x _) xs [] _ => decide ((T.fn[j]?).map (·.1) = some x) && glB sc x && nmB x && ckL N T es sc xs
  | .bi b es, sc, .Call (.Name x _) (y :: ys) [] _ => decide (x = b.nm) && (match b.kd with | .mod id => decide ((x, id) ∈ T.md) | _ => decide (x ∈ T.bn)) && glB sc x && ckL N T es sc (y :: ys)
  | .isi a t, sc, .Call (.Name f _) [x, .Name c _] [] _ => decide (f = "isinstance") && decide (c = t.nm) && decide (f ∈ T.bn) && decide (c ∈ T.bn) && glB sc f && glB sc c && ckE N T a sc x && !staB x
  | .att a f, sc, .Attribute x h _ => decide (f = h) && ckE N T a sc x && !calB x
  | .comp elt tg it cond own, sc, .ListComp x [⟨t, i, ifs, 0⟩] sc' _ => blkC N sc sc' (own.map fun k => (N.getD k "", k)) && ckI N T it sc i && ckTg N sc' tg t && ckC N T cond sc' ifs && ckE N T elt sc' x && tg.slots.all (fun k => decide (k ∈ own)) && tgOkB it t && !setB i
  | .oix i b, sc, .Subscript (.Name x _) y _ => decide (N[i]? = some x) && visB sc x && nmB x && ckE N T b sc y && !slB y
  | .olen i, sc, .Call (.Name f _) [.Name x _] [] _ => decide (f = "len") && decide (f ∈ T.bn) && glB sc f && decide (N[i]? = some x) && visB sc x && nmB x
  | _, _, _ => false
def ckL (N : List Str) (T : Tb) : E → Scope → List Expr → Bool
  | .nil, _, [] => true
  | .cons a es, sc, x :: xs => ckE N T a sc x && !staB x && ckL N T es sc xs
  | _, _, _ => false
def ckP (N : List Str) (T : Tb) : E → Scope → Option Expr → Bool
  | .nil, _, none => true
  | .cons a .nil, sc, some x => ckE N T a sc x
  | _, _, _ => false
def ckC (N : List Str) (T : Tb) : E → Scope → List Expr → Bool
  | .nil, _, [] => true
  | .cons a .nil, sc, [x] => ckE N T a sc x
  | _, _, _ => false
def ckI (N : List Str) (T : Tb) : E → Scope → Expr → Bool
  | .rng1 a, sc, .Call (.Name f _) [x] [] _ => decide (f = "range") && decide (f ∈ T.bn) && glB sc f && ckE N T a sc x && !staB x
  | .rng2 a b, sc, .Call (.Name f _) [x, y] [] _ => decide (f = "range") && decide (f ∈ T.bn) && glB sc f && ckE N T a sc x && !staB x && ckE N T b sc y && !staB y
  | .enum a, sc, .Call (.Name f _) [x] [] _ => decide (f = "enumerate") && decide (f ∈ T.bn) && glB sc f && ckE N T a sc x && !staB x
  | .zip a b, sc, .Call (.Name f _) [x, y] [] _ => decide (f = "zip") && decide (f ∈ T.bn) && glB sc f && ckE N T a sc x && !staB x && ckE N T b sc y && !staB y
  | .cons a .nil, sc, x => ckE N T a sc x
  | _, _, _ => false
end
end Rf
/-! # Rf4: the machine does what the reading of an expression says -/
namespace Rf
open PySem PySem.Spec L2

/-! ### results that are wanted, of any kind -/
def RG {α : Type} (g : G) (W : WE) (σ : St) (P : α → Hp → Hp → Prop) (r : R α) (H Hf : Hp) : Prop := match r with
  | .ok a => P a H Hf
  | .err x => EQ g W σ H Hf x
  | .bad => False
abbrev OP (g : G) (Q : VK) : D → Hp → Hp → Prop := fun d H Hf => OQ g H Hf d Q
abbrev FP (g : G) (Q : VK) : D → Hp → Hp → Prop := fun d H Hf => match d with | .lst ds => FQ g H Hf ds Q | _ => False
abbrev XP (g : G) (Q : VK) : D → Hp → Hp → Prop := fun d H Hf => match d with | .lst ds => FQ g H Hf ds Q | d => OQ g H Hf d Q
abbrev BP (Q : Bool → Hp → Prop) : Bool → Hp → Hp → Prop := fun b H Hf => ∀ H' Hf', Fut H Hf H' Hf' → Q b H'
abbrev AP (g : G) (Q : List V → Hp → Prop) : List D → Hp → Hp → Prop := fun ds H Hf => ∀ vs H' Hf', Fut H Hf H' Hf' → Reps g Hf' vs ds → Q vs H'
abbrev PP (Q : Option Int → Hp → Prop) : Option Int → Hp → Hp → Prop := fun o H Hf => ∀ H' Hf', Fut H Hf H' Hf' → Q o H'
/-- what stays true as the heap grows -/
def Lat {α : Type} (P : α → Hp → Hp → Prop) : Prop := ∀ a H Hf H' Hf', Fut H Hf H' Hf' → P a H Hf → P a H' Hf'
theorem lat_OP {g : G} {Q : VK} : Lat (OP g Q) := fun _ _ _ _ _ f h v H' Hf' f' r => h v H' Hf' (f.trans f') r
theorem lat_FP {g : G} {Q : VK} : Lat (FP g Q) := fun d H Hf H1 Hf1 f h => by
  cases d <;> first | exact h | exact fun p vs H' Hf' f' hn h1 h2 r => h p vs H' Hf' (f.trans f') (f.s.free hn) h1 h2 r
theorem lat_XP {g : G} {Q : VK} : Lat (XP g Q) := fun d H Hf H1 Hf1 f h => by
  cases d with
  | lst ds => exact fun p vs H' Hf' f' hn h1 h2 r => h p vs H' Hf' (f.trans f') (f.s.free hn) h1 h2 r
  | _ => exact fun v H' Hf' f' r => h v H' Hf' (f.trans f') r
theorem lat_BP {Q : Bool → Hp → Prop} : Lat (BP Q) := fun _ _ _ _ _ f h H' Hf' f' => h H' Hf' (f.trans f')
theorem lat_AP {g : G} {Q : List V → Hp → Prop} : Lat (AP g Q) := fun _ _ _ _ _ f h v H' Hf' f' r => h v H' Hf' (f.trans f') r
theorem lat_PP {Q : Option Int → Hp → Prop} : Lat (PP Q) := fun _ _ _ _ _ f h H' Hf' f' => h H' Hf' (f.trans f')
theorem EQ.later {g : G} {W : WE} {σ : St} {H Hf H1 Hf1 : Hp} {x : Exn} (h : EQ g W σ H Hf x) (f : Fut H Hf H1 Hf1) : EQ g W σ H1 Hf1 x := fun c d H' Hf' f' r => h c d H' Hf' (f.trans f') r
theorem RG.later {α : Type} {g : G} {W : WE} {σ : St} {P : α → Hp → Hp → Prop} (L : Lat P) {r : R α} {H Hf H1 Hf1 : Hp} (h : RG g W σ P r H Hf) (f : Fut H Hf H1 Hf1) : RG g W σ P r H1 Hf1 := by
  cases r with
  | ok a => exact L _ _ _ _ _ f h
  | err x => exact EQ.later h f
  | bad => exact h
theorem RG.bind {α β : Type} {g : G} {W : WE} {σ : St} {P : β → Hp → Hp → Prop} {r : R α} {k : α → R β} {H Hf : Hp} (h : RG g W σ P (r.bind k) H Hf) : RG g W σ (fun a H Hf => RG g W σ P (k a) H Hf) r H Hf := by
  cases r <;> exact h
theorem RG.imp {α : Type} {g : G} {W : WE} {σ : St} {P P' : α → Hp → Hp → Prop} {r : R α} {H Hf : Hp} (h : RG g W σ P r H Hf) (k : ∀ a, r = .ok a → P a H Hf → P' a H Hf) : RG g W σ P' r H Hf := by
  cases r with
  | ok a => exact k a rfl h
  | err x => exact h
  | bad => exact h
theorem _root_.L2.PE.imp {X : Cx} {e : Expr} {t t' : TE} (h : PE X e t) (k : ∀ σ H Q, t' σ H Q → t σ H Q) : PE X e t' := ⟨fun pins s σ H Q I q => h.run pins s σ H Q I (k σ H Q q)⟩
theorem _root_.L2.PT.imp {X : Cx} {e : Expr} {t t' : TT} (h : PT X e t) (k : ∀ σ H Q, t' σ H Q → t σ H Q) : PT X e t' := ⟨fun pins s σ H Q I q => h.run pins s σ H Q I (k σ H Q q)⟩
theorem _root_.L2.PA.imp {X : Cx} {e : List Expr} {t t' : TA} (h : PA X e t) (k : ∀ σ H Q, t' σ H Q → t σ H Q) : PA X e t' := ⟨fun pos pins s σ H Q I q => h.run pos pins s σ H Q I (k σ H Q q)⟩
theorem _root_.L2.PO.imp {X : Cx} {e : Option Expr} {t t' : TO} (h : PO X e t) (k : ∀ σ H Q, t' σ H Q → t σ H Q) : PO X e t' := ⟨fun pins s σ H Q I q => h.run pins s σ H Q I (k σ H Q q)⟩
theorem _root_.L2.PI.imp {X : Cx} {tg e : Expr} {t t' : TI} (h : PI X tg e t) (k : ∀ σ H Q, t' σ H Q → t σ H Q) : PI X tg e t' := ⟨fun pins s σ H Q I q => h.run pins s σ H Q I (k σ H Q q)⟩

/-! ### the readings -/
def tD (g : G) (T : Tb) (W : WE) (e : E) : TE := fun σ H Q => ∃ H0 Hf0 Hf env, SR g H0 Hf0 σ H Hf env ∧ RG g W σ (OP g Q) (ev T e env) H Hf
def tDF (g : G) (T : Tb) (W : WE) (e : E) : TE := fun σ H Q => ∃ H0 Hf0 Hf env, SR g H0 Hf0 σ H Hf env ∧ RG g W σ (FP g Q) (ev T e env) H Hf
def tDT (g : G) (T : Tb) (W : WE) (e : E) : TT := fun σ H Q => ∃ H0 Hf0 Hf env, SR g H0 Hf0 σ H Hf env ∧ RG g W σ (BP Q) (evT T e env) H Hf
def tDA (g : G) (T : Tb) (W : WE) (e : E) : TA := fun σ H Q => ∃ H0 Hf0 Hf env, SR g H0 Hf0 σ H Hf env ∧ RG g W σ (AP g Q) (evs T e env) H Hf
def tDP (g : G) (T : Tb) (W : WE) (e : E) : TO := fun σ H Q => ∃ H0 Hf0 Hf env, SR g H0 Hf0 σ H Hf env ∧ RG g W σ (PP Q) (evP T e env) H Hf
def tDC (g : G) (T : Tb) (W : WE) (e : E) : TT := fun σ H Q => ∃ H0 Hf0 Hf env, SR g H0 Hf0 σ H Hf env ∧ RG g W σ (BP Q) (evC T e env) H Hf
/-- an iterator that yields the items -/
structure Yld (g : G) (J : It) (Hf1 : Hp) (ds : List D) : Prop where
  go : ∀ i H Hf, Same Hf1 Hf → Same Hf H → i < ds.length → J.go i H
  stop : ∀ H Hf, Same Hf1 Hf → Same Hf H → J.stop ds.length H
  yld : ∀ i H Hf x H' d, Same Hf1 Hf → Same Hf H → J.yld i H x H' → ds[i]? = some d → ∃ Hf', Fut H Hf H' Hf' ∧ Rep g Hf' x d
theorem Yld.mono {g : G} {J : It} {Hf1 Hf2 : Hp} {ds : List D} (y : Yld g J Hf1 ds) (h : Same Hf1 Hf2) : Yld g J Hf2 ds :=
  ⟨fun i H Hf a b => y.go i H Hf (h.trans a) b, fun H Hf a b => y.stop H Hf (h.trans a) b, fun i H Hf x H' d a b => y.yld i H Hf x H' d (h.trans a) b⟩
abbrev IP (g : G) (Rr : It → Hp → Prop) : List D → Hp → Hp → Prop := fun ds H Hf => ∀ J H' Hf', Fut H Hf H' Hf' → Yld g J Hf' ds → Rr J H'
theorem lat_IP {g : G} {Rr : It → Hp → Prop} : Lat (IP g Rr) := fun _ _ _ _ _ f h J H' Hf' f' y => h J H' Hf' (f.trans f') y
def tDI (g : G) (T : Tb) (W : WE) (e : E) : TI := fun σ H Rr => ∃ H0 Hf0 Hf env, SR g H0 Hf0 σ H Hf env ∧ RG g W σ (IP g Rr) (evI T e env) H Hf

section
variable {g : G} {T : Tb} {W : WE} {H0 Hf0 H Hf : Hp} {env : Env} {σ : St} {α : Type}
/-- a part is reckoned first -/
theorem tD_step {P : α → Hp → Hp → Prop} (L : Lat P) {a : E} {k : D → R α} {Q' : VK} (sr : SR g H0 Hf0 σ H Hf env) (h : RG g W σ P ((ev T a env).bind k) H Hf)
    (nx : ∀ d v H1 Hf1, ev T a env = .ok d → Fut H Hf H1 Hf1 → Rep g Hf1 v d → SR g H0 Hf0 σ H1 Hf1 env → RG g W σ P (k d) H1 Hf1 → Q' v H1) : tD g T W a σ H Q' :=
  ⟨H0, Hf0, Hf, env, sr, h.bind.imp fun d e q v H1 Hf1 f r => nx d v H1 Hf1 e f r (sr.mono f) (RG.later L q f)⟩
theorem tDT_step {P : α → Hp → Hp → Prop} (L : Lat P) {a : E} {k : Bool → R α} {Q' : Bool → Hp → Prop} (sr : SR g H0 Hf0 σ H Hf env) (h : RG g W σ P ((evT T a env).bind k) H Hf)
    (nx : ∀ b H1 Hf1, Fut H Hf H1 Hf1 → SR g H0 Hf0 σ H1 Hf1 env → RG g W σ P (k b) H1 Hf1 → Q' b H1) : tDT g T W a σ H Q' :=
  ⟨H0, Hf0, Hf, env, sr, h.bind.imp fun b e q H1 Hf1 f => nx b H1 Hf1 f (sr.mono f) (RG.later L q f)⟩
theorem tDA_step {P : α → Hp → Hp → Prop} (L : Lat P) {a : E} {k : List D → R α} {Q' : List V → Hp → Prop} (sr : SR g H0 Hf0 σ H Hf env) (h : RG g W σ P ((evs T a env).bind k) H Hf)
    (nx : ∀ d v H1 Hf1, Fut H Hf H1 Hf1 → Reps g Hf1 v d → SR g H0 Hf0 σ H1 Hf1 env → RG g W σ P (k d) H1 Hf1 → Q' v H1) : tDA g T W a σ H Q' :=
  ⟨H0, Hf0, Hf, env, sr, h.bind.imp fun d e q v H1 Hf1 f r => nx d v H1 Hf1 f r (sr.mono f) (RG.later L q f)⟩
theorem tDP_step {P : α → Hp → Hp → Prop} (L : Lat P) {a : E} {k : Option Int → R α} {Q' : Option Int → Hp → Prop} (sr : SR g H0 Hf0 σ H Hf env) (h : RG g W σ P ((evP T a env).bind k) H Hf)
    (nx : ∀ b H1 Hf1, Fut H Hf H1 Hf1 → SR g H0 Hf0 σ H1 Hf1 env → RG g W σ P (k b) H1 Hf1 → Q' b H1) : tDP g T W a σ H Q' :=
  ⟨H0, Hf0, Hf, env, sr, h.bind.imp fun b e q H1 Hf1 f => nx b H1 Hf1 f (sr.mono f) (RG.later L q f)⟩
theorem asB_ok {r : R D} {P : α → Hp → Hp → Prop} {k : Bool → R α} (h : RG g W σ P ((asB r).bind k) H Hf) : RG g W σ (fun d H Hf => ∃ b, d = .bl b ∧ RG g W σ P (k b) H Hf) r H Hf := by
  cases r with
  | ok d => cases d <;> first | exact ⟨_, rfl, h⟩ | exact h.elim
  | err x => exact h
  | bad => exact h
/-- a part that must be a bool -/
theorem tD_stepB {P : α → Hp → Hp → Prop} (L : Lat P) {a : E} {k : Bool → R α} {Q' : VK} (sr : SR g H0 Hf0 σ H Hf env) (h : RG g W σ P ((asB (ev T a env)).bind k) H Hf)
    (nx : ∀ b H1 Hf1, Fut H Hf H1 Hf1 → SR g H0 Hf0 σ H1 Hf1 env → RG g W σ P (k b) H1 Hf1 → Q' (.bl b) H1) : tD g T W a σ H Q' :=
  ⟨H0, Hf0, Hf, env, sr, (asB_ok h).imp fun d e ⟨b, eb, q⟩ v H1 Hf1 f r => by subst eb; cases r; exact nx b H1 Hf1 f (sr.mono f) (RG.later L q f)⟩
end

/-! ### what is known of the names -/
/-- a promise of a def (or a class that is called) -/
def spD (g : G) (F : Fn) : Sp := fun vs H Q Ex => ∃ Hf ds, Same Hf H ∧ Reps g Hf vs ds ∧ RG g (fun cls d _ H' => Ex cls d H') [] (OP g Q) (F ds) H Hf
structure Prm (g : G) (n : Nat) (x : Str) (F : Fn) : Prop where
  ex : ∃ f, g.mg x = some (.ref f) ∧ PySem.W.keepIn g.K (.ref f) = true ∧ ∀ (X : Cx), gOf X = g → Room n X.A → ∀ (W : WE), Takes X W → ∀ (pins : List (Addr × Obj)) (s : Shared) (σ : St) (H Hf : Hp) (Q : VK) (us : List Value) (vs : List V) (ds : List D),
    Inv X pins σ H s → Vals vs us → Same Hf H → Reps g Hf vs ds → RG g W σ (OP g Q) (F ds) H Hf → wpAny (model X.prog X.w) X.A (call (.ref f) us) (EP X pins σ Q) X.xe s
def Gcon (g : G) (x : Str) (d : D) : Prop := ∃ v u, g.mg x = some u ∧ RelV v u ∧ ∀ H, Rep g H v d
/-- a method of an own class -/
structure PrmM (g : G) (n : Nat) (c m : Str) (F : Fn) : Prop where
  ex : ∃ C f, g.mg c = some (.ref C) ∧ Cls g.K C ∧ Meth g.K C m f ∧ ∀ (X : Cx), gOf X = g → Room n X.A → ∀ (W : WE), Takes X W → ∀ (pins : List (Addr × Obj)) (s : Shared) (σ : St) (H Hf : Hp) (Q : VK) (us : List Value) (vs : List V) (ds : List D),
    Inv X pins σ H s → Vals vs us → Same Hf H → Reps g Hf vs ds → RG g W σ (OP g Q) (F ds) H Hf → wpAny (model X.prog X.w) X.A (call (.ref f) us) (EP X pins σ Q) X.xe s
structure Know (g : G) (n : Nat) (T : Tb) : Prop where
  fn : ∀ p ∈ T.fn, Prm g n p.1 p.2
  gl : ∀ p ∈ T.gl, Gcon g p.1 p.2
  mt : ∀ p ∈ T.mt, PrmM g n p.1 p.2.1 p.2.2
  bn : ∀ x ∈ T.bn, g.mg x = none
  md : ∀ p ∈ T.md, g.mg p.1 = some (.builtin p.2)
  at_ : ∀ p ∈ T.at_, ∃ C, g.mg p.1 = some (.ref C) ∧ Cls g.K C ∧ NoAttr g.K C p.2
structure Good (N : List Str) (sc : Scope) (n : Nat) (X : Cx) : Prop where
  eN : X.N = N
  vis : ∀ x, visB sc x = true → Vis X.env.scope x
  gl : ∀ x, glB sc x = true → X.env.scope.names.lookup x = some .globalImplicit
  loc : ∀ x, locB sc x = true → L2.Loc X.env.scope x ∧ (X.fn x = true ∨ X.env.scope.names.lookup x = some .local)
  cf : ∀ x, sc.names.lookup x = some .cell ∨ sc.names.lookup x = some .free → X.env.scope.names.lookup x = some .cell ∨ X.env.scope.names.lookup x = some .free
  calm : X.calm = true
  room : Room n X.A
  nd : N.Nodup
section
variable {N : List Str} {sc : Scope} {n : Nat} {X : Cx}
theorem vis_of {x : Str} (h : visB sc x = true) : Vis sc x := by
  unfold visB at h
  split at h
  · exact .inl (by assumption)
  · exact .inr (.inl (by assumption))
  · exact .inr (.inr (by assumption))
  · cases h
theorem loc_of {x : Str} (h : locB sc x = true) : L2.Loc sc x := by
  unfold locB at h
  split at h
  · exact .inl (by assumption)
  · exact .inr (by assumption)
  · cases h
theorem gl_of (G : Good N sc n X) {x : Str} (h : glB sc x = true) : Gl X x := by
  exact G.gl x h
theorem nm_of {x : Str} (h : nmB x = true) : (x == ("__debug__" : Str)) = false ∧ (x == ("__classdict__" : Str)) = false ∧ x ≠ "__name__" := by
  unfold nmB at h
  simp only [Bool.and_eq_true, Bool.not_eq_true', beq_eq_false_iff_ne, ne_eq] at h
  exact ⟨by simpa using h.1.1, by simpa using h.1.2, h.2⟩
theorem units_of (G : Good N sc n X) : X.A.units + 128 < cLine := by
  have := G.room.un; omega
theorem star_of {x : Expr} {xs : List Expr} {e : PySem.Env} (h : staB x = false) : starEach (x :: xs) e = (false, eval x e) :: starEach xs e := by
  cases x <;> first | rfl | cases h
theorem plain_of {x : Expr} (h : slB x = false) : PlainIx x := by
  cases x <;> first | exact fun _ _ => rfl | cases h
end
end Rf
/-! # Rf5: expressions, one rule a construct -/
namespace Rf
open PySem PySem.Spec L2
def tDX (g : G) (T : Tb) (W : WE) (e : E) : TE := fun σ H Q => ∃ H0 Hf0 Hf env, SR g H0 Hf0 σ H Hf env ∧ RG g W σ (XP g Q) (ev T e env) H Hf
theorem xp_of_op {g : G} {Q : VK} {d : D} {H Hf : Hp} (h : OP g Q d H Hf) : XP g Q d H Hf := by
  cases d with
  | lst ds => exact FQ.of h
  | _ => exact h
theorem tDX_E {X : Cx} {T : Tb} {W : WE} {e : E} {x : Expr} (h : PE X x (tDX (gOf X) T W e)) : PE X x (tD (gOf X) T W e) :=
  h.imp fun σ H Q ⟨H0, Hf0, Hf, env, sr, r⟩ => ⟨H0, Hf0, Hf, env, sr, r.imp fun _ _ q => xp_of_op q⟩
theorem tDX_F {X : Cx} {T : Tb} {W : WE} {e : E} {x : Expr} (h : PE X x (tDX (gOf X) T W e)) : PE X x (tDF (gOf X) T W e) :=
  h.imp fun σ H Q ⟨H0, Hf0, Hf, env, sr, r⟩ => ⟨H0, Hf0, Hf, env, sr, r.imp fun d _ q => by cases d <;> first | exact q | exact q.elim⟩
/-- a rule's end: an operation on data -/
theorem rD_of {g : G} {W : WE} {σ : St} {Q : VK} {F : D → D → R D} {x y : V} {d e : D} {H Hf : Hp} (sub : Same Hf H) (rx : Rep g Hf x d) (ry : Rep g Hf y e) (hne : ∀ z, F d e ≠ .err z) (h : RG g W σ (OP g Q) (F d e) H Hf) : rD g F x y H Q := by
  refine ⟨Hf, d, e, sub, rx, ry, ?_⟩
  cases hf : F d e with
  | ok r => rw [hf] at h; exact ⟨r, rfl, h⟩
  | err z => exact absurd hf (hne z)
  | bad => rw [hf] at h; exact h.elim
theorem rDF_of {g : G} {W : WE} {σ : St} {Q : VK} {F : D → D → R D} {x y : V} {d e : D} {H Hf : Hp} (sub : Same Hf H) (rx : Rep g Hf x d) (ry : Rep g Hf y e) (hne : ∀ z, F d e ≠ .err z) (h : RG g W σ (XP g Q) (F d e) H Hf) : rDF g F x y H Q := by
  refine ⟨Hf, d, e, sub, rx, ry, ?_⟩
  cases hf : F d e with
  | ok r => rw [hf] at h; exact ⟨r, rfl, h⟩
  | err z => exact absurd hf (hne z)
  | bad => rw [hf] at h; exact h.elim
theorem bop_ne (op : BOp) (d e : D) (z : Exn) : bop op d e ≠ .err z := by
  unfold bop
  split <;> (try split) <;> (intro h; cases h)
theorem eqD_ne (d e : D) (z : Exn) : eqD d e ≠ .err z := by
  unfold eqD
  split
  · unfold eqP; split <;> (intro h; cases h)
  · intro h; cases h
theorem memD_ne (x : D) (z : Exn) : ∀ ds, memD x ds ≠ .err z
  | [] => by simp [memD]
  | d :: ds => by
    simp only [memD]
    cases h1 : eqD d x with
    | ok b =>
      cases h2 : memD x ds with
      | ok c => simp
      | err w => exact absurd h2 (memD_ne x w ds)
      | bad => simp
    | err w => exact absurd h1 (eqD_ne _ _ _)
    | bad => simp
theorem cop_ne (op : COp) (d e : D) (z : Exn) : cop op d e ≠ .err z := by
  cases op with
  | eq => simp only [cop]; cases h : eqD d e <;> first | exact absurd h (eqD_ne _ _ _) | simp
  | ne => simp only [cop]; cases h : eqD d e <;> first | exact absurd h (eqD_ne _ _ _) | simp
  | isin => simp only [cop]; cases hi : itemsD e with
    | ok xs => simp only [R.bind_ok]; cases h : memD d xs <;> first | exact absurd h (memD_ne _ _ _) | simp
    | err w => unfold itemsD at hi; split at hi <;> cases hi
    | bad => simp
  | notin => simp only [cop]; cases hi : itemsD e with
    | ok xs => simp only [R.bind_ok]; cases h : memD d xs <;> first | exact absurd h (memD_ne _ _ _) | simp
    | err w => unfold itemsD at hi; split at hi <;> cases hi
    | bad => simp
  | _ => cases d <;> cases e <;> simp [cop]
theorem ixD_ne (d e : D) (z : Exn) : ixD d e ≠ .err z := by
  unfold ixD
  split <;> (try unfold ofO) <;> (try split) <;> (intro h; cases h)
theorem slD_ne (d : D) (lo hi : Option Int) (z : Exn) : slD d lo hi ≠ .err z := by
  unfold slD
  split <;> (try split) <;> (intro h; cases h)
theorem ifr {α : Type} {g : G} {W : WE} {σ : St} {P : α → Hp → Hp → Prop} {c : Prop} [Decidable c] {a : R α} {H Hf : Hp} (h : RG g W σ P (if c then a else .bad) H Hf) : c ∧ RG g W σ P a H Hf := by
  by_cases hc : c
  · rw [if_pos hc] at h; exact ⟨hc, h⟩
  · rw [if_neg hc] at h; exact h.elim

section
variable {X : Cx} {N : List Str} {sc : Scope} {n : Nat} {T : Tb} {W : WE} {a b c : E} {x y z : Expr} {p : Pos} {k : Nat}
theorem e_var {i : Nat} {s : Str} (G : Good N sc n X) (h1 : N[i]? = some s) (h2 : visB sc s = true) (h3 : nmB s = true) : PE X (.Name s p) (tD (gOf X) T W (.var i)) := by
  obtain ⟨d1, d2, _⟩ := nm_of h3
  refine PE.imp (pe_var (i := i) (by rw [G.eN]; exact h1) (G.vis _ h2) d1 d2) fun σ H Q ⟨H0, Hf0, Hf, env, sr, r⟩ => ?_
  simp only [ev, getV] at r
  split at r
  · rename_i d he
    obtain ⟨v, hv, sl⟩ := sr.slot i _ he
    cases sl with
    | v q => exact ⟨v, hv, oq_here sr.sub q r⟩
  · exact r.elim
theorem e_int {i : Int} : PE X (.Constant (.int i) k p) (tD (gOf X) T W (.int i)) := pe_int.imp fun σ H Q ⟨H0, Hf0, Hf, env, sr, r⟩ => oq_here sr.sub (.int i) (by simp only [ev] at r; exact r)
theorem e_bl {i : Bool} : PE X (.Constant (.bool i) k p) (tD (gOf X) T W (.bl i)) := pe_bl.imp fun σ H Q ⟨H0, Hf0, Hf, env, sr, r⟩ => oq_here sr.sub (.bl i) (by simp only [ev] at r; exact r)
theorem e_non : PE X (.Constant .none k p) (tD (gOf X) T W .non) := pe_non.imp fun σ H Q ⟨H0, Hf0, Hf, env, sr, r⟩ => oq_here sr.sub .non (by simp only [ev] at r; exact r)
theorem e_str {i : Str} : PE X (.Constant (.str i) k p) (tD (gOf X) T W (.str i)) := pe_str.imp fun σ H Q ⟨H0, Hf0, Hf, env, sr, r⟩ => oq_here sr.sub (.str i) (by simp only [ev] at r; exact r)
theorem e_glob {j : Nat} {s : Str} (G : Good N sc n X) (K : Know (gOf X) n T) (h1 : (T.gl[j]?).map (·.1) = some s) (h2 : glB sc s = true) (h3 : nmB s = true) : PE X (.Name s p) (tD (gOf X) T W (.glob j)) := by
  obtain ⟨d1, d2, _⟩ := nm_of h3
  cases hg : T.gl[j]? with
  | none => rw [hg] at h1; cases h1
  | some q =>
    obtain ⟨s', d⟩ := q
    rw [hg] at h1; cases h1
    obtain ⟨v, u, hm, rv, hr⟩ := K.gl _ (List.mem_of_getElem? hg)
    refine PE.imp (pe_glob (gl_of G h2) hm rv d1) fun σ H Q ⟨H0, Hf0, Hf, env, sr, r⟩ => ?_
    simp only [ev, hg] at r
    exact oq_here sr.sub (hr Hf) r
theorem e_bin {op : BOp} (ha : PE X x (tD (gOf X) T W a)) (hb : PE X y (tD (gOf X) T W b)) : PE X (.BinOp x (bopC op) y p) (tDX (gOf X) T W (.bin op a b)) := by
  refine (pe_op (bop_ok (X := X) op (bopC op) (by cases op <;> rfl)) ha hb).imp fun σ H Q ⟨H0, Hf0, Hf, env, sr, r⟩ => ?_
  simp only [ev] at r
  refine tD_step lat_XP sr r fun d v H1 Hf1 _ f1 r1 sr1 q1 => ?_
  refine tD_step lat_XP sr1 q1 fun e w H2 Hf2 _ f2 r2 sr2 q2 => ?_
  exact rDF_of sr2.sub (r1.mono f2.f) r2 (bop_ne _ _ _) q2
theorem e_neg (ha : PE X x (tD (gOf X) T W a)) : PE X (.UnaryOp .USub x p) (tD (gOf X) T W (.neg a)) := by
  refine (pe_un neg_ok ha).imp fun σ H Q ⟨H0, Hf0, Hf, env, sr, r⟩ => ?_
  simp only [ev] at r
  refine tD_step lat_OP sr r fun d v H1 Hf1 _ f1 r1 sr1 q1 => ?_
  cases d <;> first | exact q1.elim | exact ⟨Hf1, _, sr1.sub, r1, _, rfl, q1⟩
theorem e_cmp {op : COp} (G : Good N sc n X) (ha : PE X x (tD (gOf X) T W a)) (hb : PE X y (tD (gOf X) T W b)) (hm : behindInMarks (copC op) y = false) : PE X (.Compare x [copC op] [y] p) (tD (gOf X) T W (.cmp op a b)) := by
  refine (pe_cmpR (cop_ok op (units_of G)) ha hb hm).imp fun σ H Q ⟨H0, Hf0, Hf, env, sr, r⟩ => ?_
  simp only [ev] at r
  refine tD_step lat_OP sr r fun d v H1 Hf1 _ f1 r1 sr1 q1 => ?_
  refine tD_step lat_OP sr1 q1 fun e w H2 Hf2 _ f2 r2 sr2 q2 => ?_
  exact rD_of sr2.sub (r1.mono f2.f) r2 (cop_ne _ _ _) q2
/-- an operation's bool, as a test -/
theorem rD_ofB {g : G} {W : WE} {σ : St} {Q : Bool → Hp → Prop} {F : D → D → R D} {x y : V} {d e : D} {H Hf : Hp} (sub : Same Hf H) (rx : Rep g Hf x d) (ry : Rep g Hf y e) (hne : ∀ z, F d e ≠ .err z) (h : RG g W σ (BP Q) (asB (F d e)) H Hf) :
    rD g F x y H (fun v H' => ∃ k, v = .bl k ∧ Q k H') := by
  refine ⟨Hf, d, e, sub, rx, ry, ?_⟩
  cases hf : F d e with
  | ok r =>
    rw [hf] at h
    cases r with
    | bl b => exact ⟨_, rfl, fun v H' Hf' f r => by cases r; exact ⟨b, rfl, h H' Hf' f⟩⟩
    | _ => exact h.elim
  | err z => exact absurd hf (hne z)
  | bad => rw [hf] at h; exact h.elim
theorem t_cmp {op : COp} (G : Good N sc n X) (ha : PE X x (tD (gOf X) T W a)) (hb : PE X y (tD (gOf X) T W b)) (hm : behindInMarks (copC op) y = false) : PT X (.Compare x [copC op] [y] p) (tDT (gOf X) T W (.cmp op a b)) := by
  refine (pt_cmpR (cop_ok op (units_of G)) ha hb hm).imp fun σ H Q ⟨H0, Hf0, Hf, env, sr, r⟩ => ?_
  simp only [evT] at r
  refine tD_step lat_BP sr r fun d v H1 Hf1 _ f1 r1 sr1 q1 => ?_
  refine tD_step lat_BP sr1 q1 fun e w H2 Hf2 _ f2 r2 sr2 q2 => ?_
  exact rD_ofB sr2.sub (r1.mono f2.f) r2 (cop_ne _ _ _) q2
theorem e_isN {ng : Bool} {j : Nat} {p' : Pos} (ha : PE X x (tD (gOf X) T W a)) : PE X (.Compare x [if ng then .IsNot else .Is] [.Constant .none j p'] p) (tD (gOf X) T W (.isN a ng)) := by
  cases ng with
  | false =>
    refine (pe_cmp (pc_isN ha) rfl).imp fun σ H Q ⟨H0, Hf0, Hf, env, sr, r⟩ => ?_
    simp only [ev] at r
    refine tD_step lat_OP sr r fun d v H1 Hf1 _ f1 r1 sr1 q1 => ?_
    rw [isNon_iff r1]
    exact oq_here sr1.sub (.bl _) q1
  | true =>
    refine (pe_cmp (pc_notN ha) rfl).imp fun σ H Q ⟨H0, Hf0, Hf, env, sr, r⟩ => ?_
    simp only [ev] at r
    refine tD_step lat_OP sr r fun d v H1 Hf1 _ f1 r1 sr1 q1 => ?_
    rw [isNon_iff r1]
    exact oq_here sr1.sub (.bl _) q1
theorem t_isN {ng : Bool} {j : Nat} {p' : Pos} (ha : PE X x (tD (gOf X) T W a)) : PT X (.Compare x [if ng then .IsNot else .Is] [.Constant .none j p'] p) (tDT (gOf X) T W (.isN a ng)) := by
  cases ng with
  | false =>
    refine (pt_cmp (pc_isN ha) rfl).imp fun σ H Q ⟨H0, Hf0, Hf, env, sr, r⟩ => ?_
    simp only [evT] at r
    refine tD_step lat_BP sr r fun d v H1 Hf1 _ f1 r1 sr1 q1 => ?_
    rw [isNon_iff r1]
    exact ⟨_, rfl, q1 _ _ (Fut.refl sr1.sub)⟩
  | true =>
    refine (pt_cmp (pc_notN ha) rfl).imp fun σ H Q ⟨H0, Hf0, Hf, env, sr, r⟩ => ?_
    simp only [evT] at r
    refine tD_step lat_BP sr r fun d v H1 Hf1 _ f1 r1 sr1 q1 => ?_
    rw [isNon_iff r1]
    exact ⟨_, rfl, q1 _ _ (Fut.refl sr1.sub)⟩
/-- a comparison whose bool is used at once, with the heap as it is -/
theorem rD_chain {α : Type} {g : G} {W : WE} {σ : St} {P : α → Hp → Hp → Prop} (L : Lat P) {Q : VK} {F : D → D → R D} {k : Bool → R α} {x y : V} {d e : D} {H Hf : Hp} (sub : Same Hf H) (rx : Rep g Hf x d) (ry : Rep g Hf y e) (hne : ∀ z, F d e ≠ .err z) (h : RG g W σ P ((asB (F d e)).bind k) H Hf)
    (nx : ∀ b H1 Hf1, Fut H Hf H1 Hf1 → RG g W σ P (k b) H1 Hf1 → Q (.bl b) H1) : rD g F x y H Q := by
  refine ⟨Hf, d, e, sub, rx, ry, ?_⟩
  cases hf : F d e with
  | ok r =>
    rw [hf] at h
    cases r with
    | bl b => exact ⟨_, rfl, fun v H' Hf' f r => by cases r; exact nx b H' Hf' f (RG.later L h f)⟩
    | _ => exact h.elim
  | err z => exact absurd hf (hne z)
  | bad => rw [hf] at h; exact h.elim
theorem e_chain {op op' : COp} (G : Good N sc n X) (ha : PE X x (tD (gOf X) T W a)) (hb : PE X y (tD (gOf X) T W b)) (hc : PE X z (tD (gOf X) T W c)) (hm : lastMarks [copC op, copC op'] [y, z] = false) :
    PE X (.Compare x [copC op, copC op'] [y, z] p) (tD (gOf X) T W (.chain op op' a b c)) := by
  refine (pe_chain (cop_ok op (units_of G)) (cop_ok op' (units_of G)) ha hb hc hm).imp fun σ H Q ⟨H0, Hf0, Hf, env, sr, r⟩ => ?_
  simp only [ev] at r
  refine tD_step lat_OP sr r fun d v H1 Hf1 _ f1 r1 sr1 q1 => ?_
  refine tD_step lat_OP sr1 q1 fun e w H2 Hf2 _ f2 r2 sr2 q2 => ?_
  refine rD_chain lat_OP sr2.sub (r1.mono f2.f) r2 (cop_ne _ _ _) q2 fun k H3 Hf3 f3 q3 => ⟨k, rfl, ?_⟩
  cases k with
  | true =>
    rw [if_pos rfl] at q3 ⊢
    refine tD_step lat_OP (sr2.mono f3) q3 fun u w' H4 Hf4 _ f4 r4 sr4 q4 => ?_
    exact rD_of sr4.sub (r2.mono (f3.f.trans f4.f)) r4 (cop_ne _ _ _) q4
  | false =>
    rw [if_neg Bool.false_ne_true] at q3 ⊢
    exact oq_here (sr2.mono f3).sub (.bl _) q3
theorem t_chain {op op' : COp} (G : Good N sc n X) (ha : PE X x (tD (gOf X) T W a)) (hb : PE X y (tD (gOf X) T W b)) (hc : PE X z (tD (gOf X) T W c)) (hm : lastMarks [copC op, copC op'] [y, z] = false) :
    PT X (.Compare x [copC op, copC op'] [y, z] p) (tDT (gOf X) T W (.chain op op' a b c)) := by
  refine (pt_chain (cop_ok op (units_of G)) (cop_ok op' (units_of G)) ha hb hc hm).imp fun σ H Q ⟨H0, Hf0, Hf, env, sr, r⟩ => ?_
  simp only [evT] at r
  refine tD_step lat_BP sr r fun d v H1 Hf1 _ f1 r1 sr1 q1 => ?_
  refine tD_step lat_BP sr1 q1 fun e w H2 Hf2 _ f2 r2 sr2 q2 => ?_
  refine rD_chain lat_BP sr2.sub (r1.mono f2.f) r2 (cop_ne _ _ _) q2 fun k H3 Hf3 f3 q3 => ⟨k, rfl, ?_⟩
  cases k with
  | true =>
    rw [if_pos rfl] at q3 ⊢
    refine tD_step lat_BP (sr2.mono f3) q3 fun u w' H4 Hf4 _ f4 r4 sr4 q4 => ?_
    exact rD_ofB sr4.sub (r2.mono (f3.f.trans f4.f)) r4 (cop_ne _ _ _) q4
  | false =>
    rw [if_neg Bool.false_ne_true] at q3 ⊢
    exact ⟨false, rfl, q3 _ _ (Fut.refl (sr2.mono f3).sub)⟩
theorem e_and {r : List Expr} (ha : PE X x (tD (gOf X) T W a)) (hb : PE X (.BoolOp .And (y :: r) p) (tD (gOf X) T W b)) : PE X (.BoolOp .And (x :: y :: r) p) (tD (gOf X) T W (.and a b)) := by
  refine (pe_and ha hb).imp fun σ H Q ⟨H0, Hf0, Hf, env, sr, r⟩ => ?_
  simp only [ev] at r
  refine tD_stepB lat_OP sr r fun k H1 Hf1 f1 sr1 q1 => ⟨k, rfl, ?_⟩
  cases k with
  | true => rw [if_pos rfl] at q1 ⊢; exact ⟨H0, Hf0, Hf1, env, sr1, q1⟩
  | false => rw [if_neg Bool.false_ne_true] at q1 ⊢; exact oq_here sr1.sub (.bl _) q1
theorem e_or {r : List Expr} (ha : PE X x (tD (gOf X) T W a)) (hb : PE X (.BoolOp .Or (y :: r) p) (tD (gOf X) T W b)) : PE X (.BoolOp .Or (x :: y :: r) p) (tD (gOf X) T W (.or a b)) := by
  refine (pe_or ha hb).imp fun σ H Q ⟨H0, Hf0, Hf, env, sr, r⟩ => ?_
  simp only [ev] at r
  refine tD_stepB lat_OP sr r fun k H1 Hf1 f1 sr1 q1 => ⟨k, rfl, ?_⟩
  cases k with
  | false => rw [if_neg Bool.false_ne_true] at q1 ⊢; exact ⟨H0, Hf0, Hf1, env, sr1, q1⟩
  | true => rw [if_pos rfl] at q1 ⊢; exact oq_here sr1.sub (.bl _) q1
theorem e_not (ha : PE X x (tD (gOf X) T W a)) : PE X (.UnaryOp .Not x p) (tD (gOf X) T W (.not a)) := by
  refine (pe_not ha).imp fun σ H Q ⟨H0, Hf0, Hf, env, sr, r⟩ => ?_
  simp only [ev] at r
  refine tD_stepB lat_OP sr r fun k H1 Hf1 f1 sr1 q1 => ⟨k, rfl, ?_⟩
  exact oq_here sr1.sub (.bl _) q1
theorem pw_of {op : BoolOp} {xs : List Expr} {t : TT} (h : PT X (.BoolOp op xs p) t) : PW X (.BoolOp op xs p) t := ⟨fun _ pins s σ H Q I q => h.run pins s σ H Q I q⟩
theorem t_and {r : List Expr} (ha : PT X x (tDT (gOf X) T W a)) (hb : PW X (.BoolOp .And (y :: r) p) (tDT (gOf X) T W b)) : PT X (.BoolOp .And (x :: y :: r) p) (tDT (gOf X) T W (.and a b)) := by
  refine (pw_and ha hb).pt.imp fun σ H Q ⟨H0, Hf0, Hf, env, sr, r⟩ => ?_
  simp only [evT] at r
  refine tDT_step lat_BP sr r fun k H1 Hf1 f1 sr1 q1 => ?_
  cases k with
  | true => rw [if_pos rfl] at q1 ⊢; exact ⟨H0, Hf0, Hf1, env, sr1, q1⟩
  | false => rw [if_neg Bool.false_ne_true] at q1 ⊢; exact q1 _ _ (Fut.refl sr1.sub)
theorem t_or {r : List Expr} (ha : PT X x (tDT (gOf X) T W a)) (hb : PW X (.BoolOp .Or (y :: r) p) (tDT (gOf X) T W b)) : PT X (.BoolOp .Or (x :: y :: r) p) (tDT (gOf X) T W (.or a b)) := by
  refine (pw_or ha hb).pt.imp fun σ H Q ⟨H0, Hf0, Hf, env, sr, r⟩ => ?_
  simp only [evT] at r
  refine tDT_step lat_BP sr r fun k H1 Hf1 f1 sr1 q1 => ?_
  cases k with
  | false => rw [if_neg Bool.false_ne_true] at q1 ⊢; exact ⟨H0, Hf0, Hf1, env, sr1, q1⟩
  | true => rw [if_pos rfl] at q1 ⊢; exact q1 _ _ (Fut.refl sr1.sub)
theorem t_not (ha : PT X x (tDT (gOf X) T W a)) : PT X (.UnaryOp .Not x p) (tDT (gOf X) T W (.not a)) := by
  refine (pt_not ha).imp fun σ H Q ⟨H0, Hf0, Hf, env, sr, r⟩ => ?_
  simp only [evT] at r
  refine tDT_step lat_BP sr r fun k H1 Hf1 f1 sr1 q1 => ?_
  exact q1 _ _ (Fut.refl sr1.sub)
theorem e_ife (hc : PT X z (tDT (gOf X) T W c)) (ha : PE X x (tD (gOf X) T W a)) (hb : PE X y (tD (gOf X) T W b)) : PE X (.IfExp z x y p) (tD (gOf X) T W (.ife c a b)) := by
  refine (pe_ifExp hc ha hb).imp fun σ H Q ⟨H0, Hf0, Hf, env, sr, r⟩ => ?_
  simp only [ev] at r
  refine tDT_step lat_OP sr r fun k H1 Hf1 f1 sr1 q1 => ?_
  cases k with
  | true => rw [if_pos rfl] at q1 ⊢; exact ⟨H0, Hf0, Hf1, env, sr1, q1⟩
  | false => rw [if_neg Bool.false_ne_true] at q1 ⊢; exact ⟨H0, Hf0, Hf1, env, sr1, q1⟩
theorem e_tup {xs : List Expr} (ha : PA X xs (tDA (gOf X) T W a)) : PE X (.Tuple xs k p) (tD (gOf X) T W (.tup a)) := by
  refine (pe_tup ha).imp fun σ H Q ⟨H0, Hf0, Hf, env, sr, r⟩ => ?_
  simp only [ev] at r
  refine tDA_step lat_OP sr r fun ds vs H1 Hf1 f1 r1 sr1 q1 => ?_
  obtain ⟨hl, q2⟩ := ifr q1
  exact ⟨by rw [r1.length]; exact okLen_iff hl, oq_tup sr1.sub r1 q2⟩
theorem e_lst {xs : List Expr} (ha : PA X xs (tDA (gOf X) T W a)) : PE X (.List xs p) (tDX (gOf X) T W (.lst a)) := by
  refine (pe_lst ha).imp fun σ H Q ⟨H0, Hf0, Hf, env, sr, r⟩ => ?_
  simp only [ev] at r
  refine tDA_step lat_XP sr r fun ds vs H1 Hf1 f1 r1 sr1 q1 => ?_
  obtain ⟨hl, q2⟩ := ifr q1
  exact ⟨by rw [r1.length]; exact okLen_iff hl, fq_lst sr1.sub r1 q2⟩
theorem a_nil : PA X [] (tDA (gOf X) T W .nil) := pa_nil.imp fun σ H Q ⟨H0, Hf0, Hf, env, sr, r⟩ => by
  simp only [evs] at r
  exact r [] H Hf (Fut.refl sr.sub) .nil
theorem a_cons {xs : List Expr} (ha : PE X x (tD (gOf X) T W a)) (hb : PA X xs (tDA (gOf X) T W b)) (hs : staB x = false) : PA X (x :: xs) (tDA (gOf X) T W (.cons a b)) := by
  refine (pa_cons ha hb (star_of hs)).imp fun σ H Q ⟨H0, Hf0, Hf, env, sr, r⟩ => ?_
  simp only [evs] at r
  refine tD_step lat_AP sr r fun d v H1 Hf1 _ f1 r1 sr1 q1 => ?_
  refine tDA_step lat_AP sr1 q1 fun ds vs H2 Hf2 f2 r2 sr2 q2 => ?_
  exact q2 _ _ _ (Fut.refl sr2.sub) (.cons (r1.mono f2.f) r2)
theorem p_nil : PO X none (tDP (gOf X) T W .nil) := po_none.imp fun σ H Q ⟨H0, Hf0, Hf, env, sr, r⟩ => by
  simp only [evP] at r
  exact r H Hf (Fut.refl sr.sub)
theorem p_some (ha : PE X x (tD (gOf X) T W a)) : PO X (some x) (tDP (gOf X) T W (.cons a .nil)) := by
  refine (po_some ha).imp fun σ H Q ⟨H0, Hf0, Hf, env, sr, r⟩ => ?_
  simp only [evP] at r
  refine tD_step lat_PP sr r fun d v H1 Hf1 _ f1 r1 sr1 q1 => ?_
  cases r1 <;> first | exact q1.elim | exact ⟨_, rfl, q1 _ _ (Fut.refl sr1.sub)⟩
theorem e_ix (ha : PE X x (tD (gOf X) T W a)) (hb : PE X y (tD (gOf X) T W b)) (hs : slB y = false) : PE X (.Subscript x y p) (tD (gOf X) T W (.ix a b)) := by
  refine (pe_ix ix_ok ha hb (plain_of hs)).imp fun σ H Q ⟨H0, Hf0, Hf, env, sr, r⟩ => ?_
  simp only [ev] at r
  refine tD_step lat_OP sr r fun d v H1 Hf1 _ f1 r1 sr1 q1 => ?_
  refine tD_step lat_OP sr1 q1 fun e w H2 Hf2 _ f2 r2 sr2 q2 => ?_
  exact rD_of sr2.sub (r1.mono f2.f) r2 (ixD_ne _ _) q2
theorem e_sl {l h : Option Expr} {p2 : Pos} (ha : PE X x (tD (gOf X) T W a)) (hb : PO X l (tDP (gOf X) T W b)) (hc : PO X h (tDP (gOf X) T W c)) : PE X (.Subscript x (.Slice l h none p2) p) (tDX (gOf X) T W (.sl a b c)) := by
  refine (pe_slice sl_ok ha hb hc).imp fun σ H Q ⟨H0, Hf0, Hf, env, sr, r⟩ => ?_
  simp only [ev] at r
  refine tD_step lat_XP sr r fun d v H1 Hf1 _ f1 r1 sr1 q1 => ?_
  refine tDP_step lat_XP sr1 q1 fun l' H2 Hf2 f2 sr2 q2 => ?_
  refine tDP_step lat_XP sr2 q2 fun h' H3 Hf3 f3 sr3 q3 => ?_
  refine ⟨Hf3, d, sr3.sub, r1.mono (f2.f.trans f3.f), ?_⟩
  cases hs : slD d l' h' with
  | ok r => rw [hs] at q3; exact ⟨r, rfl, q3⟩
  | err w => exact absurd hs (slD_ne _ _ _ _)
  | bad => rw [hs] at q3; exact q3.elim
theorem stars_of {e : PySem.Env} {p : Pos} : ∀ (l : List Expr), (∀ y ∈ l, staB y = false) → (backTo p (starEach l e)).any (·.1) = false
  | [], _ => rfl
  | w :: ws, h => by
    rw [star_of (h w List.mem_cons_self)]
    exact stars_of ws fun y hy => h y (List.mem_cons_of_mem _ hy)
/-- a call of a def or class of the module -/
theorem e_call0 {j : Nat} {s : Str} {q : Pos} (G : Good N sc n X) (tk : Takes X W) (K : Know (gOf X) n T) (h1 : (T.fn[j]?).map (·.1) = some s) (h2 : glB sc s = true) (h3 : nmB s = true) :
    PE X (.Call (.Name s q) [] [] p) (tD (gOf X) T W (.call j .nil)) := by
  obtain ⟨d1, d2, _⟩ := nm_of h3
  cases hg : T.fn[j]? with
  | none => rw [hg] at h1; cases h1
  | some z =>
    obtain ⟨s', F⟩ := z
    rw [hg] at h1; cases h1
    obtain ⟨f, hm, hk, run⟩ := (K.fn _ (List.mem_of_getElem? hg)).ex
    refine ⟨fun pins st σ H Q I ⟨H0, Hf0, Hf, env, sr, r⟩ => ?_⟩
    simp only [ev, hg, evs, R.bind_ok] at r
    refine PySem.wpAny_Call_Name_kw (ld_glob I (gl_of G h2) hm ?_ d1)
    exact PySem.W.callWith_K0 I.kIn hk (run X rfl G.room W tk pins st σ H Hf Q [] [] [] I .nil sr.sub .nil r)
theorem e_call {j : Nat} {s : Str} {y : Expr} {ys : List Expr} {q : Pos} (G : Good N sc n X) (tk : Takes X W) (K : Know (gOf X) n T) (h1 : (T.fn[j]?).map (·.1) = some s) (h2 : glB sc s = true) (h3 : nmB s = true) (ha : PA X (y :: ys) (tDA (gOf X) T W a)) (hs : ∀ z ∈ y :: ys, staB z = false) :
    PE X (.Call (.Name s q) (y :: ys) [] p) (tD (gOf X) T W (.call j a)) := by
  obtain ⟨d1, d2, _⟩ := nm_of h3
  cases hg : T.fn[j]? with
  | none => rw [hg] at h1; cases h1
  | some z =>
    obtain ⟨s', F⟩ := z
    rw [hg] at h1; cases h1
    obtain ⟨f, hm, hk, run⟩ := (K.fn _ (List.mem_of_getElem? hg)).ex
    refine ⟨fun pins st σ H Q I ⟨H0, Hf0, Hf, env, sr, r⟩ => ?_⟩
    simp only [ev, hg] at r
    refine PySem.wpAny_Call_Name_kw (ld_glob I (gl_of G h2) hm ?_ d1)
    refine PySem.W.callWith_K (h₀ := X.base) I.ok.mod.kin hk (thn (ha.run p pins st σ H (fun vs H1 => ∃ Hf1 ds, Same Hf1 H1 ∧ Reps (gOf X) Hf1 vs ds ∧ RG (gOf X) W σ (OP (gOf X) Q) (F ds) H1 Hf1) I
      (tDA_step lat_OP sr r fun ds vs H1 Hf1 f1 r1 sr1 q1 => ⟨Hf1, ds, sr1.sub, r1, q1⟩)) fun us s1 ⟨vs, H1, I1, rv, Hf1, ds, sub, rr, q⟩ => ⟨I1.kIn, run X rfl G.room W tk pins s1 σ H1 Hf1 Q us vs ds I1 rv sub rr q⟩) (star_of (hs y List.mem_cons_self)) ?_
    exact stars_of ys fun y hy => hs y (List.mem_cons_of_mem _ hy)
end
end Rf
/-! # Rf6: built-ins, fields, methods, walks, comprehensions -/
namespace Rf
open PySem PySem.Spec L2

def biV : Bi → Value := fun b => match b.kd with | .fn id => .builtin id | .ty n => .type n | .mod id => .builtin id
def rBi (g : G) (b : Bi) : List V → Hp → VK → Prop := fun vs H Q => ∃ Hf ds, Same Hf H ∧ Reps g Hf vs ds ∧ ∃ r, biF b ds = .ok r ∧ XP g Q r H Hf
theorem biF_ne (b : Bi) (ds : List D) (z : Exn) : biF b ds ≠ .err z := by
  unfold biF
  split <;> (intro h; cases h)
theorem reps1 {g : G} {H : Hp} {vs : List V} {d : D} (r : Reps g H vs [d]) : ∃ v, vs = [v] ∧ Rep g H v d := by
  cases r with
  | cons r t => cases t; exact ⟨_, rfl, r⟩
theorem reps2 {g : G} {H : Hp} {vs : List V} {d e : D} (r : Reps g H vs [d, e]) : ∃ v w, vs = [v, w] ∧ Rep g H v d ∧ Rep g H w e := by
  cases r with
  | cons r t => obtain ⟨w, rfl, q⟩ := reps1 t; exact ⟨_, _, rfl, r, q⟩
theorem rep_int {g : G} {H : Hp} {v : V} {i : Int} (r : Rep g H v (.int i)) : v = .int i := by cases r; rfl
section
variable {X : Cx}
theorem bi_ok (hc : X.calm = true) (b : Bi) : CallR X (biV b) (rBi (gOf X) b) := by
  intro pins s σ H vs us Q I rv h
  obtain ⟨Hf, ds, sub, rr, r, er, q⟩ := h
  cases b with
  | abs =>
    unfold biF at er
    split at er <;> first | cases er | skip
    all_goals (rename_i hb; first | cases hb | skip)
    obtain ⟨v, rfl, r1⟩ := reps1 rr
    cases r1
    exact call_abs pins s σ H _ us Q I rv ⟨_, rfl, oq_here sub (.int _) q⟩
  | int =>
    unfold biF at er
    split at er <;> first | cases er | skip
    all_goals (rename_i hb; first | cases hb | skip)
    all_goals (obtain ⟨v, rfl, r1⟩ := reps1 rr; cases r1)
    · exact call_int1 pins s σ H _ us Q I rv (.inl ⟨_, rfl, oq_here sub (.int _) q⟩)
    · exact call_int1 pins s σ H _ us Q I rv (.inr ⟨_, rfl, oq_here sub (.int _) q⟩)
  | len =>
    unfold biF at er
    split at er <;> first | cases er | skip
    all_goals (rename_i hb; first | cases hb | skip)
    all_goals (obtain ⟨v, rfl, r1⟩ := reps1 rr)
    · cases r1 with
      | lst h1 r2 => exact call_len_seq pins s σ H _ us Q I rv ⟨_, _, rfl, .inl ((lsq (same_rd sub h1))), by rw [r2.length]; exact oq_here sub (.int _) q⟩
    · cases r1 with
      | tup h1 r2 => exact call_len_seq pins s σ H _ us Q I rv ⟨_, _, rfl, .inr (same_sqT sub h1), by rw [r2.length]; exact oq_here sub (.int _) q⟩
  | list =>
    unfold biF at er
    split at er <;> first | cases er | skip
    all_goals (rename_i hb; first | cases hb | skip)
    all_goals (obtain ⟨v, rfl, r1⟩ := reps1 rr)
    · cases r1 with
      | lst h1 r2 => exact call_list_of pins s σ H _ us Q I rv ⟨_, _, rfl, .inl ((lsq (same_rd sub h1))), fq_lst sub r2 q⟩
    · cases r1 with
      | tup h1 r2 => exact call_list_of pins s σ H _ us Q I rv ⟨_, _, rfl, .inr (same_sqT sub h1), fq_lst sub r2 q⟩
  | tuple =>
    unfold biF at er
    split at er <;> first | cases er | skip
    all_goals (rename_i hb; first | cases hb | skip)
    all_goals (obtain ⟨v, rfl, r1⟩ := reps1 rr)
    · cases r1 with
      | lst h1 r2 => exact call_tuple_of pins s σ H _ us Q I rv ⟨_, _, rfl, .inl ⟨(lsq (same_rd sub h1)), oq_tup sub r2 q⟩⟩
    · cases r1 with
      | tup h1 r2 => exact call_tuple_of pins s σ H _ us Q I rv ⟨_, _, rfl, .inr ⟨same_sqT sub h1, oq_here sub (.tup h1 r2) q⟩⟩
  | min2 =>
    unfold biF at er
    split at er <;> first | cases er | skip
    all_goals (rename_i hb; first | cases hb | skip)
    obtain ⟨v, w, rfl, r1, r2⟩ := reps2 rr
    cases r1; cases r2
    exact call_min2 hc pins s σ H _ us Q I rv ⟨_, _, rfl, oq_here sub (.int _) q⟩
  | max2 =>
    unfold biF at er
    split at er <;> first | cases er | skip
    all_goals (rename_i hb; first | cases hb | skip)
    obtain ⟨v, w, rfl, r1, r2⟩ := reps2 rr
    cases r1; cases r2
    exact call_max2 hc pins s σ H _ us Q I rv ⟨_, _, rfl, oq_here sub (.int _) q⟩
  | gcd =>
    unfold biF at er
    split at er <;> first | cases er | skip
    all_goals (rename_i hb; first | cases hb | skip)
    obtain ⟨v, w, rfl, r1, r2⟩ := reps2 rr
    cases r1; cases r2
    exact cr_gcd pins s σ H _ us Q I rv ⟨_, _, rfl, oq_here sub (.int _) q⟩
  | lcm =>
    unfold biF at er
    split at er <;> first | cases er | skip
    all_goals (rename_i hb; cases hb)
/-- isinstance of data with a built-in class -/
theorem tyX_of {Hf H : Hp} {v : V} {d : D} {t : String} (sub : Same Hf H) (r : Rep (gOf X) Hf v d) (h : tyD d = some t) : TyX X.K H v (.type t) := by
  cases r with
  | non => cases h; exact .base .non
  | bl b => cases h; exact .base (.bl b)
  | int b => cases h; exact .base (.int b)
  | str b => cases h; exact .base (.str b)
  | lst h1 r1 =>
    cases h
    rcases same_rd sub h1 with (z | ⟨o, z⟩) | ⟨its, n, hk, _, _⟩
    · exact .base (.lst z)
    · exact .base (.frz z)
    · exact .kList hk rfl
  | tup h1 r1 =>
    cases h
    rcases same_sqT sub h1 with (z | ⟨o, z⟩) | ⟨o, its, n, hk, hc, _⟩
    · exact .base (.tup z)
    · exact .fTuple z
    · exact .kTuple hk hc
  | obj _ _ _ => cases h
theorem isiB_ne (t : Ty) (d : D) (z : Exn) : isiB t d ≠ .err z := by
  unfold isiB
  split <;> (intro h; cases h)
theorem isiB_ok {t : Ty} {d : D} {b : Bool} (h : isiB t d = .ok b) : ∃ s, tyD d = some s ∧ kitB s t.st = some b := by
  cases t <;> cases d <;> simp only [isiB, R.ok.injEq, reduceCtorEq] at h <;> subst h <;> exact ⟨_, rfl, by decide +kernel⟩
end

section
variable {X : Cx} {N : List Str} {sc : Scope} {n : Nat} {T : Tb} {W : WE} {a b c : E} {x y z : Expr} {p : Pos} {k : Nat}
theorem bi_names (b : Bi) : match b.kd with | .fn id => bootBuiltins b.nm = some (.builtin id) | .ty t => bootBuiltins b.nm = some (.type t) | .mod _ => True := by
  cases b <;> first | exact trivial | (dsimp only [Bi.kd, Bi.nm]; decide +kernel)
theorem bi_nm (b : Bi) : nmB b.nm = true := by cases b <;> decide +kernel
theorem e_bi {b : Bi} {q : Pos} {xs : List Expr} (G : Good N sc n X) (K : Know (gOf X) n T) (h1 : (match b.kd with | .mod id => decide ((b.nm, id) ∈ T.md) | _ => decide (b.nm ∈ T.bn)) = true) (h2 : glB sc b.nm = true) (ha : PA X (x :: xs) (tDA (gOf X) T W a)) (hs : ∀ z ∈ x :: xs, staB z = false) :
    PE X (.Call (.Name b.nm q) (x :: xs) [] p) (tDX (gOf X) T W (.bi b a)) := by
  obtain ⟨d1, d2, d3⟩ := nm_of (bi_nm b)
  have st : starEach (x :: xs) X.env = (false, eval x X.env) :: starEach xs X.env := star_of (hs x List.mem_cons_self)
  have pl : (backTo p (starEach xs X.env)).any (·.1) = false := stars_of xs fun y hy => hs y (List.mem_cons_of_mem _ hy)
  have gl := gl_of G h2
  have rule := bi_ok G.calm b
  have nms := bi_names b
  have key : PE X (.Call (.Name b.nm q) (x :: xs) [] p) (tCB (rBi (gOf X) b) (tDA (gOf X) T W a)) := by
    unfold biV at rule
    cases hk : b.kd with
    | fn id =>
      rw [hk] at rule nms h1
      exact pe_callB rule gl (K.bn _ (of_decide_eq_true h1)) nms ha d3 d1 st pl
    | ty t =>
      rw [hk] at rule nms h1
      exact pe_callTy rule gl (K.bn _ (of_decide_eq_true h1)) nms ha d3 d1 st pl
    | mod id =>
      rw [hk] at rule nms h1
      exact pe_callBfun rule gl (K.md _ (of_decide_eq_true h1)) ha d1 st pl
  refine key.imp fun σ H Q ⟨H0, Hf0, Hf, env, sr, r⟩ => ?_
  simp only [ev] at r
  refine tDA_step lat_XP sr r fun ds vs H1 Hf1 f1 r1 sr1 q1 => ?_
  refine ⟨Hf1, ds, sr1.sub, r1, ?_⟩
  cases hf : biF b ds with
  | ok r => rw [hf] at q1; exact ⟨r, rfl, q1⟩
  | err z => exact absurd hf (biF_ne _ _ _)
  | bad => rw [hf] at q1; exact q1.elim
theorem ty_names (t : Ty) : bootBuiltins t.nm = some (.type t.st) := by cases t <;> decide +kernel
theorem ty_nm (t : Ty) : nmB t.nm = true := by cases t <;> decide +kernel
theorem isi_key {t : Ty} {q q2 : Pos} (G : Good N sc n X) (K : Know (gOf X) n T) (h1 : ("isinstance" : Str) ∈ T.bn) (h2 : t.nm ∈ T.bn) (h3 : glB sc "isinstance" = true) (h4 : glB sc t.nm = true) (ha : PE X x (tD (gOf X) T W a)) (hs : staB x = false) :
    PE X (.Call (.Name "isinstance" q) [x, .Name t.nm q2] [] p) (tCB (rIsi X.K) (tCons (tD (gOf X) T W a) (tCons (tC (.ty t.st)) tNil))) := by
  obtain ⟨d1, _, d3⟩ := nm_of (ty_nm t)
  exact pe_callB call_isi (gl_of G h3) (K.bn _ h1) (by decide +kernel) (pa_cons ha (pa_cons (pe_bltn (gl_of G h4) (K.bn _ h2) (ty_names t) rfl d3 d1) pa_nil (star_of rfl)) (star_of hs)) (by decide +kernel) (by decide +kernel) (star_of hs)
    (by rw [star_of rfl]; rfl)
theorem e_isi {t : Ty} {q q2 : Pos} (G : Good N sc n X) (K : Know (gOf X) n T) (h1 : ("isinstance" : Str) ∈ T.bn) (h2 : t.nm ∈ T.bn) (h3 : glB sc "isinstance" = true) (h4 : glB sc t.nm = true) (ha : PE X x (tD (gOf X) T W a)) (hs : staB x = false) :
    PE X (.Call (.Name "isinstance" q) [x, .Name t.nm q2] [] p) (tD (gOf X) T W (.isi a t)) := by
  refine (isi_key G K h1 h2 h3 h4 ha hs).imp fun σ H Q ⟨H0, Hf0, Hf, env, sr, r⟩ => ?_
  simp only [ev] at r
  refine tD_step lat_OP sr r fun d v H1 Hf1 _ f1 r1 sr1 q1 => ?_
  cases hb : isiB t d with
  | ok b =>
    rw [hb] at q1
    obtain ⟨s, h5, h6⟩ := isiB_ok hb
    exact ⟨_, _, _, _, b, rfl, .ty _, tyX_of sr1.sub r1 h5, kit_ty h6, oq_here sr1.sub (.bl b) q1⟩
  | err z => exact absurd hb (isiB_ne _ _ _)
  | bad => rw [hb] at q1; exact q1.elim
/-- by its value: what is no not, and, or, comparison -/
def plainT : Expr → Bool
  | .UnaryOp .Not _ _ => false | .BoolOp _ _ _ => false | .IfExp _ _ _ _ => false | .Compare _ _ _ _ => false | _ => true
theorem t_plain {e : E} (h : plainT x = true) (he : ∀ env, evT T e env = (ev T e env).bind truD) (ha : PE X x (tD (gOf X) T W e)) : PT X x (tDT (gOf X) T W e) := by
  refine (pt_truth ha ?_).imp fun σ H Q ⟨H0, Hf0, Hf, env, sr, r⟩ => ?_
  · intro w
    cases x with
    | UnaryOp op e p => cases op <;> first | rfl | cases h
    | BoolOp _ _ _ => cases h
    | IfExp _ _ _ _ => cases h
    | Compare _ _ _ _ => cases h
    | _ => rfl
  · rw [he] at r
    refine tD_step lat_BP sr r fun d v H1 Hf1 _ f1 r1 sr1 q1 => ?_
    cases hb : truD d with
    | ok b => rw [hb] at q1; exact ⟨b, tru_rep sr1.sub r1 hb, q1 _ _ (Fut.refl sr1.sub)⟩
    | err z => unfold truD at hb; split at hb <;> cases hb
    | bad => rw [hb] at q1; exact q1.elim
theorem e_att {f : Str} (K : Know (gOf X) n T) (ha : PE X x (tD (gOf X) T W a)) (hs : calB x = false) : PE X (.Attribute x f p) (tD (gOf X) T W (.att a f)) := by
  refine (pe_fld ha ?_).imp fun σ H Q ⟨H0, Hf0, Hf, env, sr, r⟩ => ?_
  · cases x <;> first | rfl | cases hs
  · simp only [ev] at r
    refine tD_step lat_OP sr r fun d v H1 Hf1 _ f1 r1 sr1 q1 => ?_
    cases r1 with
    | @obj aa C dx cc fs gs hm ha hf =>
      simp only [fldD] at q1
      obtain ⟨hin, q2⟩ := ifr q1
      obtain ⟨C', hm', cl, na⟩ := K.at_ _ hin
      have : C' = C := by
        have e : some (Value.ref C') = some (Value.ref C) := hm'.symm.trans hm
        cases e; rfl
      subst this
      cases hl : gs.lookup f with
      | none => rw [hl] at q2; exact q2.elim
      | some d' =>
        rw [hl] at q2
        obtain ⟨u, hu, ru⟩ := hf.lookup hl
        exact ⟨_, _, _, _, u, rfl, sr1.sub _ _ ha, cl, na, hu, oq_here sr1.sub ru q2⟩
    | _ => exact q1.elim
theorem lst_at {g : G} {H0 Hf0 H Hf : Hp} {σ : St} {env : Env} {i : Nat} {ds : List D} (sr : SR g H0 Hf0 σ H Hf env) (h : getL env i = .ok ds) : ∃ p vs, σ[i]? = some (some (.ref p)) ∧ LsK g.K H p vs ∧ Reps g Hf vs ds := by
  unfold getL at h
  split at h
  · rename_i xs he
    cases h
    obtain ⟨v, hσ, z⟩ := sr.slot i _ he
    cases z with
    | o hp hf h0 q => exact ⟨_, _, hσ, .of hp, q⟩
  · rename_i xs he
    cases h
    obtain ⟨v, hσ, z⟩ := sr.slot i _ he
    cases z with
    | v q => cases q with
      | lst h1 r1 => exact ⟨_, _, hσ, same_rd sr.sub h1, r1⟩
  · cases h
/-- a list of one's own, read at a place -/
theorem e_oix {i : Nat} {s : Str} {q : Pos} (G : Good N sc n X) (h1 : N[i]? = some s) (h2 : visB sc s = true) (h3 : nmB s = true) (hb : PE X y (tD (gOf X) T W b)) (hs : slB y = false) : PE X (.Subscript (.Name s q) y p) (tD (gOf X) T W (.oix i b)) := by
  obtain ⟨d1, d2, _⟩ := nm_of h3
  refine (pe_ix ix_list (pe_var (i := i) (by rw [G.eN]; exact h1) (G.vis _ h2) d1 d2) hb (plain_of hs)).imp fun σ H Q ⟨H0, Hf0, Hf, env, sr, r⟩ => ?_
  simp only [ev] at r
  cases hg : getL env i with
  | bad => rw [hg] at r; exact r.elim
  | err z => unfold getL at hg; split at hg <;> cases hg
  | ok ds =>
    rw [hg] at r
    simp only [R.bind_ok] at r
    obtain ⟨pp, vs, hv, hp, rr⟩ := lst_at sr hg
    refine ⟨_, hv, ?_⟩
    refine tD_step lat_OP sr (k := fun y => ixD (.lst ds) y) r fun d w H1 Hf1 _ f1 r1 sr1 q1 => ?_
    cases r1 with
    | int j =>
      simp only [ixD] at q1
      have rr1 := rr.mono f1.f
      unfold atI at q1
      cases hj : ixN ds.length j with
      | none => rw [hj] at q1; exact q1.elim
      | some m =>
        rw [hj] at q1
        simp only [Option.bind_some] at q1
        cases hd : ds[m]? with
        | none => rw [hd] at q1; exact q1.elim
        | some d' =>
          rw [hd] at q1
          obtain ⟨u, hu, ru⟩ := rr1.get hd
          refine ⟨_, vs, j, u, rfl, rfl, (lsq (same_rd f1.s hp)), ?_, oq_here sr1.sub ru q1⟩
          unfold atI
          rw [rr.length, hj]
          exact hu
    | _ => exact q1.elim
theorem e_olen {i : Nat} {s : Str} {q q2 : Pos} (G : Good N sc n X) (K : Know (gOf X) n T) (hl : ("len" : Str) ∈ T.bn) (hg : glB sc "len" = true) (h1 : N[i]? = some s) (h2 : visB sc s = true) (h3 : nmB s = true) : PE X (.Call (.Name "len" q) [.Name s q2] [] p) (tD (gOf X) T W (.olen i)) := by
  obtain ⟨d1, d2, _⟩ := nm_of h3
  refine (pe_callB call_len_seq (gl_of G hg) (K.bn _ hl) (by decide +kernel) (pa_cons (pe_var (i := i) (by rw [G.eN]; exact h1) (G.vis _ h2) d1 d2) pa_nil (star_of rfl)) (by decide +kernel) (by decide +kernel) (star_of rfl) (by rfl)).imp fun σ H Q ⟨H0, Hf0, Hf, env, sr, r⟩ => ?_
  simp only [ev] at r
  cases hg : getL env i with
  | bad => rw [hg] at r; exact r.elim
  | err z => unfold getL at hg; split at hg <;> cases hg
  | ok ds =>
    rw [hg] at r
    obtain ⟨pp, vs, hv, hp, rr⟩ := lst_at sr hg
    exact ⟨_, hv, _, _, rfl, .inl (lsq hp), by rw [rr.length]; exact oq_here sr.sub (.int _) r⟩
end
end Rf
/-! # Rf7: what a for walks, targets, comprehensions -/
namespace Rf
open PySem PySem.Spec L2

theorem pi_seq {X : Cx} {tg l : Expr} {tl : TE} (hl : PE X l tl) : PI X tg l (fun σ H Rr => tl σ H fun x H1 => ∃ a, x = .ref a ∧ (((∃ xs, SqL X.K H1 a xs) ∧ Rr (Itl X.K a) H1) ∨ ((∃ xs, SqT X.K H1 a xs) ∧ Rr (Itt X.K a) H1))) := by
  refine ⟨fun pins s σ H Rr I h => ?_⟩
  refine thn (hl.run pins s σ H _ I h) fun v s1 ⟨x, H1, I1, r1, q1⟩ => ?_
  obtain ⟨a, e, q⟩ := q1
  subst e
  cases r1
  rcases q with ⟨⟨xs, hq⟩, q⟩ | ⟨⟨xs, hq⟩, q⟩
  · obtain ⟨its, rv, p, hz⟩ := I1.list hq
    refine wpAny_pyIter_list p.isList ?_
    refine ⟨s1.heap.objs.size, [s1.heap.objs.size], _, _, H1, rfl, I1.kept (t' := s1.toks) fun b o e => Heap.get?_push_of_some _ e, turn_list a _, ⟨_, Heap.get?_push_size _ rfl, rfl, rfl⟩, fun b hb => ?_, q⟩
    have e : b = s1.heap.objs.size := by simpa using hb
    subst e
    exact I1.fpOk (Nat.le_refl _) (I1.hok.fresh (Nat.le_refl _))
  · obtain ⟨its, rv, p, hz⟩ := I1.tuple hq
    refine wpAny_pyIter_tuple (show s1.heap.IsTuple a its.toArray from p) ?_
    refine ⟨s1.heap.objs.size, [s1.heap.objs.size], _, _, H1, rfl, I1.kept (t' := s1.toks) fun b o e => Heap.get?_push_of_some _ e, turn_tuple a _, ⟨_, Heap.get?_push_size _ rfl, rfl, rfl⟩, fun b hb => ?_, q⟩
    have e : b = s1.heap.objs.size := by simpa using hb
    subst e
    exact I1.fpOk (Nat.le_refl _) (I1.hok.fresh (Nat.le_refl _))

section
variable {g : G} {Hf : Hp} {a b : Addr} {vs ws : List V} {ds es : List D}
theorem get_lt {xs : List α} {i : Nat} (h : i < xs.length) : ∃ x, xs[i]? = some x := ⟨_, List.getElem?_eq_getElem h⟩
theorem yld_list (h : LsK g.K Hf a vs) (r : Reps g Hf vs ds) : Yld g (Itl g.K a) Hf ds where
  go := fun i H Hf' s1 s2 hi => by
    obtain ⟨x, hx⟩ := get_lt (xs := vs) (i := i) (by rw [r.length]; exact hi)
    exact ⟨vs, x, (lsq (same_rd (s1.trans s2) h)), hx⟩
  stop := fun H Hf' s1 s2 => ⟨vs, (lsq (same_rd (s1.trans s2) h)), by rw [r.length]; exact Nat.le_refl _⟩
  yld := fun i H Hf' x H' d s1 s2 ⟨e, hx⟩ hd => by
    subst e
    obtain ⟨v, hv, rv⟩ := r.get hd
    have := hx vs ((lsq (same_rd (s1.trans s2) h)))
    rw [hv] at this; cases this
    exact ⟨Hf', Fut.refl s2, rv.mono s1⟩
theorem yld_tup (h : SqT g.K Hf a vs) (r : Reps g Hf vs ds) : Yld g (Itt g.K a) Hf ds where
  go := fun i H Hf' s1 s2 hi => by
    obtain ⟨x, hx⟩ := get_lt (xs := vs) (i := i) (by rw [r.length]; exact hi)
    exact ⟨vs, x, same_sqT (s1.trans s2) h, hx⟩
  stop := fun H Hf' s1 s2 => ⟨vs, same_sqT (s1.trans s2) h, by rw [r.length]; exact Nat.le_refl _⟩
  yld := fun i H Hf' x H' d s1 s2 ⟨e, hx⟩ hd => by
    subst e
    obtain ⟨v, hv, rv⟩ := r.get hd
    have := hx vs (same_sqT (s1.trans s2) h)
    rw [hv] at this; cases this
    exact ⟨Hf', Fut.refl s2, rv.mono s1⟩
theorem yld_rng (lo hi : Int) : Yld g (Itr lo (hi - lo).toNat) Hf (rngD lo hi) where
  go := fun i H Hf' s1 s2 h => by
    have e : (rngD lo hi).length = (hi - lo).toNat := by simp [rngD]
    rw [e] at h
    exact h
  stop := fun H Hf' s1 s2 => by show (hi - lo).toNat ≤ (rngD lo hi).length; simp [rngD]
  yld := fun i H Hf' x H' d s1 s2 ⟨e, hx⟩ hd => by
    subst e hx
    have hd' : d = .int (lo + (i : Int)) := by
      unfold rngD at hd
      rw [List.getElem?_map] at hd
      cases hr : (List.range (hi - lo).toNat)[i]? with
      | none => rw [hr] at hd; cases hd
      | some m =>
        rw [hr] at hd
        obtain ⟨h1, h2⟩ := List.getElem?_eq_some_iff.mp hr
        rw [List.getElem_range] at h2
        subst h2
        cases hd; rfl
    subst hd'
    exact ⟨Hf', Fut.refl s2, .int _⟩
theorem yld_enum (h : LsK g.K Hf a vs) (r : Reps g Hf vs ds) : Yld g (Ite g.K a) Hf (enumD ds) where
  go := fun i H Hf' s1 s2 hi => by
    have hi' : i < vs.length := by rw [r.length]; simpa [enumD] using hi
    obtain ⟨x, hx⟩ := get_lt hi'
    exact ⟨vs, x, (lsq (same_rd (s1.trans s2) h)), hx⟩
  stop := fun H Hf' s1 s2 => ⟨vs, (lsq (same_rd (s1.trans s2) h)), by rw [r.length]; simp [enumD]⟩
  yld := fun i H Hf' x H' d s1 s2 ⟨Tt, w, e1, hn, e2, hx⟩ hd => by
    subst e1 e2
    unfold enumD at hd
    rw [List.getElem?_map, List.getElem?_zipIdx] at hd
    cases hr : ds[i]? with
    | none => rw [hr] at hd; cases hd
    | some d0 =>
      rw [hr] at hd
      simp at hd
      subst hd
      obtain ⟨v, hv, rv⟩ := r.get hr
      have := hx vs ((lsq (same_rd (s1.trans s2) h)))
      rw [hv] at this; cases this
      exact ⟨_, Fut.new s2 hn, .tup (SqT.of upd_same) (.cons (.int _) (.cons ((rv.mono s1).mono (same_upd (s2.free hn))) .nil))⟩
theorem yld_zip (h : LsK g.K Hf a vs) (r : Reps g Hf vs ds) (h' : LsK g.K Hf b ws) (r' : Reps g Hf ws es) : Yld g (Itz g.K a b) Hf (zipD ds es) where
  go := fun i H Hf' s1 s2 hi => by
    have hi' : i < vs.length ∧ i < ws.length := by rw [r.length, r'.length]; simpa [zipD, Nat.lt_min] using hi
    obtain ⟨x, hx⟩ := get_lt hi'.1
    obtain ⟨y, hy⟩ := get_lt hi'.2
    exact ⟨vs, ws, x, y, (lsq (same_rd (s1.trans s2) h)), (lsq (same_rd (s1.trans s2) h')), hx, hy⟩
  stop := fun H Hf' s1 s2 => ⟨vs, ws, (lsq (same_rd (s1.trans s2) h)), (lsq (same_rd (s1.trans s2) h')), by
    rw [r.length, r'.length]; simp only [zipD, List.length_map, List.length_zip]; omega⟩
  yld := fun i H Hf' x H' d s1 s2 ⟨Tt, w, u, e1, hn, e2, hx, hy⟩ hd => by
    subst e1 e2
    unfold zipD at hd
    rw [List.getElem?_map] at hd
    cases hr : (ds.zip es)[i]? with
    | none => rw [hr] at hd; cases hd
    | some q =>
      rw [hr] at hd
      simp only [Option.map_some, Option.some.injEq] at hd
      subst hd
      rw [List.getElem?_zip_eq_some] at hr
      obtain ⟨v, hv, rv⟩ := r.get hr.1
      obtain ⟨v', hv', rv'⟩ := r'.get hr.2
      have z1 := hx vs ((lsq (same_rd (s1.trans s2) h)))
      have z2 := hy ws ((lsq (same_rd (s1.trans s2) h')))
      rw [hv] at z1; cases z1
      rw [hv'] at z2; cases z2
      exact ⟨_, Fut.new s2 hn, .tup (SqT.of upd_same) (.cons ((rv.mono s1).mono (same_upd (s2.free hn))) (.cons ((rv'.mono s1).mono (same_upd (s2.free hn))) .nil))⟩
end

section
variable {X : Cx} {N : List Str} {sc : Scope} {n : Nat} {T : Tb} {W : WE} {a b c : E} {x y z tg : Expr} {p q : Pos} {k : Nat}
theorem okRng_iff {i : Int} (h : okRng i = true) : -(2 ^ 62) ≤ i ∧ i < 2 ^ 62 := by
  unfold okRng at h
  rw [Bool.and_eq_true] at h
  exact ⟨of_decide_eq_true h.1, of_decide_eq_true h.2⟩
theorem i_rng1 (G : Good N sc n X) (K : Know (gOf X) n T) (h1 : ("range" : Str) ∈ T.bn) (h2 : glB sc "range" = true) (ha : PE X x (tD (gOf X) T W a)) (hs : staB x = false) : PI X tg (.Call (.Name "range" q) [x] [] p) (tDI (gOf X) T W (.rng1 a)) := by
  refine (pi_range1 (gl_of G h2) (K.bn _ h1) (pa_cons ha pa_nil (star_of hs)) (by rw [star_of hs]; rfl)).imp fun σ H Rr ⟨H0, Hf0, Hf, env, sr, r⟩ => ?_
  simp only [evI] at r
  refine tD_step lat_IP sr r fun d v H1 Hf1 _ f1 r1 sr1 q1 => ?_
  cases r1 with
  | int j =>
    obtain ⟨hr, q2⟩ := ifr q1
    obtain ⟨l1, l2⟩ := okRng_iff hr
    have y := yld_rng (g := gOf X) (Hf := Hf1) 0 j
    rw [Int.sub_zero] at y
    exact ⟨j, rfl, l1, l2, q2 _ _ _ (Fut.refl sr1.sub) y⟩
  | _ => exact q1.elim
theorem i_rng2 (G : Good N sc n X) (K : Know (gOf X) n T) (h1 : ("range" : Str) ∈ T.bn) (h2 : glB sc "range" = true) (ha : PE X x (tD (gOf X) T W a)) (hs : staB x = false) (hb : PE X y (tD (gOf X) T W b)) (hs' : staB y = false) : PI X tg (.Call (.Name "range" q) [x, y] [] p) (tDI (gOf X) T W (.rng2 a b)) := by
  refine (pi_range2 (gl_of G h2) (K.bn _ h1) (pa_cons ha (pa_cons hb pa_nil (star_of hs')) (star_of hs)) (by rw [star_of hs, star_of hs']; rfl) (by rw [star_of hs']; rfl)).imp fun σ H Rr ⟨H0, Hf0, Hf, env, sr, r⟩ => ?_
  simp only [evI] at r
  refine tD_step lat_IP sr r fun d v H1 Hf1 _ f1 r1 sr1 q1 => ?_
  refine tD_step lat_IP sr1 q1 fun e w H2 Hf2 _ f2 r2 sr2 q2 => ?_
  cases r1 with
  | int i =>
    cases r2 with
    | int j =>
      obtain ⟨hr, q3⟩ := ifr q2
      rw [Bool.and_eq_true] at hr
      obtain ⟨l1, l2⟩ := okRng_iff hr.1
      obtain ⟨l3, l4⟩ := okRng_iff hr.2
      exact ⟨i, j, rfl, ⟨l1, l2, l3, l4⟩, q3 _ _ _ (Fut.refl sr2.sub) (yld_rng i j)⟩
    | _ => exact q2.elim
  | _ => exact q2.elim
theorem i_enum {elts : List Expr} {kk : Nat} {pt : Pos} (G : Good N sc n X) (K : Know (gOf X) n T) (h1 : ("enumerate" : Str) ∈ T.bn) (h2 : glB sc "enumerate" = true) (ha : PE X x (tD (gOf X) T W a)) (hs : staB x = false) : PI X (.Tuple elts kk pt) (.Call (.Name "enumerate" q) [x] [] p) (tDI (gOf X) T W (.enum a)) := by
  refine (pi_enum (gl_of G h2) (K.bn _ h1) (pa_cons ha pa_nil (star_of hs)) (by rw [star_of hs]; rfl)).imp fun σ H Rr ⟨H0, Hf0, Hf, env, sr, r⟩ => ?_
  simp only [evI] at r
  refine tD_step lat_IP sr r fun d v H1 Hf1 _ f1 r1 sr1 q1 => ?_
  cases r1 with
  | lst h1 r1 => exact ⟨_, _, rfl, (lsq (same_rd sr1.sub h1)), q1 _ _ _ (Fut.refl sr1.sub) (yld_enum h1 r1)⟩
  | _ => exact q1.elim
theorem i_zip {elts : List Expr} {kk : Nat} {pt : Pos} (G : Good N sc n X) (K : Know (gOf X) n T) (h1 : ("zip" : Str) ∈ T.bn) (h2 : glB sc "zip" = true) (ha : PE X x (tD (gOf X) T W a)) (hs : staB x = false) (hb : PE X y (tD (gOf X) T W b)) (hs' : staB y = false) :
    PI X (.Tuple elts kk pt) (.Call (.Name "zip" q) [x, y] [] p) (tDI (gOf X) T W (.zip a b)) := by
  refine (pi_zip (gl_of G h2) (K.bn _ h1) (pa_cons ha (pa_cons hb pa_nil (star_of hs')) (star_of hs)) (star_of hs) (by rw [star_of hs']; rfl)).imp fun σ H Rr ⟨H0, Hf0, Hf, env, sr, r⟩ => ?_
  simp only [evI] at r
  refine tD_step lat_IP sr r fun d v H1 Hf1 _ f1 r1 sr1 q1 => ?_
  refine tD_step lat_IP sr1 q1 fun e w H2 Hf2 _ f2 r2 sr2 q2 => ?_
  cases r1 with
  | lst h1 r1 =>
    cases r2 with
    | lst h2 r2 => exact ⟨_, _, _, _, rfl, (lsq (same_rd (f2.f.trans sr2.sub) h1)), (lsq (same_rd sr2.sub h2)), q2 _ _ _ (Fut.refl sr2.sub) (yld_zip (same_rd f2.f h1) (r1.mono f2.f) h2 r2)⟩
    | _ => exact q2.elim
  | _ => exact q2.elim
theorem i_seq (ha : PE X x (tD (gOf X) T W a)) : PI X tg x (tDI (gOf X) T W (.cons a .nil)) := by
  refine (pi_seq ha).imp fun σ H Rr ⟨H0, Hf0, Hf, env, sr, r⟩ => ?_
  simp only [evI] at r
  refine tD_step lat_IP sr r fun d v H1 Hf1 _ f1 r1 sr1 q1 => ?_
  cases r1 with
  | lst h1 r1 => exact ⟨_, rfl, .inl ⟨⟨_, (lsq (same_rd sr1.sub h1))⟩, q1 _ _ _ (Fut.refl sr1.sub) (yld_list h1 r1)⟩⟩
  | tup h1 r1 => exact ⟨_, rfl, .inr ⟨⟨_, same_sqT sr1.sub h1⟩, q1 _ _ _ (Fut.refl sr1.sub) (yld_tup h1 r1)⟩⟩
  | _ => exact q1.elim

/-! ### targets -/
/-- data stored by a target; what else stands, stands -/
def tG (g : G) (t : Tg) : TG := fun v σ H Q => ∃ H0 Hf0 Hf env d, SR g H0 Hf0 σ H Hf env ∧ Rep g Hf v d ∧ ∃ env', setT t d env = some env' ∧ ∀ σ', SR g H0 Hf0 σ' H Hf env' → σ'.length = σ.length → (∀ i, i ∉ t.slots → σ'[i]? = σ[i]?) → Q σ' H
def tGs (g : G) (t : Tg) : TGs := fun vs σ H Q => ∃ H0 Hf0 Hf env ds, SR g H0 Hf0 σ H Hf env ∧ Reps g Hf vs ds ∧ ∃ env', setT t (.tup ds) env = some env' ∧ ∀ σ', SR g H0 Hf0 σ' H Hf env' → σ'.length = σ.length → (∀ i, i ∉ t.slots → σ'[i]? = σ[i]?) → Q σ' H
theorem _root_.L2.PG.imp {X : Cx} {e : Expr} {t t' : TG} (h : PG X e t) (k : ∀ v σ H Q, t' v σ H Q → t v σ H Q) : PG X e t' := ⟨fun pins s σ H v u Q I r q => h.run pins s σ H v u Q I r (k v σ H Q q)⟩
theorem _root_.L2.PGs.imp {X : Cx} {e : List Expr} {t t' : TGs} (h : PGs X e t) (k : ∀ v σ H Q, t' v σ H Q → t v σ H Q) : PGs X e t' := ⟨fun pins s σ H v u Q I r q => h.run pins s σ H v u Q I r (k v σ H Q q)⟩
theorem g_name {i : Nat} {s : Str} (G : Good N sc n X) (h1 : N[i]? = some s) (h2 : locB sc s = true) : PG X (.Name s p) (tG (gOf X) (.name i)) := by
  obtain ⟨hl, hf⟩ := G.loc s h2
  refine (pg_name (i := i) (by rw [G.eN]; exact G.nd) (by rw [G.eN]; exact h1) hl hf).imp fun v σ H Q ⟨H0, Hf0, Hf, env, d, sr, r, env', e, k⟩ => ?_
  simp only [setT, Option.some.injEq] at e
  subst e
  refine k _ (sr.setv r) (by simp) fun j hj => ?_
  rw [List.getElem?_set_ne (by simpa [Tg.slots, eq_comm] using hj)]
theorem gs_nil : PGs X [] (tGs (gOf X) .nil) := pgs_nil.imp fun v σ H Q ⟨H0, Hf0, Hf, env, ds, sr, r, env', e, k⟩ => by
  cases r with
  | nil => simp only [setT, Option.some.injEq] at e; subst e; exact ⟨rfl, k σ sr rfl fun _ _ => rfl⟩
  | cons r1 r2 => simp [setT] at e
theorem each_of {x : Expr} {xs : List Expr} {e : PySem.Env} (h : staB x = false) : (assignEach (x :: xs) e).map (·.2) = assign x e :: (assignEach xs e).map (·.2) := by
  cases x <;> first | rfl | cases h
theorem gs_cons {t u : Tg} {xs : List Expr} (h1 : PG X x (tG (gOf X) t)) (h2 : PGs X xs (tGs (gOf X) u)) (hs : staB x = false) : PGs X (x :: xs) (tGs (gOf X) (.cons t u)) := by
  refine (pgs_cons h1 h2 (each_of hs)).imp fun v σ H Q ⟨H0, Hf0, Hf, env, ds, sr, r, env', e, k⟩ => ?_
  cases r with
  | nil => simp [setT] at e
  | @cons v1 d1 vs1 ds1 r1 r2 =>
    simp only [setT, Option.bind_eq_some_iff] at e
    obtain ⟨env1, e1, e2⟩ := e
    refine ⟨v1, vs1, rfl, H0, Hf0, Hf, env, d1, sr, r1, env1, e1, fun σ1 sr1 hl1 hk1 => ?_⟩
    refine ⟨H0, Hf0, Hf, env1, ds1, sr1, r2, env', e2, fun σ2 sr2 hl2 hk2 => ?_⟩
    refine k σ2 sr2 (hl2.trans hl1) fun i hi => ?_
    simp only [Tg.slots, List.mem_append, not_or] at hi
    rw [hk2 i hi.2, hk1 i hi.1]
theorem g_tup {t : Tg} {xs : List Expr} (hc : X.calm = true) (h : PGs X xs (tGs (gOf X) t)) (hst : (assignEach xs X.env).findIdx? (·.1) = none) (hlen : ∀ ds env env', setT t (.tup ds) env = some env' → ds.length = xs.length) (hl2 : (assignEach xs X.env).length = xs.length) :
    PG X (.Tuple xs k p) (tG (gOf X) (.tup t)) := by
  refine (pg_tup hc h hl2 hst).imp fun v σ H Q ⟨H0, Hf0, Hf, env, d, sr, r, env', e, kk⟩ => ?_
  cases r with
  | @tup _ _ ds h1 r1 =>
    have e' : setT t (.tup ds) env = some env' := by simpa only [setT] using e
    exact ⟨_, _, rfl, same_sqT sr.sub h1, by rw [r1.length, hlen _ _ _ e'], H0, Hf0, Hf, env, _, sr, r1, env', e', kk⟩
  | _ => simp [setT] at e
end
end Rf
/-! # Rf8: comprehensions; every expression that passes the look -/
namespace Rf
open PySem PySem.Spec L2
section
variable {g : G} {H0 Hf0 H Hf : Hp} {env : Env} {σ : St}
theorem hide_get {env : Env} {i : Nat} {s : Sl} (h : (hideO env)[i]? = some (some s)) : ∃ d, s = .v d ∧ env[i]? = some (some (.v d)) := by
  unfold hideO at h
  rw [List.getElem?_map] at h
  cases e : env[i]? with
  | none => rw [e] at h; cases h
  | some o =>
    rw [e] at h
    cases o with
    | none => cases h
    | some t => cases t with
      | v d => simp at h; exact ⟨d, h.symm, rfl⟩
      | o xs => cases h
theorem SR.hide (r : SR g H0 Hf0 σ H Hf env) : SR g H0 Hf0 σ H Hf (hideO env) :=
  ⟨r.fut, by simp [hideO, r.len], fun i s h => by obtain ⟨d, rfl, e⟩ := hide_get h; exact r.slot i _ e, fun i j xs ys _ h1 _ => by obtain ⟨d, e, _⟩ := hide_get h1; cases e⟩
theorem SR.wipe (r : SR g H0 Hf0 σ H Hf env) : ∀ vs : List Nat, SR g H0 Hf0 (L2.wipe σ vs) H Hf (wipeE env vs)
  | [] => r
  | v :: vs => (SR.wipe r vs).setn none
def noO (env : Env) : Prop := ∀ (i : Nat) (xs : List D), env[i]? ≠ some (some (.o xs))
theorem noO_hide (env : Env) : noO (hideO env) := fun i xs h => by obtain ⟨d, e, _⟩ := hide_get h; cases e
theorem noO_set {env : Env} (h : noO env) (i : Nat) : noO (env.set i none) := fun j xs e => by
  by_cases hj : j = i
  · subst hj
    by_cases hl : j < env.length
    · rw [List.getElem?_set_self hl] at e; cases e
    · rw [List.getElem?_eq_none (by simpa using hl)] at e; cases e
  · rw [List.getElem?_set_ne (Ne.symm hj)] at e; exact h j xs e
theorem noO_wipe {env : Env} (h : noO env) : ∀ vs, noO (wipeE env vs)
  | [] => h
  | v :: vs => noO_set (noO_wipe h vs) v
theorem Fut.updD {H1 Hf1 H4 Hf4 : Hp} {p : Addr} {o : HO} (f : Fut H1 Hf1 H4 Hf4) (h1 : H1 p = none) (h4 : Hf4 p = none) : Fut H1 Hf1 (upd H4 p o) Hf4 :=
  ⟨fun b u e => by rw [upd_ne (ne_of_none e h1)]; exact f.s _ _ e, f.f, fun b u e => by rw [upd_ne (ne_of_none e h4)]; exact f.i _ _ e, f.n⟩
theorem SR.updD {p : Addr} {o : HO} (r : SR g H0 Hf0 σ H Hf env) (no : noO env) (h0 : H0 p = none) (hf : Hf p = none) : SR g H0 Hf0 σ (upd H p o) Hf env :=
  ⟨r.fut.updD h0 hf, r.len, fun i s h => by
    obtain ⟨v, e, q⟩ := r.slot i s h
    refine ⟨v, e, ?_⟩
    cases q with
    | v q => exact .v q
    | o _ _ _ _ => exact absurd h (no i _), r.dis⟩
theorem wipe_len (σ : St) (vs : List Nat) : (L2.wipe σ vs).length = σ.length := wipe_length σ vs
theorem wipe_congr : ∀ (vs : List Nat) {a b : St}, a.length = b.length → (∀ i, i ∉ vs → a[i]? = b[i]?) → L2.wipe a vs = L2.wipe b vs := by
  intro vs a b hl h
  have key : ∀ (vs : List Nat) (c : St) (i : Nat), (L2.wipe c vs)[i]? = if i ∈ vs then (if i < c.length then some none else none) else c[i]? := by
    intro vs
    induction vs with
    | nil => intro c i; simp [L2.wipe]
    | cons v vs ih =>
      intro c i
      show ((L2.wipe c vs).set v none)[i]? = _
      by_cases hi : i = v
      · subst hi
        simp only [List.mem_cons, true_or, if_true]
        by_cases hl : i < c.length
        · rw [List.getElem?_set_self (by rw [wipe_len]; exact hl), if_pos hl]
        · rw [if_neg hl, List.getElem?_eq_none (by simp [wipe_len]; omega)]
      · rw [List.getElem?_set_ne (Ne.symm hi), ih]
        simp [hi]
  refine List.ext_getElem? fun i => ?_
  rw [key, key, hl]
  split
  · rfl
  · rename_i hn; exact h i hn
theorem wipe_idem (σ : St) (vs : List Nat) : L2.wipe (L2.wipe σ vs) vs = L2.wipe σ vs := by
  refine wipe_congr vs (wipe_len _ _) fun i hi => ?_
  have : ∀ (us : List Nat), i ∉ us → (L2.wipe σ us)[i]? = σ[i]? := by
    intro us
    induction us with
    | nil => intro _; rfl
    | cons u us ih =>
      intro h
      simp only [List.mem_cons, not_or] at h
      show ((L2.wipe σ us).set u none)[i]? = _
      rw [List.getElem?_set_ne (Ne.symm h.1), ih h.2]
  exact this vs hi
end
theorem compL_ne {f : Env → R (Option D)} {tg : Tg} {env : Env} (z : Exn) : ∀ ds, compL f tg env ds ≠ .err z
  | [] => by simp [compL]
  | d :: ds => by
    unfold compL
    cases h1 : setT tg d env with
    | none => simp
    | some env' =>
      cases h2 : f env' with
      | ok o =>
        cases h3 : compL f tg env ds with
        | ok rs => simp [h2]
        | err w => exact absurd h3 (compL_ne w ds)
        | bad => simp [h2]
      | err w => simp [h2]
      | bad => simp [h2]
theorem fold_of {x : Expr} {e : PySem.Env} (h : setB x = false) : ∀ y, foldedSetIterable x e y = pure y := by
  intro y
  cases x <;> first | rfl | cases h
abbrev noW : WE := fun _ _ _ _ => False

section
variable {X : Cx} {N : List Str} {sc sc' : Scope} {n : Nat} {T : Tb} {W : WE} {elt it cond : E} {x i t : Expr} {ifs : List Expr} {tg : Tg} {own : List Nat} {p : Pos}
theorem own_snd (N : List Str) (own : List Nat) : (own.map fun k => (N.getD k "", k)).map (·.2) = own := by
  rw [List.map_map]; exact List.map_id _
/-- the comprehension's own reading -/
theorem tLc_of {σ : St} {H : Hp} {Q : VK} (hsl : ∀ k ∈ tg.slots, k ∈ own) (h : tDX (gOf X) T W (.comp elt tg it cond own) σ H Q) :
    tLc (tDI (gOf X) T W it) (tG (gOf X) tg) (tDC (gOf X) T noW cond) (tD (gOf X) T noW elt) ((own.map fun k => (N.getD k "", k)).map (·.2)) σ H Q := by
  obtain ⟨H0, Hf0, Hf, env, sr, r⟩ := h
  rw [own_snd]
  simp only [ev] at r
  refine ⟨H0, Hf0, Hf, env, sr, r.bind.imp fun ds _ q J H1 Hf1 f1 y => ?_⟩
  replace q := RG.later lat_XP q f1
  generalize hf : (fun env' => (evC T cond env').bind fun k => if k = true then (ev T elt env').bind fun d => R.ok (some d) else R.ok none) = f at q
  cases hc : compL f tg (wipeE (hideO env) own) ds with
  | err z => exact absurd hc (compL_ne z ds)
  | bad => rw [hc] at q; exact q.elim
  | ok rs =>
    rw [hc] at q
    obtain ⟨hl, q⟩ := ifr q
    have hlen : rs.length ≤ sizeLine := okLen_iff hl
    intro D hD
    have f0 : H0 D = none := (sr.fut.s.trans f1.s).free hD
    have srw : SR (gOf X) H0 Hf0 (L2.wipe σ own) H1 Hf1 (wipeE (hideO env) own) := (sr.mono f1).hide.wipe own
    have no := noO_wipe (noO_hide env) own
    refine ⟨fun i m Hc => m = ds.length - i ∧ i ≤ ds.length ∧ ∃ Hfc accV accD rest, Fut H1 Hf1 Hc Hfc ∧ SR (gOf X) H0 Hf0 (L2.wipe σ own) Hc Hfc (wipeE (hideO env) own) ∧ Hc D = some (.lst accV) ∧ Hfc D = none ∧ Reps (gOf X) Hfc accV accD ∧
      compL f tg (wipeE (hideO env) own) (ds.drop i) = .ok rest ∧ accD ++ rest = rs, ⟨ds.length, by simp, Nat.zero_le _, Hf1, [], [], rs, Fut.own f1.i hD, srw.mono (Fut.own f1.i hD), upd_same, f1.i.free hD, .nil, by simpa using hc, by simp⟩, ?_⟩
    rintro i m Hc ⟨hm, hi, Hfc, accV, accD, rest, fc, src, hp, hfp, racc, hrest, happ⟩
    rcases Nat.lt_or_ge i ds.length with hlt | hge
    · refine .inr ⟨y.go i Hc Hfc fc.f fc.i hlt, _, fun H' h' => ⟨ds.length - (i + 1), by omega, h'⟩, fun v H' hy => ?_⟩
      have hd : ds[i]? = some ds[i] := List.getElem?_eq_getElem hlt
      obtain ⟨Hf', f2, rv⟩ := y.yld i Hc Hfc v H' ds[i] fc.f fc.i hy hd
      rw [List.drop_eq_getElem_cons hlt] at hrest
      unfold compL at hrest
      cases h1 : setT tg ds[i] (wipeE (hideO env) own) with
      | none => rw [h1] at hrest; cases hrest
      | some env1 =>
        rw [h1] at hrest
        simp only at hrest
        cases h2 : f env1 with
        | err w => rw [h2] at hrest; cases hrest
        | bad => rw [h2] at hrest; cases hrest
        | ok o =>
          rw [h2] at hrest
          simp only at hrest
          cases h3 : compL f tg (wipeE (hideO env) own) (ds.drop (i + 1)) with
          | err w => rw [h3] at hrest; cases hrest
          | bad => rw [h3] at hrest; cases hrest
          | ok rs' =>
            rw [h3] at hrest
            simp only [R.bind_ok, R.ok.injEq] at hrest
            have src' := src.mono f2
            refine ⟨H0, Hf0, Hf', _, ds[i], src', rv, env1, h1, fun σ2 sr2 hl2 hk2 => ⟨?_, ?_⟩⟩
            · rw [← wipe_idem σ own]
              exact wipe_congr own hl2 fun j hj => hk2 j fun z => hj (hsl j z)
            · rw [← hf] at h2
              simp only at h2
              cases h4 : evC T cond env1 with
              | err w => rw [h4] at h2; cases h2
              | bad => rw [h4] at h2; cases h2
              | ok b =>
                rw [h4] at h2
                simp only [R.bind_ok] at h2
                refine ⟨H0, Hf0, Hf', env1, sr2, ?_⟩
                rw [h4]
                intro H3 Hf3 f3
                cases b with
                | false =>
                  rw [if_neg Bool.false_ne_true] at h2 ⊢
                  cases h2
                  have fb := f2.trans f3
                  exact ⟨rfl, by omega, Hf3, accV, accD, rs', fc.trans fb, src.mono fb, fb.s _ _ hp, fb.n _ (by rw [hp]; exact fun z => nomatch z) hfp, racc.mono fb.f, h3, by rw [← happ, ← hrest]⟩
                | true =>
                  rw [if_pos rfl] at h2 ⊢
                  cases h5 : ev T elt env1 with
                  | err w => rw [h5] at h2; cases h2
                  | bad => rw [h5] at h2; cases h2
                  | ok d' =>
                    rw [h5] at h2
                    simp only [R.bind_ok, R.ok.injEq] at h2
                    subst h2
                    refine ⟨H0, Hf0, Hf3, env1, sr2.mono f3, ?_⟩
                    rw [h5]
                    intro w H4 Hf4 f4 r4
                    have fb := (f2.trans f3).trans f4
                    have hf4 : Hf4 D = none := fb.n _ (by rw [hp]; exact fun z => nomatch z) hfp
                    refine ⟨accV, fb.s _ _ hp, ?_, rfl, by omega, Hf4, accV ++ [w], accD ++ [d'], rs', (fc.trans fb).updD hD hf4, (src.mono fb).updD no f0 hf4, upd_same, hf4, (racc.mono fb.f).append (.cons r4 .nil), h3, by rw [← happ, ← hrest]; simp⟩
                    rw [racc.length]
                    have : rs.length = accD.length + (rs'.length + 1) := by rw [← happ, ← hrest]; simp
                    omega
    · have : i = ds.length := by omega
      subst this
      rw [List.drop_length] at hrest
      simp only [compL, R.ok.injEq] at hrest
      subst hrest
      rw [List.append_nil] at happ
      subst happ
      exact .inl ⟨y.stop Hc Hfc fc.f fc.i, q D accV Hc Hfc fc hD hp hfp racc⟩
theorem e_comp (G : Good N sc n X) (hok : blkC N sc sc' (own.map fun k => (N.getD k "", k)) = true) (hsl : ∀ k ∈ tg.slots, k ∈ own) (hset : setB i = false)
    (hi : PI X t i (tDI (gOf X) T W it))
    (hg : ∀ (s : Shared) (H : Hp) (C : Addr) (cl : List (Str × Addr)) (fp : List Addr), PG (X.blk s H sc' (compEnvC sc' cl C X.env) fp) t (tG (gOf X) tg))
    (ht : ∀ (s : Shared) (H : Hp) (C : Addr) (cl : List (Str × Addr)) (fp : List Addr), PTs (X.blk s H sc' (compEnvC sc' cl C X.env) fp) ifs (tDC (gOf X) T noW cond))
    (he : ∀ (s : Shared) (H : Hp) (C : Addr) (cl : List (Str × Addr)) (fp : List Addr), PE (X.blk s H sc' (compEnvC sc' cl C X.env) fp) x (tD (gOf X) T noW elt)) :
    PE X (.ListComp x [⟨t, i, ifs, 0⟩] sc' p) (tDX (gOf X) T W (.comp elt tg it cond own)) :=
  (pe_lc (own := own.map fun k => (N.getD k "", k)) G.calm (by rw [G.eN]; exact G.nd) hi (by rw [G.eN]; exact (let B := blkOk_by hok; ⟨B.kind, B.uniq, B.ix, fun y hy e => G.cf _ (B.free y hy e), B.own⟩)) hg ht he (fold_of hset)).imp fun σ H Q h => tLc_of hsl h
theorem c_nil : PTs X [] (tDC (gOf X) T W .nil) := ⟨fun pins s σ H Q I ⟨H0, Hf0, Hf, env, sr, r⟩ => pts_nil.run pins s σ H Q I (by simp only [evC] at r; exact r H Hf (Fut.refl sr.sub))⟩
theorem c_one {a : E} (h : PT X x (tDT (gOf X) T W a)) : PTs X [x] (tDC (gOf X) T W (.cons a .nil)) := ⟨fun pins s σ H Q I ⟨H0, Hf0, Hf, env, sr, r⟩ => (pts_one h).run pins s σ H Q I ⟨H0, Hf0, Hf, env, sr, by simp only [evC] at r; exact r⟩⟩

theorem gs_of (G : Good N sc n X) : ∀ (t : Tg) (xs : List Expr), ckTg.ckTgs N sc t xs = true → PGs X xs (tGs (gOf X) t) ∧ (assignEach xs X.env).findIdx? (·.1) = none ∧ (assignEach xs X.env).length = xs.length ∧ ∀ ds env env', setT t (.tup ds) env = some env' → ds.length = xs.length
  | .nil, [], _ => ⟨gs_nil, rfl, rfl, fun ds env env' h => by cases ds with
    | nil => rfl
    | cons d ds => simp [setT] at h⟩
  | .nil, _ :: _, h => by simp [ckTg.ckTgs] at h
  | .name _, _, h => by simp [ckTg.ckTgs] at h
  | .tup _, _, h => by simp [ckTg.ckTgs] at h
  | .cons _ _, [], h => by simp [ckTg.ckTgs] at h
  | .cons (.name i) r, e :: es, h => by
    cases e with
    | Name s p =>
      simp only [ckTg.ckTgs, Bool.and_eq_true, decide_eq_true_eq] at h
      obtain ⟨h1, h2, h3, h4⟩ := gs_of G r es h.2
      refine ⟨gs_cons (g_name G h.1.1 h.1.2) h1 rfl, ?_, by show _ + 1 = _ + 1; rw [h3], fun ds env env' e => ?_⟩
      · show List.findIdx? _ ((false, _) :: assignEach es X.env) = none
        rw [List.findIdx?_cons, h2]; rfl
      · cases ds with
        | nil => simp [setT] at e
        | cons d ds =>
          simp only [setT, Option.bind_eq_some_iff] at e
          obtain ⟨e1, _, e2⟩ := e
          rw [List.length_cons, List.length_cons, h4 _ _ _ e2]
    | _ => simp [ckTg.ckTgs] at h
  | .cons (.tup r') r, e :: es, h => by
    cases e with
    | Tuple es' k p =>
      simp only [ckTg.ckTgs, Bool.and_eq_true] at h
      obtain ⟨h1, h2, h3, h4⟩ := gs_of G r es h.2
      obtain ⟨k1, k2, k3, k4⟩ := gs_of G r' es' h.1
      refine ⟨gs_cons (g_tup G.calm k1 k2 k4 k3) h1 rfl, ?_, by show _ + 1 = _ + 1; rw [h3], fun ds env env' e => ?_⟩
      · show List.findIdx? _ ((false, _) :: assignEach es X.env) = none
        rw [List.findIdx?_cons, h2]; rfl
      · cases ds with
        | nil => simp [setT] at e
        | cons d ds =>
          simp only [setT, Option.bind_eq_some_iff] at e
          obtain ⟨e1, _, e2⟩ := e
          rw [List.length_cons, List.length_cons, h4 _ _ _ e2]
    | _ => simp [ckTg.ckTgs] at h
  | .cons .nil r, e :: es, h => by simp [ckTg.ckTgs] at h
  | .cons (.cons _ _) r, e :: es, h => by simp [ckTg.ckTgs] at h
theorem g_of (G : Good N sc n X) {t : Tg} {x : Expr} (h : ckTg N sc t x = true) : PG X x (tG (gOf X) t) := by
  cases t with
  | name i => cases x with
    | Name s p =>
      simp only [ckTg, Bool.and_eq_true, decide_eq_true_eq] at h
      exact g_name G h.1 h.2
    | _ => simp [ckTg] at h
  | tup r => cases x with
    | Tuple es k p =>
      simp only [ckTg] at h
      obtain ⟨k1, k2, k3, k4⟩ := gs_of G r es h
      exact g_tup G.calm k1 k2 k4 k3
    | _ => simp [ckTg] at h
  | nil => simp [ckTg] at h
  | cons _ _ => simp [ckTg] at h

/-! ### all expressions -/
def freshB : E → Bool
  | .bin _ _ _ => true | .lst _ => true | .sl _ _ _ => true | .bi _ _ => true | .comp _ _ _ _ _ => true | _ => false
structure Snd (N : List Str) (n : Nat) (T : Tb) (e : E) : Prop where
  E : ∀ (X : Cx) (sc : Scope) (x : Expr) (W : WE), Good N sc n X → Takes X W → Know (gOf X) n T → ckE N T e sc x = true → PE X x (tD (gOf X) T W e)
  F : ∀ (X : Cx) (sc : Scope) (x : Expr) (W : WE), Good N sc n X → Takes X W → Know (gOf X) n T → ckE N T e sc x = true → freshB e = true → PE X x (tDF (gOf X) T W e)
  Tt : ∀ (X : Cx) (sc : Scope) (x : Expr) (W : WE), Good N sc n X → Takes X W → Know (gOf X) n T → ckE N T e sc x = true → PT X x (tDT (gOf X) T W e)
  A : ∀ (X : Cx) (sc : Scope) (x : List Expr) (W : WE), Good N sc n X → Takes X W → Know (gOf X) n T → ckL N T e sc x = true → PA X x (tDA (gOf X) T W e) ∧ ∀ y ∈ x, staB y = false
  P : ∀ (X : Cx) (sc : Scope) (x : Option Expr) (W : WE), Good N sc n X → Takes X W → Know (gOf X) n T → ckP N T e sc x = true → PO X x (tDP (gOf X) T W e)
  C : ∀ (X : Cx) (sc : Scope) (x : List Expr) (W : WE), Good N sc n X → Takes X W → Know (gOf X) n T → ckC N T e sc x = true → PTs X x (tDC (gOf X) T W e)
  I : ∀ (X : Cx) (sc : Scope) (x tg : Expr) (W : WE), Good N sc n X → Takes X W → Know (gOf X) n T → ckI N T e sc x = true → tgOkB e tg = true → PI X tg x (tDI (gOf X) T W e)
theorem pt_bad {X : Cx} {x : Expr} {T : Tb} {W : WE} {e : Rf.E} (h : ∀ env, evT T e env = .bad) : PT X x (tDT (gOf X) T W e) := ⟨fun pins s σ H Q I ⟨H0, Hf0, Hf, env, sr, r⟩ => by rw [h] at r; exact r.elim⟩
theorem lookup_relabel {env : PySem.Env} (x : Str) : ∀ names : List (Str × NameKind),
    (names.map fun (n, k) => if (k == NameKind.free && env.scope.kind == .function && env.kindOf n == some .cell) then (n, NameKind.cell) else (n, k)).lookup x =
      (names.lookup x).map fun k => if (k == NameKind.free && env.scope.kind == .function && env.kindOf x == some .cell) then NameKind.cell else k
  | [] => rfl
  | (n, k) :: r => by
    rw [List.map_cons]
    by_cases h : x = n
    · subst h
      show List.lookup x ((if _ then (x, NameKind.cell) else (x, k)) :: _) = _
      split <;> rename_i hc <;> simp only [List.lookup, beq_self_eq_true, Option.map_some]
      · rw [if_pos hc]
      · rw [if_neg hc]
    · have hb : (x == n) = false := by simpa using h
      show List.lookup x ((if _ then (n, NameKind.cell) else (n, k)) :: _) = _
      split <;> simp only [List.lookup, hb] <;> exact lookup_relabel x r
theorem blk_look {X : Cx} {s : Shared} {H : Hp} {sc' : Scope} {C : Addr} {cl : List (Str × Addr)} {fp : List Addr} (x : Str) : (X.blk s H sc' (compEnvC sc' cl C X.env) fp).env.scope.names.lookup x =
      (sc'.names.lookup x).map fun k => if (k == NameKind.free && X.env.scope.kind == .function && X.env.kindOf x == some .cell) then NameKind.cell else k := lookup_relabel x sc'.names
theorem good_blk {X : Cx} {N : List Str} {sc sc' : Scope} {n : Nat} (G : Good N sc n X) (s : Shared) (H : Hp) (C : Addr) (cl : List (Str × Addr)) (fp : List Addr) : Good N sc' n (X.blk s H sc' (compEnvC sc' cl C X.env) fp) := by
  refine ⟨G.eN, fun x hx => ?_, fun x hx => ?_, fun x hx => ?_, fun x hx => ?_, G.calm, G.room, G.nd⟩
  · unfold Vis
    rw [blk_look]
    rcases vis_of hx with h | h | h
    · exact .inl (by rw [h]; rfl)
    · exact .inr (.inl (by rw [h]; rfl))
    · rw [h]
      simp only [Option.map_some]
      split
      · exact .inr (.inl rfl)
      · exact .inr (.inr rfl)
  · rw [blk_look]
    unfold glB at hx
    split at hx
    · rename_i h; rw [h]; rfl
    · cases hx
  · unfold L2.Loc
    rw [blk_look]
    rcases loc_of hx with h | h
    · exact ⟨.inl (by rw [h]; rfl), .inr (by rw [h]; rfl)⟩
    · exact ⟨.inr (by rw [h]; rfl), .inl (by show (sc'.names.lookup x == some .cell) = true; rw [h]; rfl)⟩
  · rw [blk_look]
    rcases hx with h | h
    · exact .inl (by rw [h]; rfl)
    · rw [h]
      simp only [Option.map_some]
      split
      · exact .inl rfl
      · exact .inr rfl
theorem takes_blk {X : Cx} (s : Shared) (H : Hp) (sc' : Scope) (e : PySem.Env) (fp : List Addr) : Takes (X.blk s H sc' e fp) noW := fun _ _ ⟨_, _, _, _, _, _, _, _, _, _, _, _, _, _, _, _, w⟩ => w
end

section
variable {N : List Str} {n : Nat} {T : Tb}
theorem and4 {a b c d : Bool} (h : (a && b && c && d) = true) : a = true ∧ b = true ∧ c = true ∧ d = true := by
  simp only [Bool.and_eq_true] at h; exact ⟨h.1.1.1, h.1.1.2, h.1.2, h.2⟩
/-- an expression all of whose other readings are empty -/
theorem snd_of {e : Rf.E} (hE : ∀ (X : Cx) (sc : Scope) (x : Expr) (W : WE), Good N sc n X → Takes X W → Know (gOf X) n T → ckE N T e sc x = true → PE X x (tD (gOf X) T W e))
    (hF : ∀ (X : Cx) (sc : Scope) (x : Expr) (W : WE), Good N sc n X → Takes X W → Know (gOf X) n T → ckE N T e sc x = true → freshB e = true → PE X x (tDF (gOf X) T W e))
    (hT : ∀ (X : Cx) (sc : Scope) (x : Expr) (W : WE), Good N sc n X → Takes X W → Know (gOf X) n T → ckE N T e sc x = true → PT X x (tDT (gOf X) T W e))
    (h1 : ∀ sc xs, ckL N T e sc xs = false) (h2 : ∀ sc o, ckP N T e sc o = false) (h3 : ∀ sc xs, ckC N T e sc xs = false) (h4 : ∀ sc x, ckI N T e sc x = false) : Snd N n T e :=
  ⟨hE, hF, hT, fun _ sc x _ _ _ _ h => (by rw [h1] at h; cases h), fun _ sc x _ _ _ _ h => (by rw [h2] at h; cases h), fun _ sc x _ _ _ _ h => (by rw [h3] at h; cases h), fun _ sc x _ _ _ _ _ h => (by rw [h4] at h; cases h)⟩
/-- .. with a fresh list as its value, walked by its value as a test -/
theorem snd_X {e : Rf.E} (hX : ∀ (X : Cx) (sc : Scope) (x : Expr) (W : WE), Good N sc n X → Takes X W → Know (gOf X) n T → ckE N T e sc x = true → PE X x (tDX (gOf X) T W e) ∧ (plainT x = true ∨ ∀ env, evT T e env = .bad))
    (ht : (∀ env, evT T e env = (ev T e env).bind truD) ∨ ∀ env, evT T e env = .bad)
    (h1 : ∀ sc xs, ckL N T e sc xs = false) (h2 : ∀ sc o, ckP N T e sc o = false) (h3 : ∀ sc xs, ckC N T e sc xs = false) (h4 : ∀ sc x, ckI N T e sc x = false) : Snd N n T e :=
  snd_of (fun X sc x W G tk K h => tDX_E (hX X sc x W G tk K h).1) (fun X sc x W G tk K h _ => tDX_F (hX X sc x W G tk K h).1)
    (fun X sc x W G tk K h => by
      rcases ht with ht | ht
      · rcases (hX X sc x W G tk K h).2 with hp | hb
        · exact t_plain hp ht (tDX_E (hX X sc x W G tk K h).1)
        · exact pt_bad hb
      · exact pt_bad ht) h1 h2 h3 h4
/-- .. with plain data as its value -/
theorem snd_E {e : Rf.E} (hE : ∀ (X : Cx) (sc : Scope) (x : Expr) (W : WE), Good N sc n X → Takes X W → Know (gOf X) n T → ckE N T e sc x = true → PE X x (tD (gOf X) T W e) ∧ (plainT x = true ∨ ∀ env, evT T e env = .bad)) (hf : freshB e = false)
    (ht : (∀ env, evT T e env = (ev T e env).bind truD) ∨ ∀ env, evT T e env = .bad)
    (h1 : ∀ sc xs, ckL N T e sc xs = false) (h2 : ∀ sc o, ckP N T e sc o = false) (h3 : ∀ sc xs, ckC N T e sc xs = false) (h4 : ∀ sc x, ckI N T e sc x = false) : Snd N n T e :=
  snd_of (fun X sc x W G tk K h => (hE X sc x W G tk K h).1) (fun X sc x W G tk K h z => by rw [hf] at z; cases z)
    (fun X sc x W G tk K h => by
      rcases ht with ht | ht
      · rcases (hE X sc x W G tk K h).2 with hp | hb
        · exact t_plain hp ht (hE X sc x W G tk K h).1
        · exact pt_bad hb
      · exact pt_bad ht) h1 h2 h3 h4
/-- .. with readings of both kinds -/
theorem snd_ET {e : Rf.E} (hE : ∀ (X : Cx) (sc : Scope) (x : Expr) (W : WE), Good N sc n X → Takes X W → Know (gOf X) n T → ckE N T e sc x = true → PE X x (tD (gOf X) T W e) ∧ PT X x (tDT (gOf X) T W e)) (hf : freshB e = false)
    (h1 : ∀ sc xs, ckL N T e sc xs = false) (h2 : ∀ sc o, ckP N T e sc o = false) (h3 : ∀ sc xs, ckC N T e sc xs = false) (h4 : ∀ sc x, ckI N T e sc x = false) : Snd N n T e :=
  snd_of (fun X sc x W G tk K h => (hE X sc x W G tk K h).1) (fun X sc x W G tk K h z => by rw [hf] at z; cases z) (fun X sc x W G tk K h => (hE X sc x W G tk K h).2) h1 h2 h3 h4
/-- what stands only in a list, or is only walked -/
theorem snd_no {e : Rf.E} (h0 : ∀ sc x, ckE N T e sc x = false) (hA : ∀ (X : Cx) (sc : Scope) (x : List Expr) (W : WE), Good N sc n X → Takes X W → Know (gOf X) n T → ckL N T e sc x = true → PA X x (tDA (gOf X) T W e) ∧ ∀ y ∈ x, staB y = false)
    (hP : ∀ (X : Cx) (sc : Scope) (x : Option Expr) (W : WE), Good N sc n X → Takes X W → Know (gOf X) n T → ckP N T e sc x = true → PO X x (tDP (gOf X) T W e))
    (hC : ∀ (X : Cx) (sc : Scope) (x : List Expr) (W : WE), Good N sc n X → Takes X W → Know (gOf X) n T → ckC N T e sc x = true → PTs X x (tDC (gOf X) T W e))
    (hI : ∀ (X : Cx) (sc : Scope) (x tg : Expr) (W : WE), Good N sc n X → Takes X W → Know (gOf X) n T → ckI N T e sc x = true → tgOkB e tg = true → PI X tg x (tDI (gOf X) T W e)) : Snd N n T e :=
  ⟨fun _ sc x _ _ _ _ h => (by rw [h0] at h; cases h), fun _ sc x _ _ _ _ h => (by rw [h0] at h; cases h), fun _ sc x _ _ _ _ h => (by rw [h0] at h; cases h), hA, hP, hC, hI⟩
end
end Rf
/-! # Rf9: every expression that passes the look is read rightly -/
namespace Rf
open PySem PySem.Spec L2
section
variable {N : List Str} {n : Nat} {T : Tb}
theorem f4 {e : Rf.E} {P : Prop} (h : (∀ sc xs, ckL N T e sc xs = false) → (∀ sc o, ckP N T e sc o = false) → (∀ sc xs, ckC N T e sc xs = false) → (∀ sc x, ckI N T e sc x = false) → P)
    (h1 : ∀ sc xs, ckL N T e sc xs = false := by intros; rfl) (h2 : ∀ sc o, ckP N T e sc o = false := by intros; rfl) (h3 : ∀ sc xs, ckC N T e sc xs = false := by intros; rfl) (h4 : ∀ sc x, ckI N T e sc x = false := by intros; rfl) : P := h h1 h2 h3 h4
theorem sn_var (i : Nat) : Snd N n T (.var i) := f4 (snd_E (fun X sc x W G tk K h => by
  cases x with
  | Name s p =>
    simp only [ckE, Bool.and_eq_true, decide_eq_true_eq] at h
    exact ⟨e_var G h.1.1 h.1.2 h.2, .inl rfl⟩
  | _ => simp [ckE] at h) rfl (.inl fun env => by simp only [ev, evT]))
theorem sn_int (i : Int) : Snd N n T (.int i) := f4 (snd_E (fun X sc x W G tk K h => by
  cases x with
  | Constant c k p => cases c with
    | int j => simp only [ckE, decide_eq_true_eq] at h; subst h; exact ⟨e_int, .inl rfl⟩
    | _ => simp [ckE] at h
  | _ => simp [ckE] at h) rfl (.inl fun env => by simp only [ev, evT, R.bind_ok, truD]))
theorem sn_bl (i : Bool) : Snd N n T (.bl i) := f4 (snd_E (fun X sc x W G tk K h => by
  cases x with
  | Constant c k p => cases c with
    | bool j => simp only [ckE, beq_iff_eq] at h; subst h; exact ⟨e_bl, .inl rfl⟩
    | _ => simp [ckE] at h
  | _ => simp [ckE] at h) rfl (.inl fun env => by simp only [ev, evT, R.bind_ok, truD]))
theorem sn_non : Snd N n T .non := f4 (snd_E (fun X sc x W G tk K h => by
  cases x with
  | Constant c k p => cases c with
    | none => exact ⟨e_non, .inl rfl⟩
    | _ => simp [ckE] at h
  | _ => simp [ckE] at h) rfl (.inr fun env => rfl))
theorem sn_str (s : Str) : Snd N n T (.str s) := f4 (snd_E (fun X sc x W G tk K h => by
  cases x with
  | Constant c k p => cases c with
    | str j => simp only [ckE, decide_eq_true_eq] at h; subst h; exact ⟨e_str, .inl rfl⟩
    | _ => simp [ckE] at h
  | _ => simp [ckE] at h) rfl (.inr fun env => rfl))
theorem sn_glob (j : Nat) : Snd N n T (.glob j) := f4 (snd_E (fun X sc x W G tk K h => by
  cases x with
  | Name s p =>
    simp only [ckE, Bool.and_eq_true, decide_eq_true_eq] at h
    exact ⟨e_glob G K h.1.1 h.1.2 h.2, .inl rfl⟩
  | _ => simp [ckE] at h) rfl (.inr fun env => rfl))
theorem sn_bin (op : BOp) {a b : Rf.E} (ha : Snd N n T a) (hb : Snd N n T b) : Snd N n T (.bin op a b) := f4 (snd_X (fun X sc x W G tk K h => by
  cases x with
  | BinOp x o y p =>
    simp only [ckE, Bool.and_eq_true, decide_eq_true_eq] at h
    obtain ⟨⟨rfl, h1⟩, h2⟩ := h
    exact ⟨e_bin (ha.E X sc x W G tk K h1) (hb.E X sc y W G tk K h2), .inl rfl⟩
  | _ => simp [ckE] at h) (.inr fun env => rfl))
theorem sn_neg {a : Rf.E} (ha : Snd N n T a) : Snd N n T (.neg a) := f4 (snd_E (fun X sc x W G tk K h => by
  cases x with
  | UnaryOp o x p => cases o with
    | USub => simp only [ckE] at h; exact ⟨e_neg (ha.E X sc x W G tk K h), .inl rfl⟩
    | _ => simp [ckE] at h
  | _ => simp [ckE] at h) rfl (.inr fun env => rfl))
theorem sn_cmp (op : COp) {a b : Rf.E} (ha : Snd N n T a) (hb : Snd N n T b) : Snd N n T (.cmp op a b) := f4 (snd_ET (fun X sc x W G tk K h => by
  cases x with
  | Compare x os cs p =>
    rcases os with _ | ⟨o, _ | ⟨o2, r⟩⟩ <;> rcases cs with _ | ⟨y, _ | ⟨y2, r2⟩⟩ <;> first | (simp [ckE] at h; done) | skip
    simp only [ckE, Bool.and_eq_true, decide_eq_true_eq, Bool.not_eq_true'] at h
    obtain ⟨⟨⟨rfl, h1⟩, h2⟩, h3⟩ := h
    exact ⟨e_cmp G (ha.E X sc x W G tk K h1) (hb.E X sc y W G tk K h2) h3, t_cmp G (ha.E X sc x W G tk K h1) (hb.E X sc y W G tk K h2) h3⟩
  | _ => simp [ckE] at h) rfl)
theorem sn_isN (ng : Bool) {a : Rf.E} (ha : Snd N n T a) : Snd N n T (.isN a ng) := f4 (snd_ET (fun X sc x W G tk K h => by
  cases x with
  | Compare x os cs p =>
    rcases os with _ | ⟨o, _ | ⟨o2, r⟩⟩ <;> rcases cs with _ | ⟨y, _ | ⟨y2, r2⟩⟩ <;> first | (simp [ckE] at h; done) | skip
    cases y with
    | Constant c k p' => cases c with
      | none =>
        simp only [ckE, Bool.and_eq_true, decide_eq_true_eq] at h
        obtain ⟨rfl, h1⟩ := h
        exact ⟨e_isN (ha.E X sc x W G tk K h1), t_isN (ha.E X sc x W G tk K h1)⟩
      | _ => simp [ckE] at h
    | _ => simp [ckE] at h
  | _ => simp [ckE] at h) rfl)
theorem sn_chain (op op' : COp) {a b c : Rf.E} (ha : Snd N n T a) (hb : Snd N n T b) (hc : Snd N n T c) : Snd N n T (.chain op op' a b c) := f4 (snd_ET (fun X sc x W G tk K h => by
  cases x with
  | Compare x os cs p =>
    rcases os with _ | ⟨o, _ | ⟨o2, _ | ⟨o3, r⟩⟩⟩ <;> rcases cs with _ | ⟨y, _ | ⟨y2, _ | ⟨y3, r2⟩⟩⟩ <;> first | (simp [ckE] at h; done) | skip
    simp only [ckE, Bool.and_eq_true, decide_eq_true_eq, Bool.not_eq_true'] at h
    obtain ⟨⟨⟨⟨⟨rfl, rfl⟩, h1⟩, h2⟩, h3⟩, h4⟩ := h
    exact ⟨e_chain G (ha.E X sc x W G tk K h1) (hb.E X sc y W G tk K h2) (hc.E X sc y2 W G tk K h3) h4, t_chain G (ha.E X sc x W G tk K h1) (hb.E X sc y W G tk K h2) (hc.E X sc y2 W G tk K h3) h4⟩
  | _ => simp [ckE] at h) rfl)
theorem sn_and {a b : Rf.E} (ha : Snd N n T a) (hb : Snd N n T b) : Snd N n T (.and a b) := f4 (snd_ET (fun X sc x W G tk K h => by
  cases x with
  | BoolOp o xs p =>
    cases o with
    | Or => simp [ckE] at h
    | And =>
      rcases xs with _ | ⟨x, _ | ⟨y, _ | ⟨z, r⟩⟩⟩ <;> first | (simp [ckE] at h; done) | skip
      · simp only [ckE, Bool.and_eq_true] at h
        exact ⟨e_and (ha.E X sc x W G tk K h.1) (pe_one (hb.E X sc y W G tk K h.2)), t_and (ha.Tt X sc x W G tk K h.1) (pw_and1 (hb.Tt X sc y W G tk K h.2))⟩
      · simp only [ckE, Bool.and_eq_true] at h
        exact ⟨e_and (ha.E X sc x W G tk K h.1) (hb.E X sc _ W G tk K h.2), t_and (ha.Tt X sc x W G tk K h.1) (pw_of (hb.Tt X sc _ W G tk K h.2))⟩
  | _ => simp [ckE] at h) rfl)
theorem sn_or {a b : Rf.E} (ha : Snd N n T a) (hb : Snd N n T b) : Snd N n T (.or a b) := f4 (snd_ET (fun X sc x W G tk K h => by
  cases x with
  | BoolOp o xs p =>
    cases o with
    | And => simp [ckE] at h
    | Or =>
      rcases xs with _ | ⟨x, _ | ⟨y, _ | ⟨z, r⟩⟩⟩ <;> first | (simp [ckE] at h; done) | skip
      · simp only [ckE, Bool.and_eq_true] at h
        exact ⟨e_or (ha.E X sc x W G tk K h.1) (pe_one (hb.E X sc y W G tk K h.2)), t_or (ha.Tt X sc x W G tk K h.1) (pw_or1 (hb.Tt X sc y W G tk K h.2))⟩
      · simp only [ckE, Bool.and_eq_true] at h
        exact ⟨e_or (ha.E X sc x W G tk K h.1) (hb.E X sc _ W G tk K h.2), t_or (ha.Tt X sc x W G tk K h.1) (pw_of (hb.Tt X sc _ W G tk K h.2))⟩
  | _ => simp [ckE] at h) rfl)
theorem sn_not {a : Rf.E} (ha : Snd N n T a) : Snd N n T (.not a) := f4 (snd_ET (fun X sc x W G tk K h => by
  cases x with
  | UnaryOp o x p => cases o with
    | Not => simp only [ckE] at h; exact ⟨e_not (ha.E X sc x W G tk K h), t_not (ha.Tt X sc x W G tk K h)⟩
    | _ => simp [ckE] at h
  | _ => simp [ckE] at h) rfl)
theorem sn_ife {a b c : Rf.E} (hc : Snd N n T c) (ha : Snd N n T a) (hb : Snd N n T b) : Snd N n T (.ife c a b) := f4 (snd_E (fun X sc x W G tk K h => by
  cases x with
  | IfExp z x y p =>
    simp only [ckE, Bool.and_eq_true] at h
    exact ⟨e_ife (hc.Tt X sc z W G tk K h.1.1) (ha.E X sc x W G tk K h.1.2) (hb.E X sc y W G tk K h.2), .inr fun env => rfl⟩
  | _ => simp [ckE] at h) rfl (.inr fun env => rfl))
theorem sn_tup {a : Rf.E} (ha : Snd N n T a) : Snd N n T (.tup a) := f4 (snd_E (fun X sc x W G tk K h => by
  cases x with
  | Tuple xs k p => simp only [ckE] at h; exact ⟨e_tup (ha.A X sc xs W G tk K h).1, .inl rfl⟩
  | _ => simp [ckE] at h) rfl (.inr fun env => rfl))
theorem sn_lst {a : Rf.E} (ha : Snd N n T a) : Snd N n T (.lst a) := f4 (snd_X (fun X sc x W G tk K h => by
  cases x with
  | List xs p => simp only [ckE] at h; exact ⟨e_lst (ha.A X sc xs W G tk K h).1, .inl rfl⟩
  | _ => simp [ckE] at h) (.inr fun env => rfl))
theorem sn_nil : Snd N n T .nil := snd_no (by intros; rfl)
  (fun X sc x W G tk K h => by cases x with
    | nil => exact ⟨a_nil, by simp⟩
    | cons _ _ => simp [ckL] at h)
  (fun X sc x W G tk K h => by cases x with
    | none => exact p_nil
    | some _ => simp [ckP] at h)
  (fun X sc x W G tk K h => by cases x with
    | nil => exact c_nil
    | cons _ _ => simp [ckC] at h)
  (fun X sc x tg W G tk K h _ => by simp [ckI] at h)
theorem sn_cons {a b : Rf.E} (ha : Snd N n T a) (hb : Snd N n T b) : Snd N n T (.cons a b) := snd_no (by intros; rfl)
  (fun X sc x W G tk K h => by cases x with
    | nil => simp [ckL] at h
    | cons x xs =>
      simp only [ckL, Bool.and_eq_true, Bool.not_eq_true'] at h
      obtain ⟨⟨h1, h2⟩, h3⟩ := h
      obtain ⟨k1, k2⟩ := hb.A X sc xs W G tk K h3
      refine ⟨a_cons (ha.E X sc x W G tk K h1) k1 h2, fun y hy => ?_⟩
      rcases List.mem_cons.mp hy with rfl | hy
      · exact h2
      · exact k2 y hy)
  (fun X sc x W G tk K h => by
    cases b with
    | nil => cases x with
      | none => simp [ckP] at h
      | some x => simp only [ckP] at h; exact p_some (ha.E X sc x W G tk K h)
    | _ => simp [ckP] at h)
  (fun X sc x W G tk K h => by
    cases b with
    | nil =>
      rcases x with _ | ⟨x, _ | ⟨y, r⟩⟩ <;> first | (simp [ckC] at h; done) | skip
      simp only [ckC] at h
      exact c_one (ha.Tt X sc x W G tk K h)
    | _ => simp [ckC] at h)
  (fun X sc x tg W G tk K h _ => by
    cases b with
    | nil => simp only [ckI] at h; exact i_seq (ha.E X sc x W G tk K h)
    | _ => simp [ckI] at h)
theorem sn_ix {a b : Rf.E} (ha : Snd N n T a) (hb : Snd N n T b) : Snd N n T (.ix a b) := f4 (snd_E (fun X sc x W G tk K h => by
  cases x with
  | Subscript x y p =>
    simp only [ckE, Bool.and_eq_true, Bool.not_eq_true'] at h
    exact ⟨e_ix (ha.E X sc x W G tk K h.1.1) (hb.E X sc y W G tk K h.1.2) h.2, .inl rfl⟩
  | _ => simp [ckE] at h) rfl (.inl fun env => by simp only [ev, evT]))
theorem sn_sl {a b c : Rf.E} (ha : Snd N n T a) (hb : Snd N n T b) (hc : Snd N n T c) : Snd N n T (.sl a b c) := f4 (snd_X (fun X sc x W G tk K h => by
  cases x with
  | Subscript x y p => cases y with
    | Slice l u st p2 => cases st with
      | none =>
        simp only [ckE, Bool.and_eq_true] at h
        exact ⟨e_sl (ha.E X sc x W G tk K h.1.1) (hb.P X sc l W G tk K h.1.2) (hc.P X sc u W G tk K h.2), .inl rfl⟩
      | some _ => simp [ckE] at h
    | _ => simp [ckE] at h
  | _ => simp [ckE] at h) (.inr fun env => rfl))
theorem sn_call (j : Nat) {a : Rf.E} (ha : Snd N n T a) : Snd N n T (.call j a) := f4 (snd_E (fun X sc x W G tk K h => by
  cases x with
  | Call f xs ks p => cases f with
    | Name s q => cases ks with
      | nil =>
        simp only [ckE, Bool.and_eq_true, decide_eq_true_eq] at h
        obtain ⟨⟨⟨h1, h2⟩, h3⟩, h4⟩ := h
        refine ⟨?_, .inl rfl⟩
        cases xs with
        | cons y ys => exact e_call G tk K h1 h2 h3 (ha.A X sc _ W G tk K h4).1 (ha.A X sc _ W G tk K h4).2
        | nil =>
          cases a with
          | nil => exact e_call0 G tk K h1 h2 h3
          | _ => simp [ckL] at h4
      | cons _ _ => simp [ckE] at h
    | _ => simp [ckE] at h
  | _ => simp [ckE] at h) rfl (.inl fun env => by simp only [ev, evT]))
theorem sn_bi (b : Bi) {a : Rf.E} (ha : Snd N n T a) : Snd N n T (.bi b a) := f4 (snd_X (fun X sc x W G tk K h => by
  cases x with
  | Call f xs ks p => cases f with
    | Name s q => cases ks with
      | nil =>
        cases xs with
        | nil => simp [ckE] at h
        | cons y ys =>
          simp only [ckE, Bool.and_eq_true, decide_eq_true_eq] at h
          obtain ⟨⟨⟨rfl, h2⟩, h3⟩, h4⟩ := h
          exact ⟨e_bi G K h2 h3 (ha.A X sc _ W G tk K h4).1 (ha.A X sc _ W G tk K h4).2, .inl rfl⟩
      | cons _ _ => simp [ckE] at h
    | _ => simp [ckE] at h
  | _ => simp [ckE] at h) (.inl fun env => by simp only [ev, evT]))
theorem sn_isi (t : Ty) {a : Rf.E} (ha : Snd N n T a) : Snd N n T (.isi a t) := f4 (snd_of (fun X sc x W G tk K h => by
  cases x with
  | Call f xs ks p => cases f with
    | Name s q => cases ks with
      | nil =>
        rcases xs with _ | ⟨x, _ | ⟨y, _ | ⟨z, r⟩⟩⟩ <;> first | (simp [ckE] at h; done) | skip
        cases y with
        | Name c q2 =>
          simp only [ckE, Bool.and_eq_true, decide_eq_true_eq, Bool.not_eq_true'] at h
          obtain ⟨⟨⟨⟨⟨⟨⟨rfl, rfl⟩, h1⟩, h2⟩, h3⟩, h4⟩, h5⟩, h6⟩ := h
          exact e_isi G K h1 h2 h3 h4 (ha.E X sc x W G tk K h5) h6
        | _ => simp [ckE] at h
      | cons _ _ => simp [ckE] at h
    | _ => simp [ckE] at h
  | _ => simp [ckE] at h) (fun X sc x W G tk K h z => by cases z) (fun X sc x W G tk K h => by
  cases x with
  | Call f xs ks p => cases f with
    | Name s q => cases ks with
      | nil =>
        rcases xs with _ | ⟨x, _ | ⟨y, _ | ⟨z, r⟩⟩⟩ <;> first | (simp [ckE] at h; done) | skip
        cases y with
        | Name c q2 =>
          simp only [ckE, Bool.and_eq_true, decide_eq_true_eq, Bool.not_eq_true'] at h
          obtain ⟨⟨⟨⟨⟨⟨⟨rfl, rfl⟩, h1⟩, h2⟩, h3⟩, h4⟩, h5⟩, h6⟩ := h
          refine t_plain rfl (fun env => ?_) (e_isi G K h1 h2 h3 h4 (ha.E X sc x W G tk K h5) h6)
          simp only [ev, evT]
          cases ev T a env with
          | ok d => simp only [R.bind_ok]; cases isiB t d <;> rfl
          | err z => rfl
          | bad => rfl
        | _ => simp [ckE] at h
      | cons _ _ => simp [ckE] at h
    | _ => simp [ckE] at h
  | _ => simp [ckE] at h))
theorem sn_att (f : Str) {a : Rf.E} (ha : Snd N n T a) : Snd N n T (.att a f) := f4 (snd_E (fun X sc x W G tk K h => by
  cases x with
  | Attribute x s p =>
    simp only [ckE, Bool.and_eq_true, decide_eq_true_eq, Bool.not_eq_true'] at h
    obtain ⟨⟨rfl, h1⟩, h2⟩ := h
    exact ⟨e_att K (ha.E X sc x W G tk K h1) h2, .inl rfl⟩
  | _ => simp [ckE] at h) rfl (.inl fun env => by simp only [ev, evT]))
theorem sn_oix (i : Nat) {b : Rf.E} (hb : Snd N n T b) : Snd N n T (.oix i b) := f4 (snd_E (fun X sc x W G tk K h => by
  cases x with
  | Subscript x y p => cases x with
    | Name s q =>
      simp only [ckE, Bool.and_eq_true, decide_eq_true_eq, Bool.not_eq_true'] at h
      obtain ⟨⟨⟨⟨h1, h2⟩, h3⟩, h4⟩, h5⟩ := h
      exact ⟨e_oix G h1 h2 h3 (hb.E X sc y W G tk K h4) h5, .inl rfl⟩
    | _ => simp [ckE] at h
  | _ => simp [ckE] at h) rfl (.inr fun env => rfl))
theorem sn_olen (i : Nat) : Snd N n T (.olen i) := f4 (snd_E (fun X sc x W G tk K h => by
  cases x with
  | Call f xs ks p => cases f with
    | Name s q => cases ks with
      | nil =>
        rcases xs with _ | ⟨y, _ | ⟨z, r⟩⟩ <;> first | (simp [ckE] at h; done) | skip
        cases y with
        | Name c q2 =>
          simp only [ckE, Bool.and_eq_true, decide_eq_true_eq] at h
          obtain ⟨⟨⟨⟨⟨rfl, h1⟩, h2⟩, h3⟩, h4⟩, h5⟩ := h
          exact ⟨e_olen G K h1 h2 h3 h4 h5, .inl rfl⟩
        | _ => simp [ckE] at h
      | cons _ _ => simp [ckE] at h
    | _ => simp [ckE] at h
  | _ => simp [ckE] at h) rfl (.inr fun env => rfl))
theorem sn_comp (tg : Tg) (own : List Nat) {a b c : Rf.E} (ha : Snd N n T a) (hb : Snd N n T b) (hc : Snd N n T c) : Snd N n T (.comp a tg b c own) := f4 (snd_X (fun X sc x W G tk K h => by
  cases x with
  | ListComp x gs sc' p =>
    rcases gs with _ | ⟨⟨t, i, ifs, asy⟩, _ | ⟨y, r⟩⟩
    · simp [ckE] at h
    · by_cases h0 : asy = 0
      · subst h0
        simp only [ckE, Bool.and_eq_true, Bool.not_eq_true', List.all_eq_true, decide_eq_true_eq] at h
        obtain ⟨⟨⟨⟨⟨⟨⟨h1, h2⟩, h3⟩, h4⟩, h5⟩, h6⟩, h7⟩, h8⟩ := h
        exact ⟨e_comp G h1 h6 h8 (hb.I X sc i t W G tk K h2 h7) (fun s H C cl fp => g_of (good_blk G s H C cl fp) h3) (fun s H C cl fp => hc.C _ sc' ifs noW (good_blk G s H C cl fp) (takes_blk _ _ _ _ _) K h4)
          (fun s H C cl fp => ha.E _ sc' x noW (good_blk G s H C cl fp) (takes_blk _ _ _ _ _) K h5), .inl rfl⟩
      · unfold ckE at h
        split at h <;> first | cases h | skip
        all_goals (rename_i hx; first | (cases hx; exact absurd rfl h0) | (cases hx) | skip)
    · simp [ckE] at h
  | _ => simp [ckE] at h) (.inr fun env => rfl))
end
end Rf
/-! # Rf10: walks; all expressions -/
namespace Rf
open PySem PySem.Spec L2
section
variable {N : List Str} {n : Nat} {T : Tb}
theorem sn_meth (j : Nat) (a b : Rf.E) : Snd N n T (.meth j a b) := f4 (snd_E (fun X sc x W G tk K h => by cases x <;> simp [ckE] at h) rfl (.inl fun env => by simp only [ev, evT]))
theorem walk_no {e : Rf.E} (h0 : ∀ sc x, ckE N T e sc x = false) (h1 : ∀ sc x, ckL N T e sc x = false) (h2 : ∀ sc x, ckP N T e sc x = false) (h3 : ∀ sc x, ckC N T e sc x = false)
    (hI : ∀ (X : Cx) (sc : Scope) (x tg : Expr) (W : WE), Good N sc n X → Takes X W → Know (gOf X) n T → ckI N T e sc x = true → tgOkB e tg = true → PI X tg x (tDI (gOf X) T W e)) : Snd N n T e :=
  snd_no h0 (fun _ sc x _ _ _ _ h => (by rw [h1] at h; cases h)) (fun _ sc x _ _ _ _ h => (by rw [h2] at h; cases h)) (fun _ sc x _ _ _ _ h => (by rw [h3] at h; cases h)) hI
theorem sn_rng1 {a : Rf.E} (ha : Snd N n T a) : Snd N n T (.rng1 a) := walk_no (by intros; rfl) (by intros; rfl) (by intros; rfl) (by intros; rfl) (fun X sc x tg W G tk K h _ => by
  cases x with
  | Call f xs ks p => cases f with
    | Name s q =>
        rcases ks with _ | ⟨k1, k2⟩ <;> rcases xs with _ | ⟨y, _ | ⟨z, r⟩⟩ <;> first | (cases (show false = true from h); done) | skip
        simp only [ckI, Bool.and_eq_true, decide_eq_true_eq, Bool.not_eq_true'] at h
        obtain ⟨⟨⟨⟨rfl, h1⟩, h2⟩, h3⟩, h4⟩ := h
        exact i_rng1 G K h1 h2 (ha.E X sc y W G tk K h3) h4
    | _ => exact absurd h (by simp [ckI])
  | _ => exact absurd h (by simp [ckI]))
theorem sn_rng2 {a b : Rf.E} (ha : Snd N n T a) (hb : Snd N n T b) : Snd N n T (.rng2 a b) := walk_no (by intros; rfl) (by intros; rfl) (by intros; rfl) (by intros; rfl) (fun X sc x tg W G tk K h _ => by
  cases x with
  | Call f xs ks p => cases f with
    | Name s q =>
        rcases ks with _ | ⟨k1, k2⟩ <;> rcases xs with _ | ⟨y, _ | ⟨z, _ | ⟨w, r⟩⟩⟩ <;> first | (cases (show false = true from h); done) | skip
        simp only [ckI, Bool.and_eq_true, decide_eq_true_eq, Bool.not_eq_true'] at h
        obtain ⟨⟨⟨⟨⟨⟨rfl, h1⟩, h2⟩, h3⟩, h4⟩, h5⟩, h6⟩ := h
        exact i_rng2 G K h1 h2 (ha.E X sc y W G tk K h3) h4 (hb.E X sc z W G tk K h5) h6
    | _ => exact absurd h (by simp [ckI])
  | _ => exact absurd h (by simp [ckI]))
theorem sn_enum {a : Rf.E} (ha : Snd N n T a) : Snd N n T (.enum a) := walk_no (by intros; rfl) (by intros; rfl) (by intros; rfl) (by intros; rfl) (fun X sc x tg W G tk K h ht => by
  cases tg with
  | Tuple es kk pt =>
    cases x with
    | Call f xs ks p => cases f with
      | Name s q =>
          rcases ks with _ | ⟨k1, k2⟩ <;> rcases xs with _ | ⟨y, _ | ⟨z, r⟩⟩ <;> first | (cases (show false = true from h); done) | skip
          simp only [ckI, Bool.and_eq_true, decide_eq_true_eq, Bool.not_eq_true'] at h
          obtain ⟨⟨⟨⟨rfl, h1⟩, h2⟩, h3⟩, h4⟩ := h
          exact i_enum G K h1 h2 (ha.E X sc y W G tk K h3) h4
        | _ => exact absurd h (by simp [ckI])
    | _ => exact absurd h (by simp [ckI])
  | _ => cases ht)
theorem sn_zip {a b : Rf.E} (ha : Snd N n T a) (hb : Snd N n T b) : Snd N n T (.zip a b) := walk_no (by intros; rfl) (by intros; rfl) (by intros; rfl) (by intros; rfl) (fun X sc x tg W G tk K h ht => by
  cases tg with
  | Tuple es kk pt =>
    cases x with
    | Call f xs ks p => cases f with
      | Name s q =>
          rcases ks with _ | ⟨k1, k2⟩ <;> rcases xs with _ | ⟨y, _ | ⟨z, _ | ⟨w, r⟩⟩⟩ <;> first | (cases (show false = true from h); done) | skip
          simp only [ckI, Bool.and_eq_true, decide_eq_true_eq, Bool.not_eq_true'] at h
          obtain ⟨⟨⟨⟨⟨⟨rfl, h1⟩, h2⟩, h3⟩, h4⟩, h5⟩, h6⟩ := h
          exact i_zip G K h1 h2 (ha.E X sc y W G tk K h3) h4 (hb.E X sc z W G tk K h5) h6
        | _ => exact absurd h (by simp [ckI])
    | _ => exact absurd h (by simp [ckI])
  | _ => cases ht)
theorem snd : ∀ e : Rf.E, Snd N n T e
  | .var i => sn_var i
  | .int i => sn_int i
  | .bl b => sn_bl b
  | .non => sn_non
  | .str s => sn_str s
  | .glob j => sn_glob j
  | .bin op a b => sn_bin op (snd a) (snd b)
  | .neg a => sn_neg (snd a)
  | .cmp op a b => sn_cmp op (snd a) (snd b)
  | .isN a ng => sn_isN ng (snd a)
  | .chain op op' a b c => sn_chain op op' (snd a) (snd b) (snd c)
  | .and a b => sn_and (snd a) (snd b)
  | .or a b => sn_or (snd a) (snd b)
  | .not a => sn_not (snd a)
  | .ife c a b => sn_ife (snd c) (snd a) (snd b)
  | .tup es => sn_tup (snd es)
  | .lst es => sn_lst (snd es)
  | .nil => sn_nil
  | .cons a es => sn_cons (snd a) (snd es)
  | .ix a b => sn_ix (snd a) (snd b)
  | .sl a lo hi => sn_sl (snd a) (snd lo) (snd hi)
  | .call j es => sn_call j (snd es)
  | .bi b es => sn_bi b (snd es)
  | .isi a t => sn_isi t (snd a)
  | .att a f => sn_att f (snd a)
  | .meth j a es => sn_meth j a es
  | .comp elt tg it cond own => sn_comp tg own (snd elt) (snd it) (snd cond)
  | .oix i b => sn_oix i (snd b)
  | .olen i => sn_olen i
  | .rng1 a => sn_rng1 (snd a)
  | .rng2 a b => sn_rng2 (snd a) (snd b)
  | .enum a => sn_enum (snd a)
  | .zip a b => sn_zip (snd a) (snd b)
end
end Rf
/-! # Rf11: statements: the small syntax, its reading -/
namespace Rf
open PySem PySem.Spec L2

inductive S where
  | nil | cons (s r : S)
  | pass | brk | ct | retN
  | ret (e : E)
  | asg (t : Tg) (e : E)
  | asgO (i : Nat) (e : E)
  | par2 (i j : Nat) (a b : E)
  | asgIx (i : Nat) (a e : E)
  | app (i : Nat) (e : E)
  | pop (i : Nat)
  | expr (e : E)
  | ife (c : E) (a b : S)
  | for_ (t : Tg) (it : E) (body : S)
  | while_ (c : E) (body : S)
  | frz (is : List Nat) (s : S)
inductive Out where
  | nx (env : Env) | rt (d : D) | bk (env : Env) | ct (env : Env) | err (x : Exn) (env : Env) | bad
def Out.of {α : Type} (env : Env) (k : α → Out) : R α → Out
  | .ok a => k a
  | .err x => .err x env
  | .bad => .bad
@[simp] theorem Out.of_ok {α : Type} (env : Env) (k : α → Out) (a : α) : Out.of env k (.ok a) = k a := rfl
@[simp] theorem Out.of_err {α : Type} (env : Env) (k : α → Out) (x : Exn) : Out.of env k (.err x) = .err x env := rfl
@[simp] theorem Out.of_bad {α : Type} (env : Env) (k : α → Out) : Out.of env k .bad = .bad := rfl
def Out.andThen (o : Out) (k : Env → Out) : Out := match o with
  | .nx env => k env
  | o => o
def forL (f : D → Env → Out) : List D → Env → Out
  | [], env => .nx env
  | d :: ds, env => match f d env with
    | .nx e => forL f ds e
    | .ct e => forL f ds e
    | .bk e => .nx e
    | o => o
def whN (c : Env → R Bool) (b : Env → Out) : Nat → Env → Option Out
  | 0, _ => none
  | n + 1, env => match c env with
    | .ok false => some (.nx env)
    | .ok true => match b env with
      | .nx e => whN c b n e
      | .ct e => whN c b n e
      | .bk e => some (.nx e)
      | o => some o
    | .err x => some (.err x env)
    | .bad => some .bad
open Classical in
noncomputable def whileS (c : Env → R Bool) (b : Env → Out) (env : Env) : Out := if h : ∃ o n, whN c b n env = some o then h.choose else .bad
def setD (xs : List D) (d e : D) : R (List D) := match d with
  | .int k => match ixN xs.length k with
    | some j => .ok (xs.set j e)
    | none => .bad
  | _ => .bad
def frzE (env : Env) : List Nat → Env
  | [] => env
  | i :: is => match env[i]? with
    | some (some (.o xs)) => frzE (env.set i (some (.v (.lst xs)))) is
    | _ => frzE env is
def lstO {α : Type} (k : List D → R α) : D → R α
  | .lst xs => k xs
  | _ => .bad
noncomputable def ex (T : Tb) : S → Env → Out
  | .nil, env => .nx env
  | .cons s r, env => (ex T s env).andThen (ex T r)
  | .pass, env => .nx env
  | .brk, env => .bk env
  | .ct, env => .ct env
  | .retN, _ => .rt .non
  | .ret e, env => Out.of env .rt (ev T e env)
  | .asg t e, env => Out.of env (fun d => match setT t d env with | some env' => .nx env' | none => .bad) (ev T e env)
  | .asgO i e, env => Out.of env (fun d => match d with | .lst xs => .nx (env.set i (some (.o xs))) | _ => .bad) (ev T e env)
  | .par2 i j a b, env => Out.of env (fun x => Out.of env (fun y => .nx ((env.set i (some (.v x))).set j (some (.v y)))) (ev T b env)) (ev T a env)
  | .asgIx i a e, env => Out.of env (fun x => Out.of env (fun xs => Out.of env (fun k => Out.of env (fun ys => .nx (env.set i (some (.o ys)))) (setD xs k x)) (ev T a env)) (getO env i)) (ev T e env)
  | .app i e, env => Out.of env (fun xs => Out.of env (fun x => if xs.length < 16777216 then .nx (env.set i (some (.o (xs ++ [x])))) else .bad) (ev T e env)) (getO env i)
  | .pop i, env => Out.of env (fun xs => if xs ≠ [] then .nx (env.set i (some (.o xs.dropLast))) else .bad) (getO env i)
  | .expr e, env => Out.of env (fun _ => .nx env) (ev T e env)
  | .ife c a b, env => Out.of env (fun k => if k = true then ex T a env else ex T b env) (evT T c env)
  | .for_ t it body, env => Out.of env (fun ds => forL (fun d e => match setT t d e with | some e' => ex T body e' | none => .bad) ds env) (evI T it env)
  | .while_ c body, env => whileS (evT T c) (ex T body) env
  | .frz is s, env => ex T s (frzE env is)

theorem whN_mono {c : Env → R Bool} {b : Env → Out} : ∀ {n m : Nat} {env : Env} {o : Out}, whN c b n env = some o → n ≤ m → whN c b m env = some o
  | 0, _, _, _, h, _ => by cases h
  | n + 1, 0, _, _, _, h => by omega
  | n + 1, m + 1, env, o, h, hl => by
    unfold whN at h ⊢
    split at h
    · exact h
    · split at h
      · exact whN_mono h (by omega)
      · exact whN_mono h (by omega)
      · exact h
      · exact h
    · exact h
    · exact h
theorem whileS_of {c : Env → R Bool} {b : Env → Out} {n : Nat} {env : Env} {o : Out} (h : whN c b n env = some o) : whileS c b env = o := by
  unfold whileS
  have hx : ∃ o n, whN c b n env = some o := ⟨o, n, h⟩
  rw [dif_pos hx]
  obtain ⟨m, hm⟩ := hx.choose_spec
  have h1 := whN_mono h (Nat.le_max_left n m)
  have h2 := whN_mono hm (Nat.le_max_right n m)
  rw [h1] at h2
  exact (Option.some.inj h2).symm
theorem whileS_ex {c : Env → R Bool} {b : Env → Out} {env : Env} (h : whileS c b env ≠ .bad) : ∃ n, whN c b n env = some (whileS c b env) := by
  by_cases hx : ∃ o n, whN c b n env = some o
  · obtain ⟨o, n, e⟩ := hx
    exact ⟨n, by rw [whileS_of e]; exact e⟩
  · unfold whileS at h
    rw [dif_neg hx] at h
    exact absurd rfl h
/-- one turn -/
theorem whileS_eq (c : Env → R Bool) (b : Env → Out) (env : Env) : whileS c b env = match c env with
    | .ok false => .nx env
    | .ok true => match b env with
      | .nx e => whileS c b e
      | .ct e => whileS c b e
      | .bk e => .nx e
      | o => o
    | .err x => .err x env
    | .bad => .bad := by
  cases hc : c env with
  | ok k =>
    cases k with
    | false => exact whileS_of (n := 1) (by simp [whN, hc])
    | true =>
      have go : ∀ e, (b env = .nx e ∨ b env = .ct e) → whileS c b env = whileS c b e := fun e he => by
        by_cases hb : ∃ o n, whN c b n e = some o
        · obtain ⟨o, n, h⟩ := hb
          rw [whileS_of h]
          refine whileS_of (n := n + 1) ?_
          rcases he with he | he <;> simp [whN, hc, he, h]
        · have hn : ¬ ∃ o n, whN c b n env = some o := fun ⟨o, n, h⟩ => by
            cases n with
            | zero => cases h
            | succ n =>
              refine hb ⟨o, n, ?_⟩
              rcases he with he | he <;> simpa [whN, hc, he] using h
          unfold whileS
          rw [dif_neg hb, dif_neg hn]
      cases hb : b env with
      | nx e => exact go e (.inl hb)
      | ct e => exact go e (.inr hb)
      | bk e => exact whileS_of (n := 1) (by simp [whN, hc, hb])
      | rt d => exact whileS_of (n := 1) (by simp [whN, hc, hb])
      | err x e => exact whileS_of (n := 1) (by simp [whN, hc, hb])
      | bad => exact whileS_of (n := 1) (by simp [whN, hc, hb])
  | err x => exact whileS_of (n := 1) (by simp [whN, hc])
  | bad => exact whileS_of (n := 1) (by simp [whN, hc])

/-! ### what is wanted behind a statement -/
def SO (g : G) (W : WE) (D : Ends) (H0 Hf0 : Hp) (Hf : Hp) : Out → Prop
  | .nx env => ∀ σ' H' Hf', SR g H0 Hf0 σ' H' Hf' env → Same Hf Hf' → D.nx σ' H'
  | .rt d => ∀ v H' Hf', Fut H0 Hf0 H' Hf' → Rep g Hf' v d → D.rt v H'
  | .bk env => ∀ σ' H' Hf', SR g H0 Hf0 σ' H' Hf' env → Same Hf Hf' → D.bk σ' H'
  | .ct env => ∀ σ' H' Hf', SR g H0 Hf0 σ' H' Hf' env → Same Hf Hf' → D.ct σ' H'
  | .err x env => ∀ σ' H' Hf' cls dx, SR g H0 Hf0 σ' H' Hf' env → Same Hf Hf' → XRep g H' Hf' cls dx x → W cls dx σ' H'
  | .bad => False
theorem SO.later {g : G} {W : WE} {D : Ends} {H0 Hf0 Hf Hf1 : Hp} {o : Out} (h : SO g W D H0 Hf0 Hf o) (s : Same Hf Hf1) : SO g W D H0 Hf0 Hf1 o := by
  cases o with
  | nx env => exact fun σ' H' Hf' r q => h σ' H' Hf' r (s.trans q)
  | rt d => exact h
  | bk env => exact fun σ' H' Hf' r q => h σ' H' Hf' r (s.trans q)
  | ct env => exact fun σ' H' Hf' r q => h σ' H' Hf' r (s.trans q)
  | err x env => exact fun σ' H' Hf' c d r q => h σ' H' Hf' c d r (s.trans q)
  | bad => exact h
def tDS (g : G) (T : Tb) (W : WE) (s : S) : TS := fun D σ H => ∃ H0 Hf0 Hf env, SR g H0 Hf0 σ H Hf env ∧ SO g W D H0 Hf0 Hf (ex T s env)
structure GoodS (N : List Str) (sc : Scope) (n : Nat) (X : Cx) : Prop extends Good N sc n X where
  eS : X.env.scope = sc
  kind : sc.kind = .function
  po : PassesOwn (model X.prog X.w) X.A X.env X.xe
/-- a value is reckoned first -/
theorem so_of {g : G} {W : WE} {D : Ends} {H0 Hf0 H Hf : Hp} {env : Env} {σ : St} {α : Type} {k : α → Out} {r : R α} (sr : SR g H0 Hf0 σ H Hf env) (h : SO g W D H0 Hf0 Hf (Out.of env k r)) :
    RG g W σ (fun a H1 Hf1 => SO g W D H0 Hf0 Hf1 (k a) ∧ Fut H Hf H1 Hf1) r H Hf := by
  cases r with
  | ok a => exact ⟨h, Fut.refl sr.sub⟩
  | err x => exact fun cls dx H' Hf' f xr => h σ H' Hf' cls dx (sr.mono f) f.f xr
  | bad => exact h
section
variable {g : G} {T : Tb} {W : WE} {H0 Hf0 H Hf : Hp} {env : Env} {σ : St} {D : Ends}
theorem sD_step {a : E} {k : Rf.D → Out} {Q' : VK} (sr : SR g H0 Hf0 σ H Hf env) (h : SO g W D H0 Hf0 Hf (Out.of env k (ev T a env)))
    (nx : ∀ d v H1 Hf1, ev T a env = .ok d → Fut H Hf H1 Hf1 → Rep g Hf1 v d → SR g H0 Hf0 σ H1 Hf1 env → SO g W D H0 Hf0 Hf1 (k d) → Q' v H1) : tD g T W a σ H Q' :=
  ⟨H0, Hf0, Hf, env, sr, (so_of sr h).imp fun d e q v H1 Hf1 f r => nx d v H1 Hf1 e f r (sr.mono f) (q.1.later f.f)⟩
theorem sDX_step {a : E} {k : Rf.D → Out} {Q' : VK} (sr : SR g H0 Hf0 σ H Hf env) (h : SO g W D H0 Hf0 Hf (Out.of env (fun d => match d with | .lst xs => k (.lst xs) | _ => .bad) (ev T a env)))
    (nx : ∀ ds p vs H1 Hf1, Fut H Hf H1 Hf1 → H p = none → H1 p = some (.lst vs) → Hf1 p = none → Reps g Hf1 vs ds → SR g H0 Hf0 σ H1 Hf1 env → SO g W D H0 Hf0 Hf1 (k (.lst ds)) → Q' (.ref p) H1) : tDF g T W a σ H Q' :=
  ⟨H0, Hf0, Hf, env, sr, (so_of sr h).imp fun d e q => by
    cases d with
    | lst ds => exact fun p vs H1 Hf1 f hn h1 h2 r => nx ds p vs H1 Hf1 f hn h1 h2 r (sr.mono f) (q.1.later f.f)
    | _ => exact q.1.elim⟩
theorem sDT_step {a : E} {k : Bool → Out} {Q' : Bool → Hp → Prop} (sr : SR g H0 Hf0 σ H Hf env) (h : SO g W D H0 Hf0 Hf (Out.of env k (evT T a env)))
    (nx : ∀ d H1 Hf1, Fut H Hf H1 Hf1 → SR g H0 Hf0 σ H1 Hf1 env → SO g W D H0 Hf0 Hf1 (k d) → Q' d H1) : tDT g T W a σ H Q' :=
  ⟨H0, Hf0, Hf, env, sr, (so_of sr h).imp fun d e q H1 Hf1 f => nx d H1 Hf1 f (sr.mono f) (q.1.later f.f)⟩
theorem sDI_step {a : E} {k : List Rf.D → Out} {Q' : It → Hp → Prop} (sr : SR g H0 Hf0 σ H Hf env) (h : SO g W D H0 Hf0 Hf (Out.of env k (evI T a env)))
    (nx : ∀ ds J H1 Hf1, Fut H Hf H1 Hf1 → Yld g J Hf1 ds → SR g H0 Hf0 σ H1 Hf1 env → SO g W D H0 Hf0 Hf1 (k ds) → Q' J H1) : tDI g T W a σ H Q' :=
  ⟨H0, Hf0, Hf, env, sr, (so_of sr h).imp fun d e q J H1 Hf1 f y => nx d J H1 Hf1 f y (sr.mono f) (q.1.later f.f)⟩
end
end Rf
/-! # Rf12: statements: the look, and that the machine does what the reading says -/
namespace Rf
open PySem PySem.Spec L2
theorem _root_.L2.PS.imp {X : Cx} {e : Stmt} {t t' : TS} (h : PS X e t) (k : ∀ D σ H, t' D σ H → t D σ H) : PS X e t' := ⟨fun pins s σ H D I q => h.run pins s σ H D I (k D σ H q)⟩
theorem _root_.L2.PSs.imp {X : Cx} {e : List Stmt} {t t' : TS} (h : PSs X e t) (k : ∀ D σ H, t' D σ H → t D σ H) : PSs X e t' := ⟨fun pins s σ H D I q => h.run pins s σ H D I (k D σ H q)⟩
def isComp : Expr → Bool
  | .ListComp _ _ _ _ => true | .SetComp _ _ _ _ => true | .DictComp _ _ _ _ _ => true | _ => false
def isTup : Expr → Bool
  | .Tuple _ _ _ => true | _ => false
def lclB (sc : Scope) (x : Str) : Bool := match sc.names.lookup x with
  | some .local => true | _ => false
/-- the comprehension is stored from within its block -/
def swB (sc sc' : Scope) (y : Str) (py p : Pos) : Bool := lclB sc y && (py.line == p.line) && !(sc'.names.any fun (n, k) => n == y && (k == .local || k == .cell))
def allLoc (sc : Scope) : List Expr → Bool
  | [] => true
  | .Name x _ :: r => lclB sc x && allLoc sc r
  | _ :: _ => false
def parB (es vs : List Expr) : Option (Str × Pos × Str × Pos × Expr × Expr) := match es, vs with
  | [.Name x px, .Name y py], [u, v] => some (x, px, y, py, u, v)
  | _, _ => none
theorem parB_of {es vs : List Expr} {x y : Str} {px py : Pos} {u v : Expr} (h : parB es vs = some (x, px, y, py, u, v)) : es = [.Name x px, .Name y py] ∧ vs = [u, v] := by
  unfold parB at h
  split at h
  · cases h; exact ⟨rfl, rfl⟩
  · cases h
/-- name = [..]: stored from within the block, or not at all so -/
def cmpOkB (e : E) (sc : Scope) (y : Str) (py : Pos) : Expr → Bool
  | .ListComp _ _ sc' p => (match e with | .comp _ _ _ _ _ => true | _ => false) && (swB sc sc' y py p || !swB sc sc' y py p)
  | _ => false
def cmpTB (t : Tg) (e : E) (sc : Scope) (y x : Expr) : Bool := match t, y with
  | .name _, .Name w py => cmpOkB e sc w py x
  | _, _ => false
mutual
def ckS (N : List Str) (T : Tb) : S → Scope → Stmt → Bool
  | .pass, _, .Pass _ => true
  | .brk, _, .Break _ => true
  | .ct, _, .Continue _ => true
  | .retN, _, .Return none _ => true
  | .ret e, sc, .Return (some x) _ => ckE N T e sc x
  | .asg t e, sc, .Assign [y] x _ => ckE N T e sc x && ckTg N sc t y && (!isComp x || cmpTB t e sc y x) && !(isTup x && isTup y)
  | .asgO i e, sc, .Assign [.Name y py] x _ => decide (N[i]? = some y) && locB sc y && ckE N T e sc x && freshB e && (!isComp x || cmpOkB e sc y py x)
  | .par2 i j a b, sc, .Assign [.Tuple es _ _] (.Tuple vs _ _) _ => match parB es vs with
    | some (x, px, y, py, u, v) => decide (N[i]? = some x) && decide (N[j]? = some y) && decide (i ≠ j) && lclB sc x && lclB sc y && ckE N T a sc u && ckE N T b sc v && !staB u && !staB v && decide (px.line = py.line) && !(foldedForSure 8 u && foldedForSure 8 v) && !(constantsAlone 8 u && constantsAlone 8 v)
    | none => false
  | .asgIx i a e, sc, .Assign [.Subscript (.Name y _) z _] x _ => decide (N[i]? = some y) && visB sc y && nmB y && ckE N T a sc z && ckE N T e sc x && !isComp x && !slB z
  | .app i e, sc, .Expr (.Call (.Attribute (.Name y _) m pa) [x] [] pc) _ => (pa.endLine == pc.line) && decide (m = "append") && decide (N[i]? = some y) && visB sc y && nmB y && ckE N T e sc x && !staB x
  | .pop i, sc, .Expr (.Call (.Attribute (.Name y _) m pa) [] [] pc) _ => (pa.endLine == pc.line) && decide (m = "pop") && decide (N[i]? = some y) && visB sc y && nmB y
  | .expr e, sc, .Expr x _ => ckE N T e sc x && !isComp x
  | .ife c a b, sc, .If z xs ys _ => ckE N T c sc z && ckSs N T a sc xs && ckSs N T b sc ys
  | .for_ t it body, sc, .For y x xs [] _ => ckI N T it sc x && ckTg N sc t y && tgOkB it y && !setB x && ckSs N T body sc xs
  | .while_ c body, sc, .While z xs [] _ => ckE N T c sc z && ckSs N T body sc xs
  | .frz _ s, sc, st => ckS N T s sc st
  | _, _, _ => false
def ckSs (N : List Str) (T : Tb) : S → Scope → List Stmt → Bool
  | .nil, _, [] => true
  | .cons s r, sc, x :: xs => ckS N T s sc x && ckSs N T r sc xs
  | _, _, _ => false
end
section
variable {X : Cx} {N : List Str} {sc : Scope} {n : Nat} {T : Tb} {W : WE} {a b c e it : E} {x y z : Expr} {p q : Pos} {k : Nat} {s r : S} {st : Stmt} {xs ys : List Stmt}
theorem s_nil : PSs X [] (tDS (gOf X) T W .nil) := pss_nil.imp fun D σ H ⟨H0, Hf0, Hf, env, sr, h⟩ => h σ H Hf sr (.refl _)
theorem s_cons (h1 : PS X st (tDS (gOf X) T W s)) (h2 : PSs X xs (tDS (gOf X) T W r)) : PSs X (st :: xs) (tDS (gOf X) T W (.cons s r)) := (pss_cons h1 h2).imp fun D σ H ⟨H0, Hf0, Hf, env, sr, h⟩ => by
  refine ⟨H0, Hf0, Hf, env, sr, ?_⟩
  simp only [ex] at h
  cases ho : ex T s env with
  | nx env' =>
    rw [ho] at h
    exact fun σ' H' Hf' r' s' => ⟨H0, Hf0, Hf', env', r', SO.later h s'⟩
  | rt d => rw [ho] at h; exact h
  | bk e => rw [ho] at h; exact h
  | ct e => rw [ho] at h; exact h
  | err x e => rw [ho] at h; exact h
  | bad => rw [ho] at h; exact h.elim
theorem s_pass : PS X (.Pass p) (tDS (gOf X) T W .pass) := ps_pass.imp fun D σ H ⟨H0, Hf0, Hf, env, sr, h⟩ => h σ H Hf sr (.refl _)
theorem s_brk : PS X (.Break p) (tDS (gOf X) T W .brk) := ps_break.imp fun D σ H ⟨H0, Hf0, Hf, env, sr, h⟩ => h σ H Hf sr (.refl _)
theorem s_ct : PS X (.Continue p) (tDS (gOf X) T W .ct) := ps_continue.imp fun D σ H ⟨H0, Hf0, Hf, env, sr, h⟩ => h σ H Hf sr (.refl _)
theorem s_retN : PS X (.Return none p) (tDS (gOf X) T W .retN) := ps_retN.imp fun D σ H ⟨H0, Hf0, Hf, env, sr, h⟩ => h .non H Hf sr.fut .non
theorem s_ret (he : PE X x (tD (gOf X) T W e)) : PS X (.Return (some x) p) (tDS (gOf X) T W (.ret e)) := (ps_ret he).imp fun D σ H ⟨H0, Hf0, Hf, env, sr, h⟩ => by
  simp only [ex] at h
  exact sD_step sr h fun d v H1 Hf1 _ f r sr1 q => q v H1 Hf1 sr1.fut r
theorem sw_no {t : Option Expr} {l : Nat} {en : PySem.Env} (h : isComp x = false) : swapsWith x t l en = pure false := by
  cases x <;> first | rfl | cases h
theorem ss_no {env : PySem.Env} (h : (isTup x && isTup y) = false) (hy : ∀ es p, y ≠ .List es p) : swappedStores [y] x env = pure none := by
  cases x <;> cases y <;> first | rfl | (cases h; done) | exact absurd rfl (hy _ _)
/-- a value stored by a target -/
theorem asg_go {t : Tg} {D : Ends} {σ : St} {H : Hp} (h : tDS (gOf X) T W (.asg t e) D σ H) : tAsg (tD (gOf X) T W e) (tG (gOf X) t) D σ H := by
  obtain ⟨H0, Hf0, Hf, env, sr, h⟩ := h
  simp only [ex] at h
  refine sD_step sr h fun d v H1 Hf1 _ f r sr1 q => ?_
  cases hs : setT t d env with
  | none => rw [hs] at q; exact q.elim
  | some env' =>
    rw [hs] at q
    exact ⟨H0, Hf0, Hf1, env, d, sr1, r, env', hs, fun σ' sr' _ _ => q σ' H1 Hf1 sr' (.refl _)⟩
theorem s_asg {t : Tg} (G : Good N sc n X) (he : PE X x (tD (gOf X) T W e)) (hg : PG X y (tG (gOf X) t)) (h1 : isComp x = false) (h2 : (isTup x && isTup y) = false) (h3 : ckTg N sc t y = true) : PS X (.Assign [y] x p) (tDS (gOf X) T W (.asg t e)) := by
  have hl : ∀ es p, y ≠ .List es p := fun es p z => by subst z; cases t <;> simp [ckTg] at h3
  refine (ps_asg he hg (by show swapsWith _ _ _ _ = _; exact sw_no h1) (ss_no h2 hl) ?_).imp fun D σ H h => asg_go h
  cases y with
  | Starred _ _ => cases t <;> simp [ckTg] at h3
  | _ => rfl
theorem s_asgO {i : Nat} {w : Str} (G : Good N sc n X) (he : PE X x (tDF (gOf X) T W e)) (hi : N[i]? = some w) (hl : locB sc w = true) (h1 : isComp x = false) : PS X (.Assign [.Name w q] x p) (tDS (gOf X) T W (.asgO i e)) := by
  obtain ⟨l1, l2⟩ := G.loc w hl
  refine (ps_set (i := i) (by rw [G.eN]; exact G.nd) (by rw [G.eN]; exact hi) l1 he (sw_no h1) l2).imp fun D σ H ⟨H0, Hf0, Hf, env, sr, h⟩ => ?_
  simp only [ex] at h
  refine sDX_step (k := fun d => match d with | .lst xs => .nx (env.set i (some (.o xs))) | _ => .bad) sr (by
    cases hv : ev T e env with
    | ok d => rw [hv] at h; cases d <;> exact h
    | err z => rw [hv] at h; exact h
    | bad => rw [hv] at h; exact h) fun ds pp vs H1 Hf1 f hn h1' hf r sr1 q => ?_
  have h0 : H0 pp = none := sr.fut.s.free hn
  refine q _ H1 Hf1 (sr1.seto h1' hf h0 r fun j zs hj he' hσ => ?_) (.refl _)
  obtain ⟨v, hv, sl⟩ := sr.slot j _ he'
  cases sl with
  | o z1 z2 z3 z4 =>
    rw [hv] at hσ
    cases hσ
    rw [hn] at z1; cases z1
theorem s_par2 {i j : Nat} {u v : Str} {x y : Expr} {px py pt : Pos} {kt k2 : Nat} {pt2 : Pos} (G : GoodS N sc n X) (hi : N[i]? = some u) (hj : N[j]? = some v) (hij : i ≠ j) (h1 : lclB sc u = true) (h2 : lclB sc v = true) (ha : PE X x (tD (gOf X) T W a)) (hb : PE X y (tD (gOf X) T W b))
    (s1 : staB x = false) (s2 : staB y = false) (hl : px.line = py.line) (h3 : (foldedForSure 8 x && foldedForSure 8 y) = false) (h4 : (constantsAlone 8 x && constantsAlone 8 y) = false) :
    PS X (.Assign [.Tuple [.Name u px, .Name v py] kt pt] (.Tuple [x, y] k2 pt2) p) (tDS (gOf X) T W (.par2 i j a b)) := by
  have lu : X.env.scope.names.lookup u = some .local := by
    rw [G.eS]; unfold lclB at h1; split at h1
    · assumption
    · cases h1
  have lv : X.env.scope.names.lookup v = some .local := by
    rw [G.eS]; unfold lclB at h2; split at h2
    · assumption
    · cases h2
  have huv : u ≠ v := fun z => hij (by
    subst z
    exact nodup_ix G.nd hi hj)
  have hw : swappedStores [.Tuple [.Name u px, .Name v py] kt pt] (.Tuple [x, y] k2 pt2) X.env = pure (some [u, v]) := by
    have ku : X.env.kindOf u = some .local := lu
    have kv : X.env.kindOf v = some .local := lv
    have hb' : X.env.blockKind = .function := by unfold PySem.Env.blockKind; rw [G.eS, G.kind]; rfl
    have any : ([x, y].any fun | .Starred .. => true | _ => false) = false := by
      cases x <;> cases y <;> first | rfl | (cases s1; done) | (cases s2; done)
    have uv : (u == v) = false := by simpa using huv
    have vu : (v == u) = false := by simpa using (Ne.symm huv)
    unfold swappedStores
    have e1 : (List.all [x, y] (foldedForSure 8)) = false := by simpa [List.all] using h3
    have e2 : (List.all [x, y] (constantsAlone 8)) = false := by simpa [List.all] using h4
    simp only [any, e1, e2, List.filterMap, ku, kv, hl, hb', Expr.pos, List.length, List.head?, Option.map, Option.getD, List.eraseDups_cons]
    have ed : [u, v].eraseDups = [u, v] := by simp [List.eraseDups_cons, vu]
    simp [ed]
    intro h
    exfalso
    rcases h with h | h
    · cases x <;> first | (cases h; done) | (cases s1; done)
    · cases y <;> first | (cases h; done) | (cases s2; done)
  refine (ps_par G.calm (by rw [G.eN]; exact G.nd) (by rw [G.eN]; exact hi) (by rw [G.eN]; exact hj) hij lu lv (pa_cons ha (pa_cons hb pa_nil (star_of s2)) (star_of s1)) hw rfl).imp fun D σ H ⟨H0, Hf0, Hf, env, sr, h⟩ => ?_
  simp only [ex] at h
  refine sD_step sr h fun d v H1 Hf1 _ f1 r1 sr1 q1 => ?_
  refine sD_step sr1 q1 fun d2 v2 H2 Hf2 _ f2 r2 sr2 q2 => ?_
  exact ⟨v, v2, rfl, q2 _ H2 Hf2 ((sr2.setv (r1.mono f2.f)).setv r2) (.refl _)⟩
theorem s_expr (he : PE X x (tD (gOf X) T W e)) (h1 : isComp x = false) : PS X (.Expr x p) (tDS (gOf X) T W (.expr e)) := (ps_expr he (sw_no h1)).imp fun D σ H ⟨H0, Hf0, Hf, env, sr, h⟩ => by
  simp only [ex] at h
  exact sD_step sr h fun d v H1 Hf1 _ f r sr1 q => q σ H1 Hf1 sr1 (.refl _)
theorem s_ife (hc : PT X z (tDT (gOf X) T W c)) (ha : PSs X xs (tDS (gOf X) T W s)) (hb : PSs X ys (tDS (gOf X) T W r)) : PS X (.If z xs ys p) (tDS (gOf X) T W (.ife c s r)) := (ps_if hc ha hb).imp fun D σ H ⟨H0, Hf0, Hf, env, sr, h⟩ => by
  simp only [ex] at h
  refine sDT_step sr h fun k H1 Hf1 f sr1 q => ?_
  cases k with
  | true => rw [if_pos rfl] at q ⊢; exact ⟨H0, Hf0, Hf1, env, sr1, q⟩
  | false => rw [if_neg Bool.false_ne_true] at q ⊢; exact ⟨H0, Hf0, Hf1, env, sr1, q⟩
theorem SR.frzs {g : G} {H0 Hf0 H : Hp} {σ : St} : ∀ (is : List Nat) {env : Env} {Hf : Hp}, SR g H0 Hf0 σ H Hf env → ∃ Hf', SR g H0 Hf0 σ H Hf' (frzE env is) ∧ Same Hf Hf'
  | [], env, Hf, sr => ⟨Hf, sr, .refl _⟩
  | i :: is, env, Hf, sr => by
    unfold frzE
    split
    · rename_i xs h
      obtain ⟨Hf1, sr1, s1⟩ := sr.freeze h
      obtain ⟨Hf2, sr2, s2⟩ := SR.frzs is sr1
      exact ⟨Hf2, sr2, s1.trans s2⟩
    · exact SR.frzs is sr
theorem s_frz {is : List Nat} (hs : PS X st (tDS (gOf X) T W s)) : PS X st (tDS (gOf X) T W (.frz is s)) := hs.imp fun D σ H ⟨H0, Hf0, Hf, env, sr, h⟩ => by
  simp only [ex] at h
  obtain ⟨Hf', sr', s'⟩ := SR.frzs (H0 := H0) (Hf0 := Hf0) (H := H) (Hf := Hf) is sr
  exact ⟨H0, Hf0, Hf', _, sr', h.later s'⟩
theorem s_while (G : GoodS N sc n X) (hc : PT X z (tDT (gOf X) T W c)) (hb : PSs X xs (tDS (gOf X) T W s)) : PS X (.While z xs [] p) (tDS (gOf X) T W (.while_ c s)) := (ps_while G.po hc hb).imp fun D σ H ⟨H0, Hf0, Hf, env, sr, h⟩ => by
  simp only [ex] at h
  generalize hfin : whileS (evT T c) (ex T s) env = o at h
  have hne : o ≠ .bad := fun z => by subst z; exact h
  obtain ⟨n0, h0⟩ := whileS_ex (by rw [hfin]; exact hne)
  rw [hfin] at h0
  refine ⟨fun m σ' H' => ∃ Hf' env', SR (gOf X) H0 Hf0 σ' H' Hf' env' ∧ Same Hf Hf' ∧ whN (evT T c) (ex T s) m env' = some o, ⟨n0, Hf, env, sr, .refl _, h0⟩, ?_⟩
  rintro m σ1 H1 ⟨Hf1, env1, sr1, sm, hm⟩
  cases m with
  | zero => cases hm
  | succ m =>
    unfold whN at hm
    refine ⟨H0, Hf0, Hf1, env1, sr1, ?_⟩
    cases hcc : evT T c env1 with
    | err x =>
      rw [hcc] at hm
      cases hm
      exact fun cls dx H' Hf' f xr => h σ1 H' Hf' cls dx (sr1.mono f) (sm.trans f.f) xr
    | bad => rw [hcc] at hm; cases hm; exact (hne rfl).elim
    | ok k =>
      rw [hcc] at hm
      intro H2 Hf2 f2
      have sr2 := sr1.mono f2
      cases k with
      | false =>
        rw [if_neg Bool.false_ne_true]
        cases hm
        exact h σ1 H2 Hf2 sr2 (sm.trans f2.f)
      | true =>
        rw [if_pos rfl]
        refine ⟨_, fun σ' H' w => ⟨m, Nat.lt_succ_self _, w⟩, H0, Hf0, Hf2, env1, sr2, ?_⟩
        cases hbb : ex T s env1 with
        | nx e => rw [hbb] at hm; exact fun σ' H' Hf' r' s' => ⟨Hf', e, r', (sm.trans f2.f).trans s', hm⟩
        | ct e => rw [hbb] at hm; exact fun σ' H' Hf' r' s' => ⟨Hf', e, r', (sm.trans f2.f).trans s', hm⟩
        | bk e => rw [hbb] at hm; cases hm; exact fun σ' H' Hf' r' s' => h σ' H' Hf' r' ((sm.trans f2.f).trans s')
        | rt d => rw [hbb] at hm; cases hm; exact h
        | err x e => rw [hbb] at hm; cases hm; exact fun σ' H' Hf' cls dx r' s' xr => h σ' H' Hf' cls dx r' ((sm.trans f2.f).trans s') xr
        | bad => rw [hbb] at hm; cases hm; exact (hne rfl).elim
theorem s_for {t : Tg} (G : GoodS N sc n X) (hi : PI X y x (tDI (gOf X) T W it)) (hg : PG X y (tG (gOf X) t)) (hb : PSs X xs (tDS (gOf X) T W s)) (hset : setB x = false) : PS X (.For y x xs [] p) (tDS (gOf X) T W (.for_ t it s)) :=
  (ps_for G.po G.calm hi hg hb (fold_of hset)).imp fun D σ H ⟨H0, Hf0, Hf, env, sr, h⟩ => by
  simp only [ex] at h
  generalize hf : (fun d e => match setT t d e with | some e' => ex T s e' | none => .bad) = f at h
  refine sDI_step sr h fun ds J H1 Hf1 f1 yl sr1 q => ?_
  generalize hfin : forL f ds env = o at q
  have hne : o ≠ .bad := fun z => by subst z; exact q
  refine ⟨fun i m σ' H' => m = ds.length - i ∧ i ≤ ds.length ∧ ∃ Hf' env', SR (gOf X) H0 Hf0 σ' H' Hf' env' ∧ Same Hf1 Hf' ∧ forL f (ds.drop i) env' = o, ⟨ds.length, by simp, Nat.zero_le _, Hf1, env, sr1, .refl _, by simpa using hfin⟩, ?_⟩
  rintro i m σ2 H2 ⟨hm, hi, Hf2, env2, sr2, sm, hfor⟩
  rcases Nat.lt_or_ge i ds.length with hlt | hge
  · refine .inr ⟨yl.go i H2 Hf2 sm sr2.sub hlt, _, fun σ' H' w => ⟨ds.length - (i + 1), by omega, w⟩, fun v H3 hy => ?_⟩
    obtain ⟨Hf3, f3, rv⟩ := yl.yld i H2 Hf2 v H3 ds[i] sm sr2.sub hy (List.getElem?_eq_getElem hlt)
    rw [List.drop_eq_getElem_cons hlt] at hfor
    unfold forL at hfor
    have hfi : f ds[i] env2 = match setT t ds[i] env2 with | some e' => ex T s e' | none => .bad := by rw [← hf]
    rw [hfi] at hfor
    cases hs : setT t ds[i] env2 with
    | none => rw [hs] at hfor; exact (hne hfor.symm).elim
    | some e' =>
      rw [hs] at hfor
      refine ⟨H0, Hf0, Hf3, env2, ds[i], sr2.mono f3, rv, e', hs, fun σ4 sr4 _ _ => ⟨H0, Hf0, Hf3, e', sr4, ?_⟩⟩
      simp only at hfor
      cases hbb : ex T s e' with
      | nx e => rw [hbb] at hfor; exact fun σ' H' Hf' r' s' => ⟨rfl, by omega, Hf', e, r', (sm.trans f3.f).trans s', hfor⟩
      | ct e => rw [hbb] at hfor; exact fun σ' H' Hf' r' s' => ⟨rfl, by omega, Hf', e, r', (sm.trans f3.f).trans s', hfor⟩
      | bk e => rw [hbb] at hfor; subst hfor; exact fun σ' H' Hf' r' s' => q σ' H' Hf' r' ((sm.trans f3.f).trans s')
      | rt d => rw [hbb] at hfor; subst hfor; exact q
      | err x e => rw [hbb] at hfor; subst hfor; exact fun σ' H' Hf' cls dx r' s' xr => q σ' H' Hf' cls dx r' ((sm.trans f3.f).trans s') xr
      | bad => rw [hbb] at hfor; exact (hne hfor.symm).elim
  · have : i = ds.length := by omega
    subst this
    rw [List.drop_length] at hfor
    simp only [forL] at hfor
    subst hfor
    exact .inl ⟨yl.stop H2 Hf2 sm sr2.sub, q σ2 H2 Hf2 sr2 sm⟩
/-- a list's place in the frame -/
theorem own_at {g : G} {H0 Hf0 H Hf : Hp} {σ : St} {env : Env} {i : Nat} {ds : List Rf.D} (sr : SR g H0 Hf0 σ H Hf env) (h : getO env i = .ok ds) :
    ∃ p vs, σ[i]? = some (some (.ref p)) ∧ env[i]? = some (some (.o ds)) ∧ H p = some (.lst vs) ∧ Hf p = none ∧ H0 p = none ∧ Reps g Hf vs ds := by
  unfold getO at h
  split at h
  · rename_i xs he
    cases h
    obtain ⟨v, hσ, z⟩ := sr.slot i _ he
    cases z with
    | o hp hf h0 q => exact ⟨_, _, hσ, he, hp, hf, h0, q⟩
  · cases h
theorem getO_ne (env : Env) (i : Nat) (z : Exn) : getO env i ≠ .err z := by
  unfold getO; split <;> (intro h; cases h)
theorem s_app {i : Nat} {w : Str} {pa pc : Pos} (G : Good N sc n X) (hl : (pa.endLine == pc.line) = true) (h1 : N[i]? = some w) (h2 : visB sc w = true) (h3 : nmB w = true) (he : PE X x (tD (gOf X) T W e)) (hs : staB x = false) :
    PS X (.Expr (.Call (.Attribute (.Name w q) "append" pa) [x] [] pc) p) (tDS (gOf X) T W (.app i e)) := by
  obtain ⟨d1, d2, _⟩ := nm_of h3
  refine (ps_expr (pe_bm PySem.F.plainAttrs_list PySem.F.slot_list_append PySem.F.type_list_append mt_append (pe_var (i := i) (by rw [G.eN]; exact h1) (G.vis _ h2) d1 d2) (pa_cons he pa_nil (star_of hs)) rfl (by rw [star_of hs]; rfl) hl (star_of hs) rfl) rfl).imp fun D σ H ⟨H0, Hf0, Hf, env, sr, h⟩ => ?_
  simp only [ex] at h
  cases hv : getO env i with
  | err z => exact absurd hv (getO_ne _ _ _)
  | bad => rw [hv] at h; exact h.elim
  | ok ds =>
    rw [hv] at h
    simp only [Out.of_ok] at h
    obtain ⟨pp, vs, hσ, hE, hp, hf, h0, rr⟩ := own_at sr hv
    refine ⟨.ref pp, hσ, .inl ⟨rfl, vs, .inl (.inl hp)⟩, ?_⟩
    refine sD_step sr h fun d v H1 Hf1 _ f1 r1 sr1 q1 => ?_
    split at q1
    · rename_i hlen
      refine ⟨pp, vs, v, rfl, rfl, f1.s _ _ hp, by rw [rr.length, sizeLine_val]; exact hlen, ?_⟩
      exact q1 σ _ Hf1 (sr1.write hE hσ (f1.s _ _ hp) (f1.n _ (by rw [hp]; exact fun z => nomatch z) hf) h0 ((rr.mono f1.f).append (.cons r1 .nil))) (.refl _)
    · exact q1.elim
theorem s_pop {i : Nat} {w : Str} {pa pc : Pos} (G : Good N sc n X) (hl : (pa.endLine == pc.line) = true) (h1 : N[i]? = some w) (h2 : visB sc w = true) (h3 : nmB w = true) :
    PS X (.Expr (.Call (.Attribute (.Name w q) "pop" pa) [] [] pc) p) (tDS (gOf X) T W (.pop i)) := by
  obtain ⟨d1, d2, _⟩ := nm_of h3
  refine (ps_expr (pe_bm0 PySem.F.plainAttrs_list PySem.F.slot_list_pop PySem.F.type_list_pop mt_pop (pe_var (i := i) (by rw [G.eN]; exact h1) (G.vis _ h2) d1 d2) rfl hl) rfl).imp fun D σ H ⟨H0, Hf0, Hf, env, sr, h⟩ => ?_
  simp only [ex] at h
  cases hv : getO env i with
  | err z => exact absurd hv (getO_ne _ _ _)
  | bad => rw [hv] at h; exact h.elim
  | ok ds =>
    rw [hv] at h
    simp only [Out.of_ok] at h
    split at h
    · rename_i hne
      obtain ⟨pp, vs, hσ, hE, hp, hf, h0, rr⟩ := own_at sr hv
      have hlen : vs.length - 1 < vs.length := by
        have : ds.length ≠ 0 := fun z => hne (List.length_eq_zero_iff.mp z)
        rw [rr.length]; omega
      refine ⟨.ref pp, hσ, .inl ⟨rfl, vs, .inl (.inl hp)⟩, pp, vs, vs[vs.length - 1], rfl, rfl, hp, List.getElem?_eq_getElem hlen, ?_⟩
      exact h σ _ Hf (sr.write hE hσ hp hf h0 rr.dropLast) (.refl _)
    · exact h.elim
theorem s_asgIx {i : Nat} {w : Str} {ps : Pos} (G : Good N sc n X) (h1 : N[i]? = some w) (h2 : visB sc w = true) (h3 : nmB w = true) (ha : PE X z (tD (gOf X) T W a)) (he : PE X x (tD (gOf X) T W e)) (hc : isComp x = false) (hs : slB z = false) :
    PS X (.Assign [.Subscript (.Name w q) z ps] x p) (tDS (gOf X) T W (.asgIx i a e)) := by
  obtain ⟨d1, d2, _⟩ := nm_of h3
  refine (ps_asg he (pg_sub (pe_var (i := i) (by rw [G.eN]; exact h1) (G.vis _ h2) d1 d2) ha set_list ?_) (by unfold swapsWithSole; exact sw_no hc) (by cases x <;> rfl) rfl).imp fun D σ H ⟨H0, Hf0, Hf, env, sr, h⟩ => ?_
  · intro v
    cases z <;> first | rfl | cases hs
  · simp only [ex] at h
    refine sD_step sr h fun d v H1 Hf1 _ f1 r1 sr1 q1 => ?_
    cases hv : getO env i with
    | err z => exact absurd hv (getO_ne _ _ _)
    | bad => rw [hv] at q1; exact q1.elim
    | ok ds =>
      rw [hv] at q1
      simp only [Out.of_ok] at q1
      obtain ⟨pp, vs, hσ, hE, hp, hf, h0, rr⟩ := own_at sr1 hv
      refine ⟨.ref pp, hσ, ?_⟩
      refine sD_step sr1 q1 fun k u H2 Hf2 _ f2 r2 sr2 q2 => ?_
      cases r2 with
      | int j =>
        simp only [setD] at q2
        cases hj : ixN ds.length j with
        | none => rw [hj] at q2; exact q2.elim
        | some m =>
          rw [hj] at q2
          simp only [Out.of_ok] at q2
          refine ⟨pp, vs, j, m, rfl, rfl, f2.s _ _ hp, by rw [rr.length]; exact hj, ?_⟩
          exact q2 σ _ Hf2 (sr2.write hE hσ (f2.s _ _ hp) (f2.n _ (by rw [hp]; exact fun z => nomatch z) hf) h0 ((rr.mono f2.f).set (r1.mono f2.f) m)) (.refl _)
      | _ => exact q2.elim
end
end Rf
/-! # Rf13: every body that passes the look; defs -/
namespace Rf
open PySem PySem.Spec L2
section
variable {N : List Str} {sc : Scope} {n : Nat} {T : Tb}
theorem lcl_of {x : Str} (h : lclB sc x = true) : sc.names.lookup x = some .local := by
  unfold lclB at h; split at h
  · assumption
  · cases h
theorem sw_false {elt : Expr} {gs : List Comprehension} {sc' : Scope} {pos py : Pos} {y : Str} {l : Nat} {env : PySem.Env} (hs : env.scope = sc) (h : swB sc sc' y py pos = false) : swapsWith (.ListComp elt gs sc' pos) (some (.Name y py)) l env = pure false := by
  have e : (env.kindOf y == some .local) = lclB sc y := by
    show (env.scope.names.lookup y == some .local) = _
    rw [hs]
    unfold lclB
    split
    · rename_i h; rw [h]; rfl
    · rename_i h
      cases hq : sc.names.lookup y with
      | none => rfl
      | some k => cases k <;> first | rfl | exact absurd hq h
  have key : (env.blockKind == .function && env.kindOf y == some .local && py.line == (Expr.ListComp elt gs sc' pos).pos.line && !(sc'.names.any fun (n, k) => n == y && (k == .local || k == .cell))) = false := by
    rw [e]
    unfold swB at h
    cases hb : (env.blockKind == ScopeKind.function)
    · rfl
    · simpa [Bool.and_assoc, Expr.pos] using h
  unfold swapsWith
  show (pure (env.blockKind == .function && env.kindOf y == some .local && py.line == (Expr.ListComp elt gs sc' pos).pos.line && !(sc'.names.any fun (n, k) => n == y && (k == .local || k == .cell))) : Sem Bool) = _
  rw [key]
structure SndS (N : List Str) (n : Nat) (T : Tb) (s : S) : Prop where
  S : ∀ (X : Cx) (sc : Scope) (x : Stmt) (W : WE), GoodS N sc n X → Takes X W → Know (gOf X) n T → ckS N T s sc x = true → PS X x (tDS (gOf X) T W s)
  B : ∀ (X : Cx) (sc : Scope) (x : List Stmt) (W : WE), GoodS N sc n X → Takes X W → Know (gOf X) n T → ckSs N T s sc x = true → PSs X x (tDS (gOf X) T W s)
theorem snS {s : Rf.S} (h : ∀ (X : Cx) (sc : Scope) (x : Stmt) (W : WE), GoodS N sc n X → Takes X W → Know (gOf X) n T → ckS N T s sc x = true → PS X x (tDS (gOf X) T W s)) (h2 : ∀ sc xs, ckSs N T s sc xs = false) : SndS N n T s :=
  ⟨h, fun _ sc x _ _ _ _ z => by rw [h2] at z; cases z⟩
theorem s_asgOC {X : Cx} {W : WE} {i : Nat} {y : Str} {py p : Pos} {e : E} {x : Expr} (G : GoodS N sc n X) (tk : Takes X W) (K : Know (gOf X) n T) (hi : N[i]? = some y) (hl : locB sc y = true) (he : ckE N T e sc x = true) (hf : freshB e = true) (h : (!isComp x || cmpOkB e sc y py x) = true) :
    PS X (.Assign [.Name y py] x p) (tDS (gOf X) T W (.asgO i e)) := by
  have hF := (snd e).F X sc x W G.toGood tk K he hf
  by_cases hc : isComp x = false
  · exact s_asgO G.toGood hF hi hl hc
  · cases x with
    | ListComp elt gs sc' pc =>
      by_cases hsw : swB sc sc' y py pc = true
      · -- stored from within the block
        have hsw' := hsw
        unfold swB at hsw'
        simp only [Bool.and_eq_true, Bool.not_eq_true'] at hsw'
        obtain ⟨⟨k1, k2⟩, k3⟩ := hsw'
        have hyl : X.env.scope.names.lookup y = some .local := by rw [G.eS]; exact lcl_of k1
        cases e with
        | comp a tg b c own =>
          rcases gs with _ | ⟨⟨t, it, ifs, asy⟩, _ | ⟨g2, gr⟩⟩
          · simp [ckE] at he
          · by_cases h0 : asy = 0
            · subst h0
              simp only [ckE, Bool.and_eq_true, Bool.not_eq_true', List.all_eq_true, decide_eq_true_eq] at he
              obtain ⟨⟨⟨⟨⟨⟨⟨h1, h2⟩, h3⟩, h4⟩, h5⟩, h6⟩, h7⟩, h8⟩ := he
              refine (ps_setLc (i := i) (own := own.map fun k => (N.getD k "", k)) (wi := tDI (gOf X) T W b) (g := tG (gOf X) tg) (tt := tDC (gOf X) T noW c) (te := tD (gOf X) T noW a) G.calm (by rw [G.eN]; exact G.nd) (by rw [G.eN]; exact hi) hyl (sw_true (by rw [G.eS]; exact G.kind) hyl k2 k3) ((snd b).I X sc it t W G.toGood tk K h2 h7)
                (by rw [G.eN]; exact (let B := blkOk_by h1; ⟨B.kind, B.uniq, B.ix, fun y hy e => G.cf _ (B.free y hy e), B.own⟩)) (fun s H C cl fp => g_of (good_blk G.toGood s H C cl fp) h3) (fun s H C cl fp => (snd c).C _ sc' ifs noW (good_blk G.toGood s H C cl fp) (takes_blk _ _ _ _ _) K h4)
                (fun s H C cl fp => (snd a).E _ sc' elt noW (good_blk G.toGood s H C cl fp) (takes_blk _ _ _ _ _) K h5) (fold_of h8)).imp fun D σ H ⟨H0, Hf0, Hf, env, sr, h⟩ => ?_
              refine tLc_of (N := N) h6 ?_
              simp only [ex] at h
              refine ⟨H0, Hf0, Hf, env, sr, (so_of sr h).imp fun d e q => ?_⟩
              cases d with
              | lst ds =>
                intro pp vs H1 Hf1 f hn h1' hf r
                have sr1 := sr.mono f
                have h0 : H0 pp = none := sr.fut.s.free hn
                refine q.1 _ H1 Hf1 (sr1.seto h1' hf h0 r fun j zs hj he' hσ => ?_) f.f
                obtain ⟨v, hv, sl⟩ := sr.slot j _ he'
                cases sl with
                | o z1 z2 z3 z4 =>
                  rw [hv] at hσ
                  cases hσ
                  rw [hn] at z1; cases z1
              | _ => exact q.1.elim
            · unfold ckE at he
              split at he <;> first | cases he | skip
              all_goals (rename_i hx; first | (cases hx; exact absurd rfl h0) | (cases hx) | skip)
          · simp [ckE] at he
        | _ => simp [cmpOkB, isComp] at h
      · have hsw' : swB sc sc' y py pc = false := by simpa using hsw
        obtain ⟨l1, l2⟩ := G.loc y hl
        refine (ps_set (i := i) (by rw [G.eN]; exact G.nd) (by rw [G.eN]; exact hi) l1 hF (sw_false G.eS hsw') l2).imp fun D σ H ⟨H0, Hf0, Hf, env, sr, h⟩ => ?_
        simp only [ex] at h
        refine sDX_step (k := fun d => match d with | .lst xs => .nx (env.set i (some (.o xs))) | _ => .bad) sr (by
          cases hv : ev T e env with
          | ok d => rw [hv] at h; cases d <;> exact h
          | err z => rw [hv] at h; exact h
          | bad => rw [hv] at h; exact h) fun ds pp vs H1 Hf1 f hn h1' hf r sr1 q => ?_
        have h0 : H0 pp = none := sr.fut.s.free hn
        refine q _ H1 Hf1 (sr1.seto h1' hf h0 r fun j zs hj he' hσ => ?_) (.refl _)
        obtain ⟨v, hv, sl⟩ := sr.slot j _ he'
        cases sl with
        | o z1 z2 z3 z4 =>
          rw [hv] at hσ
          cases hσ
          rw [hn] at z1; cases z1
    | _ => first | exact absurd rfl hc | simp [cmpOkB, isComp] at h
theorem s_asgC {X : Cx} {W : WE} {i : Nat} {y : Str} {py p : Pos} {e : E} {x : Expr} (G : GoodS N sc n X) (tk : Takes X W) (K : Know (gOf X) n T) (hi : N[i]? = some y) (hl : locB sc y = true) (he : ckE N T e sc x = true) (hc : isComp x = true) (h : cmpOkB e sc y py x = true) :
    PS X (.Assign [.Name y py] x p) (tDS (gOf X) T W (.asg (.name i) e)) := by
  have hF := (snd e).E X sc x W G.toGood tk K he
  · cases x with
    | ListComp elt gs sc' pc =>
      by_cases hsw : swB sc sc' y py pc = true
      · -- stored from within the block
        have hsw' := hsw
        unfold swB at hsw'
        simp only [Bool.and_eq_true, Bool.not_eq_true'] at hsw'
        obtain ⟨⟨k1, k2⟩, k3⟩ := hsw'
        have hyl : X.env.scope.names.lookup y = some .local := by rw [G.eS]; exact lcl_of k1
        cases e with
        | comp a tg b c own =>
          rcases gs with _ | ⟨⟨t, it, ifs, asy⟩, _ | ⟨g2, gr⟩⟩
          · simp [ckE] at he
          · by_cases h0 : asy = 0
            · subst h0
              simp only [ckE, Bool.and_eq_true, Bool.not_eq_true', List.all_eq_true, decide_eq_true_eq] at he
              obtain ⟨⟨⟨⟨⟨⟨⟨h1, h2⟩, h3⟩, h4⟩, h5⟩, h6⟩, h7⟩, h8⟩ := he
              refine (ps_setLc (i := i) (own := own.map fun k => (N.getD k "", k)) (wi := tDI (gOf X) T W b) (g := tG (gOf X) tg) (tt := tDC (gOf X) T noW c) (te := tD (gOf X) T noW a) G.calm (by rw [G.eN]; exact G.nd) (by rw [G.eN]; exact hi) hyl (sw_true (by rw [G.eS]; exact G.kind) hyl k2 k3) ((snd b).I X sc it t W G.toGood tk K h2 h7)
                (by rw [G.eN]; exact (let B := blkOk_by h1; ⟨B.kind, B.uniq, B.ix, fun y hy e => G.cf _ (B.free y hy e), B.own⟩)) (fun s H C cl fp => g_of (good_blk G.toGood s H C cl fp) h3) (fun s H C cl fp => (snd c).C _ sc' ifs noW (good_blk G.toGood s H C cl fp) (takes_blk _ _ _ _ _) K h4)
                (fun s H C cl fp => (snd a).E _ sc' elt noW (good_blk G.toGood s H C cl fp) (takes_blk _ _ _ _ _) K h5) (fold_of h8)).imp fun D σ H ⟨H0, Hf0, Hf, env, sr, h⟩ => ?_
              refine tLc_of (N := N) h6 ?_
              simp only [ex] at h
              refine ⟨H0, Hf0, Hf, env, sr, (so_of sr h).imp fun d e q => xp_of_op fun v H1 Hf1 f r => ?_⟩
              have q1 := q.1
              simp only [setT] at q1
              exact q1 _ H1 Hf1 ((sr.mono f).setv r) f.f
            · unfold ckE at he
              split at he <;> first | cases he | skip
              all_goals (rename_i hx; first | (cases hx; exact absurd rfl h0) | (cases hx) | skip)
          · simp [ckE] at he
        | _ => simp [cmpOkB, isComp] at h
      · have hsw' : swB sc sc' y py pc = false := by simpa using hsw
        obtain ⟨l1, l2⟩ := G.loc y hl
        refine (ps_set (i := i) (by rw [G.eN]; exact G.nd) (by rw [G.eN]; exact hi) l1 hF (sw_false G.eS hsw') l2).imp fun D σ H ⟨H0, Hf0, Hf, env, sr, h⟩ => ?_
        simp only [ex] at h
        refine sD_step sr h fun d v H1 Hf1 _ f r sr1 q => ?_
        simp only [setT] at q
        exact q _ H1 Hf1 (sr1.setv r) (.refl _)
    | _ => simp [cmpOkB] at h
theorem sns : ∀ s : Rf.S, SndS N n T s
  | .nil => ⟨fun X sc x W G tk K h => by simp [ckS] at h, fun X sc x W G tk K h => by
    cases x with
    | nil => exact s_nil
    | cons _ _ => simp [ckSs] at h⟩
  | .cons s r => ⟨fun X sc x W G tk K h => by simp [ckS] at h, fun X sc x W G tk K h => by
    cases x with
    | nil => simp [ckSs] at h
    | cons x xs =>
      simp only [ckSs, Bool.and_eq_true] at h
      exact s_cons ((sns s).S X sc x W G tk K h.1) ((sns r).B X sc xs W G tk K h.2)⟩
  | .pass => snS (fun X sc x W G tk K h => by cases x <;> first | (cases (show false = true from h); done) | exact s_pass) (by intros; rfl)
  | .brk => snS (fun X sc x W G tk K h => by cases x <;> first | (cases (show false = true from h); done) | exact s_brk) (by intros; rfl)
  | .ct => snS (fun X sc x W G tk K h => by cases x <;> first | (cases (show false = true from h); done) | exact s_ct) (by intros; rfl)
  | .retN => snS (fun X sc x W G tk K h => by
    cases x with
    | Return v p => cases v with
      | none => exact s_retN
      | some _ => simp [ckS] at h
    | _ => simp [ckS] at h) (by intros; rfl)
  | .ret e => snS (fun X sc x W G tk K h => by
    cases x with
    | Return v p => cases v with
      | none => simp [ckS] at h
      | some x => simp only [ckS] at h; exact s_ret ((snd e).E X sc x W G.toGood tk K h)
    | _ => simp [ckS] at h) (by intros; rfl)
  | .asg t e => snS (fun X sc x W G tk K h => by
    cases x with
    | Assign ts v p =>
      rcases ts with _ | ⟨y, _ | ⟨y2, r⟩⟩ <;> first | (simp [ckS] at h; done) | skip
      simp only [ckS, Bool.and_eq_true, Bool.not_eq_true'] at h
      obtain ⟨⟨⟨h1, h2⟩, h3⟩, h4⟩ := h
      by_cases hc : isComp v = false
      · exact s_asg G.toGood ((snd e).E X sc v W G.toGood tk K h1) (g_of G.toGood h2) hc h4 h2
      · rw [Bool.not_eq_false] at hc
        rw [hc] at h3
        have h3 : cmpTB t e sc y v = true := by simpa using h3
        cases t with
        | name i => cases y with
          | Name w py =>
            simp only [ckTg, Bool.and_eq_true, decide_eq_true_eq] at h2
            exact s_asgC G tk K h2.1 h2.2 h1 hc h3
          | _ => simp [cmpTB] at h3
        | _ => simp [cmpTB] at h3
    | _ => simp [ckS] at h) (by intros; rfl)
  | .asgO i e => snS (fun X sc x W G tk K h => by
    cases x with
    | Assign ts v p =>
      rcases ts with _ | ⟨y, _ | ⟨y2, r⟩⟩ <;> first | (simp [ckS] at h; done) | skip
      cases y with
      | Name y py =>
        simp only [ckS, Bool.and_eq_true, decide_eq_true_eq] at h
        obtain ⟨⟨⟨⟨h1, h2⟩, h3⟩, h4⟩, h5⟩ := h
        exact s_asgOC G tk K h1 h2 h3 h4 h5
      | _ => simp [ckS] at h
    | _ => simp [ckS] at h) (by intros; rfl)
  | .par2 i j a b => snS (fun X sc x W G tk K h => by
    cases x with
    | Assign ts v p =>
      rcases ts with _ | ⟨y, _ | ⟨y2, r⟩⟩
      · exact absurd h (by simp [ckS])
      rotate_left
      · exact absurd h (by simp [ckS])
      cases y with
      | Tuple es k1 p1 =>
        cases v with
        | Tuple vs k2 p2 =>
          simp only [ckS] at h
          cases hp : parB es vs with
          | none => rw [hp] at h; cases h
          | some w =>
            obtain ⟨s1, q1, s2, q2, v1, v2⟩ := w
            rw [hp] at h
            obtain ⟨rfl, rfl⟩ := parB_of hp
            simp only [Bool.and_eq_true, decide_eq_true_eq, Bool.not_eq_true'] at h
            obtain ⟨⟨⟨⟨⟨⟨⟨⟨⟨⟨⟨h1, h2⟩, h3⟩, h4⟩, h5⟩, h6⟩, h7⟩, h8⟩, h9⟩, h10⟩, h11⟩, h12⟩ := h
            exact s_par2 G h1 h2 h3 h4 h5 ((snd a).E X sc v1 W G.toGood tk K h6) ((snd b).E X sc v2 W G.toGood tk K h7) h8 h9 h10 h11 h12
        | _ => exact absurd h (by simp [ckS])
      | _ => exact absurd h (by cases v <;> simp [ckS])
    | _ => exact absurd h (by simp [ckS])) (by intros; rfl)
  | .asgIx i a e => snS (fun X sc x W G tk K h => by
    cases x with
    | Assign ts v p =>
      rcases ts with _ | ⟨y, _ | ⟨y2, r⟩⟩ <;> first | (simp [ckS] at h; done) | skip
      cases y with
      | Subscript y z ps =>
        cases y with
        | Name w q =>
          simp only [ckS, Bool.and_eq_true, decide_eq_true_eq, Bool.not_eq_true'] at h
          obtain ⟨⟨⟨⟨⟨⟨h1, h2⟩, h3⟩, h4⟩, h5⟩, h6⟩, h7⟩ := h
          exact s_asgIx G.toGood h1 h2 h3 ((snd a).E X sc z W G.toGood tk K h4) ((snd e).E X sc v W G.toGood tk K h5) h6 h7
        | _ => simp [ckS] at h
      | _ => simp [ckS] at h
    | _ => simp [ckS] at h) (by intros; rfl)
  | .app i e => snS (fun X sc x W G tk K h => by
    cases x with
    | Expr x p =>
      cases x with
      | Call f xs ks pc =>
        cases f with
        | Attribute o m pa =>
          cases o with
          | Name w q =>
            rcases ks with _ | ⟨k1, k2⟩ <;> rcases xs with _ | ⟨y, _ | ⟨z, r⟩⟩ <;> first | (cases (show false = true from h); done) | skip
            simp only [ckS, Bool.and_eq_true, decide_eq_true_eq, Bool.not_eq_true'] at h
            obtain ⟨⟨⟨⟨⟨⟨h0, rfl⟩, h1⟩, h2⟩, h3⟩, h4⟩, h5⟩ := h
            exact s_app G.toGood h0 h1 h2 h3 ((snd e).E X sc y W G.toGood tk K h4) h5
          | _ => exact absurd h (by simp [ckS])
        | _ => exact absurd h (by simp [ckS])
      | _ => exact absurd h (by simp [ckS])
    | _ => exact absurd h (by simp [ckS])) (by intros; rfl)
  | .pop i => snS (fun X sc x W G tk K h => by
    cases x with
    | Expr x p =>
      cases x with
      | Call f xs ks pc =>
        cases f with
        | Attribute o m pa =>
          cases o with
          | Name w q =>
            rcases ks with _ | ⟨k1, k2⟩ <;> rcases xs with _ | ⟨y, r⟩ <;> first | (cases (show false = true from h); done) | skip
            simp only [ckS, Bool.and_eq_true, decide_eq_true_eq] at h
            obtain ⟨⟨⟨⟨h0, rfl⟩, h1⟩, h2⟩, h3⟩ := h
            exact s_pop G.toGood h0 h1 h2 h3
          | _ => exact absurd h (by simp [ckS])
        | _ => exact absurd h (by simp [ckS])
      | _ => exact absurd h (by simp [ckS])
    | _ => exact absurd h (by simp [ckS])) (by intros; rfl)
  | .expr e => snS (fun X sc x W G tk K h => by
    cases x with
    | Expr x p =>
      simp only [ckS, Bool.and_eq_true, Bool.not_eq_true'] at h
      exact s_expr ((snd e).E X sc x W G.toGood tk K h.1) h.2
    | _ => simp [ckS] at h) (by intros; rfl)
  | .ife c a b => snS (fun X sc x W G tk K h => by
    cases x with
    | If z xs ys p =>
      simp only [ckS, Bool.and_eq_true] at h
      exact s_ife ((snd c).Tt X sc z W G.toGood tk K h.1.1) ((sns a).B X sc xs W G tk K h.1.2) ((sns b).B X sc ys W G tk K h.2)
    | _ => simp [ckS] at h) (by intros; rfl)
  | .for_ t it body => snS (fun X sc x W G tk K h => by
    cases x with
    | For y x xs el p =>
      cases el with
      | nil =>
        simp only [ckS, Bool.and_eq_true, Bool.not_eq_true'] at h
        obtain ⟨⟨⟨⟨h1, h2⟩, h3⟩, h4⟩, h5⟩ := h
        exact s_for G ((snd it).I X sc x y W G.toGood tk K h1 h3) (g_of G.toGood h2) ((sns body).B X sc xs W G tk K h5) h4
      | cons _ _ => simp [ckS] at h
    | _ => simp [ckS] at h) (by intros; rfl)
  | .while_ c body => snS (fun X sc x W G tk K h => by
    cases x with
    | While z xs el p =>
      cases el with
      | nil =>
        simp only [ckS, Bool.and_eq_true] at h
        exact s_while G ((snd c).Tt X sc z W G.toGood tk K h.1) ((sns body).B X sc xs W G tk K h.2)
      | cons _ _ => simp [ckS] at h
    | _ => simp [ckS] at h) (by intros; rfl)
  | .frz is s => snS (fun X sc x W G tk K h => by simp only [ckS] at h; exact s_frz ((sns s).S X sc x W G tk K h)) (by intros; rfl)

/-! ### defs -/
/-- a def by its body: np parameters, nn names -/
noncomputable def runFn (np nn : Nat) (T : Tb) (B : Rf.S) : Fn := fun ds => if ds.length = np then (match ex T B (ds.map (fun d => some (.v d)) ++ List.replicate (nn - np) none) with
    | .nx _ => .ok .non
    | .rt d => .ok d
    | .err x _ => .err x
    | _ => .bad) else .bad
theorem start_sr {g : G} {N : List Str} {H Hf : Hp} {vs : List V} {ds : List D} (sub : Same Hf H) (r : Reps g Hf vs ds) : SR g H Hf (L2.start N vs) H Hf (ds.map (fun d => some (Sl.v d)) ++ List.replicate (N.length - ds.length) none) := by
  have hl := r.length
  have get : ∀ (i : Nat) (s : Sl), (ds.map (fun d => some (Sl.v d)) ++ List.replicate (N.length - ds.length) none)[i]? = some (some s) → ∃ d, s = .v d ∧ ds[i]? = some d := fun i s h => by
    by_cases hi : i < ds.length
    · rw [List.getElem?_append_left (by simpa using hi), List.getElem?_map] at h
      rw [List.getElem?_eq_getElem hi] at h ⊢
      cases h
      exact ⟨_, rfl, rfl⟩
    · rw [List.getElem?_append_right (by simp; omega), List.getElem?_replicate] at h
      split at h <;> cases h
  refine ⟨Fut.refl sub, by simp [L2.start, hl], fun i s h => ?_, fun i j xs ys _ h1 _ => ?_⟩
  · obtain ⟨d, rfl, hd⟩ := get i s h
    obtain ⟨v, hv, rv⟩ := r.get hd
    refine ⟨v, ?_, .v rv⟩
    unfold L2.start
    have hi : i < vs.length := (List.getElem?_eq_some_iff.mp hv).1
    rw [List.getElem?_append_left (by simpa using hi), List.getElem?_map, hv]; rfl
  · obtain ⟨d, e, _⟩ := get i _ h1
    cases e
theorem fn_ok {g : G} {n : Nat} {f : Addr} {name qual : Str} {params : Arguments} {body : List Stmt} {scope : Scope} {dV kV doc pm cdv ct oc : Value} {an od : Option Addr} {osl : Array (Option Value)} {N ps : List Str} {T : Tb} {B : Rf.S}
    (lk : g.K.lookup f = some ⟨oc, od, .func (PySem.W.fnOf name qual params body scope dV kV doc pm an cdv ct), osl⟩) (hcd : PySem.W.codeIn g.K cdv qual = true) (S : FnScope N ps scope)
    (K : Know g n T) (hck : ckSs N T B scope body = true) :
    FnOk g.P g.w g.K g.mg g.base (L2.CX g.P g.w) (n + 1) f (PySem.W.fnOf name qual params body scope dV kV doc pm an cdv ct) ps (spD g (runFn ps.length N.length T B)) := by
  have hlen : ∀ vs H Q E, spD g (runFn ps.length N.length T B) vs H Q E → vs.length = ps.length := fun vs H Q E ⟨Hf, ds, sub, r, h⟩ => by
    unfold runFn at h
    by_cases hd : ds.length = ps.length
    · rw [r.length, hd]
    · rw [if_neg hd] at h; exact h.elim
  refine fn_of lk hcd S hlen fun A outer s H vs Q E hr h => ?_
  obtain ⟨Hf, ds, sub, r, h⟩ := h
  unfold runFn at h
  by_cases hd : ds.length = ps.length
  · rw [if_pos hd] at h
    let X := cxOf (L2.CX g.P g.w) g.P g.w g.K g.mg g.base N qual scope f cdv A outer s H E
    have hX : gOf X = g := rfl
    have G : GoodS N scope n X := {
      eN := rfl, vis := fun x hx => vis_of hx, gl := fun x hx => by
        unfold glB at hx; split at hx
        · assumption
        · cases hx
      loc := fun x hx => ⟨loc_of hx, .inl rfl⟩, cf := fun x hx => hx, calm := rfl, room := hr, nd := S.nd, eS := rfl, kind := S.kind, po := passes_of rfl }
    refine ⟨tDS g T (fun cls d _ H' => E cls d H') B, (sns B).B X scope body _ G (takes_of rfl rfl rfl rfl) K hck, ?_⟩
    have sr := start_sr (g := g) (N := N) sub r
    rw [hd] at sr
    refine ⟨H, Hf, Hf, _, sr, ?_⟩
    generalize ex T B (ds.map (fun d => some (Sl.v d)) ++ List.replicate (N.length - ps.length) none) = o at h ⊢
    cases o with
    | nx env => exact fun σ' H' Hf' r' _ => h .non H' Hf' r'.fut .non
    | rt d => exact fun v H' Hf' f r' => h v H' Hf' f r'
    | err x env => exact fun σ' H' Hf' cls dx r' _ xr => h cls dx H' Hf' r'.fut xr
    | bk env => exact h.elim
    | ct env => exact h.elim
    | bad => exact h.elim
  · rw [if_neg hd] at h; exact h.elim
/-- a def's promise, called by its name with all arguments but the defaults at the end -/
theorem prm_of {g : G} {n : Nat} {x : Str} {f : Addr} {fd : FuncData} {ps : List Str} {F : Fn} {dvs : List V} {dds : List D} {dus : List Value} (hf : FnOk g.P g.w g.K g.mg g.base (L2.CX g.P g.w) n f fd ps (spD g F)) (hm : g.mg x = some (.ref f)) (hk : PySem.W.keepIn g.K (.ref f) = true) (hb : Binds g.K fd ps dus)
    (hd : Vals dvs dus) (hr : ∀ H, Reps g H dvs dds) : Prm g n x (fun ds => F (ds ++ dds)) := by
  refine ⟨f, hm, hk, fun X hX room W tk pins s σ H Hf Q us vs ds I rv sub rr h => ?_⟩
  subst hX
  have h' : spD (gOf X) F (vs ++ dvs) H Q (fun cls d H' => W cls d σ H') := ⟨Hf, ds ++ dds, sub, rr.append (hr Hf), by
    cases hF : F (ds ++ dds) with
    | ok d => rw [hF] at h; exact h
    | err x => rw [hF] at h; exact h
    | bad => rw [hF] at h; exact h⟩
  have r2 : Vals (vs ++ dvs) (us ++ dus) := rv.append hd
  have hl : (us ++ dus).length = ps.length := by rw [← r2.length]; exact hf.len _ _ _ _ h'
  refine wpAny_call (codeAny_mono (hf.run X.A X.stack s H ⟨us, []⟩ (us ++ dus) (vs ++ dvs) Q _ room I.env0 (hb s us I.kIn hl) r2 h') fun r s' hq => ?_)
  cases r with
  | error e => exact passAt tk σ pins H s e s' I hq
  | ok fl =>
    cases fl with
    | ret u => exact I.after hq
    | next => exact False.elim hq
    | brk => exact False.elim hq
    | cont => exact False.elim hq
theorem Prm.mono {g : G} {n m : Nat} {x : Str} {F : Fn} (h : Prm g n x F) (hl : n ≤ m) : Prm g m x F := by
  obtain ⟨f, h1, h2, h3⟩ := h.ex
  exact ⟨f, h1, h2, fun X hX room => h3 X hX (room.mono hl)⟩
end
end Rf
/-! # Rf14: defs of the module, by what the head gives -/
namespace Rf
open PySem PySem.Spec L2
def scB (N P : List Str) (sc : Scope) : Bool :=
  (match sc.kind with | .function => true | _ => false) && !sc.isCoroutine && !sc.isGenerator && decide N.Nodup && decide (N.take P.length = P) && P.all (fun x => locB sc x) && sc.names.all (fun y => match y.2 with | .free => false | _ => true)
theorem fnScope_by' {N P : List Str} {sc : Scope} (h : scB N P sc = true) : FnScope N P sc := by
  unfold scB at h
  simp only [Bool.and_eq_true, Bool.not_eq_true', decide_eq_true_eq, List.all_eq_true] at h
  obtain ⟨⟨⟨⟨⟨⟨h1, h2⟩, h3⟩, h4⟩, h5⟩, h6⟩, h7⟩ := h
  refine ⟨?_, h2, h3, h4, h5, fun x hx => loc_of (h6 x hx), fun y hy e => ?_⟩
  · split at h1
    · assumption
    · cases h1
  · have z := h7 y hy
    rw [e] at z
    cases z
/-- a def of the module stands under its name -/
def DefAt (g : G) (x : Str) (st : Stmt) : Prop := ∃ (f : Addr) (oc : Value) (od : Option Addr) (kV doc pm : Value) (an : Option Addr) (cdv ct : Value) (osl : Array (Option Value)),
  g.mg x = some (.ref f) ∧ g.K.lookup f = some ⟨oc, od, .func (PySem.W.fnOf x x (defArgs st) (defBody st) (defScope st) .none kV doc pm an cdv ct), osl⟩ ∧ PySem.W.codeIn g.K cdv x = true ∧ PySem.W.keepIn g.K (.ref f) = true
def DefFd (g : G) (x : Str) (st : Stmt) (fd : FuncData) : Prop := ∃ (kV doc pm : Value) (an : Option Addr) (cdv ct : Value), fd = PySem.W.fnOf x x (defArgs st) (defBody st) (defScope st) .none kV doc pm an cdv ct
theorem def_ok {g : G} {n : Nat} {x : Str} {st : Stmt} {N ps : List Str} {T : Tb} {B : Rf.S} (h : DefAt g x st) (S : FnScope N ps (defScope st)) (K : Know g n T) (hck : ckSs N T B (defScope st) (defBody st) = true) :
    ∃ f fd, FnOk g.P g.w g.K g.mg g.base (L2.CX g.P g.w) (n + 1) f fd ps (spD g (runFn ps.length N.length T B)) ∧ g.mg x = some (.ref f) ∧ PySem.W.keepIn g.K (.ref f) = true ∧ DefFd g x st fd := by
  obtain ⟨f, oc, od, kV, doc, pm, an, cdv, ct, osl, h1, h2, h3, h4⟩ := h
  exact ⟨f, _, fn_ok h2 h3 S K hck, h1, h4, _, _, _, _, _, _, rfl⟩
theorem def_prm {g : G} {n : Nat} {x : Str} {st : Stmt} {ps : List Str} {F : Fn} (h : ∃ f fd, FnOk g.P g.w g.K g.mg g.base (L2.CX g.P g.w) n f fd ps (spD g F) ∧ g.mg x = some (.ref f) ∧ PySem.W.keepIn g.K (.ref f) = true ∧ DefFd g x st fd)
    (hb : ∀ (kV doc pm : Value) (an : Option Addr) (cdv ct : Value) (us : List Value), us.length = ps.length → bindArgs (PySem.W.fnOf x x (defArgs st) (defBody st) (defScope st) .none kV doc pm an cdv ct) ⟨us, []⟩ = pure (ps.zip us)) : Prm g n x F := by
  obtain ⟨f, fd, h1, h2, h3, kV, doc, pm, an, cdv, ct, rfl⟩ := h
  have := prm_of (dvs := []) (dds := []) h1 h2 h3 (Binds.all (hb kV doc pm an cdv ct)) .nil (fun _ => .nil)
  simpa using this
end Rf
namespace Rf
open PySem PySem.Spec L2
/-- a list that is to be read, where the object at its place is known -/
theorem ls_of_sq {K : PySem.W.Frag} {h : Heap} {H : Hp} {a : Addr} {xs : List V} {us : Array Value} (kin : K.In h) (ho : h.get? a = some { cls := .type "list", data := .seq us }) (q : SqL K H a xs) : LsK K H a xs := by
  cases q with
  | inl r => exact Or.inl r
  | inr r =>
    obtain ⟨o, its, n, look, c1, c2, c3, le, vals⟩ := r
    have same : o = { cls := .type "list", data := .seq us } := Option.some.inj ((kin a o look).symm.trans ho)
    rw [same] at look c3
    cases c3
    exact Or.inr ⟨us.toList, _, by simpa using look, by simpa using le, vals⟩
/-- the law's def, whose function gives True of every script -/
structure LawOk (P : Program) (w : World) (K : PySem.W.Frag) (mg : Str → Option Value) (k : Nat) (fa : Addr) (fd : FuncData) (x : Str) (F : Fn) : Prop where
  binds : ∀ (s : Shared) (u : Value), BindsTo s fd ⟨[u], []⟩ [(x, u)]
  fn : ∀ base : Heap, FnOk P w K mg base (L2.CX P w) k fa fd [x] (spD ⟨P, w, K, mg, base⟩ F)
theorem law_walk {l : PySem.W.OpenLaw} {q : Program} {loose : List Str} {XP : (Str → Option Value) → Heap → Prop} {YP : World → Heap → Prop} {d : DefRec} {Kp : Params → PySem.W.Frag} {x : Str} {k : Nat} {F : Fn}
    (most : l.most = some 63) (nodf : d.params.defaults = []) (room : Room k callerA) (kin : ∀ (w : World) (h : Heap), YP w h → (Kp w.params).In h)
    (ok : ∀ (w : World) (mg : Str → Option Value) (fa : Addr) (h : Heap), (Kp w.params).In h → h.Ns mainGlobals mg → mg d.name = some (.ref fa) → ∃ fd, LawOk l.prog w (Kp w.params) mg k fa fd x F)
    (holds : ∀ ns : List Int, ns.length ≤ 63 → F [.lst (ns.map D.int)] = .ok (.bl true)) : PySem.W.WalkO q loose XP YP l.row.toRowW d [] (fun f vs => PySem.call f vs) := by
  apply Att.attach_call most nodf
  intro w s₀ s₁ mg mb fa o pm cd doc a vs ns ground yp _ _ _ atLaw atScript hInts le63 nogen
  have kheap := kin w s₁.heap yp
  obtain ⟨fd, law⟩ := ok w mg fa s₁.heap kheap ground.T.g atLaw
  let g0 : G := ⟨l.prog, w, Kp w.params, mg, s₁.heap⟩
  let want : Sp := fun us H Q _ => us = [V.ref a] ∧ LsK (Kp w.params) H a (ns.map V.int) ∧ ∀ H', Q (.bl true) H'
  have promise : ∀ base : Heap, FnOk l.prog w (Kp w.params) mg base (L2.CX l.prog w) k fa fd [x] want := fun base => (law.fn base).imp fun us H Q _ hw => by
    obtain ⟨e, ls, fin⟩ := hw
    subst e
    refine ⟨H, [.lst (ns.map D.int)], .refl H, .cons (.lst ls (reps_ints ns)) .nil, ?_⟩
    rw [holds ns le63]
    intro v H' Hf' _ r
    cases r
    exact fin H'
  exact law_call (sp := want) kheap ground.T.g ground.T.b ground.T.builtins ground.T.nolimit nogen atScript hInts (by rw [sizeLine_val]; omega) room (fun base _ _ => promise base) law.binds
    (fun H _ sq => ⟨rfl, ls_of_sq kheap atScript sq, fun _ => rfl⟩) (fun H e s' c => by obtain ⟨_, _, _, _, _, _, _, _, _, _, _, _, z⟩ := c; exact z)
/-- from the table of a def to the law -/
theorem law_of {P : Program} {w : World} {K : PySem.W.Frag} {mg : Str → Option Value} {x y : Str} {st : Stmt} {N : List Str} {T : Tb} {B : Rf.S} {n : Nat} {fa : Addr} (hfa : mg y = some (.ref fa)) (h : ∀ base, DefAt ⟨P, w, K, mg, base⟩ y st) (S : FnScope N [x] (defScope st)) (Kn : ∀ base, Know ⟨P, w, K, mg, base⟩ n T) (hck : ckSs N T B (defScope st) (defBody st) = true)
    (hb : ∀ (kV doc pm : Value) (an : Option Addr) (cdv ct : Value) (us : List Value), us.length = 1 → bindArgs (PySem.W.fnOf y y (defArgs st) (defBody st) (defScope st) .none kV doc pm an cdv ct) ⟨us, []⟩ = pure ([x].zip us)) : ∃ fd, LawOk P w K mg (n + 1) fa fd x (runFn 1 N.length T B) := by
  obtain ⟨f, oc, od, kV, doc, pm, an, cdv, ct, osl, h1, h2, h3, h4⟩ := h default
  have e : f = fa := by
    have z : some (Value.ref f) = some (Value.ref fa) := h1.symm.trans hfa
    cases z; rfl
  subst e
  exact ⟨_, ⟨fun s u => .of_eq (hb kV doc pm an cdv ct [u] rfl), fun base => fn_ok (g := ⟨P, w, K, mg, base⟩) (ps := [x]) h2 h3 S (Kn base) hck⟩⟩
end Rf
namespace Rf
open PySem PySem.Spec L2
/-- what the head's word finds of a def -/
theorem defAt {P : Program} {w : World} {K : PySem.W.Frag} {h : Heap} {mg : Str → Option Value} {x : Str} {st : Stmt} {f : Addr} {oc kV doc pm cdv ct : Value} {od an : Option Addr} {osl : Array (Option Value)} (X : K.In h) (G : h.Ns mainGlobals mg)
    (a : PySem.W.nsIn K mainGlobals x = some (some (.ref f))) (l : K.lookup f = some ⟨oc, od, .func (PySem.W.fnOf x x (defArgs st) (defBody st) (defScope st) .none kV doc pm an cdv ct), osl⟩) (c : PySem.W.codeIn K cdv x = true) (k : PySem.W.keepIn K (.ref f) = true) :
    ∀ base, DefAt ⟨P, w, K, mg, base⟩ x st := fun base => ⟨f, oc, od, kV, doc, pm, an, cdv, ct, osl, PySem.W.mg_of X G a, l, c, k⟩
/-- a module's constant: a tuple, a list of written things -/
def flatOf : Value → Option D
  | .none => some .non
  | .bool b => some (.bl b)
  | .int i _ => some (.int i)
  | .str s _ => some (.str s)
  | _ => none
theorem rep_flat {g : G} {H : Hp} {u : Value} {d : D} (h : flatOf u = some d) : ∃ v, RelV v u ∧ Rep g H v d := by
  cases u with
  | none => cases h; exact ⟨.non, rfl, .non⟩
  | bool b => cases h; exact ⟨.bl b, rfl, .bl b⟩
  | int i t => cases h; exact ⟨.int i, ⟨t, rfl⟩, .int i⟩
  | str s t => cases h; exact ⟨.str s, ⟨t, rfl⟩, .str s⟩
  | _ => cases h
def flatAll : List Value → Option (List D)
  | [] => some []
  | u :: us => match flatOf u, flatAll us with
    | some d, some ds => some (d :: ds)
    | _, _ => none
theorem reps_flat {g : G} : ∀ {us : List Value} {ds : List D}, flatAll us = some ds → ∃ vs, Vals vs us ∧ ∀ H, Reps g H vs ds
  | [], ds, h => by cases h; exact ⟨[], .nil, fun _ => .nil⟩
  | u :: us, ds, h => by
    unfold flatAll at h
    split at h
    · rename_i d ds' h1 h2
      cases h
      obtain ⟨vs, r, q⟩ := reps_flat (g := g) h2
      have : ∃ v, RelV v u ∧ ∀ H, Rep g H v d := by
        cases u with
        | none => cases h1; exact ⟨.non, rfl, fun _ => .non⟩
        | bool b => cases h1; exact ⟨.bl b, rfl, fun _ => .bl b⟩
        | int i t => cases h1; exact ⟨.int i, ⟨t, rfl⟩, fun _ => .int i⟩
        | str s t => cases h1; exact ⟨.str s, ⟨t, rfl⟩, fun _ => .str s⟩
        | _ => cases h1
      obtain ⟨v, rv, hv⟩ := this
      exact ⟨v :: vs, .cons rv r, fun H => .cons (hv H) (q H)⟩
    · cases h
theorem gconTup {P : Program} {w : World} {K : PySem.W.Frag} {h : Heap} {mg : Str → Option Value} {x : Str} {a : Addr} {dd : Option Addr} {its : Array Value} {n : Nat} {sl : Array (Option Value)} {ds : List D} (X : K.In h) (G : h.Ns mainGlobals mg)
    (e : PySem.W.nsIn K mainGlobals x = some (some (.ref a))) (l : K.lookup a = some ⟨.type "tuple", dd, .seq its n, sl⟩) (hd : flatAll its.toList = some ds) (hs : its.size ≤ 16777216) : ∀ base, Gcon ⟨P, w, K, mg, base⟩ x (.tup ds) := fun base => by
  obtain ⟨vs, r, q⟩ := reps_flat (g := ⟨P, w, K, mg, base⟩) hd
  exact ⟨.ref a, _, PySem.W.mg_of X G e, rfl, fun H => .tup (.inr ⟨_, its, n, l, rfl, rfl, by rw [sizeLine_val]; exact hs, r⟩) (q H)⟩
end Rf
/-! # Rf15: the readings by simp -/
namespace Rf
open PySem
@[simp] theorem ev_var (T : Tb) (i : Nat) (env : Env) : ev T (.var i) env = (getV env i) := by first | exact id rfl | simp only [ev]
@[simp] theorem ev_int (T : Tb) (i : Int) (env : Env) : ev T (.int i) env = (.ok (.int i)) := by first | exact id rfl | simp only [ev]
@[simp] theorem ev_bl (T : Tb) (b : Bool) (env : Env) : ev T (.bl b) env = (.ok (.bl b)) := by first | exact id rfl | simp only [ev]
@[simp] theorem ev_non (T : Tb)  (env : Env) : ev T .non env = (.ok .non) := by first | exact id rfl | simp only [ev]
@[simp] theorem ev_str (T : Tb) (s : Str) (env : Env) : ev T (.str s) env = (.ok (.str s)) := by first | exact id rfl | simp only [ev]
@[simp] theorem ev_glob (T : Tb) (j : Nat) (env : Env) : ev T (.glob j) env = (match T.gl[j]? with
    | some (_, d) => .ok d
    | none => .bad) := by first | exact id rfl | simp only [ev]
@[simp] theorem ev_bin (T : Tb) (op : BOp) (a b : E) (env : Env) : ev T (.bin op a b) env = ((ev T a env).bind fun x => (ev T b env).bind fun y => bop op x y) := by first | exact id rfl | simp only [ev]
@[simp] theorem ev_neg (T : Tb) (a : E) (env : Env) : ev T (.neg a) env = ((ev T a env).bind fun x => match x with
    | .int i => .ok (.int (-i))
    | _ => .bad) := by first | exact id rfl | simp only [ev]
@[simp] theorem ev_cmp (T : Tb) (op : COp) (a b : E) (env : Env) : ev T (.cmp op a b) env = ((ev T a env).bind fun x => (ev T b env).bind fun y => cop op x y) := by first | exact id rfl | simp only [ev]
@[simp] theorem ev_isN (T : Tb) (a : E) (ng : Bool) (env : Env) : ev T (.isN a ng) env = ((ev T a env).bind fun x => .ok (.bl (if ng then !isNon x else isNon x))) := by first | exact id rfl | simp only [ev]
@[simp] theorem ev_chain (T : Tb) (op op' : COp) (a b c : E) (env : Env) : ev T (.chain op op' a b c) env = ((ev T a env).bind fun x => (ev T b env).bind fun y => (asB (cop op x y)).bind fun k =>
      if k = true then (ev T c env).bind fun z => cop op' y z else .ok (.bl false)) := by first | exact id rfl | simp only [ev]
@[simp] theorem ev_and (T : Tb) (a b : E) (env : Env) : ev T (.and a b) env = ((asB (ev T a env)).bind fun k => if k = true then ev T b env else .ok (.bl false)) := by first | exact id rfl | simp only [ev]
@[simp] theorem ev_or (T : Tb) (a b : E) (env : Env) : ev T (.or a b) env = ((asB (ev T a env)).bind fun k => if k = true then .ok (.bl true) else ev T b env) := by first | exact id rfl | simp only [ev]
@[simp] theorem ev_not (T : Tb) (a : E) (env : Env) : ev T (.not a) env = ((asB (ev T a env)).bind fun k => .ok (.bl (!k))) := by first | exact id rfl | simp only [ev]
@[simp] theorem ev_ife (T : Tb) (c a b : E) (env : Env) : ev T (.ife c a b) env = ((evT T c env).bind fun k => if k = true then ev T a env else ev T b env) := by first | exact id rfl | simp only [ev]
@[simp] theorem ev_tup (T : Tb) (es : E) (env : Env) : ev T (.tup es) env = ((evs T es env).bind fun ds => if okLen ds.length = true then .ok (.tup ds) else .bad) := by first | exact id rfl | simp only [ev]
@[simp] theorem ev_lst (T : Tb) (es : E) (env : Env) : ev T (.lst es) env = ((evs T es env).bind fun ds => if okLen ds.length = true then .ok (.lst ds) else .bad) := by first | exact id rfl | simp only [ev]
@[simp] theorem ev_ix (T : Tb) (a b : E) (env : Env) : ev T (.ix a b) env = ((ev T a env).bind fun x => (ev T b env).bind fun y => ixD x y) := by first | exact id rfl | simp only [ev]
@[simp] theorem ev_sl (T : Tb) (a lo hi : E) (env : Env) : ev T (.sl a lo hi) env = ((ev T a env).bind fun x => (evP T lo env).bind fun l => (evP T hi env).bind fun h => slD x l h) := by first | exact id rfl | simp only [ev]
@[simp] theorem ev_call (T : Tb) (j : Nat) (es : E) (env : Env) : ev T (.call j es) env = ((evs T es env).bind fun ds => match T.fn[j]? with
    | some (_, F) => F ds
    | none => .bad) := by first | exact id rfl | simp only [ev]
@[simp] theorem ev_bi (T : Tb) (b : Bi) (es : E) (env : Env) : ev T (.bi b es) env = ((evs T es env).bind fun ds => biF b ds) := by first | exact id rfl | simp only [ev]
@[simp] theorem ev_isi (T : Tb) (a : E) (t : Ty) (env : Env) : ev T (.isi a t) env = ((ev T a env).bind fun x => (isiB t x).bind fun b => .ok (.bl b)) := by first | exact id rfl | simp only [ev]
@[simp] theorem ev_att (T : Tb) (a : E) (f : Str) (env : Env) : ev T (.att a f) env = ((ev T a env).bind fun x => fldD T.at_ f x) := by first | exact id rfl | simp only [ev]
@[simp] theorem ev_comp (T : Tb) (elt : E) (tg : Tg) (it cond : E) (own : List Nat) (env : Env) : ev T (.comp elt tg it cond own) env = ((evI T it env).bind fun ds =>
      (compL (fun env' => (evC T cond env').bind fun k => if k = true then (ev T elt env').bind fun d => .ok (some d) else .ok none) tg (wipeE (hideO env) own) ds).bind fun rs =>
        if okLen rs.length = true then .ok (.lst rs) else .bad) := by first | exact id rfl | simp only [ev]
@[simp] theorem ev_oix (T : Tb) (i : Nat) (b : E) (env : Env) : ev T (.oix i b) env = ((getL env i).bind fun xs => (ev T b env).bind fun y => ixD (.lst xs) y) := by first | exact id rfl | simp only [ev]
@[simp] theorem ev_olen (T : Tb) (i : Nat) (env : Env) : ev T (.olen i) env = ((getL env i).bind fun xs => .ok (.int xs.length)) := by first | exact id rfl | simp only [ev]
@[simp] theorem evT_and (T : Tb) (a b : E) (env : Env) : evT T (.and a b) env = ((evT T a env).bind fun k => if k = true then evT T b env else .ok false) := by first | exact id rfl | simp only [evT]
@[simp] theorem evT_or (T : Tb) (a b : E) (env : Env) : evT T (.or a b) env = ((evT T a env).bind fun k => if k = true then .ok true else evT T b env) := by first | exact id rfl | simp only [evT]
@[simp] theorem evT_not (T : Tb) (a : E) (env : Env) : evT T (.not a) env = ((evT T a env).bind fun k => .ok (!k)) := by first | exact id rfl | simp only [evT]
@[simp] theorem evT_bl (T : Tb) (b : Bool) (env : Env) : evT T (.bl b) env = (.ok b) := by first | exact id rfl | simp only [evT]
@[simp] theorem evT_int (T : Tb) (i : Int) (env : Env) : evT T (.int i) env = (.ok (i != 0)) := by first | exact id rfl | simp only [evT]
@[simp] theorem evT_var (T : Tb) (i : Nat) (env : Env) : evT T (.var i) env = ((getV env i).bind truD) := by first | exact id rfl | simp only [evT]
@[simp] theorem evT_cmp (T : Tb) (op : COp) (a b : E) (env : Env) : evT T (.cmp op a b) env = ((ev T a env).bind fun x => (ev T b env).bind fun y => asB (cop op x y)) := by first | exact id rfl | simp only [evT]
@[simp] theorem evT_isN (T : Tb) (a : E) (ng : Bool) (env : Env) : evT T (.isN a ng) env = ((ev T a env).bind fun x => .ok (if ng then !isNon x else isNon x)) := by first | exact id rfl | simp only [evT]
@[simp] theorem evT_chain (T : Tb) (op op' : COp) (a b c : E) (env : Env) : evT T (.chain op op' a b c) env = ((ev T a env).bind fun x => (ev T b env).bind fun y => (asB (cop op x y)).bind fun k =>
      if k = true then (ev T c env).bind fun z => asB (cop op' y z) else .ok false) := by first | exact id rfl | simp only [evT]
@[simp] theorem evT_ix (T : Tb) (a b : E) (env : Env) : evT T (.ix a b) env = (((ev T a env).bind fun x => (ev T b env).bind fun y => ixD x y).bind truD) := by first | exact id rfl | simp only [evT]
@[simp] theorem evT_call (T : Tb) (j : Nat) (es : E) (env : Env) : evT T (.call j es) env = (((evs T es env).bind fun ds => match T.fn[j]? with
    | some (_, F) => F ds
    | none => .bad).bind truD) := by first | exact id rfl | simp only [evT]
@[simp] theorem evT_bi (T : Tb) (b : Bi) (es : E) (env : Env) : evT T (.bi b es) env = (((evs T es env).bind fun ds => biF b ds).bind truD) := by first | exact id rfl | simp only [evT]
@[simp] theorem evT_isi (T : Tb) (a : E) (t : Ty) (env : Env) : evT T (.isi a t) env = ((ev T a env).bind fun x => isiB t x) := by first | exact id rfl | simp only [evT]
@[simp] theorem evT_att (T : Tb) (a : E) (f : Str) (env : Env) : evT T (.att a f) env = (((ev T a env).bind fun x => fldD T.at_ f x).bind truD) := by first | exact id rfl | simp only [evT]
@[simp] theorem evs_nil (T : Tb)  (env : Env) : evs T .nil env = (.ok []) := by first | exact id rfl | simp only [evs]
@[simp] theorem evs_cons (T : Tb) (a es : E) (env : Env) : evs T (.cons a es) env = ((ev T a env).bind fun d => (evs T es env).bind fun ds => .ok (d :: ds)) := by first | exact id rfl | simp only [evs]
@[simp] theorem evP_nil (T : Tb)  (env : Env) : evP T .nil env = (.ok none) := by first | exact id rfl | simp only [evP]
@[simp] theorem evP_cons (T : Tb) (a : E) (env : Env) : evP T (.cons a .nil) env = ((ev T a env).bind partD) := by first | exact id rfl | simp only [evP]
@[simp] theorem evC_nil (T : Tb)  (env : Env) : evC T .nil env = (.ok true) := by first | exact id rfl | simp only [evC]
@[simp] theorem evC_cons (T : Tb) (a : E) (env : Env) : evC T (.cons a .nil) env = (evT T a env) := by first | exact id rfl | simp only [evC]
@[simp] theorem evI_rng1 (T : Tb) (a : E) (env : Env) : evI T (.rng1 a) env = ((ev T a env).bind fun x => match x with
    | .int j => if okRng j = true then .ok (rngD 0 j) else .bad
    | _ => .bad) := by first | exact id rfl | simp only [evI]
@[simp] theorem evI_rng2 (T : Tb) (a b : E) (env : Env) : evI T (.rng2 a b) env = ((ev T a env).bind fun x => (ev T b env).bind fun y => match x, y with
    | .int i, .int j => if (okRng i && okRng j) = true then .ok (rngD i j) else .bad
    | _, _ => .bad) := by first | exact id rfl | simp only [evI]
@[simp] theorem evI_enum (T : Tb) (a : E) (env : Env) : evI T (.enum a) env = ((ev T a env).bind fun x => match x with
    | .lst xs => .ok (enumD xs)
    | _ => .bad) := by first | exact id rfl | simp only [evI]
@[simp] theorem evI_zip (T : Tb) (a b : E) (env : Env) : evI T (.zip a b) env = ((ev T a env).bind fun x => (ev T b env).bind fun y => match x, y with
    | .lst xs, .lst ys => .ok (zipD xs ys)
    | _, _ => .bad) := by first | exact id rfl | simp only [evI]
@[simp] theorem evI_cons (T : Tb) (a : E) (env : Env) : evI T (.cons a .nil) env = ((ev T a env).bind itemsD) := by first | exact id rfl | simp only [evI]
@[simp] theorem ex_nil (T : Tb)  (env : Env) : ex T .nil env = (.nx env) := by first | exact id rfl | simp only [ex]
@[simp] theorem ex_cons (T : Tb) (s r : S) (env : Env) : ex T (.cons s r) env = ((ex T s env).andThen (ex T r)) := by first | exact id rfl | simp only [ex]
@[simp] theorem ex_pass (T : Tb)  (env : Env) : ex T .pass env = (.nx env) := by first | exact id rfl | simp only [ex]
@[simp] theorem ex_brk (T : Tb)  (env : Env) : ex T .brk env = (.bk env) := by first | exact id rfl | simp only [ex]
@[simp] theorem ex_ct (T : Tb)  (env : Env) : ex T .ct env = (.ct env) := by first | exact id rfl | simp only [ex]
@[simp] theorem ex_retN (T : Tb)  (env : Env) : ex T .retN env = (.rt .non) := by first | exact id rfl | simp only [ex]
@[simp] theorem ex_ret (T : Tb) (e : E) (env : Env) : ex T (.ret e) env = (Out.of env .rt (ev T e env)) := by first | exact id rfl | simp only [ex]
@[simp] theorem ex_asg (T : Tb) (t : Tg) (e : E) (env : Env) : ex T (.asg t e) env = (Out.of env (fun d => match setT t d env with | some env' => .nx env' | none => .bad) (ev T e env)) := by first | exact id rfl | simp only [ex]
@[simp] theorem ex_asgO (T : Tb) (i : Nat) (e : E) (env : Env) : ex T (.asgO i e) env = (Out.of env (fun d => match d with | .lst xs => .nx (env.set i (some (.o xs))) | _ => .bad) (ev T e env)) := by first | exact id rfl | simp only [ex]
@[simp] theorem ex_par2 (T : Tb) (i j : Nat) (a b : E) (env : Env) : ex T (.par2 i j a b) env = (Out.of env (fun x => Out.of env (fun y => .nx ((env.set i (some (.v x))).set j (some (.v y)))) (ev T b env)) (ev T a env)) := by first | exact id rfl | simp only [ex]
@[simp] theorem ex_asgIx (T : Tb) (i : Nat) (a e : E) (env : Env) : ex T (.asgIx i a e) env = (Out.of env (fun x => Out.of env (fun xs => Out.of env (fun k => Out.of env (fun ys => .nx (env.set i (some (.o ys)))) (setD xs k x)) (ev T a env)) (getO env i)) (ev T e env)) := by first | exact id rfl | simp only [ex]
@[simp] theorem ex_app (T : Tb) (i : Nat) (e : E) (env : Env) : ex T (.app i e) env = (Out.of env (fun xs => Out.of env (fun x => if xs.length < 16777216 then .nx (env.set i (some (.o (xs ++ [x])))) else .bad) (ev T e env)) (getO env i)) := by first | exact id rfl | simp only [ex]
@[simp] theorem ex_pop (T : Tb) (i : Nat) (env : Env) : ex T (.pop i) env = (Out.of env (fun xs => if xs ≠ [] then .nx (env.set i (some (.o xs.dropLast))) else .bad) (getO env i)) := by first | exact id rfl | simp only [ex]
@[simp] theorem ex_expr (T : Tb) (e : E) (env : Env) : ex T (.expr e) env = (Out.of env (fun _ => .nx env) (ev T e env)) := by first | exact id rfl | simp only [ex]
@[simp] theorem ex_ife (T : Tb) (c : E) (a b : S) (env : Env) : ex T (.ife c a b) env = (Out.of env (fun k => if k = true then ex T a env else ex T b env) (evT T c env)) := by first | exact id rfl | simp only [ex]
@[simp] theorem ex_frz (T : Tb) (is : List Nat) (s : S) (env : Env) : ex T (.frz is s) env = (ex T s (frzE env is)) := by first | exact id rfl | simp only [ex]
theorem ex_for (T : Tb) (t : Tg) (it : E) (body : S) (env : Env) : ex T (.for_ t it body) env = Out.of env (fun ds => forL (fun d e => match setT t d e with | some e' => ex T body e' | none => .bad) ds env) (evI T it env) := by first | rfl | (simp only [ex]; rfl) | (rw [ex]; rfl)
theorem ex_while (T : Tb) (c : E) (body : S) (env : Env) : ex T (.while_ c body) env = whileS (evT T c) (ex T body) env := by simp only [ex]
@[simp] theorem getV_zero (d : D) (env : Env) : getV (some (.v d) :: env) 0 = .ok d := id rfl
@[simp] theorem getV_succ (s : Option Sl) (env : Env) (n : Nat) : getV (s :: env) (n + 1) = getV env n := id rfl
@[simp] theorem getO_zero (d : List D) (env : Env) : getO (some (.o d) :: env) 0 = .ok d := id rfl
@[simp] theorem getO_succ (s : Option Sl) (env : Env) (n : Nat) : getO (s :: env) (n + 1) = getO env n := id rfl
@[simp] theorem getL_zeroO (d : List D) (env : Env) : getL (some (.o d) :: env) 0 = .ok d := id rfl
@[simp] theorem getL_zeroV (d : List D) (env : Env) : getL (some (.v (.lst d)) :: env) 0 = .ok d := id rfl
@[simp] theorem getL_succ (s : Option Sl) (env : Env) (n : Nat) : getL (s :: env) (n + 1) = getL env n := id rfl
@[simp] theorem setT_name (i : Nat) (d : D) (env : Env) : setT (.name i) d env = some (env.set i (some (.v d))) := by simp only [setT]
@[simp] theorem setT_tup (r : Tg) (ds : List D) (env : Env) : setT (.tup r) (.tup ds) env = setT r (.tup ds) env := by simp only [setT]
@[simp] theorem setT_nil (env : Env) : setT .nil (.tup []) env = some env := by simp only [setT]
@[simp] theorem setT_cons (a r : Tg) (d : D) (ds : List D) (env : Env) : setT (.cons a r) (.tup (d :: ds)) env = (setT a d env).bind fun env' => setT r (.tup ds) env' := by simp only [setT]
@[simp] theorem andThen_nx (env : Env) (k : Env → Out) : (Out.nx env).andThen k = k env := id rfl
@[simp] theorem andThen_rt (d : D) (k : Env → Out) : (Out.rt d).andThen k = .rt d := id rfl
@[simp] theorem andThen_bk (env : Env) (k : Env → Out) : (Out.bk env).andThen k = .bk env := id rfl
@[simp] theorem andThen_ct (env : Env) (k : Env → Out) : (Out.ct env).andThen k = .ct env := id rfl
@[simp] theorem andThen_err (x : Exn) (env : Env) (k : Env → Out) : (Out.err x env).andThen k = .err x env := id rfl
@[simp] theorem andThen_bad (k : Env → Out) : Out.bad.andThen k = .bad := id rfl
@[simp] theorem forL_nil (f : D → Env → Out) (env : Env) : forL f [] env = .nx env := id rfl
theorem forL_cons (f : D → Env → Out) (d : D) (ds : List D) (env : Env) : forL f (d :: ds) env = (match f d env with | .nx e => forL f ds e | .ct e => forL f ds e | .bk e => .nx e | o => o) := by first | rfl | (rw [forL]; rfl) | (simp only [forL]; cases f d env <;> rfl)
@[simp] theorem wipeE_nil (env : Env) : wipeE env [] = env := id rfl
@[simp] theorem wipeE_cons (env : Env) (v : Nat) (vs : List Nat) : wipeE env (v :: vs) = (wipeE env vs).set v none := id rfl
@[simp] theorem hide_nil : hideO [] = [] := id rfl
def hide1 : Option Sl → Option Sl
  | some (.v d) => some (.v d)
  | _ => none
@[simp] theorem hide_cons (x : Option Sl) (env : Env) : hideO (x :: env) = hide1 x :: hideO env := by
  show List.map _ _ = _
  rw [List.map_cons]
  congr 1
@[simp] theorem hide_v (d : D) : hide1 (some (.v d)) = some (.v d) := id rfl
@[simp] theorem hide_o (d : List D) : hide1 (some (.o d)) = none := id rfl
@[simp] theorem hide_n : hide1 none = none := id rfl
@[simp] theorem frzE_nil (env : Env) : frzE env [] = env := id rfl
@[simp] theorem asB_bl (b : Bool) : asB (.ok (.bl b)) = .ok b := id rfl
@[simp] theorem asB_err (x : Exn) : asB (.err x) = .err x := id rfl
@[simp] theorem truD_bl (b : Bool) : truD (.bl b) = .ok b := id rfl
@[simp] theorem truD_non : truD .non = .ok false := id rfl
@[simp] theorem truD_int (i : Int) : truD (.int i) = .ok (i != 0) := id rfl
@[simp] theorem truD_lst (xs : List D) : truD (.lst xs) = .ok (!xs.isEmpty) := id rfl
@[simp] theorem truD_tup (xs : List D) : truD (.tup xs) = .ok (!xs.isEmpty) := id rfl
@[simp] theorem bop_add (i j : Int) : bop .add (.int i) (.int j) = .ok (.int (i + j)) := id rfl
@[simp] theorem bop_sub (i j : Int) : bop .sub (.int i) (.int j) = .ok (.int (i - j)) := id rfl
theorem bop_mul {i j : Int} (h : okMul i j = true) : bop .mul (.int i) (.int j) = .ok (.int (i * j)) := by simp [bop, h]
theorem bop_fdiv {i j : Int} (h : okDiv j = true) : bop .fdiv (.int i) (.int j) = .ok (.int (i.fdiv j)) := by simp [bop, h]
theorem bop_mod {i j : Int} (h : j ≠ 0) : bop .mod (.int i) (.int j) = .ok (.int (i.fmod j)) := by simp [bop, h]
theorem bop_pow {i j : Int} (h : okPow i j = true) : bop .pow (.int i) (.int j) = .ok (.int (i ^ j.toNat)) := by simp [bop, h]
theorem bop_cat {xs ys : List D} (h : xs.length + ys.length ≤ 16777216) : bop .add (.lst xs) (.lst ys) = .ok (.lst (xs ++ ys)) := by simp [bop, okLen, h]
@[simp] theorem cop_lt (i j : Int) : cop .lt (.int i) (.int j) = .ok (.bl (decide (i < j))) := id rfl
@[simp] theorem cop_le (i j : Int) : cop .le (.int i) (.int j) = .ok (.bl (decide (i ≤ j))) := id rfl
@[simp] theorem cop_gt (i j : Int) : cop .gt (.int i) (.int j) = .ok (.bl (decide (j < i))) := id rfl
@[simp] theorem cop_ge (i j : Int) : cop .ge (.int i) (.int j) = .ok (.bl (decide (j ≤ i))) := id rfl
theorem cop_eq {d e : D} {b : Bool} (h : eqD d e = .ok b) : cop .eq d e = .ok (.bl b) := by simp [cop, h]
theorem cop_ne' {d e : D} {b : Bool} (h : eqD d e = .ok b) : cop .ne d e = .ok (.bl (!b)) := by simp [cop, h]
@[simp] theorem isNon_non : isNon .non = true := id rfl
@[simp] theorem isNon_bl (b : Bool) : isNon (.bl b) = false := id rfl
@[simp] theorem isNon_int (b : Int) : isNon (.int b) = false := id rfl
@[simp] theorem isNon_str (b : Str) : isNon (.str b) = false := id rfl
@[simp] theorem isNon_tup (b : List D) : isNon (.tup b) = false := id rfl
@[simp] theorem isNon_lst (b : List D) : isNon (.lst b) = false := id rfl
@[simp] theorem isNon_obj (c : Str) (b : List (Str × D)) : isNon (.obj c b) = false := id rfl
@[simp] theorem itemsD_lst (xs : List D) : itemsD (.lst xs) = .ok xs := id rfl
@[simp] theorem itemsD_tup (xs : List D) : itemsD (.tup xs) = .ok xs := id rfl
@[simp] theorem bi_abs (i : Int) : biF .abs [.int i] = .ok (.int (if i < 0 then -i else i)) := id rfl
@[simp] theorem bi_int (i : Int) : biF .int [.int i] = .ok (.int i) := id rfl
@[simp] theorem bi_lenL (xs : List D) : biF .len [.lst xs] = .ok (.int xs.length) := id rfl
@[simp] theorem bi_lenT (xs : List D) : biF .len [.tup xs] = .ok (.int xs.length) := id rfl
@[simp] theorem bi_listL (xs : List D) : biF .list [.lst xs] = .ok (.lst xs) := id rfl
@[simp] theorem bi_listT (xs : List D) : biF .list [.tup xs] = .ok (.lst xs) := id rfl
@[simp] theorem bi_tupL (xs : List D) : biF .tuple [.lst xs] = .ok (.tup xs) := id rfl
@[simp] theorem bi_tupT (xs : List D) : biF .tuple [.tup xs] = .ok (.tup xs) := id rfl
@[simp] theorem bi_min (i j : Int) : biF .min2 [.int i, .int j] = .ok (.int (if j < i then j else i)) := id rfl
@[simp] theorem bi_max (i j : Int) : biF .max2 [.int i, .int j] = .ok (.int (if j > i then j else i)) := id rfl
@[simp] theorem bi_gcd (i j : Int) : biF .gcd [.int i, .int j] = .ok (.int (Nat.gcd i.natAbs j.natAbs : Nat)) := id rfl
@[simp] theorem okLen_small {n : Nat} (h : n ≤ 16777216) : okLen n = true := decide_eq_true h
/-- an item at a place that is not negative -/
theorem ixD_nat {xs : List D} {i : Nat} {d : D} (h : xs[i]? = some d) : ixD (.lst xs) (.int (i : Int)) = .ok d := by
  have hl := (List.getElem?_eq_some_iff.mp h).1
  have e : L2.ixN xs.length (i : Int) = some i := by unfold L2.ixN; rw [if_pos (by omega), if_pos (by omega)]; simp
  simp [ixD, L2.atI, e, h, ofO]
theorem ixD_natT {xs : List D} {i : Nat} {d : D} (h : xs[i]? = some d) : ixD (.tup xs) (.int (i : Int)) = .ok d := by
  have hl := (List.getElem?_eq_some_iff.mp h).1
  have e : L2.ixN xs.length (i : Int) = some i := by unfold L2.ixN; rw [if_pos (by omega), if_pos (by omega)]; simp
  simp [ixD, L2.atI, e, h, ofO]
@[simp] theorem ixT0 (a : D) (xs : List D) : ixD (.tup (a :: xs)) (.int 0) = .ok a := ixD_natT (i := 0) rfl
@[simp] theorem ixT1 (a b : D) (xs : List D) : ixD (.tup (a :: b :: xs)) (.int 1) = .ok b := ixD_natT (i := 1) rfl
@[simp] theorem ixT2 (a b c : D) (xs : List D) : ixD (.tup (a :: b :: c :: xs)) (.int 2) = .ok c := ixD_natT (i := 2) rfl
@[simp] theorem ixT3 (a b c d : D) (xs : List D) : ixD (.tup (a :: b :: c :: d :: xs)) (.int 3) = .ok d := ixD_natT (i := 3) rfl
@[simp] theorem ixT4 (a b c d e : D) (xs : List D) : ixD (.tup (a :: b :: c :: d :: e :: xs)) (.int 4) = .ok e := ixD_natT (i := 4) rfl
@[simp] theorem ixL0 (a : D) (xs : List D) : ixD (.lst (a :: xs)) (.int 0) = .ok a := ixD_nat (i := 0) rfl
@[simp] theorem ixL1 (a b : D) (xs : List D) : ixD (.lst (a :: b :: xs)) (.int 1) = .ok b := ixD_nat (i := 1) rfl
@[simp] theorem ixL2 (a b c : D) (xs : List D) : ixD (.lst (a :: b :: c :: xs)) (.int 2) = .ok c := ixD_nat (i := 2) rfl
@[simp] theorem ixL3 (a b c d : D) (xs : List D) : ixD (.lst (a :: b :: c :: d :: xs)) (.int 3) = .ok d := ixD_nat (i := 3) rfl
/-! ### sizes -/
theorem okMul_of {a b : Int} {m n : Nat} (ha : a.natAbs < 2 ^ m) (hb : b.natAbs < 2 ^ n) (h : m + n ≤ 100000000) (h0 : 0 < m := by decide) (h1 : 0 < n := by decide) : okMul a b = true := by
  have x := PySem.Flt.log2_lt_of h0 ha
  have y := PySem.Flt.log2_lt_of h1 hb
  unfold okMul
  exact decide_eq_true (by omega)
theorem okDiv_of {b : Int} {n : Nat} (hb : b.natAbs < 2 ^ n) (h : b ≠ 0) (hn : n ≤ 9000) (h1 : 0 < n := by decide) : okDiv b = true := by
  have y := PySem.Flt.log2_lt_of h1 hb
  unfold okDiv
  simp only [Bool.and_eq_true, decide_eq_true_eq]
  exact ⟨h, by omega⟩
/-! ### a def called -/
theorem runFn_eq {np nn : Nat} {T : Tb} {B : S} {ds : List D} (h : ds.length = np) : runFn np nn T B ds = (match ex T B (ds.map (fun d => some (.v d)) ++ List.replicate (nn - np) none) with
    | .nx _ => .ok .non
    | .rt d => .ok d
    | .err x _ => .err x
    | _ => .bad) := by
  first
    | (unfold runFn; rw [if_pos h]; done)
    | (unfold runFn; rw [if_pos h]; cases ex T B (ds.map (fun d => some (.v d)) ++ List.replicate (nn - np) none) <;> rfl)
end Rf
/-! # Rf16: equality of data, loops over data -/
namespace Rf
open PySem

/-- data that == reads, of depth at most n -/
def okN : Nat → D → Bool
  | _, .non => true
  | _, .bl _ => true
  | _, .int _ => true
  | _, .str s => PyData.strOk s
  | n + 1, .tup xs => xs.all (okN n)
  | n + 1, .lst xs => xs.all (okN n)
  | _, _ => false
theorem pys_of {n : Nat} (ih : ∀ d, okN n d = true → ∃ p, d.py = some p ∧ p.canLay0 = true ∧ p.depth ≤ n) : ∀ xs : List D, xs.all (okN n) = true → ∃ ps, pys xs = some ps ∧ PyData.canLayAll0 ps = true ∧ PyData.depthAll ps ≤ n
  | [], _ => ⟨[], by simp [pys], by simp [PyData.canLayAll0], by simp [PyData.depthAll]⟩
  | x :: xs, h => by
    simp only [List.all_cons, Bool.and_eq_true] at h
    obtain ⟨p, h1, h2, h3⟩ := ih x h.1
    obtain ⟨ps, k1, k2, k3⟩ := pys_of ih xs h.2
    exact ⟨p :: ps, by simp [pys, h1, k1], by simp [PyData.canLayAll0, h2, k2], by simp only [PyData.depthAll]; omega⟩
theorem okN_py : ∀ (n : Nat) (d : D), okN n d = true → ∃ p, d.py = some p ∧ p.canLay0 = true ∧ p.depth ≤ n
  | n, .non, _ => ⟨.none, by simp [D.py], by simp [PyData.canLay0], by simp [PyData.depth]⟩
  | n, .bl b, _ => ⟨.bool b, by simp [D.py], by simp [PyData.canLay0], by simp [PyData.depth]⟩
  | n, .int b, _ => ⟨.int b, by simp [D.py], by simp [PyData.canLay0], by simp [PyData.depth]⟩
  | n, .str b, h => ⟨.str b, by simp [D.py], by cases n <;> simpa [PyData.canLay0, okN] using h, by simp [PyData.depth]⟩
  | n + 1, .tup xs, h => by
    obtain ⟨ps, k1, k2, k3⟩ := pys_of (okN_py n) xs (by simpa [okN] using h)
    exact ⟨.tuple ps, by simp [D.py, k1], by simpa [PyData.canLay0] using k2, by simp only [PyData.depth]; omega⟩
  | n + 1, .lst xs, h => by
    obtain ⟨ps, k1, k2, k3⟩ := pys_of (okN_py n) xs (by simpa [okN] using h)
    exact ⟨.list ps, by simp [D.py, k1], by simpa [PyData.canLay0] using k2, by simp only [PyData.depth]; omega⟩
  | 0, .tup _, h => by simp [okN] at h
  | 0, .lst _, h => by simp [okN] at h
  | 0, .obj _ _, h => by simp [okN] at h
  | 0, .exc _ _, h => by simp [okN] at h
  | n + 1, .obj _ _, h => by simp [okN] at h
  | n + 1, .exc _ _, h => by simp [okN] at h
/-- no int against a bool -/
def nice : Nat → D → D → Bool
  | _, .bl _, .int _ => false
  | _, .int _, .bl _ => false
  | 0, .tup _, .tup _ => false
  | 0, .lst _, .lst _ => false
  | n + 1, .tup xs, .tup ys => (xs.zip ys).all fun p => nice n p.1 p.2
  | n + 1, .lst xs, .lst ys => (xs.zip ys).all fun p => nice n p.1 p.2
  | _, _, _ => true
open Classical in
theorem eqvAll_of {n : Nat} (ih : ∀ d e p q, nice n d e = true → d.py = some p → e.py = some q → PyData.eqv p q = decide (d = e)) : ∀ (xs ys : List D) (ps qs : List PyData), ((xs.zip ys).all fun p => nice n p.1 p.2) = true → pys xs = some ps → pys ys = some qs → PyData.eqvAll ps qs = decide (xs = ys)
  | [], [], ps, qs, _, h, k => by simp [pys] at h k; subst h; subst k; simp [PyData.eqvAll]
  | [], y :: ys, ps, qs, _, h, k => by
    simp only [pys] at h k
    split at k
    · injection h with h; injection k with k; subst h; subst k; simp [PyData.eqvAll]
    · cases k
  | x :: xs, [], ps, qs, _, h, k => by
    simp only [pys] at h k
    split at h
    · injection h with h; injection k with k; subst h; subst k; simp [PyData.eqvAll]
    · cases h
  | x :: xs, y :: ys, ps, qs, hn, h, k => by
    simp only [List.zip_cons_cons, List.all_cons, Bool.and_eq_true] at hn
    simp only [pys] at h k
    split at h
    · split at k
      · injection h with h; injection k with k; subst h; subst k
        rename_i h1 h2 _ _ _ _ k1 k2
        simp [PyData.eqvAll, ih x y _ _ hn.1 h1 k1, eqvAll_of ih xs ys _ _ hn.2 h2 k2]
      · cases k
    · cases h
open Classical in
theorem eqv_of : ∀ (n : Nat) (d e : D) (p q : PyData), nice n d e = true → d.py = some p → e.py = some q → PyData.eqv p q = decide (d = e)
  | n, d, e, p, q, hn, hp, hq => by
    cases d <;> cases e <;> simp only [D.py, Option.map_eq_some_iff, Option.some.injEq, reduceCtorEq] at hp hq
    all_goals first
      | (subst hp; subst hq; simp [PyData.eqv]; done)
      | (subst hp; subst hq; cases n <;> simp [nice] at hn; done)
      | (subst hp; obtain ⟨qs, k1, k2⟩ := hq; subst k2; simp [PyData.eqv]; done)
      | (subst hq; obtain ⟨qs, k1, k2⟩ := hp; subst k2; simp [PyData.eqv]; done)
      | (obtain ⟨ps, h1, h2⟩ := hp; obtain ⟨qs, k1, k2⟩ := hq; subst h2; subst k2
         cases n with
         | zero => simp [nice] at hn
         | succ n => simp only [PyData.eqv, D.tup.injEq, D.lst.injEq]; exact eqvAll_of (eqv_of n) _ _ _ _ (by simpa [nice] using hn) h1 k1)
      | (obtain ⟨ps, h1, h2⟩ := hp; obtain ⟨qs, k1, k2⟩ := hq; subst h2; subst k2; simp [PyData.eqv]; done)
      | (rename_i a b; subst hp; subst hq; by_cases h : a = b
         · subst h; simp [PyData.eqv]
         · simp [PyData.eqv, h])
open Classical in
theorem eqD_of {d e : D} {n : Nat} (hd : okN n d = true) (he : okN n e = true) (hn : nice n d e = true) (h : n ≤ 64 := by decide) : eqD d e = .ok (decide (d = e)) := by
  obtain ⟨p, h1, h2, h3⟩ := okN_py n d hd
  obtain ⟨q, k1, k2, k3⟩ := okN_py n e he
  have a : SeqAt.shaped p = true := by simp only [SeqAt.shaped, h2, Bool.true_and, decide_eq_true_eq]; omega
  have b : SeqAt.shaped q = true := by simp only [SeqAt.shaped, k2, Bool.true_and, decide_eq_true_eq]; omega
  simp only [eqD, h1, k1, eqP, a, b, Bool.and_self, if_true, eqv_of n d e p q hn h1 k1]
@[simp] theorem eqD_int (i j : Int) : eqD (.int i) (.int j) = .ok (decide (i = j)) := by
  rw [eqD_of (n := 1) rfl rfl rfl]; simp
@[simp] theorem eqD_bl (i j : Bool) : eqD (.bl i) (.bl j) = .ok (decide (i = j)) := by
  rw [eqD_of (n := 1) rfl rfl rfl]; simp
@[simp] theorem cop_eq_int (i j : Int) : cop .eq (.int i) (.int j) = .ok (.bl (decide (i = j))) := by simp [cop]
@[simp] theorem cop_ne_int (i j : Int) : cop .ne (.int i) (.int j) = .ok (.bl (!decide (i = j))) := by simp [cop]
@[simp] theorem cop_ne_bl (i j : Bool) : cop .ne (.bl i) (.bl j) = .ok (.bl (!decide (i = j))) := by simp [cop]
@[simp] theorem cop_eq_bl (i j : Bool) : cop .eq (.bl i) (.bl j) = .ok (.bl (decide (i = j))) := by simp [cop]
theorem ok_ints (l : List Int) : okN 1 (.lst (l.map D.int)) = true := by simp [okN]
theorem nice_ints (l m : List Int) : nice 1 (.lst (l.map D.int)) (.lst (m.map D.int)) = true := by
  simp only [nice, List.all_eq_true]
  rintro ⟨x, y⟩ h
  obtain ⟨h1, h2⟩ := List.of_mem_zip h
  obtain ⟨a, _, rfl⟩ := List.mem_map.mp h1
  obtain ⟨b, _, rfl⟩ := List.mem_map.mp h2
  rfl
theorem intInj : Function.Injective D.int := fun a b h => by injection h
theorem eqD_ints (l m : List Int) : eqD (.lst (l.map D.int)) (.lst (m.map D.int)) = .ok (decide (l = m)) := by
  rw [eqD_of (ok_ints l) (ok_ints m) (nice_ints l m)]
  congr 1
  exact decide_eq_decide.mpr ⟨fun h => by injection h with h; exact (List.map_inj_right (fun a b h => by injection h)).mp h, fun h => by rw [h]⟩
open Classical in
theorem memD_of {x : D} : ∀ {xs : List D}, (∀ d ∈ xs, eqD d x = .ok (decide (d = x))) → memD x xs = .ok (decide (x ∈ xs))
  | [], _ => by simp [memD]
  | d :: ds, h => by
    simp only [memD, h d (List.mem_cons_self ..), memD_of fun d hd => h d (List.mem_cons_of_mem _ hd), R.bind_ok, R.ok.injEq]
    by_cases e : d = x
    · subst e; simp
    · have : ¬ x = d := fun k => e k.symm
      simp [e, this]
theorem mem_ints (i : Int) (l : List Int) : memD (.int i) (l.map D.int) = .ok (decide (i ∈ l)) := by
  rw [memD_of (by intro d hd; obtain ⟨a, _, rfl⟩ := List.mem_map.mp hd; simp)]
  congr 1
  exact decide_eq_decide.mpr ⟨fun h => by obtain ⟨a, ha, h⟩ := List.mem_map.mp h; injection h with h; exact h ▸ ha, fun h => List.mem_map_of_mem h⟩
/-! ### ranges -/
theorem rngD_zero (n : Nat) : rngD 0 (n : Int) = (List.range n).map fun k : Nat => D.int (k : Int) := by
  unfold rngD
  rw [show ((n : Int) - 0).toNat = n by omega]
  exact List.map_congr_left fun k _ => by rw [Int.zero_add]
theorem rngD_from (m n : Nat) : rngD (m : Int) (n : Int) = (List.range' m (n - m)).map fun k : Nat => D.int (k : Int) := by
  unfold rngD
  rw [show ((n : Int) - m).toNat = n - m by omega, List.range'_eq_map_range, List.map_map]
  exact List.map_congr_left fun k _ => by simp
theorem okRng_nat {n : Nat} (h : n ≤ 1000000000) : okRng (n : Int) = true := by
  unfold okRng
  simp only [Bool.and_eq_true, decide_eq_true_eq]
  omega
theorem evI_rng1_nat {T : Tb} {a : E} {env : Env} {n : Nat} (h : ev T a env = .ok (.int (n : Int))) (hn : n ≤ 1000000000) : evI T (.rng1 a) env = .ok ((List.range n).map fun k : Nat => D.int (k : Int)) := by
  rw [evI_rng1, h, R.bind_ok]
  show (if okRng (n : Int) = true then _ else _) = _
  rw [if_pos (okRng_nat hn), rngD_zero]
theorem evI_rng2_nat {T : Tb} {a b : E} {env : Env} {m n : Nat} (h : ev T a env = .ok (.int (m : Int))) (k : ev T b env = .ok (.int (n : Int))) (hm : m ≤ 1000000000) (hn : n ≤ 1000000000) : evI T (.rng2 a b) env = .ok ((List.range' m (n - m)).map fun k : Nat => D.int (k : Int)) := by
  rw [evI_rng2, h, R.bind_ok, k, R.bind_ok]
  show (if (okRng (m : Int) && okRng (n : Int)) = true then _ else _) = _
  rw [if_pos (by rw [okRng_nat hm, okRng_nat hn]; rfl), rngD_from]
/-! ### loops -/
section
variable {β : Type} (enc : β → D)
theorem compL_map {f : Env → R (Option D)} {tg : Tg} {env : Env} (p : β → Bool) (r : β → D) : ∀ (l : List β), (∀ b ∈ l, ∃ env', setT tg (enc b) env = some env' ∧ f env' = .ok (if p b = true then some (r b) else none)) → compL f tg env (l.map enc) = .ok ((l.filter p).map r)
  | [], _ => by simp [compL]
  | b :: l, h => by
    obtain ⟨env', h1, h2⟩ := h b (List.mem_cons_self ..)
    have ih := compL_map p r l fun b hb => h b (List.mem_cons_of_mem _ hb)
    by_cases hp : p b = true
    · simp [compL, h1, h2, ih, hp]
    · simp [compL, h1, h2, ih, hp]
theorem ev_comp_map {T : Tb} {elt it cond : E} {tg : Tg} {own : List Nat} {env : Env} (l : List β) (p : β → Bool) (r : β → D) (hI : evI T it env = .ok (l.map enc)) (hb : ∀ b ∈ l, ∃ env', setT tg (enc b) (wipeE (hideO env) own) = some env' ∧ evC T cond env' = .ok (p b) ∧ (p b = true → ev T elt env' = .ok (r b))) (hn : l.length ≤ 16777216) : ev T (.comp elt tg it cond own) env = .ok (.lst ((l.filter p).map r)) := by
  rw [ev_comp, hI, R.bind_ok, compL_map enc p r l, R.bind_ok, if_pos]
  · rw [List.length_map]; exact okLen_small (Nat.le_trans (List.length_filter_le _ _) hn)
  · intro b hb'
    obtain ⟨env', h1, h2, h3⟩ := hb b hb'
    refine ⟨env', h1, ?_⟩
    rw [h2, R.bind_ok]
    by_cases hp : p b = true
    · rw [if_pos hp, if_pos hp, h3 hp, R.bind_ok]
    · rw [if_neg hp, if_neg hp]
theorem forL_inv {f : D → Env → Out} (I : List β → Env → Prop) : ∀ (l pre : List β) (env : Env), I pre env → (∀ a b c env, l = a ++ b :: c → I (pre ++ a) env → ∃ env', (f (enc b) env = .nx env' ∨ f (enc b) env = .ct env') ∧ I (pre ++ a ++ [b]) env') → ∃ env', forL f (l.map enc) env = .nx env' ∧ I (pre ++ l) env'
  | [], pre, env, h, _ => ⟨env, rfl, by simpa using h⟩
  | b :: l, pre, env, h, hs => by
    obtain ⟨e1, k1, k2⟩ := hs [] b l env rfl (by simpa using h)
    obtain ⟨e2, k3, k4⟩ := forL_inv I l (pre ++ [b]) e1 (by simpa using k2) fun a b' c env hl hi => by
      obtain ⟨e, x, y⟩ := hs (b :: a) b' c env (by rw [hl]; rfl) (by simpa using hi)
      exact ⟨e, x, by simpa using y⟩
    refine ⟨e2, ?_, by simpa using k4⟩
    rw [List.map_cons, forL_cons]
    rcases k1 with k1 | k1 <;> rw [k1] <;> exact k3
theorem forL_run {f : D → Env → Out} {l : List β} (I : List β → Env → Prop) {env : Env} (h : I [] env) (hs : ∀ a b c env, l = a ++ b :: c → I a env → ∃ env', (f (enc b) env = .nx env' ∨ f (enc b) env = .ct env') ∧ I (a ++ [b]) env') : ∃ env', forL f (l.map enc) env = .nx env' ∧ I l env' :=
  forL_inv enc I l [] env h hs
/-- a loop that looks for an answer -/
theorem forL_find {f : D → Env → Out} (I : Env → Prop) (g : β → Option D) : ∀ (l : List β) (env : Env), I env → (∀ b ∈ l, ∀ env, I env → (∃ d, g b = some d ∧ f (enc b) env = .rt d) ∨ (g b = none ∧ ∃ env', (f (enc b) env = .nx env' ∨ f (enc b) env = .ct env') ∧ I env')) →
    (∃ d, l.findSome? g = some d ∧ forL f (l.map enc) env = .rt d) ∨ (l.findSome? g = none ∧ ∃ env', forL f (l.map enc) env = .nx env' ∧ I env')
  | [], env, h, _ => .inr ⟨rfl, env, rfl, h⟩
  | b :: l, env, h, hs => by
    rcases hs b (List.mem_cons_self ..) env h with ⟨d, h1, h2⟩ | ⟨h1, e1, h2, h3⟩
    · exact .inl ⟨d, by simp [h1], by rw [List.map_cons, forL_cons, h2]⟩
    · have ih := forL_find I g l e1 h3 fun b hb => hs b (List.mem_cons_of_mem _ hb)
      have e : forL f ((b :: l).map enc) env = forL f (l.map enc) e1 := by
        rw [List.map_cons, forL_cons]; rcases h2 with h2 | h2 <;> rw [h2]
      rw [e]
      simpa [h1] using ih
theorem ex_for_run {T : Tb} {t : Tg} {it : E} {body : S} {env : Env} (l : List β) (I : List β → Env → Prop) (hI : evI T it env = .ok (l.map enc)) (h0 : I [] env) (hs : ∀ a b c env, l = a ++ b :: c → I a env → ∃ e1, setT t (enc b) env = some e1 ∧ ∃ env', (ex T body e1 = .nx env' ∨ ex T body e1 = .ct env') ∧ I (a ++ [b]) env') : ∃ env', ex T (.for_ t it body) env = .nx env' ∧ I l env' := by
  obtain ⟨env', h1, h2⟩ := forL_run enc (f := fun d e => match setT t d e with | some e' => ex T body e' | none => .bad) I h0 fun a b c env hl hi => by
    obtain ⟨e1, k1, env', k2, k3⟩ := hs a b c env hl hi
    exact ⟨env', by simp only [k1]; exact k2, k3⟩
  exact ⟨env', by rw [ex_for, hI, Out.of_ok]; exact h1, h2⟩
theorem ex_for_find {T : Tb} {t : Tg} {it : E} {body : S} {env : Env} (l : List β) (I : Env → Prop) (g : β → Option D) (hI : evI T it env = .ok (l.map enc)) (h0 : I env) (hs : ∀ b ∈ l, ∀ env, I env → ∃ e1, setT t (enc b) env = some e1 ∧ ((∃ d, g b = some d ∧ ex T body e1 = .rt d) ∨ (g b = none ∧ ∃ env', (ex T body e1 = .nx env' ∨ ex T body e1 = .ct env') ∧ I env'))) :
    (∃ d, l.findSome? g = some d ∧ ex T (.for_ t it body) env = .rt d) ∨ (l.findSome? g = none ∧ ∃ env', ex T (.for_ t it body) env = .nx env' ∧ I env') := by
  have h := forL_find enc (f := fun d e => match setT t d e with | some e' => ex T body e' | none => .bad) I g l env h0 fun b hb env hi => by
    obtain ⟨e1, k1, k⟩ := hs b hb env hi
    simp only [k1]
    exact k
  rw [ex_for, hI, Out.of_ok]
  exact h
end
end Rf
namespace Pg
open PySem PySem.Spec L2 Rf
def topS (i : Nat) : Stmt := PySem.Challenge.pw_whattwosettle_k88_stretches_that_share_a.main.body.getD i (.Pass ⟨0, 0, 0, 0⟩)
/-! below(a, b): 0 a, 1 b -/
noncomputable def below_T : Tb := {  }
def below_B : S := (.cons (.ret (.cmp .lt (.bin .mul (.ix (.var 0) (.int 0)) (.ix (.var 1) (.int 1))) (.bin .mul (.ix (.var 1) (.int 0)) (.ix (.var 0) (.int 1)))))
    .nil)
noncomputable def below_F : Fn := runFn 2 2 below_T below_B
/-! stretch(low, low_in, high, high_in): 0 low, 1 low_in, 2 high, 3 high_in -/
noncomputable def stretch_T : Tb := { fn := [("below", below_F)] }
@[simp] theorem stretch_fn0 : stretch_T.fn[0]? = some (("below" : Str), below_F) := rfl
def stretch_B : S := (.cons (.ife (.or (.call 0 (.cons (.var 2) (.cons (.var 0) .nil))) (.and (.cmp .eq (.var 0) (.var 2)) (.not (.and (.var 1) (.var 3))))) (.cons (.ret .non)
    .nil) .nil)
    (.cons (.ret (.tup (.cons (.var 0) (.cons (.var 1) (.cons (.var 2) (.cons (.var 3) .nil))))))
    .nil))
noncomputable def stretch_F : Fn := runFn 4 4 stretch_T stretch_B
/-! in_stretch(number, one): 0 number, 1 one -/
noncomputable def in_stretch_T : Tb := { fn := [("below", below_F)] }
@[simp] theorem in_stretch_fn0 : in_stretch_T.fn[0]? = some (("below" : Str), below_F) := rfl
def in_stretch_B : S := (.cons (.ife (.or (.call 0 (.cons (.var 0) (.cons (.ix (.var 1) (.int 0)) .nil))) (.and (.cmp .eq (.var 0) (.ix (.var 1) (.int 0))) (.not (.ix (.var 1) (.int 1))))) (.cons (.ret (.bl false))
    .nil) .nil)
    (.cons (.ret (.or (.call 0 (.cons (.var 0) (.cons (.ix (.var 1) (.int 2)) .nil))) (.and (.cmp .eq (.var 0) (.ix (.var 1) (.int 2))) (.ix (.var 1) (.int 3)))))
    .nil))
noncomputable def in_stretch_F : Fn := runFn 2 2 in_stretch_T in_stretch_B
/-! meet(one, other): 0 one, 1 other, 2 low, 3 low_in, 4 high, 5 high_in -/
noncomputable def meet_T : Tb := { fn := [("below", below_F), ("stretch", stretch_F)] }
@[simp] theorem meet_fn0 : meet_T.fn[0]? = some (("below" : Str), below_F) := rfl
@[simp] theorem meet_fn1 : meet_T.fn[1]? = some (("stretch" : Str), stretch_F) := rfl
def meet_B : S := (.cons (.asg (.tup (.cons (.name 2) (.cons (.name 3) (.cons (.name 4) (.cons (.name 5) .nil))))) (.var 0))
    (.cons (.ife (.call 0 (.cons (.var 2) (.cons (.ix (.var 1) (.int 0)) .nil))) (.cons (.par2 2 3 (.ix (.var 1) (.int 0)) (.ix (.var 1) (.int 1)))
    .nil) (.cons (.ife (.cmp .eq (.var 2) (.ix (.var 1) (.int 0))) (.cons (.asg (.name 3) (.and (.var 3) (.ix (.var 1) (.int 1))))
    .nil) .nil)
    .nil))
    (.cons (.ife (.call 0 (.cons (.ix (.var 1) (.int 2)) (.cons (.var 4) .nil))) (.cons (.par2 4 5 (.ix (.var 1) (.int 2)) (.ix (.var 1) (.int 3)))
    .nil) (.cons (.ife (.cmp .eq (.var 4) (.ix (.var 1) (.int 2))) (.cons (.asg (.name 5) (.and (.var 5) (.ix (.var 1) (.int 3))))
    .nil) .nil)
    .nil))
    (.cons (.ret (.call 1 (.cons (.var 2) (.cons (.var 3) (.cons (.var 4) (.cons (.var 5) .nil))))))
    .nil))))
noncomputable def meet_F : Fn := runFn 2 6 meet_T meet_B
/-! meet_all(stretches): 0 stretches, 1 common, 2 one, 3 i, 4 j -/
noncomputable def meet_all_T : Tb := { fn := [("meet", meet_F)], bn := ["range", "len"] }
@[simp] theorem meet_all_fn0 : meet_all_T.fn[0]? = some (("meet" : Str), meet_F) := rfl
def meet_all_W1 : S := (.cons (.ife (.isN (.var 1) true) (.cons (.asg (.name 1) (.call 0 (.cons (.var 1) (.cons (.var 2) .nil))))
    .nil) .nil)
    .nil)
def meet_all_L1 : S := .for_ (.name 2) (.cons (.var 0) .nil) meet_all_W1
def meet_all_W2 : S := (.cons (.ife (.isN (.call 0 (.cons (.ix (.var 0) (.var 3)) (.cons (.ix (.var 0) (.var 4)) .nil))) false) (.cons (.ret (.tup (.cons (.str "apart") (.cons (.var 3) (.cons (.var 4) .nil)))))
    .nil) .nil)
    .nil)
def meet_all_L2 : S := .for_ (.name 4) (.rng2 (.bin .add (.var 3) (.int 1)) (.bi .len (.cons (.var 0) .nil))) meet_all_W2
def meet_all_W3 : S := (.cons meet_all_L2
    .nil)
def meet_all_L3 : S := .for_ (.name 3) (.rng1 (.bi .len (.cons (.var 0) .nil))) meet_all_W3
def meet_all_B : S := (.cons (.asg (.name 1) (.ix (.var 0) (.int 0)))
    (.cons meet_all_L1
    (.cons (.ife (.isN (.var 1) true) (.cons (.ret (.tup (.cons (.str "all") (.cons (.var 1) .nil))))
    .nil) .nil)
    (.cons meet_all_L3
    (.cons (.ret .non)
    .nil)))))
noncomputable def meet_all_F : Fn := runFn 1 5 meet_all_T meet_all_B
/-! begins_earlier(one, other): 0 one, 1 other -/
noncomputable def begins_earlier_T : Tb := { fn := [("below", below_F)] }
@[simp] theorem begins_earlier_fn0 : begins_earlier_T.fn[0]? = some (("below" : Str), below_F) := rfl
def begins_earlier_B : S := (.cons (.ret (.or (.call 0 (.cons (.ix (.var 0) (.int 0)) (.cons (.ix (.var 1) (.int 0)) .nil))) (.and (.cmp .eq (.ix (.var 0) (.int 0)) (.ix (.var 1) (.int 0))) (.and (.ix (.var 0) (.int 1)) (.not (.ix (.var 1) (.int 1)))))))
    .nil)
noncomputable def begins_earlier_F : Fn := runFn 2 2 begins_earlier_T begins_earlier_B
/-! covers_begin(one, other): 0 one, 1 other -/
noncomputable def covers_begin_T : Tb := { fn := [("begins_earlier", begins_earlier_F), ("below", below_F)] }
@[simp] theorem covers_begin_fn0 : covers_begin_T.fn[0]? = some (("begins_earlier" : Str), begins_earlier_F) := rfl
@[simp] theorem covers_begin_fn1 : covers_begin_T.fn[1]? = some (("below" : Str), below_F) := rfl
def covers_begin_B : S := (.cons (.ife (.call 0 (.cons (.var 1) (.cons (.var 0) .nil))) (.cons (.ret (.bl false))
    .nil) .nil)
    (.cons (.ret (.or (.call 1 (.cons (.ix (.var 1) (.int 0)) (.cons (.ix (.var 0) (.int 2)) .nil))) (.and (.cmp .eq (.ix (.var 1) (.int 0)) (.ix (.var 0) (.int 2))) (.and (.ix (.var 0) (.int 3)) (.ix (.var 1) (.int 1))))))
    .nil))
noncomputable def covers_begin_F : Fn := runFn 2 2 covers_begin_T covers_begin_B
/-! most_met(stretches): 0 stretches, 1 kept, 2 start, 3 one, 4 met, 5 k, 6 other -/
noncomputable def most_met_T : Tb := { fn := [("covers_begin", covers_begin_F), ("begins_earlier", begins_earlier_F)], bn := ["enumerate", "len"] }
@[simp] theorem most_met_fn0 : most_met_T.fn[0]? = some (("covers_begin" : Str), covers_begin_F) := rfl
@[simp] theorem most_met_fn1 : most_met_T.fn[1]? = some (("begins_earlier" : Str), begins_earlier_F) := rfl
def most_met_C1 : E := (.comp (.var 5) (.tup (.cons (.name 5) (.cons (.name 6) .nil))) (.enum (.var 0)) (.cons (.and (.isN (.var 6) true) (.call 0 (.cons (.var 6) (.cons (.var 3) .nil)))) .nil) [5, 6])
def most_met_W1 : S := (.cons (.ife (.isN (.var 3) false) (.cons .ct
    .nil) .nil)
    (.cons (.asg (.name 4) most_met_C1)
    (.cons (.ife (.or (.cmp .gt (.bi .len (.cons (.var 4) .nil)) (.bi .len (.cons (.var 1) .nil))) (.and (.cmp .eq (.bi .len (.cons (.var 4) .nil)) (.bi .len (.cons (.var 1) .nil))) (.call 1 (.cons (.var 3) (.cons (.var 2) .nil))))) (.cons (.asg (.name 1) (.var 4))
    (.cons (.asg (.name 2) (.var 3))
    .nil)) .nil)
    .nil)))
def most_met_L1 : S := .for_ (.name 3) (.cons (.var 0) .nil) most_met_W1
def most_met_B : S := (.cons (.asg (.name 1) (.lst .nil))
    (.cons (.asg (.name 2) .non)
    (.cons most_met_L1
    (.cons (.ret (.var 1))
    .nil))))
noncomputable def most_met_F : Fn := runFn 1 7 most_met_T most_met_B
/-! _law_cell(script, k): 0 script, 1 k -/
noncomputable def law_cell_T : Tb := { bn := ["len"] }
def law_cell_B : S := (.cons (.ife (.cmp .lt (.var 1) (.bi .len (.cons (.var 0) .nil))) (.cons (.ret (.ix (.var 0) (.var 1)))
    .nil) .nil)
    (.cons (.ret (.int 0))
    .nil))
noncomputable def law_cell_F : Fn := runFn 2 2 law_cell_T law_cell_B
/-! _law_digits(cell, base, count): 0 cell, 1 base, 2 count, 3 rest, 4 digits, 5 k -/
noncomputable def law_digits_T : Tb := { bn := ["abs", "int", "range"] }
def law_digits_W1 : S := (.cons (.app 4 (.bin .mod (.bi .int (.cons (.var 3) .nil)) (.var 1)))
    (.cons (.asg (.name 3) (.bin .fdiv (.var 3) (.var 1)))
    .nil))
def law_digits_L1 : S := .for_ (.name 5) (.rng1 (.var 2)) law_digits_W1
def law_digits_W2 : S := (.cons (.asg (.name 3) (.bin .mod (.bi .int (.cons (.bin .add (.bin .add (.bin .mul (.var 3) (.int 48271)) (.bin .mul (.var 5) (.int 69621))) (.int 17)) .nil)) (.int 2147483647)))
    (.cons (.asg (.name 3) (.bin .mod (.bi .int (.cons (.bin .add (.bin .add (.bin .mul (.var 3) (.int 16807)) (.bin .mul (.int 2) (.var 5))) (.int 5)) .nil)) (.int 2147483629)))
    (.cons (.app 4 (.bin .mod (.bi .int (.cons (.bin .fdiv (.var 3) (.int 64)) .nil)) (.var 1)))
    .nil)))
def law_digits_L2 : S := .for_ (.name 5) (.rng1 (.var 2)) law_digits_W2
def law_digits_B : S := (.cons (.asg (.name 3) (.bi .abs (.cons (.bi .int (.cons (.var 0) .nil)) .nil)))
    (.cons (.asgO 4 (.lst .nil))
    (.cons (.ife (.cmp .ge (.var 3) (.bin .pow (.int 10) (.int 18))) (.cons law_digits_L1
    (.cons (.frz [4] (.ret (.var 4)))
    .nil)) .nil)
    (.cons law_digits_L2
    (.cons (.frz [4] (.ret (.var 4)))
    .nil)))))
noncomputable def law_digits_F : Fn := runFn 3 6 law_digits_T law_digits_B
/-! _law_lowest(n, d): 0 n, 1 d, 2 a, 3 b, 4 c -/
noncomputable def law_lowest_T : Tb := { bn := ["abs"] }
def law_lowest_W1 : S := (.cons (.asg (.name 4) (.bin .sub (.var 2) (.bin .mul (.bin .fdiv (.var 2) (.var 3)) (.var 3))))
    (.cons (.asg (.name 2) (.var 3))
    (.cons (.asg (.name 3) (.var 4))
    .nil)))
def law_lowest_L1 : S := .while_ (.cmp .gt (.var 3) (.int 0)) law_lowest_W1
def law_lowest_B : S := (.cons (.asg (.name 2) (.bi .abs (.cons (.var 0) .nil)))
    (.cons (.asg (.name 3) (.var 1))
    (.cons law_lowest_L1
    (.cons (.ret (.tup (.cons (.bin .fdiv (.var 0) (.var 2)) (.cons (.bin .fdiv (.var 1) (.var 2)) .nil))))
    .nil))))
noncomputable def law_lowest_F : Fn := runFn 2 5 law_lowest_T law_lowest_B
/-! _law_spots(script): 0 script, 1 bottom, 2 shift, 3 k -/
noncomputable def law_spots_T : Tb := { fn := [("_law_cell", law_cell_F), ("_law_lowest", law_lowest_F)], bn := ["int", "range"] }
@[simp] theorem law_spots_fn0 : law_spots_T.fn[0]? = some (("_law_cell" : Str), law_cell_F) := rfl
@[simp] theorem law_spots_fn1 : law_spots_T.fn[1]? = some (("_law_lowest" : Str), law_lowest_F) := rfl
def law_spots_C1 : E := (.comp (.call 1 (.cons (.bin .sub (.var 3) (.bin .mul (.int 2) (.var 2))) (.cons (.bin .mul (.int 2) (.var 1)) .nil))) (.name 3) (.rng1 (.int 17)) .nil [3])
def law_spots_B : S := (.cons (.asg (.name 1) (.bin .add (.int 1) (.bin .mod (.bi .int (.cons (.bin .fdiv (.call 0 (.cons (.var 0) (.cons (.int 0) .nil))) (.int 4)) .nil)) (.bin .pow (.int 10) (.int 29)))))
    (.cons (.ife (.cmp .lt (.bin .mod (.bi .int (.cons (.call 0 (.cons (.var 0) (.cons (.int 0) .nil))) .nil)) (.int 4)) (.int 3)) (.cons (.asg (.name 1) (.bin .add (.int 1) (.bin .mod (.bi .int (.cons (.bin .fdiv (.call 0 (.cons (.var 0) (.cons (.int 0) .nil))) (.int 4)) .nil)) (.int 3))))
    .nil) .nil)
    (.cons (.asg (.name 2) (.bin .mod (.bi .int (.cons (.call 0 (.cons (.var 0) (.cons (.int 1) .nil))) .nil)) (.int 9)))
    (.cons (.ret law_spots_C1)
    .nil))))
noncomputable def law_spots_F : Fn := runFn 1 4 law_spots_T law_spots_B
/-! _law_has(ends, k): 0 ends, 1 k -/
noncomputable def law_has_T : Tb := {  }
def law_has_B : S := (.cons (.ife (.or (.cmp .lt (.var 1) (.ix (.var 0) (.int 0))) (.and (.cmp .eq (.var 1) (.ix (.var 0) (.int 0))) (.not (.ix (.var 0) (.int 1))))) (.cons (.ret (.bl false))
    .nil) .nil)
    (.cons (.ret (.or (.cmp .lt (.var 1) (.ix (.var 0) (.int 2))) (.and (.cmp .eq (.var 1) (.ix (.var 0) (.int 2))) (.ix (.var 0) (.int 3)))))
    .nil))
noncomputable def law_has_F : Fn := runFn 2 2 law_has_T law_has_B
/-! _law_set(ends): 0 ends, 1 k -/
noncomputable def law_set_T : Tb := { fn := [("_law_has", law_has_F)], bn := ["range"] }
@[simp] theorem law_set_fn0 : law_set_T.fn[0]? = some (("_law_has" : Str), law_has_F) := rfl
def law_set_C1 : E := (.comp (.var 1) (.name 1) (.rng1 (.int 17)) (.cons (.call 0 (.cons (.var 0) (.cons (.var 1) .nil))) .nil) [1])
def law_set_B : S := (.cons (.ret law_set_C1)
    .nil)
noncomputable def law_set_F : Fn := runFn 1 2 law_set_T law_set_B
/-! _law_shared(one, other): 0 one, 1 other, 2 k -/
noncomputable def law_shared_T : Tb := {  }
def law_shared_C1 : E := (.comp (.var 2) (.name 2) (.cons (.var 0) .nil) (.cons (.cmp .isin (.var 2) (.var 1)) .nil) [2])
def law_shared_B : S := (.cons (.ret law_shared_C1)
    .nil)
noncomputable def law_shared_F : Fn := runFn 2 3 law_shared_T law_shared_B
/-! _law_drawn(script): 0 script, 1 many, 2 tight, 3 drawn, 4 k, 5 row, 6 low, 7 high -/
noncomputable def law_drawn_T : Tb := { fn := [("_law_cell", law_cell_F), ("_law_digits", law_digits_F)], bn := ["int", "range", "min", "max"] }
@[simp] theorem law_drawn_fn0 : law_drawn_T.fn[0]? = some (("_law_cell" : Str), law_cell_F) := rfl
@[simp] theorem law_drawn_fn1 : law_drawn_T.fn[1]? = some (("_law_digits" : Str), law_digits_F) := rfl
def law_drawn_W1 : S := (.cons (.asg (.name 5) (.call 1 (.cons (.bin .add (.call 0 (.cons (.var 0) (.cons (.bin .add (.int 3) (.var 4)) .nil))) (.bin .mul (.int 13) (.var 4))) (.cons (.int 36) (.cons (.int 4) .nil)))))
    (.cons (.asg (.name 6) (.bin .mul (.int 2) (.bin .mod (.ix (.var 5) (.int 0)) (.int 9))))
    (.cons (.asg (.name 7) (.bin .mul (.int 2) (.bin .mod (.ix (.var 5) (.int 1)) (.int 9))))
    (.cons (.ife (.and (.var 2) (.cmp .lt (.bin .mod (.ix (.var 5) (.int 3)) (.int 4)) (.int 3))) (.cons (.asg (.name 6) (.bi .min2 (.cons (.var 6) (.cons (.int 8) .nil))))
    (.cons (.asg (.name 7) (.bi .max2 (.cons (.var 7) (.cons (.int 8) .nil))))
    .nil)) .nil)
    (.cons (.app 3 (.tup (.cons (.var 6) (.cons (.cmp .gt (.bin .mod (.ix (.var 5) (.int 2)) (.int 3)) (.int 0)) (.cons (.var 7) (.cons (.cmp .gt (.bin .mod (.bin .fdiv (.ix (.var 5) (.int 2)) (.int 3)) (.int 3)) (.int 0)) .nil))))))
    .nil)))))
def law_drawn_L1 : S := .for_ (.name 4) (.rng1 (.var 1)) law_drawn_W1
def law_drawn_B : S := (.cons (.asg (.name 1) (.bin .add (.int 1) (.bin .mod (.bi .int (.cons (.call 0 (.cons (.var 0) (.cons (.int 2) .nil))) .nil)) (.int 12))))
    (.cons (.asg (.name 2) (.cmp .eq (.bin .mod (.bi .int (.cons (.bin .fdiv (.call 0 (.cons (.var 0) (.cons (.int 2) .nil))) (.int 12)) .nil)) (.int 3)) (.int 0)))
    (.cons (.asgO 3 (.lst .nil))
    (.cons law_drawn_L1
    (.cons (.frz [3] (.ret (.var 3)))
    .nil)))))
noncomputable def law_drawn_F : Fn := runFn 1 8 law_drawn_T law_drawn_B
/-! _law_told(ends, spots): 0 ends, 1 spots -/
noncomputable def law_told_T : Tb := {  }
def law_told_B : S := (.cons (.ret (.tup (.cons (.ix (.var 1) (.ix (.var 0) (.int 0))) (.cons (.ix (.var 0) (.int 1)) (.cons (.ix (.var 1) (.ix (.var 0) (.int 2))) (.cons (.ix (.var 0) (.int 3)) .nil))))))
    .nil)
noncomputable def law_told_F : Fn := runFn 2 2 law_told_T law_told_B
/-! _law_due(numbers, spots): 0 numbers, 1 spots, 2 low, 3 high -/
noncomputable def law_due_T : Tb := {  }
def law_due_B : S := (.cons (.asg (.name 2) (.bin .mul (.bin .fdiv (.ix (.var 0) (.int 0)) (.int 2)) (.int 2)))
    (.cons (.asg (.name 3) (.bin .mul (.bin .fdiv (.bin .add (.ix (.var 0) (.neg (.int 1))) (.int 1)) (.int 2)) (.int 2)))
    (.cons (.ret (.tup (.cons (.ix (.var 1) (.var 2)) (.cons (.cmp .eq (.ix (.var 0) (.int 0)) (.var 2)) (.cons (.ix (.var 1) (.var 3)) (.cons (.cmp .eq (.ix (.var 0) (.neg (.int 1))) (.var 3)) .nil))))))
    .nil)))
noncomputable def law_due_F : Fn := runFn 2 4 law_due_T law_due_B
/-! _law_is_stretch(value, spots, due): 0 value, 1 spots, 2 due, 3 number -/
noncomputable def law_is_stretch_T : Tb := { fn := [("_law_due", law_due_F)], bn := ["isinstance", "tuple", "len", "bool"] }
@[simp] theorem law_is_stretch_fn0 : law_is_stretch_T.fn[0]? = some (("_law_due" : Str), law_due_F) := rfl
def law_is_stretch_W1 : S := (.cons (.ife (.or (.not (.isi (.var 3) .tuple)) (.cmp .ne (.bi .len (.cons (.var 3) .nil)) (.int 2))) (.cons (.ret (.bl false))
    .nil) .nil)
    (.cons (.ife (.or (.isi (.ix (.var 3) (.int 0)) .bool) (.isi (.ix (.var 3) (.int 1)) .bool)) (.cons (.ret (.bl false))
    .nil) .nil)
    .nil))
def law_is_stretch_L1 : S := .for_ (.name 3) (.cons (.lst (.cons (.ix (.var 0) (.int 0)) (.cons (.ix (.var 0) (.int 2)) .nil))) .nil) law_is_stretch_W1
def law_is_stretch_B : S := (.cons (.ife (.or (.not (.isi (.var 0) .tuple)) (.cmp .ne (.bi .len (.cons (.var 0) .nil)) (.int 4))) (.cons (.ret (.bl false))
    .nil) .nil)
    (.cons (.ife (.or (.not (.isi (.ix (.var 0) (.int 1)) .bool)) (.not (.isi (.ix (.var 0) (.int 3)) .bool))) (.cons (.ret (.bl false))
    .nil) .nil)
    (.cons law_is_stretch_L1
    (.cons (.ret (.cmp .eq (.var 0) (.call 0 (.cons (.var 2) (.cons (.var 1) .nil)))))
    .nil))))
noncomputable def law_is_stretch_F : Fn := runFn 3 4 law_is_stretch_T law_is_stretch_B
/-! _law_single(ends, spots): 0 ends, 1 spots, 2 told, 3 k, 4 answer -/
noncomputable def law_single_T : Tb := { fn := [("stretch", stretch_F), ("_law_set", law_set_F), ("_law_told", law_told_F), ("in_stretch", in_stretch_F), ("_law_has", law_has_F)], bn := ["isinstance", "tuple", "bool", "range"] }
@[simp] theorem law_single_fn0 : law_single_T.fn[0]? = some (("stretch" : Str), stretch_F) := rfl
@[simp] theorem law_single_fn1 : law_single_T.fn[1]? = some (("_law_set" : Str), law_set_F) := rfl
@[simp] theorem law_single_fn2 : law_single_T.fn[2]? = some (("_law_told" : Str), law_told_F) := rfl
@[simp] theorem law_single_fn3 : law_single_T.fn[3]? = some (("in_stretch" : Str), in_stretch_F) := rfl
@[simp] theorem law_single_fn4 : law_single_T.fn[4]? = some (("_law_has" : Str), law_has_F) := rfl
def law_single_W1 : S := (.cons (.asg (.name 4) (.call 3 (.cons (.ix (.var 1) (.var 3)) (.cons (.var 2) .nil))))
    (.cons (.ife (.or (.not (.isi (.var 4) .bool)) (.cmp .ne (.var 4) (.call 4 (.cons (.var 0) (.cons (.var 3) .nil))))) (.cons (.ret (.bl false))
    .nil) .nil)
    .nil))
def law_single_L1 : S := .for_ (.name 3) (.rng1 (.int 17)) law_single_W1
def law_single_B : S := (.cons (.asg (.name 2) (.call 0 (.cons (.ix (.var 1) (.ix (.var 0) (.int 0))) (.cons (.ix (.var 0) (.int 1)) (.cons (.ix (.var 1) (.ix (.var 0) (.int 2))) (.cons (.ix (.var 0) (.int 3)) .nil))))))
    (.cons (.ife (.cmp .eq (.call 1 (.cons (.var 0) .nil)) (.lst .nil)) (.cons (.ret (.isN (.var 2) false))
    .nil) .nil)
    (.cons (.ife (.or (.not (.isi (.var 2) .tuple)) (.cmp .ne (.var 2) (.call 2 (.cons (.var 0) (.cons (.var 1) .nil))))) (.cons (.ret (.bl false))
    .nil) .nil)
    (.cons (.ife (.or (.not (.isi (.ix (.var 2) (.int 1)) .bool)) (.not (.isi (.ix (.var 2) (.int 3)) .bool))) (.cons (.ret (.bl false))
    .nil) .nil)
    (.cons law_single_L1
    (.cons (.ret (.bl true))
    .nil))))))
noncomputable def law_single_F : Fn := runFn 2 5 law_single_T law_single_B
/-! _law_is_index(value, many): 0 value, 1 many -/
noncomputable def law_is_index_T : Tb := { bn := ["isinstance", "int", "bool"] }
def law_is_index_B : S := (.cons (.ret (.and (.isi (.var 0) .int) (.and (.not (.isi (.var 0) .bool)) (.chain .le .lt (.int 0) (.var 0) (.var 1)))))
    .nil)
noncomputable def law_is_index_F : Fn := runFn 2 2 law_is_index_T law_is_index_B
/-! _law_all_due(sets): 0 sets, 1 shared, 2 one, 3 i, 4 j -/
noncomputable def law_all_due_T : Tb := { fn := [("_law_shared", law_shared_F)], bn := ["range", "len"] }
@[simp] theorem law_all_due_fn0 : law_all_due_T.fn[0]? = some (("_law_shared" : Str), law_shared_F) := rfl
def law_all_due_W1 : S := (.cons (.asg (.name 1) (.call 0 (.cons (.var 1) (.cons (.var 2) .nil))))
    .nil)
def law_all_due_L1 : S := .for_ (.name 2) (.cons (.var 0) .nil) law_all_due_W1
def law_all_due_W2 : S := (.cons (.ife (.cmp .eq (.call 0 (.cons (.ix (.var 0) (.var 3)) (.cons (.ix (.var 0) (.var 4)) .nil))) (.lst .nil)) (.cons (.ret (.tup (.cons (.str "apart") (.cons (.var 3) (.cons (.var 4) .nil)))))
    .nil) .nil)
    .nil)
def law_all_due_L2 : S := .for_ (.name 4) (.rng2 (.bin .add (.var 3) (.int 1)) (.bi .len (.cons (.var 0) .nil))) law_all_due_W2
def law_all_due_W3 : S := (.cons law_all_due_L2
    .nil)
def law_all_due_L3 : S := .for_ (.name 3) (.rng1 (.bi .len (.cons (.var 0) .nil))) law_all_due_W3
def law_all_due_B : S := (.cons (.asg (.name 1) (.ix (.var 0) (.int 0)))
    (.cons law_all_due_L1
    (.cons (.ife (.cmp .ne (.var 1) (.lst .nil)) (.cons (.ret (.tup (.cons (.str "all") (.cons (.var 1) .nil))))
    .nil) .nil)
    (.cons law_all_due_L3
    (.cons (.ret .non)
    .nil)))))
noncomputable def law_all_due_F : Fn := runFn 1 5 law_all_due_T law_all_due_B
/-! _law_all(stretches, sets, spots): 0 stretches, 1 sets, 2 spots, 3 handed, 4 told, 5 due, 6 k -/
noncomputable def law_all_T : Tb := { fn := [("meet_all", meet_all_F), ("_law_all_due", law_all_due_F), ("_law_is_stretch", law_is_stretch_F), ("_law_is_index", law_is_index_F)], bn := ["list", "isinstance", "tuple", "len"] }
@[simp] theorem law_all_fn0 : law_all_T.fn[0]? = some (("meet_all" : Str), meet_all_F) := rfl
@[simp] theorem law_all_fn1 : law_all_T.fn[1]? = some (("_law_all_due" : Str), law_all_due_F) := rfl
@[simp] theorem law_all_fn2 : law_all_T.fn[2]? = some (("_law_is_stretch" : Str), law_is_stretch_F) := rfl
@[simp] theorem law_all_fn3 : law_all_T.fn[3]? = some (("_law_is_index" : Str), law_is_index_F) := rfl
def law_all_W1 : S := (.cons (.ife (.or (.not (.call 3 (.cons (.ix (.var 4) (.var 6)) (.cons (.bi .len (.cons (.var 1) .nil)) .nil)))) (.cmp .ne (.ix (.var 4) (.var 6)) (.ix (.var 5) (.var 6)))) (.cons (.ret (.bl false))
    .nil) .nil)
    .nil)
def law_all_L1 : S := .for_ (.name 6) (.cons (.lst (.cons (.int 1) (.cons (.int 2) .nil))) .nil) law_all_W1
def law_all_B : S := (.cons (.asg (.name 3) (.bi .list (.cons (.var 0) .nil)))
    (.cons (.asg (.name 4) (.call 0 (.cons (.var 3) .nil)))
    (.cons (.asg (.name 5) (.call 1 (.cons (.var 1) .nil)))
    (.cons (.ife (.or (.cmp .ne (.var 3) (.var 0)) (.or (.not (.isi (.var 4) .tuple)) (.or (.cmp .ne (.bi .len (.cons (.var 4) .nil)) (.bi .len (.cons (.var 5) .nil))) (.cmp .ne (.ix (.var 4) (.int 0)) (.ix (.var 5) (.int 0)))))) (.cons (.ret (.bl false))
    .nil) .nil)
    (.cons (.ife (.cmp .eq (.ix (.var 5) (.int 0)) (.str "all")) (.cons (.ret (.call 2 (.cons (.ix (.var 4) (.int 1)) (.cons (.var 2) (.cons (.ix (.var 5) (.int 1)) .nil)))))
    .nil) .nil)
    (.cons law_all_L1
    (.cons (.ret (.bl true))
    .nil)))))))
noncomputable def law_all_F : Fn := runFn 3 7 law_all_T law_all_B
/-! _law_most(mixed, sets): 0 mixed, 1 sets, 2 handed, 3 told, 4 best, 5 k, 6 i, 7 met -/
noncomputable def law_most_T : Tb := { fn := [("most_met", most_met_F), ("_law_is_index", law_is_index_F)], bn := ["list", "isinstance", "range", "len"] }
@[simp] theorem law_most_fn0 : law_most_T.fn[0]? = some (("most_met" : Str), most_met_F) := rfl
@[simp] theorem law_most_fn1 : law_most_T.fn[1]? = some (("_law_is_index" : Str), law_is_index_F) := rfl
def law_most_C1 : E := (.comp (.var 6) (.name 6) (.rng1 (.bi .len (.cons (.var 1) .nil))) (.cons (.and (.isN (.ix (.var 0) (.var 6)) true) (.cmp .isin (.var 5) (.ix (.var 1) (.var 6)))) .nil) [6])
def law_most_W1 : S := (.cons (.asg (.name 7) law_most_C1)
    (.cons (.ife (.cmp .gt (.bi .len (.cons (.var 7) .nil)) (.bi .len (.cons (.var 4) .nil))) (.cons (.asg (.name 4) (.var 7))
    .nil) .nil)
    .nil))
def law_most_L1 : S := .for_ (.name 5) (.rng1 (.int 17)) law_most_W1
def law_most_W2 : S := (.cons (.ife (.not (.call 1 (.cons (.var 6) (.cons (.bi .len (.cons (.var 1) .nil)) .nil)))) (.cons (.ret (.bl false))
    .nil) .nil)
    .nil)
def law_most_L2 : S := .for_ (.name 6) (.cons (.var 3) .nil) law_most_W2
def law_most_B : S := (.cons (.asg (.name 2) (.bi .list (.cons (.var 0) .nil)))
    (.cons (.asg (.name 3) (.call 0 (.cons (.var 2) .nil)))
    (.cons (.ife (.or (.cmp .ne (.var 2) (.var 0)) (.not (.isi (.var 3) .list))) (.cons (.ret (.bl false))
    .nil) .nil)
    (.cons (.asg (.name 4) (.lst .nil))
    (.cons law_most_L1
    (.cons law_most_L2
    (.cons (.ret (.cmp .eq (.var 3) (.var 4)))
    .nil)))))))
noncomputable def law_most_F : Fn := runFn 2 8 law_most_T law_most_B
/-! law(script): 0 script, 1 spots, 2 drawn, 3 stretches, 4 sets, 5 ends, 6 i, 7 row, 8 j, 9 shared, 10 told, 11 k -/
noncomputable def law_T : Tb := { fn := [("_law_spots", law_spots_F), ("_law_drawn", law_drawn_F), ("_law_single", law_single_F), ("_law_set", law_set_F), ("_law_told", law_told_F), ("most_met", most_met_F), ("_law_shared", law_shared_F), ("meet", meet_F), ("_law_is_stretch", law_is_stretch_F), ("_law_all", law_all_F), ("_law_most", law_most_F), ("_law_cell", law_cell_F), ("_law_digits", law_digits_F)], bn := ["range", "len"] }
@[simp] theorem law_fn0 : law_T.fn[0]? = some (("_law_spots" : Str), law_spots_F) := rfl
@[simp] theorem law_fn1 : law_T.fn[1]? = some (("_law_drawn" : Str), law_drawn_F) := rfl
@[simp] theorem law_fn2 : law_T.fn[2]? = some (("_law_single" : Str), law_single_F) := rfl
@[simp] theorem law_fn3 : law_T.fn[3]? = some (("_law_set" : Str), law_set_F) := rfl
@[simp] theorem law_fn4 : law_T.fn[4]? = some (("_law_told" : Str), law_told_F) := rfl
@[simp] theorem law_fn5 : law_T.fn[5]? = some (("most_met" : Str), most_met_F) := rfl
@[simp] theorem law_fn6 : law_T.fn[6]? = some (("_law_shared" : Str), law_shared_F) := rfl
@[simp] theorem law_fn7 : law_T.fn[7]? = some (("meet" : Str), meet_F) := rfl
@[simp] theorem law_fn8 : law_T.fn[8]? = some (("_law_is_stretch" : Str), law_is_stretch_F) := rfl
@[simp] theorem law_fn9 : law_T.fn[9]? = some (("_law_all" : Str), law_all_F) := rfl
@[simp] theorem law_fn10 : law_T.fn[10]? = some (("_law_most" : Str), law_most_F) := rfl
@[simp] theorem law_fn11 : law_T.fn[11]? = some (("_law_cell" : Str), law_cell_F) := rfl
@[simp] theorem law_fn12 : law_T.fn[12]? = some (("_law_digits" : Str), law_digits_F) := rfl
def law_W1 : S := (.cons (.ife (.not (.call 2 (.cons (.var 5) (.cons (.var 1) .nil)))) (.cons (.ret (.bl false))
    .nil) .nil)
    (.cons (.ife (.cmp .ne (.call 3 (.cons (.var 5) .nil)) (.lst .nil)) (.cons (.app 3 (.call 4 (.cons (.var 5) (.cons (.var 1) .nil))))
    (.cons (.app 4 (.call 3 (.cons (.var 5) .nil)))
    .nil)) .nil)
    .nil))
def law_L1 : S := .for_ (.name 5) (.cons (.var 2) .nil) law_W1
def law_W2 : S := (.cons (.asg (.name 9) (.call 6 (.cons (.oix 4 (.var 6)) (.cons (.oix 4 (.var 8)) .nil))))
    (.cons (.asg (.name 10) (.call 7 (.cons (.oix 3 (.var 6)) (.cons (.oix 3 (.var 8)) .nil))))
    (.cons (.ife (.and (.cmp .eq (.var 9) (.lst .nil)) (.isN (.var 10) true)) (.cons (.ret (.bl false))
    .nil) .nil)
    (.cons (.ife (.and (.cmp .ne (.var 9) (.lst .nil)) (.not (.call 8 (.cons (.var 10) (.cons (.var 1) (.cons (.var 9) .nil)))))) (.cons (.ret (.bl false))
    .nil) .nil)
    .nil))))
def law_L2 : S := .for_ (.name 8) (.cons (.lst (.cons (.int 0) (.cons (.bin .fdiv (.var 6) (.int 2)) (.cons (.bin .sub (.olen 4) (.int 1)) .nil)))) .nil) law_W2
def law_W3 : S := (.cons law_L2
    .nil)
def law_L3 : S := .for_ (.name 6) (.rng1 (.olen 4)) law_W3
def law_C1 : E := (.comp (.ife (.cmp .gt (.ix (.var 7) (.var 11)) (.int 0)) (.ix (.var 3) (.var 11)) .non) (.name 11) (.rng1 (.olen 3)) .nil [11])
def law_B : S := (.cons (.asg (.name 1) (.call 0 (.cons (.var 0) .nil)))
    (.cons (.asg (.name 2) (.call 1 (.cons (.var 0) .nil)))
    (.cons (.asgO 3 (.lst .nil))
    (.cons (.asgO 4 (.lst .nil))
    (.cons law_L1
    (.cons (.ife (.or (.cmp .ne (.call 5 (.cons (.lst .nil) .nil)) (.lst .nil)) (.cmp .ne (.call 5 (.cons (.lst (.cons .non .nil)) .nil)) (.lst .nil))) (.cons (.ret (.bl false))
    .nil) .nil)
    (.cons (.frz [3] (.ife (.cmp .eq (.var 3) (.lst .nil)) (.cons (.ret (.bl true))
    .nil) .nil))
    (.cons law_L3
    (.cons (.frz [3, 4] (.ife (.or (.not (.call 9 (.cons (.var 3) (.cons (.var 4) (.cons (.var 1) .nil))))) (.not (.call 10 (.cons (.var 3) (.cons (.var 4) .nil))))) (.cons (.ret (.bl false))
    .nil) .nil))
    (.cons (.asg (.name 7) (.call 12 (.cons (.call 11 (.cons (.var 0) (.cons (.int 15) .nil))) (.cons (.int 3) (.cons (.olen 3) .nil)))))
    (.cons (.frz [3, 4] (.ret (.call 10 (.cons law_C1 (.cons (.var 4) .nil)))))
    .nil)))))))))))
noncomputable def law_F : Fn := runFn 1 12 law_T law_B
/-- what the head gives -/
structure Facts (g : G) : Prop where
  f_below : DefAt g "below" (topS 1)
  f_stretch : DefAt g "stretch" (topS 3)
  f_in_stretch : DefAt g "in_stretch" (topS 4)
  f_meet : DefAt g "meet" (topS 5)
  f_meet_all : DefAt g "meet_all" (topS 6)
  f_begins_earlier : DefAt g "begins_earlier" (topS 7)
  f_covers_begin : DefAt g "covers_begin" (topS 8)
  f_most_met : DefAt g "most_met" (topS 9)
  f_law_cell : DefAt g "_law_cell" (topS 11)
  f_law_digits : DefAt g "_law_digits" (topS 12)
  f_law_lowest : DefAt g "_law_lowest" (topS 13)
  f_law_spots : DefAt g "_law_spots" (topS 14)
  f_law_has : DefAt g "_law_has" (topS 15)
  f_law_set : DefAt g "_law_set" (topS 16)
  f_law_shared : DefAt g "_law_shared" (topS 17)
  f_law_drawn : DefAt g "_law_drawn" (topS 18)
  f_law_told : DefAt g "_law_told" (topS 19)
  f_law_due : DefAt g "_law_due" (topS 20)
  f_law_is_stretch : DefAt g "_law_is_stretch" (topS 21)
  f_law_single : DefAt g "_law_single" (topS 22)
  f_law_is_index : DefAt g "_law_is_index" (topS 23)
  f_law_all_due : DefAt g "_law_all_due" (topS 24)
  f_law_all : DefAt g "_law_all" (topS 25)
  f_law_most : DefAt g "_law_most" (topS 26)
  f_law : DefAt g "law" (topS 27)
  b_range : g.mg "range" = none
  b_len : g.mg "len" = none
  b_enumerate : g.mg "enumerate" = none
  b_abs : g.mg "abs" = none
  b_int : g.mg "int" = none
  b_min : g.mg "min" = none
  b_max : g.mg "max" = none
  b_isinstance : g.mg "isinstance" = none
  b_tuple : g.mg "tuple" = none
  b_bool : g.mg "bool" = none
  b_list : g.mg "list" = none
section
variable {g : G} (h : Facts g)
include h
theorem below_know : Know g 0 below_T := ⟨(List.forall_mem_nil _), (List.forall_mem_nil _), List.forall_mem_nil _, (List.forall_mem_nil _), (List.forall_mem_nil _), List.forall_mem_nil _⟩
theorem below_ok : ∃ f fd, FnOk g.P g.w g.K g.mg g.base (L2.CX g.P g.w) 1 f fd ["a", "b"] (spD g below_F) ∧ g.mg "below" = some (.ref f) ∧ PySem.W.keepIn g.K (.ref f) = true ∧ DefFd g "below" (topS 1) fd :=
  def_ok (N := ["a", "b"]) h.f_below (fnScope_by' (by decide +kernel)) (below_know h) (by decide +kernel)
theorem below_prm : Prm g 1 "below" below_F := def_prm (below_ok h) (fun _ _ _ _ _ _ us hl => match us, hl with | [_, _], _ => rfl)
theorem stretch_know : Know g 1 stretch_T := ⟨(List.forall_mem_cons.2 ⟨(below_prm h).mono (by decide), (List.forall_mem_nil _)⟩), (List.forall_mem_nil _), List.forall_mem_nil _, (List.forall_mem_nil _), (List.forall_mem_nil _), List.forall_mem_nil _⟩
theorem stretch_ok : ∃ f fd, FnOk g.P g.w g.K g.mg g.base (L2.CX g.P g.w) 2 f fd ["low", "low_in", "high", "high_in"] (spD g stretch_F) ∧ g.mg "stretch" = some (.ref f) ∧ PySem.W.keepIn g.K (.ref f) = true ∧ DefFd g "stretch" (topS 3) fd :=
  def_ok (N := ["low", "low_in", "high", "high_in"]) h.f_stretch (fnScope_by' (by decide +kernel)) (stretch_know h) (by decide +kernel)
theorem stretch_prm : Prm g 2 "stretch" stretch_F := def_prm (stretch_ok h) (fun _ _ _ _ _ _ us hl => match us, hl with | [_, _, _, _], _ => rfl)
theorem in_stretch_know : Know g 1 in_stretch_T := ⟨(List.forall_mem_cons.2 ⟨(below_prm h).mono (by decide), (List.forall_mem_nil _)⟩), (List.forall_mem_nil _), List.forall_mem_nil _, (List.forall_mem_nil _), (List.forall_mem_nil _), List.forall_mem_nil _⟩
theorem in_stretch_ok : ∃ f fd, FnOk g.P g.w g.K g.mg g.base (L2.CX g.P g.w) 2 f fd ["number", "one"] (spD g in_stretch_F) ∧ g.mg "in_stretch" = some (.ref f) ∧ PySem.W.keepIn g.K (.ref f) = true ∧ DefFd g "in_stretch" (topS 4) fd :=
  def_ok (N := ["number", "one"]) h.f_in_stretch (fnScope_by' (by decide +kernel)) (in_stretch_know h) (by decide +kernel)
theorem in_stretch_prm : Prm g 2 "in_stretch" in_stretch_F := def_prm (in_stretch_ok h) (fun _ _ _ _ _ _ us hl => match us, hl with | [_, _], _ => rfl)
theorem meet_know : Know g 2 meet_T := ⟨(List.forall_mem_cons.2 ⟨(below_prm h).mono (by decide), (List.forall_mem_cons.2 ⟨(stretch_prm h).mono (by decide), (List.forall_mem_nil _)⟩)⟩), (List.forall_mem_nil _), List.forall_mem_nil _, (List.forall_mem_nil _), (List.forall_mem_nil _), List.forall_mem_nil _⟩
theorem meet_ok : ∃ f fd, FnOk g.P g.w g.K g.mg g.base (L2.CX g.P g.w) 3 f fd ["one", "other"] (spD g meet_F) ∧ g.mg "meet" = some (.ref f) ∧ PySem.W.keepIn g.K (.ref f) = true ∧ DefFd g "meet" (topS 5) fd :=
  def_ok (N := ["one", "other", "low", "low_in", "high", "high_in"]) h.f_meet (fnScope_by' (by decide +kernel)) (meet_know h) (by decide +kernel)
theorem meet_prm : Prm g 3 "meet" meet_F := def_prm (meet_ok h) (fun _ _ _ _ _ _ us hl => match us, hl with | [_, _], _ => rfl)
theorem meet_all_know : Know g 3 meet_all_T := ⟨(List.forall_mem_cons.2 ⟨(meet_prm h).mono (by decide), (List.forall_mem_nil _)⟩), (List.forall_mem_nil _), List.forall_mem_nil _, (List.forall_mem_cons.2 ⟨h.b_range, (List.forall_mem_cons.2 ⟨h.b_len, (List.forall_mem_nil _)⟩)⟩), (List.forall_mem_nil _), List.forall_mem_nil _⟩
theorem meet_all_ok : ∃ f fd, FnOk g.P g.w g.K g.mg g.base (L2.CX g.P g.w) 4 f fd ["stretches"] (spD g meet_all_F) ∧ g.mg "meet_all" = some (.ref f) ∧ PySem.W.keepIn g.K (.ref f) = true ∧ DefFd g "meet_all" (topS 6) fd :=
  def_ok (N := ["stretches", "common", "one", "i", "j"]) h.f_meet_all (fnScope_by' (by decide +kernel)) (meet_all_know h) (by decide +kernel)
theorem meet_all_prm : Prm g 4 "meet_all" meet_all_F := def_prm (meet_all_ok h) (fun _ _ _ _ _ _ us hl => match us, hl with | [_], _ => rfl)
theorem begins_earlier_know : Know g 1 begins_earlier_T := ⟨(List.forall_mem_cons.2 ⟨(below_prm h).mono (by decide), (List.forall_mem_nil _)⟩), (List.forall_mem_nil _), List.forall_mem_nil _, (List.forall_mem_nil _), (List.forall_mem_nil _), List.forall_mem_nil _⟩
theorem begins_earlier_ok : ∃ f fd, FnOk g.P g.w g.K g.mg g.base (L2.CX g.P g.w) 2 f fd ["one", "other"] (spD g begins_earlier_F) ∧ g.mg "begins_earlier" = some (.ref f) ∧ PySem.W.keepIn g.K (.ref f) = true ∧ DefFd g "begins_earlier" (topS 7) fd :=
  def_ok (N := ["one", "other"]) h.f_begins_earlier (fnScope_by' (by decide +kernel)) (begins_earlier_know h) (by decide +kernel)
theorem begins_earlier_prm : Prm g 2 "begins_earlier" begins_earlier_F := def_prm (begins_earlier_ok h) (fun _ _ _ _ _ _ us hl => match us, hl with | [_, _], _ => rfl)
theorem covers_begin_know : Know g 2 covers_begin_T := ⟨(List.forall_mem_cons.2 ⟨(begins_earlier_prm h).mono (by decide), (List.forall_mem_cons.2 ⟨(below_prm h).mono (by decide), (List.forall_mem_nil _)⟩)⟩), (List.forall_mem_nil _), List.forall_mem_nil _, (List.forall_mem_nil _), (List.forall_mem_nil _), List.forall_mem_nil _⟩
theorem covers_begin_ok : ∃ f fd, FnOk g.P g.w g.K g.mg g.base (L2.CX g.P g.w) 3 f fd ["one", "other"] (spD g covers_begin_F) ∧ g.mg "covers_begin" = some (.ref f) ∧ PySem.W.keepIn g.K (.ref f) = true ∧ DefFd g "covers_begin" (topS 8) fd :=
  def_ok (N := ["one", "other"]) h.f_covers_begin (fnScope_by' (by decide +kernel)) (covers_begin_know h) (by decide +kernel)
theorem covers_begin_prm : Prm g 3 "covers_begin" covers_begin_F := def_prm (covers_begin_ok h) (fun _ _ _ _ _ _ us hl => match us, hl with | [_, _], _ => rfl)
theorem most_met_know : Know g 3 most_met_T := ⟨(List.forall_mem_cons.2 ⟨(covers_begin_prm h).mono (by decide), (List.forall_mem_cons.2 ⟨(begins_earlier_prm h).mono (by decide), (List.forall_mem_nil _)⟩)⟩), (List.forall_mem_nil _), List.forall_mem_nil _, (List.forall_mem_cons.2 ⟨h.b_enumerate, (List.forall_mem_cons.2 ⟨h.b_len, (List.forall_mem_nil _)⟩)⟩), (List.forall_mem_nil _), List.forall_mem_nil _⟩
theorem most_met_ok : ∃ f fd, FnOk g.P g.w g.K g.mg g.base (L2.CX g.P g.w) 4 f fd ["stretches"] (spD g most_met_F) ∧ g.mg "most_met" = some (.ref f) ∧ PySem.W.keepIn g.K (.ref f) = true ∧ DefFd g "most_met" (topS 9) fd :=
  def_ok (N := ["stretches", "kept", "start", "one", "met", "k", "other"]) h.f_most_met (fnScope_by' (by decide +kernel)) (most_met_know h) (by decide +kernel)
theorem most_met_prm : Prm g 4 "most_met" most_met_F := def_prm (most_met_ok h) (fun _ _ _ _ _ _ us hl => match us, hl with | [_], _ => rfl)
theorem law_cell_know : Know g 0 law_cell_T := ⟨(List.forall_mem_nil _), (List.forall_mem_nil _), List.forall_mem_nil _, (List.forall_mem_cons.2 ⟨h.b_len, (List.forall_mem_nil _)⟩), (List.forall_mem_nil _), List.forall_mem_nil _⟩
theorem law_cell_ok : ∃ f fd, FnOk g.P g.w g.K g.mg g.base (L2.CX g.P g.w) 1 f fd ["script", "k"] (spD g law_cell_F) ∧ g.mg "_law_cell" = some (.ref f) ∧ PySem.W.keepIn g.K (.ref f) = true ∧ DefFd g "_law_cell" (topS 11) fd :=
  def_ok (N := ["script", "k"]) h.f_law_cell (fnScope_by' (by decide +kernel)) (law_cell_know h) (by decide +kernel)
theorem law_cell_prm : Prm g 1 "_law_cell" law_cell_F := def_prm (law_cell_ok h) (fun _ _ _ _ _ _ us hl => match us, hl with | [_, _], _ => rfl)
theorem law_digits_know : Know g 0 law_digits_T := ⟨(List.forall_mem_nil _), (List.forall_mem_nil _), List.forall_mem_nil _, (List.forall_mem_cons.2 ⟨h.b_abs, (List.forall_mem_cons.2 ⟨h.b_int, (List.forall_mem_cons.2 ⟨h.b_range, (List.forall_mem_nil _)⟩)⟩)⟩), (List.forall_mem_nil _), List.forall_mem_nil _⟩
theorem law_digits_ok : ∃ f fd, FnOk g.P g.w g.K g.mg g.base (L2.CX g.P g.w) 1 f fd ["cell", "base", "count"] (spD g law_digits_F) ∧ g.mg "_law_digits" = some (.ref f) ∧ PySem.W.keepIn g.K (.ref f) = true ∧ DefFd g "_law_digits" (topS 12) fd :=
  def_ok (N := ["cell", "base", "count", "rest", "digits", "k"]) h.f_law_digits (fnScope_by' (by decide +kernel)) (law_digits_know h) (by decide +kernel)
theorem law_digits_prm : Prm g 1 "_law_digits" law_digits_F := def_prm (law_digits_ok h) (fun _ _ _ _ _ _ us hl => match us, hl with | [_, _, _], _ => rfl)
theorem law_lowest_know : Know g 0 law_lowest_T := ⟨(List.forall_mem_nil _), (List.forall_mem_nil _), List.forall_mem_nil _, (List.forall_mem_cons.2 ⟨h.b_abs, (List.forall_mem_nil _)⟩), (List.forall_mem_nil _), List.forall_mem_nil _⟩
theorem law_lowest_ok : ∃ f fd, FnOk g.P g.w g.K g.mg g.base (L2.CX g.P g.w) 1 f fd ["n", "d"] (spD g law_lowest_F) ∧ g.mg "_law_lowest" = some (.ref f) ∧ PySem.W.keepIn g.K (.ref f) = true ∧ DefFd g "_law_lowest" (topS 13) fd :=
  def_ok (N := ["n", "d", "a", "b", "c"]) h.f_law_lowest (fnScope_by' (by decide +kernel)) (law_lowest_know h) (by decide +kernel)
theorem law_lowest_prm : Prm g 1 "_law_lowest" law_lowest_F := def_prm (law_lowest_ok h) (fun _ _ _ _ _ _ us hl => match us, hl with | [_, _], _ => rfl)
theorem law_spots_know : Know g 1 law_spots_T := ⟨(List.forall_mem_cons.2 ⟨(law_cell_prm h).mono (by decide), (List.forall_mem_cons.2 ⟨(law_lowest_prm h).mono (by decide), (List.forall_mem_nil _)⟩)⟩), (List.forall_mem_nil _), List.forall_mem_nil _, (List.forall_mem_cons.2 ⟨h.b_int, (List.forall_mem_cons.2 ⟨h.b_range, (List.forall_mem_nil _)⟩)⟩), (List.forall_mem_nil _), List.forall_mem_nil _⟩
theorem law_spots_ok : ∃ f fd, FnOk g.P g.w g.K g.mg g.base (L2.CX g.P g.w) 2 f fd ["script"] (spD g law_spots_F) ∧ g.mg "_law_spots" = some (.ref f) ∧ PySem.W.keepIn g.K (.ref f) = true ∧ DefFd g "_law_spots" (topS 14) fd :=
  def_ok (N := ["script", "bottom", "shift", "k"]) h.f_law_spots (fnScope_by' (by decide +kernel)) (law_spots_know h) (by decide +kernel)
theorem law_spots_prm : Prm g 2 "_law_spots" law_spots_F := def_prm (law_spots_ok h) (fun _ _ _ _ _ _ us hl => match us, hl with | [_], _ => rfl)
theorem law_has_know : Know g 0 law_has_T := ⟨(List.forall_mem_nil _), (List.forall_mem_nil _), List.forall_mem_nil _, (List.forall_mem_nil _), (List.forall_mem_nil _), List.forall_mem_nil _⟩
theorem law_has_ok : ∃ f fd, FnOk g.P g.w g.K g.mg g.base (L2.CX g.P g.w) 1 f fd ["ends", "k"] (spD g law_has_F) ∧ g.mg "_law_has" = some (.ref f) ∧ PySem.W.keepIn g.K (.ref f) = true ∧ DefFd g "_law_has" (topS 15) fd :=
  def_ok (N := ["ends", "k"]) h.f_law_has (fnScope_by' (by decide +kernel)) (law_has_know h) (by decide +kernel)
theorem law_has_prm : Prm g 1 "_law_has" law_has_F := def_prm (law_has_ok h) (fun _ _ _ _ _ _ us hl => match us, hl with | [_, _], _ => rfl)
theorem law_set_know : Know g 1 law_set_T := ⟨(List.forall_mem_cons.2 ⟨(law_has_prm h).mono (by decide), (List.forall_mem_nil _)⟩), (List.forall_mem_nil _), List.forall_mem_nil _, (List.forall_mem_cons.2 ⟨h.b_range, (List.forall_mem_nil _)⟩), (List.forall_mem_nil _), List.forall_mem_nil _⟩
theorem law_set_ok : ∃ f fd, FnOk g.P g.w g.K g.mg g.base (L2.CX g.P g.w) 2 f fd ["ends"] (spD g law_set_F) ∧ g.mg "_law_set" = some (.ref f) ∧ PySem.W.keepIn g.K (.ref f) = true ∧ DefFd g "_law_set" (topS 16) fd :=
  def_ok (N := ["ends", "k"]) h.f_law_set (fnScope_by' (by decide +kernel)) (law_set_know h) (by decide +kernel)
theorem law_set_prm : Prm g 2 "_law_set" law_set_F := def_prm (law_set_ok h) (fun _ _ _ _ _ _ us hl => match us, hl with | [_], _ => rfl)
theorem law_shared_know : Know g 0 law_shared_T := ⟨(List.forall_mem_nil _), (List.forall_mem_nil _), List.forall_mem_nil _, (List.forall_mem_nil _), (List.forall_mem_nil _), List.forall_mem_nil _⟩
theorem law_shared_ok : ∃ f fd, FnOk g.P g.w g.K g.mg g.base (L2.CX g.P g.w) 1 f fd ["one", "other"] (spD g law_shared_F) ∧ g.mg "_law_shared" = some (.ref f) ∧ PySem.W.keepIn g.K (.ref f) = true ∧ DefFd g "_law_shared" (topS 17) fd :=
  def_ok (N := ["one", "other", "k"]) h.f_law_shared (fnScope_by' (by decide +kernel)) (law_shared_know h) (by decide +kernel)
theorem law_shared_prm : Prm g 1 "_law_shared" law_shared_F := def_prm (law_shared_ok h) (fun _ _ _ _ _ _ us hl => match us, hl with | [_, _], _ => rfl)
theorem law_drawn_know : Know g 1 law_drawn_T := ⟨(List.forall_mem_cons.2 ⟨(law_cell_prm h).mono (by decide), (List.forall_mem_cons.2 ⟨(law_digits_prm h).mono (by decide), (List.forall_mem_nil _)⟩)⟩), (List.forall_mem_nil _), List.forall_mem_nil _, (List.forall_mem_cons.2 ⟨h.b_int, (List.forall_mem_cons.2 ⟨h.b_range, (List.forall_mem_cons.2 ⟨h.b_min, (List.forall_mem_cons.2 ⟨h.b_max, (List.forall_mem_nil _)⟩)⟩)⟩)⟩), (List.forall_mem_nil _), List.forall_mem_nil _⟩
theorem law_drawn_ok : ∃ f fd, FnOk g.P g.w g.K g.mg g.base (L2.CX g.P g.w) 2 f fd ["script"] (spD g law_drawn_F) ∧ g.mg "_law_drawn" = some (.ref f) ∧ PySem.W.keepIn g.K (.ref f) = true ∧ DefFd g "_law_drawn" (topS 18) fd :=
  def_ok (N := ["script", "many", "tight", "drawn", "k", "row", "low", "high"]) h.f_law_drawn (fnScope_by' (by decide +kernel)) (law_drawn_know h) (by decide +kernel)
theorem law_drawn_prm : Prm g 2 "_law_drawn" law_drawn_F := def_prm (law_drawn_ok h) (fun _ _ _ _ _ _ us hl => match us, hl with | [_], _ => rfl)
theorem law_told_know : Know g 0 law_told_T := ⟨(List.forall_mem_nil _), (List.forall_mem_nil _), List.forall_mem_nil _, (List.forall_mem_nil _), (List.forall_mem_nil _), List.forall_mem_nil _⟩
theorem law_told_ok : ∃ f fd, FnOk g.P g.w g.K g.mg g.base (L2.CX g.P g.w) 1 f fd ["ends", "spots"] (spD g law_told_F) ∧ g.mg "_law_told" = some (.ref f) ∧ PySem.W.keepIn g.K (.ref f) = true ∧ DefFd g "_law_told" (topS 19) fd :=
  def_ok (N := ["ends", "spots"]) h.f_law_told (fnScope_by' (by decide +kernel)) (law_told_know h) (by decide +kernel)
theorem law_told_prm : Prm g 1 "_law_told" law_told_F := def_prm (law_told_ok h) (fun _ _ _ _ _ _ us hl => match us, hl with | [_, _], _ => rfl)
theorem law_due_know : Know g 0 law_due_T := ⟨(List.forall_mem_nil _), (List.forall_mem_nil _), List.forall_mem_nil _, (List.forall_mem_nil _), (List.forall_mem_nil _), List.forall_mem_nil _⟩
theorem law_due_ok : ∃ f fd, FnOk g.P g.w g.K g.mg g.base (L2.CX g.P g.w) 1 f fd ["numbers", "spots"] (spD g law_due_F) ∧ g.mg "_law_due" = some (.ref f) ∧ PySem.W.keepIn g.K (.ref f) = true ∧ DefFd g "_law_due" (topS 20) fd :=
  def_ok (N := ["numbers", "spots", "low", "high"]) h.f_law_due (fnScope_by' (by decide +kernel)) (law_due_know h) (by decide +kernel)
theorem law_due_prm : Prm g 1 "_law_due" law_due_F := def_prm (law_due_ok h) (fun _ _ _ _ _ _ us hl => match us, hl with | [_, _], _ => rfl)
theorem law_is_stretch_know : Know g 1 law_is_stretch_T := ⟨(List.forall_mem_cons.2 ⟨(law_due_prm h).mono (by decide), (List.forall_mem_nil _)⟩), (List.forall_mem_nil _), List.forall_mem_nil _, (List.forall_mem_cons.2 ⟨h.b_isinstance, (List.forall_mem_cons.2 ⟨h.b_tuple, (List.forall_mem_cons.2 ⟨h.b_len, (List.forall_mem_cons.2 ⟨h.b_bool, (List.forall_mem_nil _)⟩)⟩)⟩)⟩), (List.forall_mem_nil _), List.forall_mem_nil _⟩
theorem law_is_stretch_ok : ∃ f fd, FnOk g.P g.w g.K g.mg g.base (L2.CX g.P g.w) 2 f fd ["value", "spots", "due"] (spD g law_is_stretch_F) ∧ g.mg "_law_is_stretch" = some (.ref f) ∧ PySem.W.keepIn g.K (.ref f) = true ∧ DefFd g "_law_is_stretch" (topS 21) fd :=
  def_ok (N := ["value", "spots", "due", "number"]) h.f_law_is_stretch (fnScope_by' (by decide +kernel)) (law_is_stretch_know h) (by decide +kernel)
theorem law_is_stretch_prm : Prm g 2 "_law_is_stretch" law_is_stretch_F := def_prm (law_is_stretch_ok h) (fun _ _ _ _ _ _ us hl => match us, hl with | [_, _, _], _ => rfl)
theorem law_single_know : Know g 2 law_single_T := ⟨(List.forall_mem_cons.2 ⟨(stretch_prm h).mono (by decide), (List.forall_mem_cons.2 ⟨(law_set_prm h).mono (by decide), (List.forall_mem_cons.2 ⟨(law_told_prm h).mono (by decide), (List.forall_mem_cons.2 ⟨(in_stretch_prm h).mono (by decide), (List.forall_mem_cons.2 ⟨(law_has_prm h).mono (by decide), (List.forall_mem_nil _)⟩)⟩)⟩)⟩)⟩), (List.forall_mem_nil _), List.forall_mem_nil _, (List.forall_mem_cons.2 ⟨h.b_isinstance, (List.forall_mem_cons.2 ⟨h.b_tuple, (List.forall_mem_cons.2 ⟨h.b_bool, (List.forall_mem_cons.2 ⟨h.b_range, (List.forall_mem_nil _)⟩)⟩)⟩)⟩), (List.forall_mem_nil _), List.forall_mem_nil _⟩
theorem law_single_ok : ∃ f fd, FnOk g.P g.w g.K g.mg g.base (L2.CX g.P g.w) 3 f fd ["ends", "spots"] (spD g law_single_F) ∧ g.mg "_law_single" = some (.ref f) ∧ PySem.W.keepIn g.K (.ref f) = true ∧ DefFd g "_law_single" (topS 22) fd :=
  def_ok (N := ["ends", "spots", "told", "k", "answer"]) h.f_law_single (fnScope_by' (by decide +kernel)) (law_single_know h) (by decide +kernel)
theorem law_single_prm : Prm g 3 "_law_single" law_single_F := def_prm (law_single_ok h) (fun _ _ _ _ _ _ us hl => match us, hl with | [_, _], _ => rfl)
theorem law_is_index_know : Know g 0 law_is_index_T := ⟨(List.forall_mem_nil _), (List.forall_mem_nil _), List.forall_mem_nil _, (List.forall_mem_cons.2 ⟨h.b_isinstance, (List.forall_mem_cons.2 ⟨h.b_int, (List.forall_mem_cons.2 ⟨h.b_bool, (List.forall_mem_nil _)⟩)⟩)⟩), (List.forall_mem_nil _), List.forall_mem_nil _⟩
theorem law_is_index_ok : ∃ f fd, FnOk g.P g.w g.K g.mg g.base (L2.CX g.P g.w) 1 f fd ["value", "many"] (spD g law_is_index_F) ∧ g.mg "_law_is_index" = some (.ref f) ∧ PySem.W.keepIn g.K (.ref f) = true ∧ DefFd g "_law_is_index" (topS 23) fd :=
  def_ok (N := ["value", "many"]) h.f_law_is_index (fnScope_by' (by decide +kernel)) (law_is_index_know h) (by decide +kernel)
theorem law_is_index_prm : Prm g 1 "_law_is_index" law_is_index_F := def_prm (law_is_index_ok h) (fun _ _ _ _ _ _ us hl => match us, hl with | [_, _], _ => rfl)
theorem law_all_due_know : Know g 1 law_all_due_T := ⟨(List.forall_mem_cons.2 ⟨(law_shared_prm h).mono (by decide), (List.forall_mem_nil _)⟩), (List.forall_mem_nil _), List.forall_mem_nil _, (List.forall_mem_cons.2 ⟨h.b_range, (List.forall_mem_cons.2 ⟨h.b_len, (List.forall_mem_nil _)⟩)⟩), (List.forall_mem_nil _), List.forall_mem_nil _⟩
theorem law_all_due_ok : ∃ f fd, FnOk g.P g.w g.K g.mg g.base (L2.CX g.P g.w) 2 f fd ["sets"] (spD g law_all_due_F) ∧ g.mg "_law_all_due" = some (.ref f) ∧ PySem.W.keepIn g.K (.ref f) = true ∧ DefFd g "_law_all_due" (topS 24) fd :=
  def_ok (N := ["sets", "shared", "one", "i", "j"]) h.f_law_all_due (fnScope_by' (by decide +kernel)) (law_all_due_know h) (by decide +kernel)
theorem law_all_due_prm : Prm g 2 "_law_all_due" law_all_due_F := def_prm (law_all_due_ok h) (fun _ _ _ _ _ _ us hl => match us, hl with | [_], _ => rfl)
theorem law_all_know : Know g 4 law_all_T := ⟨(List.forall_mem_cons.2 ⟨(meet_all_prm h).mono (by decide), (List.forall_mem_cons.2 ⟨(law_all_due_prm h).mono (by decide), (List.forall_mem_cons.2 ⟨(law_is_stretch_prm h).mono (by decide), (List.forall_mem_cons.2 ⟨(law_is_index_prm h).mono (by decide), (List.forall_mem_nil _)⟩)⟩)⟩)⟩), (List.forall_mem_nil _), List.forall_mem_nil _, (List.forall_mem_cons.2 ⟨h.b_list, (List.forall_mem_cons.2 ⟨h.b_isinstance, (List.forall_mem_cons.2 ⟨h.b_tuple, (List.forall_mem_cons.2 ⟨h.b_len, (List.forall_mem_nil _)⟩)⟩)⟩)⟩), (List.forall_mem_nil _), List.forall_mem_nil _⟩
theorem law_all_ok : ∃ f fd, FnOk g.P g.w g.K g.mg g.base (L2.CX g.P g.w) 5 f fd ["stretches", "sets", "spots"] (spD g law_all_F) ∧ g.mg "_law_all" = some (.ref f) ∧ PySem.W.keepIn g.K (.ref f) = true ∧ DefFd g "_law_all" (topS 25) fd :=
  def_ok (N := ["stretches", "sets", "spots", "handed", "told", "due", "k"]) h.f_law_all (fnScope_by' (by decide +kernel)) (law_all_know h) (by decide +kernel)
theorem law_all_prm : Prm g 5 "_law_all" law_all_F := def_prm (law_all_ok h) (fun _ _ _ _ _ _ us hl => match us, hl with | [_, _, _], _ => rfl)
theorem law_most_know : Know g 4 law_most_T := ⟨(List.forall_mem_cons.2 ⟨(most_met_prm h).mono (by decide), (List.forall_mem_cons.2 ⟨(law_is_index_prm h).mono (by decide), (List.forall_mem_nil _)⟩)⟩), (List.forall_mem_nil _), List.forall_mem_nil _, (List.forall_mem_cons.2 ⟨h.b_list, (List.forall_mem_cons.2 ⟨h.b_isinstance, (List.forall_mem_cons.2 ⟨h.b_range, (List.forall_mem_cons.2 ⟨h.b_len, (List.forall_mem_nil _)⟩)⟩)⟩)⟩), (List.forall_mem_nil _), List.forall_mem_nil _⟩
theorem law_most_ok : ∃ f fd, FnOk g.P g.w g.K g.mg g.base (L2.CX g.P g.w) 5 f fd ["mixed", "sets"] (spD g law_most_F) ∧ g.mg "_law_most" = some (.ref f) ∧ PySem.W.keepIn g.K (.ref f) = true ∧ DefFd g "_law_most" (topS 26) fd :=
  def_ok (N := ["mixed", "sets", "handed", "told", "best", "k", "i", "met"]) h.f_law_most (fnScope_by' (by decide +kernel)) (law_most_know h) (by decide +kernel)
theorem law_most_prm : Prm g 5 "_law_most" law_most_F := def_prm (law_most_ok h) (fun _ _ _ _ _ _ us hl => match us, hl with | [_, _], _ => rfl)
theorem law_know : Know g 5 law_T := ⟨(List.forall_mem_cons.2 ⟨(law_spots_prm h).mono (by decide), (List.forall_mem_cons.2 ⟨(law_drawn_prm h).mono (by decide), (List.forall_mem_cons.2 ⟨(law_single_prm h).mono (by decide), (List.forall_mem_cons.2 ⟨(law_set_prm h).mono (by decide), (List.forall_mem_cons.2 ⟨(law_told_prm h).mono (by decide), (List.forall_mem_cons.2 ⟨(most_met_prm h).mono (by decide), (List.forall_mem_cons.2 ⟨(law_shared_prm h).mono (by decide), (List.forall_mem_cons.2 ⟨(meet_prm h).mono (by decide), (List.forall_mem_cons.2 ⟨(law_is_stretch_prm h).mono (by decide), (List.forall_mem_cons.2 ⟨(law_all_prm h).mono (by decide), (List.forall_mem_cons.2 ⟨(law_most_prm h).mono (by decide), (List.forall_mem_cons.2 ⟨(law_cell_prm h).mono (by decide), (List.forall_mem_cons.2 ⟨(law_digits_prm h).mono (by decide), (List.forall_mem_nil _)⟩)⟩)⟩)⟩)⟩)⟩)⟩)⟩)⟩)⟩)⟩)⟩)⟩), (List.forall_mem_nil _), List.forall_mem_nil _, (List.forall_mem_cons.2 ⟨h.b_range, (List.forall_mem_cons.2 ⟨h.b_len, (List.forall_mem_nil _)⟩)⟩), (List.forall_mem_nil _), List.forall_mem_nil _⟩
theorem law_ok : ∃ f fd, FnOk g.P g.w g.K g.mg g.base (L2.CX g.P g.w) 6 f fd ["script"] (spD g law_F) ∧ g.mg "law" = some (.ref f) ∧ PySem.W.keepIn g.K (.ref f) = true ∧ DefFd g "law" (topS 27) fd :=
  def_ok (N := ["script", "spots", "drawn", "stretches", "sets", "ends", "i", "row", "j", "shared", "told", "k"]) h.f_law (fnScope_by' (by decide +kernel)) (law_know h) (by decide +kernel)
theorem law_prm : Prm g 6 "law" law_F := def_prm (law_ok h) (fun _ _ _ _ _ _ us hl => match us, hl with | [_], _ => rfl)
end
theorem all_mk {P : Program} {w : World} {K : PySem.W.Frag} {mg : Str → Option Value} {fa : Addr} (hfa : mg "law" = some (.ref fa))
    (f_below : ∀ base, DefAt ⟨P, w, K, mg, base⟩ "below" (topS 1))
    (f_stretch : ∀ base, DefAt ⟨P, w, K, mg, base⟩ "stretch" (topS 3))
    (f_in_stretch : ∀ base, DefAt ⟨P, w, K, mg, base⟩ "in_stretch" (topS 4))
    (f_meet : ∀ base, DefAt ⟨P, w, K, mg, base⟩ "meet" (topS 5))
    (f_meet_all : ∀ base, DefAt ⟨P, w, K, mg, base⟩ "meet_all" (topS 6))
    (f_begins_earlier : ∀ base, DefAt ⟨P, w, K, mg, base⟩ "begins_earlier" (topS 7))
    (f_covers_begin : ∀ base, DefAt ⟨P, w, K, mg, base⟩ "covers_begin" (topS 8))
    (f_most_met : ∀ base, DefAt ⟨P, w, K, mg, base⟩ "most_met" (topS 9))
    (f_law_cell : ∀ base, DefAt ⟨P, w, K, mg, base⟩ "_law_cell" (topS 11))
    (f_law_digits : ∀ base, DefAt ⟨P, w, K, mg, base⟩ "_law_digits" (topS 12))
    (f_law_lowest : ∀ base, DefAt ⟨P, w, K, mg, base⟩ "_law_lowest" (topS 13))
    (f_law_spots : ∀ base, DefAt ⟨P, w, K, mg, base⟩ "_law_spots" (topS 14))
    (f_law_has : ∀ base, DefAt ⟨P, w, K, mg, base⟩ "_law_has" (topS 15))
    (f_law_set : ∀ base, DefAt ⟨P, w, K, mg, base⟩ "_law_set" (topS 16))
    (f_law_shared : ∀ base, DefAt ⟨P, w, K, mg, base⟩ "_law_shared" (topS 17))
    (f_law_drawn : ∀ base, DefAt ⟨P, w, K, mg, base⟩ "_law_drawn" (topS 18))
    (f_law_told : ∀ base, DefAt ⟨P, w, K, mg, base⟩ "_law_told" (topS 19))
    (f_law_due : ∀ base, DefAt ⟨P, w, K, mg, base⟩ "_law_due" (topS 20))
    (f_law_is_stretch : ∀ base, DefAt ⟨P, w, K, mg, base⟩ "_law_is_stretch" (topS 21))
    (f_law_single : ∀ base, DefAt ⟨P, w, K, mg, base⟩ "_law_single" (topS 22))
    (f_law_is_index : ∀ base, DefAt ⟨P, w, K, mg, base⟩ "_law_is_index" (topS 23))
    (f_law_all_due : ∀ base, DefAt ⟨P, w, K, mg, base⟩ "_law_all_due" (topS 24))
    (f_law_all : ∀ base, DefAt ⟨P, w, K, mg, base⟩ "_law_all" (topS 25))
    (f_law_most : ∀ base, DefAt ⟨P, w, K, mg, base⟩ "_law_most" (topS 26))
    (f_law : ∀ base, DefAt ⟨P, w, K, mg, base⟩ "law" (topS 27))
    (b_range : mg "range" = none)
    (b_len : mg "len" = none)
    (b_enumerate : mg "enumerate" = none)
    (b_abs : mg "abs" = none)
    (b_int : mg "int" = none)
    (b_min : mg "min" = none)
    (b_max : mg "max" = none)
    (b_isinstance : mg "isinstance" = none)
    (b_tuple : mg "tuple" = none)
    (b_bool : mg "bool" = none)
    (b_list : mg "list" = none)
    : ∃ fd, LawOk P w K mg 6 fa fd "script" law_F := by
  have F : ∀ base, Facts ⟨P, w, K, mg, base⟩ := fun base => ⟨f_below base, f_stretch base, f_in_stretch base, f_meet base, f_meet_all base, f_begins_earlier base, f_covers_begin base, f_most_met base, f_law_cell base, f_law_digits base, f_law_lowest base, f_law_spots base, f_law_has base, f_law_set base, f_law_shared base, f_law_drawn base, f_law_told base, f_law_due base, f_law_is_stretch base, f_law_single base, f_law_is_index base, f_law_all_due base, f_law_all base, f_law_most base, f_law base, b_range, b_len, b_enumerate, b_abs, b_int, b_min, b_max, b_isinstance, b_tuple, b_bool, b_list⟩
  exact law_of (N := ["script", "spots", "drawn", "stretches", "sets", "ends", "i", "row", "j", "shared", "told", "k"]) (B := law_B) (T := law_T) hfa f_law (fnScope_by' (by decide +kernel)) (fun base => law_know (F base)) (by decide +kernel) (fun _ _ _ _ _ _ us hl => match us, hl with | [_], _ => rfl)
end Pg
namespace Pg
open PySem PySem.Spec L2 Rf
structure Spots (N M : Nat → Int) : Prop where
  lt : ∀ i j, i ≤ 16 → j ≤ 16 → ((N i * M j < N j * M i) ↔ i < j)
  eq : ∀ i j, i ≤ 16 → j ≤ 16 → N i = N j → M i = M j → i = j
  bN : ∀ i, i ≤ 16 → (N i).natAbs < 2 ^ 120
  bM : ∀ i, i ≤ 16 → (M i).natAbs < 2 ^ 120
def sp (N M : Nat → Int) (k : Nat) : D := .tup [.int (N k), .int (M k)]
def told (N M : Nat → Int) (e : Nat × Nat) : D := .tup [sp N M (e.1 / 2 * 2), .bl (decide (e.1 % 2 = 0)), sp N M (e.2 / 2 * 2), .bl (decide (e.2 % 2 = 1))]
def ende (e : Nat × Nat) : D := .tup [.int ((e.1 / 2 * 2 : Nat) : Int), .bl (decide (e.1 % 2 = 0)), .int ((e.2 / 2 * 2 : Nat) : Int), .bl (decide (e.2 % 2 = 1))]
def spL (N M : Nat → Int) : D := .lst ((List.range 17).map (sp N M))
def okE (e : Nat × Nat) : Prop := e.1 ≤ 17 ∧ e.2 ≤ 17
def nums (l : List Nat) : D := .lst (l.map fun k : Nat => D.int (k : Int))
def iv (e : Nat × Nat) : List Nat := (List.range 17).filter fun k => decide (e.1 ≤ k) && decide (k < e.2)
theorem ce (e : Nat) (h : e ≤ 17) : e / 2 * 2 ≤ 16 := by omega
theorem stretch_b {a b : D} {p q c1 c2 : Bool} (x : below_F [b, a] = .ok (.bl c1)) (y : cop .eq a b = .ok (.bl c2)) : stretch_F [a, .bl p, b, .bl q] = .ok (if (c1 || c2 && !(p && q)) = true then .non else .tup [a, .bl p, b, .bl q]) := by
  cases c1 <;> cases c2 <;> cases p <;> cases q <;> simp [stretch_F, runFn, stretch_B, x, y]
theorem in_b {n a b : D} {p q c1 c2 c3 c4 : Bool} (x : below_F [n, a] = .ok (.bl c1)) (y : cop .eq n a = .ok (.bl c2)) (x' : below_F [n, b] = .ok (.bl c3)) (y' : cop .eq n b = .ok (.bl c4)) : in_stretch_F [n, .tup [a, .bl p, b, .bl q]] = .ok (.bl (!(c1 || c2 && !p) && (c3 || c4 && q))) := by
  cases c1 <;> cases c2 <;> cases p <;> cases q <;> cases c3 <;> cases c4 <;> simp [in_stretch_F, runFn, in_stretch_B, x, y, x', y']
theorem meet_b {a b a' b' : D} {p q p' q' c1 c2 c3 c4 : Bool} (x : below_F [a, a'] = .ok (.bl c1)) (y : cop .eq a a' = .ok (.bl c2)) (x' : below_F [b', b] = .ok (.bl c3)) (y' : cop .eq b b' = .ok (.bl c4)) :
    meet_F [.tup [a, .bl p, b, .bl q], .tup [a', .bl p', b', .bl q']] = stretch_F [bif c1 then a' else a, .bl (bif c1 then p' else bif c2 then p && p' else p), bif c3 then b' else b, .bl (bif c3 then q' else bif c4 then q && q' else q)] := by
  have e : ∀ ds, ds.length = 4 → (match (match stretch_F ds with | .ok d => Out.rt d | .err z => Out.err z [] | .bad => Out.bad) with | .nx _ => R.ok D.non | .rt d => .ok d | .err z _ => .err z | _ => .bad) = stretch_F ds := fun ds _ => by cases stretch_F ds <;> rfl
  cases c1 <;> cases c2 <;> cases c3 <;> cases c4 <;> cases p <;> cases q <;> simp [meet_F, runFn, meet_B, x, y, x', y'] <;> (generalize stretch_F _ = r; cases r <;> rfl)
theorem beg_b {a b a' b' : D} {p q p' q' c1 c2 : Bool} (x : below_F [a, a'] = .ok (.bl c1)) (y : cop .eq a a' = .ok (.bl c2)) : begins_earlier_F [.tup [a, .bl p, b, .bl q], .tup [a', .bl p', b', .bl q']] = .ok (.bl (c1 || c2 && p && !p')) := by
  cases c1 <;> cases c2 <;> cases p <;> cases p' <;> simp [begins_earlier_F, runFn, begins_earlier_B, x, y]
theorem cov_b {a b a' b' : D} {p q p' q' c1 c2 c0 : Bool} (w : begins_earlier_F [.tup [a', .bl p', b', .bl q'], .tup [a, .bl p, b, .bl q]] = .ok (.bl c0)) (x : below_F [a', b] = .ok (.bl c1)) (y : cop .eq a' b = .ok (.bl c2)) : covers_begin_F [.tup [a, .bl p, b, .bl q], .tup [a', .bl p', b', .bl q']] = .ok (.bl (!c0 && (c1 || c2 && q && p'))) := by
  cases c0 <;> cases c1 <;> cases c2 <;> cases q <;> cases p' <;> simp [covers_begin_F, runFn, covers_begin_B, w, x, y]
def mt (e f : Nat × Nat) : Nat × Nat := (max e.1 f.1, min e.2 f.2)
theorem ok_mt {e f : Nat × Nat} (he : okE e) (hf : okE f) : okE (mt e f) := ⟨by have := he.1; have := hf.1; simp only [mt]; omega, by have := he.2; have := hf.2; simp only [mt]; omega⟩
section
variable {N M : Nat → Int} (s : Spots N M)
include s
theorem below_sp {i j : Nat} (hi : i ≤ 16) (hj : j ≤ 16) : below_F [sp N M i, sp N M j] = .ok (.bl (decide (i < j))) := by
  have h1 : okMul (N i) (M j) = true := okMul_of (s.bN i hi) (s.bM j hj) (by decide)
  have h2 : okMul (N j) (M i) = true := okMul_of (s.bN j hj) (s.bM i hi) (by decide)
  simp [below_F, runFn, below_B, sp, bop_mul h1, bop_mul h2, decide_eq_decide.mpr (s.lt i j hi hj)]
theorem eq_sp {i j : Nat} (hi : i ≤ 16) (hj : j ≤ 16) : eqD (sp N M i) (sp N M j) = .ok (decide (i = j)) := by
  rw [eqD_of (n := 1) rfl rfl rfl]
  congr 1
  refine decide_eq_decide.mpr ⟨fun h => ?_, fun h => h ▸ rfl⟩
  simp only [sp, D.tup.injEq, List.cons.injEq, D.int.injEq] at h
  exact s.eq i j hi hj h.1 h.2.1
theorem cop_sp {i j : Nat} (hi : i ≤ 16) (hj : j ≤ 16) : cop .eq (sp N M i) (sp N M j) = .ok (.bl (decide (i = j))) := by rw [cop, eq_sp s hi hj]; rfl
theorem stretch_told {e : Nat × Nat} (he : okE e) : stretch_F [sp N M (e.1 / 2 * 2), .bl (decide (e.1 % 2 = 0)), sp N M (e.2 / 2 * 2), .bl (decide (e.2 % 2 = 1))] = .ok (if e.1 < e.2 then told N M e else .non) := by
  obtain ⟨b, u⟩ := e
  obtain ⟨h1, h2⟩ := he
  rw [stretch_b (below_sp s (ce u h2) (ce b h1)) (cop_sp s (ce b h1) (ce u h2))]
  have : ((decide (u / 2 * 2 < b / 2 * 2) || decide (b / 2 * 2 = u / 2 * 2) && !(decide (b % 2 = 0) && decide (u % 2 = 1))) = true) ↔ ¬ b < u := by simp; omega
  by_cases h : b < u
  · rw [if_neg (fun k => this.mp k h)]; simp [h, told]
  · rw [if_pos (this.mpr h)]; simp [h]
theorem in_told {e : Nat × Nat} (he : okE e) {k : Nat} (hk : k ≤ 16) : in_stretch_F [sp N M k, told N M e] = .ok (.bl (decide (e.1 ≤ k) && decide (k < e.2))) := by
  obtain ⟨b, u⟩ := e
  obtain ⟨h1, h2⟩ := he
  unfold told
  rw [in_b (below_sp s hk (ce b h1)) (cop_sp s hk (ce b h1)) (below_sp s hk (ce u h2)) (cop_sp s hk (ce u h2))]
  congr 2
  rw [Bool.eq_iff_iff]
  simp
  simp only at h1 h2
  omega
theorem meet_told {e f : Nat × Nat} (he : okE e) (hf : okE f) : meet_F [told N M e, told N M f] = .ok (if (mt e f).1 < (mt e f).2 then told N M (mt e f) else .non) := by
  rw [← stretch_told s (ok_mt he hf)]
  obtain ⟨b, u⟩ := e
  obtain ⟨h1, h2⟩ := he
  obtain ⟨b', u'⟩ := f
  obtain ⟨h3, h4⟩ := hf
  unfold told
  rw [meet_b (below_sp s (ce b h1) (ce b' h3)) (cop_sp s (ce b h1) (ce b' h3)) (below_sp s (ce u' h4) (ce u h2)) (cop_sp s (ce u h2) (ce u' h4))]
  simp only at h1 h2 h3 h4
  congr 1
  have k1 : (bif decide (b / 2 * 2 < b' / 2 * 2) then sp N M (b' / 2 * 2) else sp N M (b / 2 * 2)) = sp N M ((mt (b, u) (b', u')).1 / 2 * 2) := by
    simp only [mt, Bool.cond_decide]; split
    · congr 1; omega
    · congr 1; omega
  have k2 : (bif decide (u' / 2 * 2 < u / 2 * 2) then sp N M (u' / 2 * 2) else sp N M (u / 2 * 2)) = sp N M ((mt (b, u) (b', u')).2 / 2 * 2) := by
    simp only [mt, Bool.cond_decide]; split
    · congr 1; omega
    · congr 1; omega
  have k3 : (bif decide (b / 2 * 2 < b' / 2 * 2) then decide (b' % 2 = 0) else bif decide (b / 2 * 2 = b' / 2 * 2) then decide (b % 2 = 0) && decide (b' % 2 = 0) else decide (b % 2 = 0)) = decide ((mt (b, u) (b', u')).1 % 2 = 0) := by
    have g : max b b' = b ∧ b' ≤ b ∨ max b b' = b' ∧ b ≤ b' := by omega
    simp only [mt, Bool.cond_decide]
    rcases g with ⟨g, g'⟩ | ⟨g, g'⟩ <;> rw [Bool.eq_iff_iff] <;> split <;> (try split) <;> simp only [Bool.and_eq_true, decide_eq_true_eq, g] <;> omega
  have k4 : (bif decide (u' / 2 * 2 < u / 2 * 2) then decide (u' % 2 = 1) else bif decide (u / 2 * 2 = u' / 2 * 2) then decide (u % 2 = 1) && decide (u' % 2 = 1) else decide (u % 2 = 1)) = decide ((mt (b, u) (b', u')).2 % 2 = 1) := by
    have g : min u u' = u ∧ u ≤ u' ∨ min u u' = u' ∧ u' ≤ u := by omega
    simp only [mt, Bool.cond_decide]
    rcases g with ⟨g, g'⟩ | ⟨g, g'⟩ <;> rw [Bool.eq_iff_iff] <;> split <;> (try split) <;> simp only [Bool.and_eq_true, decide_eq_true_eq, g] <;> omega
  rw [k1, k2, k3, k4]
theorem beg_told {e f : Nat × Nat} (he : okE e) (hf : okE f) : begins_earlier_F [told N M e, told N M f] = .ok (.bl (decide (e.1 < f.1))) := by
  obtain ⟨b, u⟩ := e
  obtain ⟨h1, h2⟩ := he
  obtain ⟨b', u'⟩ := f
  obtain ⟨h3, h4⟩ := hf
  unfold told
  rw [beg_b (below_sp s (ce b h1) (ce b' h3)) (cop_sp s (ce b h1) (ce b' h3))]
  simp only at h1 h2 h3 h4
  congr 2
  rw [Bool.eq_iff_iff]
  simp
  omega
/-- covers_begin(one, other) -/
theorem cov_told {e f : Nat × Nat} (he : okE e) (hf : okE f) (h : f.1 < f.2) : covers_begin_F [told N M e, told N M f] = .ok (.bl (decide (e.1 ≤ f.1) && decide (f.1 < e.2))) := by
  have x := beg_told s hf he
  obtain ⟨b, u⟩ := e
  obtain ⟨h1, h2⟩ := he
  obtain ⟨b', u'⟩ := f
  obtain ⟨h3, h4⟩ := hf
  unfold told at x ⊢
  rw [cov_b x (below_sp s (ce b' h3) (ce u h2)) (cop_sp s (ce b' h3) (ce u h2))]
  simp only at h1 h2 h3 h4
  congr 2
  rw [Bool.eq_iff_iff]
  simp
  omega
end
end Pg
namespace Pg
open PySem PySem.Spec L2 Rf
theorem has_b {n a b : D} {p q c1 c2 c3 c4 : Bool} (x : cop .lt n a = .ok (.bl c1)) (y : cop .eq n a = .ok (.bl c2)) (x' : cop .lt n b = .ok (.bl c3)) (y' : cop .eq n b = .ok (.bl c4)) : law_has_F [.tup [a, .bl p, b, .bl q], n] = .ok (.bl (!(c1 || c2 && !p) && (c3 || c4 && q))) := by
  cases c1 <;> cases c2 <;> cases p <;> cases q <;> cases c3 <;> cases c4 <;> simp [law_has_F, runFn, law_has_B, x, y, x', y']
theorem has_ende (e : Nat × Nat) (k : Nat) : law_has_F [ende e, .int (k : Int)] = .ok (.bl (decide (e.1 ≤ k) && decide (k < e.2))) := by
  obtain ⟨b, u⟩ := e
  unfold ende
  rw [has_b (cop_lt _ _) (cop_eq_int _ _) (cop_lt _ _) (cop_eq_int _ _)]
  congr 2
  rw [Bool.eq_iff_iff]
  simp
  omega
theorem rng17 : rngD 0 17 = (List.range 17).map fun k : Nat => D.int (k : Int) := rngD_zero 17
theorem okR17 : okRng 17 = true := by decide
theorem iv_len (e : Nat × Nat) : (iv e).length ≤ 17 := by
  have := List.length_filter_le (fun k => decide (e.1 ≤ k) && decide (k < e.2)) (List.range 17)
  simpa [iv] using this
theorem set_ende (e : Nat × Nat) : law_set_F [ende e] = .ok (nums (iv e)) := by
  have h : ∀ x, ev law_set_T law_set_C1 [some (.v (ende e)), x] = .ok (nums (iv e)) := fun x =>
    ev_comp_map (fun k : Nat => D.int (k : Int)) (List.range 17) (fun k => decide (e.1 ≤ k) && decide (k < e.2)) (fun k : Nat => D.int (k : Int)) (by simp [okR17, rng17]) (fun k _ => ⟨_, rfl, by simp [has_ende], fun _ => by simp⟩) (by simp)
  simp [law_set_F, law_set_B, runFn, -ev_comp, h]
theorem mem_nums (i : Nat) (l : List Nat) : memD (.int (i : Int)) (l.map fun k : Nat => D.int (k : Int)) = .ok (decide (i ∈ l)) := by
  have := mem_ints (i : Int) (l.map fun k : Nat => (k : Int))
  rw [List.map_map] at this
  rw [show (l.map fun k : Nat => D.int (k : Int)) = l.map (D.int ∘ fun k : Nat => (k : Int)) from rfl, this]
  congr 1
  refine decide_eq_decide.mpr ⟨fun h => ?_, fun h => List.mem_map_of_mem h⟩
  obtain ⟨a, ha, h⟩ := List.mem_map.mp h
  have : a = i := by omega
  exact this ▸ ha
theorem eqD_nums (l m : List Nat) : eqD (nums l) (nums m) = .ok (decide (l = m)) := by
  have := eqD_ints (l.map fun k : Nat => (k : Int)) (m.map fun k : Nat => (k : Int))
  rw [List.map_map, List.map_map] at this
  unfold nums
  rw [show (fun k : Nat => D.int (k : Int)) = (D.int ∘ fun k : Nat => (k : Int)) from rfl, this]
  congr 1
  exact decide_eq_decide.mpr ⟨fun h => (List.map_inj_right (fun a b h => by omega)).mp h, fun h => by rw [h]⟩
theorem iv_mem (e : Nat × Nat) (k : Nat) : k ∈ iv e ↔ k ≤ 16 ∧ e.1 ≤ k ∧ k < e.2 := by
  simp [iv]; omega
theorem shared_nums (a b : Nat × Nat) : law_shared_F [nums (iv a), nums (iv b)] = .ok (nums (iv (mt a b))) := by
  have e : (iv a).filter (fun k => decide (k ∈ iv b)) = iv (mt a b) := by
    rw [show iv a = (List.range 17).filter _ from rfl, List.filter_filter, show iv (mt a b) = (List.range 17).filter _ from rfl]
    refine List.filter_congr fun k hk => ?_
    rw [Bool.eq_iff_iff]
    have := List.mem_range.mp hk
    simp [iv_mem]
    simp only [mt]
    omega
  have hn : ∀ x, itemsD (nums x) = .ok (x.map fun k : Nat => D.int (k : Int)) := fun _ => rfl
  have h : ∀ x, ev law_shared_T law_shared_C1 [some (.v (nums (iv a))), some (.v (nums (iv b))), x] = .ok (nums (iv (mt a b))) := fun x => by
    unfold law_shared_C1; rw [ev_comp_map (fun k : Nat => D.int (k : Int)) (iv a) (fun k => decide (k ∈ iv b)) (fun k : Nat => D.int (k : Int)) (by simp [hn]) (fun k _ => ⟨_, rfl, by simp [cop, hn, mem_nums], fun _ => by simp⟩) (Nat.le_trans (iv_len a) (by decide)), e]
    rfl
  simp [law_shared_F, law_shared_B, runFn, -ev_comp, h]
theorem iv_range : ∀ b ≤ 17, ∀ u ≤ 17, iv (b, u) = List.range' b (u - b) := by decide +kernel
theorem iv_nil {e : Nat × Nat} (h : okE e) : iv e = [] ↔ ¬ e.1 < e.2 := by
  obtain ⟨b, u⟩ := e
  rw [iv_range b h.1 u h.2, List.range'_eq_nil_iff]
  simp only [Nat.sub_eq_zero_iff_le, Nat.not_lt]
theorem spL_ix (N M : Nat → Int) {k : Nat} (hk : k ≤ 16) : ixD (spL N M) (.int (k : Int)) = .ok (sp N M k) :=
  ixD_nat (by rw [List.getElem?_map, List.getElem?_range (by omega)]; rfl)
theorem told_b (N M : Nat → Int) {i j : Nat} (p q : Bool) (hi : i ≤ 16) (hj : j ≤ 16) : law_told_F [.tup [.int (i : Int), .bl p, .int (j : Int), .bl q], spL N M] = .ok (.tup [sp N M i, .bl p, sp N M j, .bl q]) := by
  simp [law_told_F, law_told_B, runFn, spL_ix N M hi, spL_ix N M hj, okLen_small]
theorem told_ende (N M : Nat → Int) {e : Nat × Nat} (h : okE e) : law_told_F [ende e, spL N M] = .ok (told N M e) := told_b N M _ _ (ce e.1 h.1) (ce e.2 h.2)
theorem ixD_last {xs : List D} {d : D} (h : xs.getLast? = some d) : ixD (.lst xs) (.int (-1)) = .ok d := by
  have hne : xs ≠ [] := fun k => by subst k; simp at h
  have hl := List.length_pos_iff.mpr hne
  have e : L2.ixN xs.length (-1) = some (xs.length - 1) := by unfold L2.ixN; rw [if_neg (by omega), if_pos (by omega)]; congr 1; omega
  rw [List.getLast?_eq_getElem?] at h
  simp [ixD, L2.atI, e, h, ofO]
theorem due_nums (N M : Nat → Int) {e : Nat × Nat} (h : okE e) (hl : e.1 < e.2) : law_due_F [nums (iv e), spL N M] = .ok (told N M e) := by
  obtain ⟨b, u⟩ := e
  have h1 := spL_ix N M (ce b h.1)
  have h2 := spL_ix N M (ce u h.2)
  simp only at hl
  have f0 : ixD (nums (iv (b, u))) (.int 0) = .ok (.int (b : Int)) := by
    rw [iv_range b h.1 u h.2]
    exact ixD_nat (i := 0) (by rw [List.getElem?_map, List.getElem?_range' (by omega)]; simp)
  have f1 : ixD (nums (iv (b, u))) (.int (-1)) = .ok (.int ((u - 1 : Nat) : Int)) := by
    rw [iv_range b h.1 u h.2]
    refine ixD_last ?_
    rw [List.getLast?_eq_getElem?, List.length_map, List.length_range', List.getElem?_map, List.getElem?_range' (by omega)]
    simp
    omega
  have m1 : okMul (((b : Int)).fdiv 2) 2 = true := okMul_of (m := 10) (n := 10) (by have := h.1; simp only at this; rw [Int.fdiv_eq_ediv_of_nonneg _ (by decide)]; omega) (by decide) (by decide)
  have m2 : okMul (((((u - 1 : Nat) : Int)) + 1).fdiv 2) 2 = true := okMul_of (m := 10) (n := 10) (by have := h.2; simp only at this; rw [Int.fdiv_eq_ediv_of_nonneg _ (by decide)]; omega) (by decide) (by decide)
  have d2 : okDiv 2 = true := by decide
  have e1 : ((b : Int)).fdiv 2 * 2 = ((b / 2 * 2 : Nat) : Int) := by rw [Int.fdiv_eq_ediv_of_nonneg _ (by decide)]; omega
  have e2 : ((((u - 1 : Nat) : Int)) + 1).fdiv 2 * 2 = ((u / 2 * 2 : Nat) : Int) := by rw [Int.fdiv_eq_ediv_of_nonneg _ (by decide)]; omega
  have c1 : decide ((b : Int) = ((b / 2 * 2 : Nat) : Int)) = decide (b % 2 = 0) := decide_eq_decide.mpr (by omega)
  have c2 : decide (((u - 1 : Nat) : Int) = ((u / 2 * 2 : Nat) : Int)) = decide (u % 2 = 1) := decide_eq_decide.mpr (by omega)
  simp only [law_due_F, law_due_B, runFn, List.length_cons, List.length_nil, if_true, ex_cons, ex_asg, ev_bin, ev_ix, ev_var, ev_int, ev_neg, List.map_cons, List.map_nil, List.cons_append, List.nil_append, getV_zero, getV_succ, R.bind_ok, f0, f1, bop_fdiv d2, bop_mul m1, bop_add, bop_mul m2, e1, e2, Out.of_ok, setT_name, List.set, List.replicate, Nat.reduceSub, andThen_nx, ex_ret, ev_tup, evs_cons, evs_nil, ev_cmp, cop_eq_int, h1, h2, c1, c2, okLen_small, andThen_rt, told]
  rfl
end Pg
namespace Pg
open PySem PySem.Spec L2 Rf
theorem eq_told (N M : Nat → Int) (e : Nat × Nat) : eqD (told N M e) (told N M e) = .ok true := by
  rw [eqD_of (n := 2) rfl rfl rfl]; simp
theorem is_stretch (N M : Nat → Int) {e : Nat × Nat} (h : okE e) (hl : e.1 < e.2) : law_is_stretch_F [told N M e, spL N M, nums (iv e)] = .ok (.bl true) := by
  have h1 := due_nums N M h hl
  have h2 := eq_told N M e
  unfold told at h1 h2 ⊢
  simp only [sp] at h1 h2
  simp [law_is_stretch_L1, law_is_stretch_W1, law_is_stretch_F, runFn, law_is_stretch_B, isiB, okLen_small, ex_for, forL_cons, h1, cop, h2, sp]
theorem is_index (i n : Int) : law_is_index_F [.int i, .int n] = .ok (.bl (decide (0 ≤ i) && decide (i < n))) := by
  by_cases c : 0 ≤ i <;> simp [law_is_index_F, runFn, law_is_index_B, isiB, c]
theorem cell_ints (ns : List Int) (k : Nat) : law_cell_F [.lst (ns.map D.int), .int (k : Int)] = .ok (.int (ns.getD k 0)) := by
  by_cases c : k < ns.length
  · have h := ixD_nat (xs := ns.map D.int) (i := k) (d := .int (ns.getD k 0)) (by simp [c])
    have : (k : Int) < (ns.length : Int) := by omega
    simp [law_cell_F, runFn, law_cell_B, h, this]
  · have : ¬ (k : Int) < (ns.length : Int) := by omega
    simp [law_cell_F, runFn, law_cell_B, this, List.getD, List.getElem?_eq_none (Nat.le_of_not_lt c)]
theorem single_L {E0 S0 t0 : D} (r : Nat → Bool) (ha : ∀ k : Nat, k ≤ 16 → ∃ n, ixD S0 (.int (k : Int)) = .ok n ∧ in_stretch_F [n, t0] = .ok (.bl (r k)) ∧ law_has_F [E0, .int (k : Int)] = .ok (.bl (r k))) (x y : Option Sl) :
    ∃ x' y', ex law_single_T law_single_L1 [some (.v E0), some (.v S0), some (.v t0), x, y] = .nx [some (.v E0), some (.v S0), some (.v t0), x', y'] := by
  obtain ⟨env', k1, x', y', rfl⟩ := ex_for_run (T := law_single_T) (t := .name 3) (it := .rng1 (.int 17)) (body := law_single_W1) (fun k : Nat => D.int (k : Int)) (List.range 17) (fun _ env => ∃ x y, env = [some (.v E0), some (.v S0), some (.v t0), x, y]) (by simp [okR17, rng17]) ⟨x, y, rfl⟩ (by
    rintro a k c _ hl ⟨x, y, rfl⟩
    have hk : k ≤ 16 := by
      have : k ∈ List.range 17 := by rw [hl]; simp
      have := List.mem_range.mp this
      omega
    obtain ⟨n, p1, p2, p3⟩ := ha k hk
    exact ⟨_, rfl, _, .inl (by simp [law_single_W1, p1, p2, p3, isiB]; exact ⟨rfl, rfl⟩), _, _, rfl⟩)
  exact ⟨x', y', k1⟩
theorem single_ok {N M : Nat → Int} (s : Spots N M) {e : Nat × Nat} (h : okE e) : law_single_F [ende e, spL N M] = .ok (.bl true) := by
  have a1 := spL_ix N M (ce e.1 h.1)
  have a2 := spL_ix N M (ce e.2 h.2)
  have a3 := stretch_told s h
  have a4 := set_ende e
  have a5 := told_ende N M h
  obtain ⟨x', y', a6⟩ := single_L (E0 := ende e) (S0 := spL N M) (t0 := told N M e) (fun k => decide (e.1 ≤ k) && decide (k < e.2)) (fun k hk => ⟨_, spL_ix N M hk, in_told s h hk, has_ende e k⟩) none none
  have a8 : eqD (nums (iv e)) (.lst []) = .ok (!decide (e.1 < e.2)) := by
    rw [show D.lst [] = nums [] from rfl, eqD_nums]
    have := iv_nil h
    by_cases k : e.1 < e.2 <;> simp [k, this]
  have b1 := eq_told N M e
  simp only [ende, told] at a3 a4 a5 a6 b1
  simp only [ende]
  generalize e.1 / 2 * 2 = i at *
  generalize e.2 / 2 * 2 = j at *
  generalize nums (iv e) = w at *
  by_cases hh : e.1 < e.2
  · simp [hh] at a3 a8
    simp [law_single_F, runFn, law_single_B, isiB, okLen_small, a1, a2, a3, a4, a8, cop, a5, b1, a6]
  · simp [hh] at a3 a8
    simp [law_single_F, runFn, law_single_B, isiB, okLen_small, a1, a2, a3, a4, a8, cop]
end Pg
namespace Pg
open PySem PySem.Spec L2 Rf
abbrev ilD (l : List Int) : List D := l.map D.int
theorem dig_I (c B : Int) (r : Int) (n : Nat) (x : Option Sl) (h : n ≤ 1000) : evI law_digits_T (.rng1 (.var 2)) [some (.v (.int c)), some (.v (.int B)), some (.v (.int (n : Int))), some (.v (.int r)), some (.o []), x] = .ok ((List.range n).map fun k : Nat => D.int (k : Int)) := evI_rng1_nat (by simp) (by omega)
def digE (c B : Int) (n : Nat) (r : Int) (l : List Int) (x : Option Sl) : Rf.Env := [some (.v (.int c)), some (.v (.int B)), some (.v (.int (n : Int))), some (.v (.int r)), some (.o (l.map D.int)), x]
theorem dig_W1 {c B r : Int} {n : Nat} {l : List Int} (k : Nat) (x : Option Sl) (hBm : B ≠ 0) (hBd : okDiv B = true) (hl : l.length < 16777216) : ex law_digits_T law_digits_W1 (digE c B n r l (some (.v (.int (k : Int))))) = .nx (digE c B n (r.fdiv B) (l ++ [r.fmod B]) (some (.v (.int (k : Int))))) := by
  simp [digE, law_digits_W1, bop_mod hBm, bop_fdiv hBd, hl]
theorem dig_W2 {c B r : Int} {n : Nat} {l : List Int} (k : Nat) (hk : k < 1000) (hBm : B ≠ 0) (hl : l.length < 16777216) (h3 : 0 ≤ r) (h4 : r < 2 ^ 62) : ∃ r2 y, 0 ≤ r2 ∧ r2 < 2 ^ 62 ∧ ex law_digits_T law_digits_W2 (digE c B n r l (some (.v (.int (k : Int))))) = .nx (digE c B n r2 (l ++ [Int.fmod y B]) (some (.v (.int (k : Int))))) := by
  have m1 : okMul r 48271 = true := okMul_of (m := 62) (n := 20) (by omega) (by decide) (by decide)
  have m2 : okMul (k : Int) 69621 = true := okMul_of (m := 10) (n := 20) (by omega) (by decide) (by decide)
  have m4 : okMul 2 (k : Int) = true := okMul_of (m := 10) (n := 10) (by decide) (by omega) (by decide)
  generalize hr1 : Int.fmod (r * 48271 + k * 69621 + 17) 2147483647 = r1
  have b1 : 0 ≤ r1 := by rw [← hr1]; exact Int.fmod_nonneg_of_pos _ (by decide)
  have b2 : r1 < 2147483647 := by rw [← hr1]; exact Int.fmod_lt_of_pos _ (by decide)
  have m3 : okMul r1 16807 = true := okMul_of (m := 62) (n := 20) (by omega) (by decide) (by decide)
  generalize hr2 : Int.fmod (r1 * 16807 + 2 * k + 5) 2147483629 = r2
  have b3 : 0 ≤ r2 := by rw [← hr2]; exact Int.fmod_nonneg_of_pos _ (by decide)
  have b4 : r2 < 2147483629 := by rw [← hr2]; exact Int.fmod_lt_of_pos _ (by decide)
  have d1 : okDiv 64 = true := by decide
  refine ⟨r2, r2.fdiv 64, b3, by omega, ?_⟩
  simp [digE, law_digits_W2, bop_mul m1, bop_mul m2, bop_mul m3, bop_mul m4, bop_mod hBm, bop_mod, bop_fdiv d1, hl, hr1, hr2]
theorem dig_len {l : List Int} {a c : List Nat} {k n : Nat} (hl : List.range n = a ++ k :: c) (h : l.length = a.length) (hn : n ≤ 1000) : l.length < 16777216 ∧ k < 1000 := by
  have h1 : k ∈ List.range n := by rw [hl]; simp
  have h2 := List.mem_range.mp h1
  have h3 := congrArg List.length hl
  rw [List.length_range, List.length_append] at h3
  omega
theorem dig_add {l : List Int} {y B : Int} (hB : 0 < B) (h : ∀ x ∈ l, 0 ≤ x ∧ x < B) : ∀ x ∈ l ++ [Int.fmod y B], 0 ≤ x ∧ x < B := by
  intro z hz
  rcases List.mem_append.mp hz with hz | hz
  · exact h z hz
  · rw [List.mem_singleton.mp hz]
    exact ⟨Int.fmod_nonneg_of_pos _ hB, Int.fmod_lt_of_pos _ hB⟩
theorem dig_L1 (c B r : Int) (n : Nat) (hB : 0 < B) (hB' : B < 1000) (hn : n ≤ 1000) : ∃ r' l x, ex law_digits_T law_digits_L1 (digE c B n r [] none) = .nx (digE c B n r' l x) ∧ l.length = n ∧ ∀ x ∈ l, 0 ≤ x ∧ x < B := by
  have hBm : B ≠ 0 := by omega
  have hBd : okDiv B = true := okDiv_of (n := 10) (by omega) hBm (by decide)
  obtain ⟨env', k1, r', l, x, rfl, hl, hx⟩ := ex_for_run (T := law_digits_T) (t := .name 5) (it := .rng1 (.var 2)) (body := law_digits_W1)
      (env := digE c B n r [] none) (fun k : Nat => D.int (k : Int)) (List.range n)
      (fun a env => ∃ r l x, env = digE c B n r l x ∧ l.length = a.length ∧ ∀ x ∈ l, 0 ≤ x ∧ x < B)
      (dig_I c B r n none hn) ⟨r, [], none, rfl, rfl, by simp⟩ (by
        rintro a k c' _ hl ⟨r, l, x, rfl, h1, h2⟩
        exact ⟨_, rfl, _, .inl (dig_W1 k x hBm hBd (dig_len hl h1 hn).1), _, _, _, rfl, by rw [List.length_append, List.length_append, h1]; rfl, dig_add hB h2⟩)
  exact ⟨r', l, x, k1, hl.trans List.length_range, hx⟩
theorem dig_L2 (c B r : Int) (n : Nat) (hB : 0 < B) (hn : n ≤ 1000) (h3 : 0 ≤ r) (h4 : r < 2 ^ 62) : ∃ r' l x, ex law_digits_T law_digits_L2 (digE c B n r [] none) = .nx (digE c B n r' l x) ∧ l.length = n ∧ ∀ x ∈ l, 0 ≤ x ∧ x < B := by
  have hBm : B ≠ 0 := by omega
  obtain ⟨env', k1, r', l, x, rfl, hl, hx, _⟩ := ex_for_run (T := law_digits_T) (t := .name 5) (it := .rng1 (.var 2)) (body := law_digits_W2)
      (env := digE c B n r [] none) (fun k : Nat => D.int (k : Int)) (List.range n)
      (fun a env => ∃ r l x, env = digE c B n r l x ∧ l.length = a.length ∧ (∀ x ∈ l, 0 ≤ x ∧ x < B) ∧ 0 ≤ r ∧ r < 2 ^ 62)
      (dig_I c B r n none hn) ⟨r, [], none, rfl, rfl, by simp, h3, h4⟩ (by
        rintro a k c' _ hl ⟨r, l, x, rfl, h1, h2, h3, h4⟩
        have hh := dig_len hl h1 hn
        obtain ⟨r2, y, q1, q2, q3⟩ := dig_W2 (c := c) (n := n) k hh.2 hBm hh.1 h3 h4
        exact ⟨_, rfl, _, .inl q3, _, _, _, rfl, by rw [List.length_append, List.length_append, h1]; rfl, dig_add hB h2, q1, q2⟩)
  exact ⟨r', l, x, k1, hl.trans List.length_range, hx⟩
theorem ge_true {r b : Int} (h : b ≤ r) : cop .ge (.int r) (.int b) = .ok (.bl true) := by rw [cop_ge, decide_eq_true h]
theorem ge_false {r b : Int} (h : ¬ b ≤ r) : cop .ge (.int r) (.int b) = .ok (.bl false) := by rw [cop_ge, decide_eq_false h]
theorem digits_ok (c B : Int) (n : Nat) (hB : 0 < B) (hB' : B < 1000) (hn : n ≤ 1000) : ∃ l : List Int, law_digits_F [.int c, .int B, .int (n : Int)] = .ok (.lst (l.map D.int)) ∧ l.length = n ∧ ∀ x ∈ l, 0 ≤ x ∧ x < B := by
  have hp : bop .pow (.int 10) (.int 18) = .ok (.int 1000000000000000000) := by rw [bop_pow (by decide)]; rfl
  generalize hr : (if c < 0 then -c else c) = r
  have h0 : 0 ≤ r := by rw [← hr]; split <;> omega
  by_cases big : 1000000000000000000 ≤ r
  · obtain ⟨r', l, x, k1, hl, hx⟩ := dig_L1 c B r n hB hB' hn
    refine ⟨l, ?_, hl, hx⟩
    simp only [digE, List.map_nil] at k1
    have hlt : cop .ge (.int r) (.int 1000000000000000000) = .ok (.bl true) := ge_true big
    simp [-cop_ge, law_digits_F, runFn, law_digits_B, okLen_small, hp, hlt, k1, frzE, hr]
  · obtain ⟨r', l, x, k1, hl, hx⟩ := dig_L2 c B r n hB hn h0 (by omega)
    refine ⟨l, ?_, hl, hx⟩
    simp only [digE, List.map_nil] at k1
    have hlt : cop .ge (.int r) (.int 1000000000000000000) = .ok (.bl false) := ge_false big
    simp [-cop_ge, law_digits_F, runFn, law_digits_B, okLen_small, hp, hlt, k1, frzE, hr]
theorem lowest_L : ∀ (b a : Nat) (n d : D) (x : Option Sl), a < 2 ^ 120 → b < 2 ^ 120 → ∃ x', ex law_lowest_T law_lowest_L1 [some (.v n), some (.v d), some (.v (.int (a : Int))), some (.v (.int (b : Int))), x] = .nx [some (.v n), some (.v d), some (.v (.int (Nat.gcd a b : Int))), some (.v (.int 0)), x'] := by
  intro b
  induction b using Nat.strongRecOn with
  | _ b ih =>
    intro a n d x ha hb
    rw [law_lowest_L1, ex_while, whileS_eq]
    rcases Nat.eq_zero_or_pos b with h0 | h0
    · subst h0
      exact ⟨x, by simp⟩
    · have hd : okDiv (b : Int) = true := okDiv_of (n := 120) (by rw [Int.natAbs_natCast]; exact hb) (by omega) (by decide)
      have hq : ((a : Int)).fdiv b = ((a / b : Nat) : Int) := by rw [Int.fdiv_eq_ediv_of_nonneg _ (by omega)]; rfl
      have hm : okMul ((a / b : Nat) : Int) (b : Int) = true := okMul_of (m := 120) (n := 120) (by rw [Int.natAbs_natCast]; exact Nat.lt_of_le_of_lt (Nat.div_le_self a b) ha) (by rw [Int.natAbs_natCast]; exact hb) (by decide)
      have hs : (a : Int) - ((a / b : Nat) : Int) * b = ((a % b : Nat) : Int) := by
        have := Nat.div_add_mod a b
        have : (b : Int) * ((a / b : Nat) : Int) + ((a % b : Nat) : Int) = a := by exact_mod_cast this
        rw [Int.mul_comm]; omega
      obtain ⟨x', e⟩ := ih (a % b) (Nat.mod_lt _ h0) b n d (some (.v (.int ((a % b : Nat) : Int)))) hb (Nat.lt_trans (Nat.mod_lt _ h0) hb)
      refine ⟨x', ?_⟩
      have hc : evT law_lowest_T (.cmp .gt (.var 3) (.int 0)) [some (.v n), some (.v d), some (.v (.int (a : Int))), some (.v (.int (b : Int))), x] = .ok true := by simp; omega
      have hw : ex law_lowest_T law_lowest_W1 [some (.v n), some (.v d), some (.v (.int (a : Int))), some (.v (.int (b : Int))), x] = .nx [some (.v n), some (.v d), some (.v (.int (b : Int))), some (.v (.int ((a % b : Nat) : Int))), some (.v (.int ((a % b : Nat) : Int)))] := by
        simp only [law_lowest_W1, ex_cons, ex_asg, ev_bin, ev_var, getV_zero, getV_succ, R.bind_ok, bop_fdiv hd, hq, bop_mul hm, bop_sub, hs, Out.of_ok, setT_name, List.set, andThen_nx, ex_nil]
      rw [hc, hw]
      have e' : whileS (evT law_lowest_T (.cmp .gt (.var 3) (.int 0))) (ex law_lowest_T law_lowest_W1) [some (.v n), some (.v d), some (.v (.int (b : Int))), some (.v (.int ((a % b : Nat) : Int))), some (.v (.int ((a % b : Nat) : Int)))] = _ := e
      rw [Nat.gcd_comm a b, Nat.gcd_rec b a, Nat.gcd_comm (a % b) b]
      exact e'
end Pg
namespace Pg
open PySem PySem.Spec L2 Rf
theorem lowest_ok (n : Int) (d : Nat) (hn : n.natAbs < 2 ^ 110) (h0 : 0 < d) (hd : d < 2 ^ 110) : ∃ N M g : Int, law_lowest_F [.int n, .int (d : Int)] = .ok (.tup [.int N, .int M]) ∧ 0 < g ∧ N * g = n ∧ M * g = d ∧ N.natAbs < 2 ^ 120 ∧ M.natAbs < 2 ^ 120 := by
  have hg : 0 < Nat.gcd n.natAbs d := Nat.gcd_pos_of_pos_right _ h0
  have hgn := Nat.gcd_dvd_left n.natAbs d
  have hgd := Nat.gcd_dvd_right n.natAbs d
  have hgle := Nat.le_of_dvd h0 hgd
  obtain ⟨x', e⟩ := lowest_L d n.natAbs (.int n) (.int (d : Int)) none (Nat.lt_of_lt_of_le hn (by decide)) (Nat.lt_of_lt_of_le hd (by decide))
  generalize Nat.gcd n.natAbs d = g at *
  have ha : (if n < 0 then -n else n) = (n.natAbs : Int) := by split <;> omega
  have hk : okDiv (g : Int) = true := okDiv_of (n := 110) (by rw [Int.natAbs_natCast]; omega) (by omega) (by decide)
  have e1 : n.fdiv g * g = n := Int.fdiv_mul_cancel (Int.natAbs_dvd_natAbs.mp (by rw [Int.natAbs_natCast]; exact hgn))
  have e2 : (d : Int).fdiv g * g = d := Int.fdiv_mul_cancel (Int.natCast_dvd_natCast.mpr hgd)
  have bound : ∀ a b : Int, a * (g : Int) = b → b.natAbs < 2 ^ 110 → a.natAbs < 2 ^ 120 := fun a b h hb => by
    have := congrArg Int.natAbs h
    rw [Int.natAbs_mul, Int.natAbs_natCast] at this
    have : a.natAbs ≤ b.natAbs := by rw [← this]; exact Nat.le_mul_of_pos_right _ hg
    exact Nat.lt_of_le_of_lt this (Nat.lt_trans hb (by decide))
  refine ⟨n.fdiv g, (d : Int).fdiv g, g, ?_, by omega, e1, e2, bound _ _ e1 hn, bound _ _ e2 (by rw [Int.natAbs_natCast]; exact hd)⟩
  simp [law_lowest_F, runFn, law_lowest_B, ha, e, bop_fdiv hk, okLen_small]
theorem spots_of (s d : Nat) (h0 : 0 < d) (hs : s ≤ 8) (hd : d < 2 ^ 110) : ∃ N M, Spots N M ∧ ∀ k : Nat, k ≤ 16 → law_lowest_F [.int ((k : Int) - 2 * s), .int (d : Int)] = .ok (sp N M k) := by
  have h := fun k : Nat => fun hk : k ≤ 16 => lowest_ok ((k : Int) - 2 * s) d (Nat.lt_of_le_of_lt (show _ ≤ 100 by omega) (by decide)) h0 hd
  have h' : ∀ k : Nat, ∃ p : Int × Int × Int, k ≤ 16 → law_lowest_F [.int ((k : Int) - 2 * s), .int (d : Int)] = .ok (.tup [.int p.1, .int p.2.1]) ∧ 0 < p.2.2 ∧ p.1 * p.2.2 = (k : Int) - 2 * s ∧ p.2.1 * p.2.2 = d ∧ p.1.natAbs < 2 ^ 120 ∧ p.2.1.natAbs < 2 ^ 120 := fun k => by
    by_cases hk : k ≤ 16
    · obtain ⟨a, b, c, r⟩ := h k hk
      exact ⟨(a, b, c), fun _ => r⟩
    · exact ⟨(0, 0, 0), fun c => absurd c hk⟩
  obtain ⟨p, hp⟩ := Classical.axiomOfChoice h'
  obtain ⟨N, hN⟩ : ∃ N : Nat → Int, ∀ k, N k = (p k).1 := ⟨_, fun _ => rfl⟩
  obtain ⟨M, hM⟩ : ∃ N : Nat → Int, ∀ k, N k = (p k).2.1 := ⟨_, fun _ => rfl⟩
  obtain ⟨g, hg⟩ : ∃ N : Nat → Int, ∀ k, N k = (p k).2.2 := ⟨_, fun _ => rfl⟩
  simp only [← hN, ← hM, ← hg] at hp
  have h1 := fun k hk => (hp k hk).1
  have h2 := fun k hk => (hp k hk).2.1
  have h3 := fun k hk => (hp k hk).2.2.1
  have h4 := fun k hk => (hp k hk).2.2.2.1
  have h5 := fun k hk => (hp k hk).2.2.2.2.1
  have h6 := fun k hk => (hp k hk).2.2.2.2.2
  refine ⟨N, M, ⟨fun i j hi hj => ?_, fun i j hi hj e1 e2 => ?_, h5, h6⟩, h1⟩
  · have p : 0 < g i * g j := Int.mul_pos (h2 i hi) (h2 j hj)
    have a1 : N i * M j * (g i * g j) = ((i : Int) - 2 * s) * d := by rw [← h3 i hi, ← h4 j hj]; ac_rfl
    have a2 : N j * M i * (g i * g j) = ((j : Int) - 2 * s) * d := by rw [← h3 j hj, ← h4 i hi]; ac_rfl
    have hd' : (0 : Int) < d := by omega
    constructor
    · intro h
      have := Int.mul_lt_mul_of_pos_right h p
      rw [a1, a2] at this
      have := Int.lt_of_mul_lt_mul_right this (Int.le_of_lt hd')
      omega
    · intro h
      have : ((i : Int) - 2 * s) * d < ((j : Int) - 2 * s) * d := Int.mul_lt_mul_of_pos_right (by omega) hd'
      rw [← a1, ← a2] at this
      exact Int.lt_of_mul_lt_mul_right this (Int.le_of_lt p)
  · have p : 0 < g i * g j := Int.mul_pos (h2 i hi) (h2 j hj)
    have a1 : N i * M j * (g i * g j) = ((i : Int) - 2 * s) * d := by rw [← h3 i hi, ← h4 j hj]; ac_rfl
    have a2 : N j * M i * (g i * g j) = ((j : Int) - 2 * s) * d := by rw [← h3 j hj, ← h4 i hi]; ac_rfl
    rw [e1, ← e2] at a1
    rw [a1] at a2
    have := Int.eq_of_mul_eq_mul_right (by omega) a2
    omega
theorem spots_ok (ns : List Int) : ∃ N M, Spots N M ∧ law_spots_F [.lst (ns.map D.int)] = .ok (spL N M) := by
  have c0 := cell_ints ns 0
  have c1 := cell_ints ns 1
  simp only [Int.ofNat_zero, Int.cast_ofNat_Int] at c0 c1
  generalize ns.getD 0 0 = z0 at c0
  generalize ns.getD 1 0 = z1 at c1
  have d4 : okDiv 4 = true := by decide
  have hp : bop .pow (.int 10) (.int 29) = .ok (.int 100000000000000000000000000000) := by rw [bop_pow (by decide)]; rfl
  obtain ⟨b, hb0, hb, hb1⟩ : ∃ b : Nat, 0 < b ∧ b < 2 ^ 100 ∧ (b : Int) = if (z0.fmod 4 < 3) then 1 + (z0.fdiv 4).fmod 3 else 1 + (z0.fdiv 4).fmod 100000000000000000000000000000 := by
    have a1 := Int.fmod_nonneg_of_pos (z0.fdiv 4) (show (0 : Int) < 3 by decide)
    have a2 := Int.fmod_lt_of_pos (z0.fdiv 4) (show (0 : Int) < 3 by decide)
    have a3 := Int.fmod_nonneg_of_pos (z0.fdiv 4) (show (0 : Int) < 100000000000000000000000000000 by decide)
    have a4 := Int.fmod_lt_of_pos (z0.fdiv 4) (show (0 : Int) < 100000000000000000000000000000 by decide)
    split
    · exact ⟨(1 + (z0.fdiv 4).fmod 3).toNat, by omega, by omega, by omega⟩
    · exact ⟨(1 + (z0.fdiv 4).fmod 100000000000000000000000000000).toNat, by omega, by omega, by omega⟩
  obtain ⟨s, hs, hs1⟩ : ∃ s : Nat, s ≤ 8 ∧ (s : Int) = z1.fmod 9 := by
    have a1 := Int.fmod_nonneg_of_pos z1 (show (0 : Int) < 9 by decide)
    have a2 := Int.fmod_lt_of_pos z1 (show (0 : Int) < 9 by decide)
    exact ⟨(z1.fmod 9).toNat, by omega, by omega⟩
  obtain ⟨N, M, hS, hk⟩ := spots_of s (2 * b) (by omega) hs (by omega)
  refine ⟨N, M, hS, ?_⟩
  have m1 : okMul 2 (s : Int) = true := okMul_of (m := 10) (n := 10) (by decide) (by omega) (by decide)
  have m2 : okMul 2 (b : Int) = true := okMul_of (m := 10) (n := 100) (by decide) (by omega) (by decide)
  have hc : ∀ x w, ev law_spots_T law_spots_C1 [some (.v w), some (.v (.int (b : Int))), some (.v (.int (s : Int))), x] = .ok (spL N M) := fun x w => by
    unfold law_spots_C1
    rw [ev_comp_map (fun k : Nat => D.int (k : Int)) (List.range 17) (fun _ => true) (sp N M) (evI_rng1_nat (n := 17) (by simp) (by decide)) (fun k hk' => ⟨_, rfl, by simp, fun _ => by
      have := hk k (by have := List.mem_range.mp hk'; omega)
      simp [bop_mul m1, bop_mul m2]
      simpa using this⟩) (by simp)]
    rw [List.filter_eq_self.mpr (fun _ _ => rfl)]; rfl
  have hp' : (if (z0.fmod 4 < 3) then (1 + (z0.fdiv 4).fmod 3) else 1 + (z0.fdiv 4).fmod 100000000000000000000000000000) = (b : Int) := hb1.symm
  by_cases q : z0.fmod 4 < 3
  · simp only [q, if_true] at hp'
    simp [law_spots_F, runFn, law_spots_B, c0, c1, bop_fdiv d4, hp, bop_mod, q, hp', ← hs1, hc]
  · simp only [q, if_false] at hp'
    simp [law_spots_F, runFn, law_spots_B, c0, c1, bop_fdiv d4, hp, bop_mod, q, hp', ← hs1, hc]
theorem ende_of (lo hi : Int) (p q : Bool) (hl : 0 ≤ lo) (hl' : lo ≤ 16) (hh : 0 ≤ hi) (hh' : hi ≤ 16) (he : lo % 2 = 0) (he' : hi % 2 = 0) : ∃ e, okE e ∧ D.tup [.int lo, .bl p, .int hi, .bl q] = ende e := by
  refine ⟨(lo.toNat + if p then 0 else 1, hi.toNat + if q then 1 else 0), ⟨by cases p <;> simp <;> omega, by cases q <;> simp <;> omega⟩, ?_⟩
  simp only [ende, D.tup.injEq, List.cons.injEq, D.int.injEq, D.bl.injEq, and_true]
  cases p <;> cases q <;> simp <;> omega
theorem drawn_W {ns : List Int} {m : D} {t : Bool} {l : List (Nat × Nat)} (k : Nat) (x5 x6 x7 : Option Sl) (hk : k < 12) (hl : l.length < 16777216) : ∃ e y5 y6 y7, okE e ∧ ex law_drawn_T law_drawn_W1 [some (.v (.lst (ns.map D.int))), some (.v m), some (.v (.bl t)), some (.o (l.map ende)), some (.v (.int (k : Int))), x5, x6, x7] = .nx [some (.v (.lst (ns.map D.int))), some (.v m), some (.v (.bl t)), some (.o ((l ++ [e]).map ende)), some (.v (.int (k : Int))), y5, y6, y7] := by
  have c0 := cell_ints ns (3 + k)
  rw [Int.natCast_add] at c0
  generalize ns.getD (3 + k) 0 = z at c0
  have c0' : law_cell_F [.lst (ns.map D.int), .int (3 + (k : Int))] = .ok (.int z) := c0
  have m1 : okMul 13 (k : Int) = true := okMul_of (m := 10) (n := 10) (by decide) (by omega) (by decide)
  obtain ⟨row, r1, r2, r3⟩ := digits_ok (z + 13 * k) 36 4 (by decide) (by decide) (by decide)
  match row, r2 with
  | [a, b, c, d], _ =>
    have ha := r3 a (by simp)
    have hb := r3 b (by simp)
    have r1' : law_digits_F [.int (z + 13 * k), .int 36, .int 4] = .ok (.lst [.int a, .int b, .int c, .int d]) := r1
    have d3 : okDiv 3 = true := by decide
    have b1 := Int.fmod_nonneg_of_pos a (show (0 : Int) < 9 by decide)
    have b2 := Int.fmod_lt_of_pos a (show (0 : Int) < 9 by decide)
    have b3 := Int.fmod_nonneg_of_pos b (show (0 : Int) < 9 by decide)
    have b4 := Int.fmod_lt_of_pos b (show (0 : Int) < 9 by decide)
    generalize hi9 : a.fmod 9 = i at *
    generalize hj9 : b.fmod 9 = j at *
    have m2 : okMul 2 i = true := okMul_of (m := 10) (n := 10) (by decide) (by omega) (by decide)
    have m3 : okMul 2 j = true := okMul_of (m := 10) (n := 10) (by decide) (by omega) (by decide)
    by_cases ht : (t && decide (d.fmod 4 < 3)) = true
    · obtain ⟨e, he, hE⟩ := ende_of (if 8 < 2 * i then 8 else 2 * i) (if 8 > 2 * j then 8 else 2 * j) (decide (0 < c.fmod 3)) (decide (0 < (c.fdiv 3).fmod 3)) (by split <;> omega) (by split <;> omega) (by split <;> omega) (by split <;> omega) (by split <;> omega) (by split <;> omega)
      refine ⟨e, some (.v (.lst [.int a, .int b, .int c, .int d])), some (.v (.int (if 8 < 2 * i then 8 else 2 * i))), some (.v (.int (if 8 > 2 * j then 8 else 2 * j))), he, ?_⟩
      simp only [Bool.and_eq_true, decide_eq_true_eq] at ht
      obtain ⟨rfl, ht⟩ := ht
      rw [List.map_append, List.map_cons, List.map_nil, ← hE]
      simp [law_drawn_W1, c0', bop_mul m1, r1', bop_mul m2, bop_mul m3, bop_mod, bop_fdiv d3, okLen_small, hl, ht, hi9, hj9]
    · obtain ⟨e, he, hE⟩ := ende_of (2 * i) (2 * j) (decide (0 < c.fmod 3)) (decide (0 < (c.fdiv 3).fmod 3)) (by omega) (by omega) (by omega) (by omega) (by omega) (by omega)
      refine ⟨e, some (.v (.lst [.int a, .int b, .int c, .int d])), some (.v (.int (2 * i))), some (.v (.int (2 * j))), he, ?_⟩
      have ev1 : evT law_drawn_T (.and (.var 2) (.cmp .lt (.bin .mod (.ix (.var 5) (.int 3)) (.int 4)) (.int 3))) [some (.v (.lst (ns.map D.int))), some (.v m), some (.v (.bl t)), some (.o (l.map ende)), some (.v (.int (k : Int))), some (.v (.lst [.int a, .int b, .int c, .int d])), some (.v (.int (2 * i))), some (.v (.int (2 * j)))] = .ok false := by
        cases t <;> simp_all [bop_mod]
      rw [List.map_append, List.map_cons, List.map_nil, ← hE]
      simp [-evT_and, law_drawn_W1, c0', bop_mul m1, r1', bop_mul m2, bop_mul m3, bop_mod, bop_fdiv d3, okLen_small, hl, ev1, hi9, hj9]
theorem drawn_ok (ns : List Int) : ∃ es : List (Nat × Nat), (∀ e ∈ es, okE e) ∧ es.length ≤ 12 ∧ law_drawn_F [.lst (ns.map D.int)] = .ok (.lst (es.map ende)) := by
  have c2 := cell_ints ns 2
  simp only [Int.cast_ofNat_Int] at c2
  generalize ns.getD 2 0 = z at c2
  have d12 : okDiv 12 = true := by decide
  obtain ⟨m, hm, hm1⟩ : ∃ s : Nat, s ≤ 12 ∧ (s : Int) = 1 + z.fmod 12 := by
    have a1 := Int.fmod_nonneg_of_pos z (show (0 : Int) < 12 by decide)
    have a2 := Int.fmod_lt_of_pos z (show (0 : Int) < 12 by decide)
    exact ⟨(1 + z.fmod 12).toNat, by omega, by omega⟩
  generalize ht : decide ((z.fdiv 12).fmod 3 = 0) = t
  obtain ⟨env', k1, es, x4, x5, x6, x7, rfl, h1, h2⟩ := ex_for_run (T := law_drawn_T) (t := .name 4) (it := .rng1 (.var 1)) (body := law_drawn_W1)
      (env := [some (.v (.lst (ns.map D.int))), some (.v (.int (m : Int))), some (.v (.bl t)), some (.o []), none, none, none, none]) (fun k : Nat => D.int (k : Int)) (List.range m)
      (fun a env => ∃ (l : List (Nat × Nat)) (x4 x5 x6 x7 : Option Sl), env = [some (.v (.lst (ns.map D.int))), some (.v (.int (m : Int))), some (.v (.bl t)), some (.o (l.map ende)), x4, x5, x6, x7] ∧ l.length = a.length ∧ ∀ e ∈ l, okE e)
      (evI_rng1_nat (by simp) (by omega)) ⟨[], _, _, _, _, rfl, rfl, by simp⟩ (by
        rintro a k c' _ hl ⟨l, x4, x5, x6, x7, rfl, h1, h2⟩
        have hh := dig_len (l := l.map fun _ => 0) hl (by rw [List.length_map]; exact h1) (by omega)
        rw [List.length_map] at hh
        have hk : k < m := by
          have : k ∈ List.range m := by rw [hl]; simp
          exact List.mem_range.mp this
        obtain ⟨e, y5, y6, y7, he, hE⟩ := drawn_W (ns := ns) (m := .int (m : Int)) (t := t) k x5 x6 x7 (by omega) hh.1
        refine ⟨_, rfl, _, .inl hE, _, _, _, _, _, rfl, by rw [List.length_append, List.length_append, h1]; rfl, ?_⟩
        intro x hx
        rcases List.mem_append.mp hx with hx | hx
        · exact h2 x hx
        · rw [List.mem_singleton.mp hx]; exact he)
  refine ⟨es, h2, by rw [h1, List.length_range]; exact hm, ?_⟩
  have k2 : ex law_drawn_T law_drawn_L1 _ = _ := k1
  simp [law_drawn_F, runFn, law_drawn_B, c2, bop_fdiv d12, bop_mod, ← hm1, ht, k2, frzE, okLen_small]
end Pg
namespace Pg
open PySem PySem.Spec L2 Rf
def inh (e : Nat × Nat) : Prop := okE e ∧ e.1 < e.2
def tl (N M : Nat → Int) (ts : List (Nat × Nat)) : D := .lst (ts.map (told N M))
def sl (ts : List (Nat × Nat)) : D := .lst (ts.map fun e => nums (iv e))
def cm (N M : Nat → Int) (c : Nat × Nat) : D := if c.1 < c.2 then told N M c else .non
def pr (i j : Nat) : D := .tup [.str "apart", .int (i : Int), .int (j : Int)]
def gF (ts : List (Nat × Nat)) (i j : Nat) : Option D := if (mt (ts.getD i (0, 0)) (ts.getD j (0, 0))).1 < (mt (ts.getD i (0, 0)) (ts.getD j (0, 0))).2 then none else some (pr i j)
def gO (ts : List (Nat × Nat)) (i : Nat) : Option D := (List.range' (i + 1) (ts.length - (i + 1))).findSome? (gF ts i)
def apart (ts : List (Nat × Nat)) : Option D := (List.range ts.length).findSome? (gO ts)
theorem getD_ok {ts : List (Nat × Nat)} (h : ∀ e ∈ ts, inh e) (i : Nat) (hi : i < ts.length) : inh (ts.getD i (0, 0)) := by
  have e : ts.getD i (0, 0) = ts[i] := by simp [List.getD, hi]
  rw [e]; exact h _ (List.getElem_mem hi)
theorem tl_ix (N M : Nat → Int) (ts : List (Nat × Nat)) {i : Nat} (hi : i < ts.length) : ixD (tl N M ts) (.int (i : Int)) = .ok (told N M (ts.getD i (0, 0))) :=
  ixD_nat (by rw [List.getElem?_map, List.getElem?_eq_getElem hi]; simp [List.getD, hi])
theorem sl_ix (ts : List (Nat × Nat)) {i : Nat} (hi : i < ts.length) : ixD (sl ts) (.int (i : Int)) = .ok (nums (iv (ts.getD i (0, 0)))) :=
  ixD_nat (by rw [List.getElem?_map, List.getElem?_eq_getElem hi]; simp [List.getD, hi])
theorem eq_nil {e : Nat × Nat} (h : okE e) : eqD (nums (iv e)) (.lst []) = .ok (!decide (e.1 < e.2)) := by
  rw [show D.lst [] = nums [] from rfl, eqD_nums]
  have := iv_nil h
  by_cases k : e.1 < e.2 <;> simp [k, this]
theorem told_ne (N M : Nat → Int) (e : Nat × Nat) : isNon (told N M e) = false := rfl
theorem ML_in {N M : Nat → Int} (s : Spots N M) {ts : List (Nat × Nat)} (h : ∀ e ∈ ts, inh e) (c : D) (o : Option Sl) (i : Nat) (hi : i < ts.length) (hn : ts.length ≤ 1000) (x : Option Sl) :
    (∃ d, gO ts i = some d ∧ ex meet_all_T meet_all_L2 [some (.v (tl N M ts)), some (.v c), o, some (.v (.int (i : Int))), x] = .rt d) ∨ (gO ts i = none ∧ ∃ x', ex meet_all_T meet_all_L2 [some (.v (tl N M ts)), some (.v c), o, some (.v (.int (i : Int))), x] = .nx [some (.v (tl N M ts)), some (.v c), o, some (.v (.int (i : Int))), x']) := by
  have e1 : ((i : Int) + 1) = ((i + 1 : Nat) : Int) := by omega
  rcases ex_for_find (T := meet_all_T) (t := .name 4) (it := .rng2 (.bin .add (.var 3) (.int 1)) (.bi .len (.cons (.var 0) .nil))) (body := meet_all_W2) (fun k : Nat => D.int (k : Int)) (List.range' (i + 1) (ts.length - (i + 1)))
      (fun env => ∃ x, env = [some (.v (tl N M ts)), some (.v c), o, some (.v (.int (i : Int))), x]) (gF ts i) (env := [some (.v (tl N M ts)), some (.v c), o, some (.v (.int (i : Int))), x])
      (evI_rng2_nat (m := i + 1) (n := ts.length) (by simp) (by simp [tl, sl]) (by omega) (by omega)) ⟨x, rfl⟩ (by
        rintro j hj _ ⟨x, rfl⟩
        have hj' : j < ts.length := by
          have := (List.mem_range'_1.mp hj); omega
        have hi0 := getD_ok h i hi
        have hj0 := getD_ok h j hj'
        have a1 := tl_ix N M ts hi
        have a2 := tl_ix N M ts hj'
        have a3 := meet_told s hi0.1 hj0.1
        refine ⟨_, rfl, ?_⟩
        unfold gF
        by_cases q : (mt (ts.getD i (0, 0)) (ts.getD j (0, 0))).1 < (mt (ts.getD i (0, 0)) (ts.getD j (0, 0))).2
        · refine .inr ⟨if_pos q, [some (.v (tl N M ts)), some (.v c), o, some (.v (.int (i : Int))), some (.v (.int (j : Int)))], .inl ?_, _, rfl⟩
          simp [-List.getD_eq_getElem?_getD, meet_all_W2, a1, a2, a3, q, told_ne]
        · refine .inl ⟨_, if_neg q, ?_⟩
          simp [-List.getD_eq_getElem?_getD, meet_all_W2, a1, a2, a3, q, pr, okLen_small]) with ⟨d, h1, h2⟩ | ⟨h1, env', h2, x', rfl⟩
  · exact .inl ⟨d, h1, h2⟩
  · exact .inr ⟨h1, x', h2⟩
theorem ML_out {N M : Nat → Int} (s : Spots N M) {ts : List (Nat × Nat)} (h : ∀ e ∈ ts, inh e) (c : D) (o x y : Option Sl) (hn : ts.length ≤ 1000) :
    (∃ d, apart ts = some d ∧ ex meet_all_T meet_all_L3 [some (.v (tl N M ts)), some (.v c), o, x, y] = .rt d) ∨ (apart ts = none ∧ ∃ x' y', ex meet_all_T meet_all_L3 [some (.v (tl N M ts)), some (.v c), o, x, y] = .nx [some (.v (tl N M ts)), some (.v c), o, x', y']) := by
  rcases ex_for_find (T := meet_all_T) (t := .name 3) (it := .rng1 (.bi .len (.cons (.var 0) .nil))) (body := meet_all_W3) (fun k : Nat => D.int (k : Int)) (List.range ts.length)
      (fun env => ∃ x y, env = [some (.v (tl N M ts)), some (.v c), o, x, y]) (gO ts) (env := [some (.v (tl N M ts)), some (.v c), o, x, y])
      (evI_rng1_nat (n := ts.length) (by simp [tl, sl]) (by omega)) ⟨x, y, rfl⟩ (by
        rintro i hi _ ⟨x, y, rfl⟩
        refine ⟨_, rfl, ?_⟩
        rcases ML_in s h c o i (List.mem_range.mp hi) hn y with ⟨d, h1, h2⟩ | ⟨h1, x', h2⟩
        · exact .inl ⟨d, h1, by simp only [meet_all_W3, List.set, ex_cons, h2, andThen_rt]⟩
        · exact .inr ⟨h1, _, .inl (by simp only [meet_all_W3, List.set, ex_cons, h2, andThen_nx, ex_nil]; exact rfl), _, _, rfl⟩) with ⟨d, h1, h2⟩ | ⟨h1, env', h2, x', y', rfl⟩
  · exact .inl ⟨d, h1, h2⟩
  · exact .inr ⟨h1, x', y', h2⟩
theorem SL_in {ts : List (Nat × Nat)} (h : ∀ e ∈ ts, inh e) (c : D) (o : Option Sl) (i : Nat) (hi : i < ts.length) (hn : ts.length ≤ 1000) (x : Option Sl) :
    (∃ d, gO ts i = some d ∧ ex law_all_due_T law_all_due_L2 [some (.v (sl ts)), some (.v c), o, some (.v (.int (i : Int))), x] = .rt d) ∨ (gO ts i = none ∧ ∃ x', ex law_all_due_T law_all_due_L2 [some (.v (sl ts)), some (.v c), o, some (.v (.int (i : Int))), x] = .nx [some (.v (sl ts)), some (.v c), o, some (.v (.int (i : Int))), x']) := by
  have e1 : ((i : Int) + 1) = ((i + 1 : Nat) : Int) := by omega
  rcases ex_for_find (T := law_all_due_T) (t := .name 4) (it := .rng2 (.bin .add (.var 3) (.int 1)) (.bi .len (.cons (.var 0) .nil))) (body := law_all_due_W2) (fun k : Nat => D.int (k : Int)) (List.range' (i + 1) (ts.length - (i + 1)))
      (fun env => ∃ x, env = [some (.v (sl ts)), some (.v c), o, some (.v (.int (i : Int))), x]) (gF ts i) (env := [some (.v (sl ts)), some (.v c), o, some (.v (.int (i : Int))), x])
      (evI_rng2_nat (m := i + 1) (n := ts.length) (by simp) (by simp [tl, sl]) (by omega) (by omega)) ⟨x, rfl⟩ (by
        rintro j hj _ ⟨x, rfl⟩
        have hj' : j < ts.length := by
          have := (List.mem_range'_1.mp hj); omega
        have hi0 := getD_ok h i hi
        have hj0 := getD_ok h j hj'
        have a1 := sl_ix ts hi
        have a2 := sl_ix ts hj'
        have a3 := shared_nums (ts.getD i (0, 0)) (ts.getD j (0, 0))
        refine ⟨_, rfl, ?_⟩
        unfold gF
        by_cases q : (mt (ts.getD i (0, 0)) (ts.getD j (0, 0))).1 < (mt (ts.getD i (0, 0)) (ts.getD j (0, 0))).2
        · refine .inr ⟨if_pos q, [some (.v (sl ts)), some (.v c), o, some (.v (.int (i : Int))), some (.v (.int (j : Int)))], .inl ?_, _, rfl⟩
          simp [-List.getD_eq_getElem?_getD, law_all_due_W2, a1, a2, a3, q, told_ne, cop, eq_nil (ok_mt hi0.1 hj0.1)]
        · refine .inl ⟨_, if_neg q, ?_⟩
          simp [-List.getD_eq_getElem?_getD, law_all_due_W2, a1, a2, a3, q, pr, okLen_small, cop, eq_nil (ok_mt hi0.1 hj0.1)]) with ⟨d, h1, h2⟩ | ⟨h1, env', h2, x', rfl⟩
  · exact .inl ⟨d, h1, h2⟩
  · exact .inr ⟨h1, x', h2⟩
theorem SL_out {ts : List (Nat × Nat)} (h : ∀ e ∈ ts, inh e) (c : D) (o x y : Option Sl) (hn : ts.length ≤ 1000) :
    (∃ d, apart ts = some d ∧ ex law_all_due_T law_all_due_L3 [some (.v (sl ts)), some (.v c), o, x, y] = .rt d) ∨ (apart ts = none ∧ ∃ x' y', ex law_all_due_T law_all_due_L3 [some (.v (sl ts)), some (.v c), o, x, y] = .nx [some (.v (sl ts)), some (.v c), o, x', y']) := by
  rcases ex_for_find (T := law_all_due_T) (t := .name 3) (it := .rng1 (.bi .len (.cons (.var 0) .nil))) (body := law_all_due_W3) (fun k : Nat => D.int (k : Int)) (List.range ts.length)
      (fun env => ∃ x y, env = [some (.v (sl ts)), some (.v c), o, x, y]) (gO ts) (env := [some (.v (sl ts)), some (.v c), o, x, y])
      (evI_rng1_nat (n := ts.length) (by simp [tl, sl]) (by omega)) ⟨x, y, rfl⟩ (by
        rintro i hi _ ⟨x, y, rfl⟩
        refine ⟨_, rfl, ?_⟩
        rcases SL_in h c o i (List.mem_range.mp hi) hn y with ⟨d, h1, h2⟩ | ⟨h1, x', h2⟩
        · exact .inl ⟨d, h1, by simp only [law_all_due_W3, List.set, ex_cons, h2, andThen_rt]⟩
        · exact .inr ⟨h1, _, .inl (by simp only [law_all_due_W3, List.set, ex_cons, h2, andThen_nx, ex_nil]; exact rfl), _, _, rfl⟩) with ⟨d, h1, h2⟩ | ⟨h1, env', h2, x', y', rfl⟩
  · exact .inl ⟨d, h1, h2⟩
  · exact .inr ⟨h1, x', y', h2⟩
theorem cm_mt {N M : Nat → Int} (s : Spots N M) {c t : Nat × Nat} (hc : okE c) (ht : inh t) (S0 : D) (x y : Option Sl) : ex meet_all_T meet_all_W1 [some (.v S0), some (.v (cm N M c)), some (.v (told N M t)), x, y] = .nx [some (.v S0), some (.v (cm N M (mt c t))), some (.v (told N M t)), x, y] := by
  by_cases q : c.1 < c.2
  · have := meet_told s hc ht.1
    simp [meet_all_W1, cm, q, told_ne, this]
  · have q' : ¬ (mt c t).1 < (mt c t).2 := by simp only [mt]; omega
    simp [meet_all_W1, cm, q, q']
theorem ok_fold {ts : List (Nat × Nat)} : ∀ {c : Nat × Nat}, (∀ e ∈ ts, inh e) → okE c → okE (ts.foldl mt c) := by
  induction ts with
  | nil => intro c _ hc; exact hc
  | cons t ts ih => intro c h hc; exact ih (fun e he => h e (List.mem_cons_of_mem _ he)) (ok_mt hc (h t (List.mem_cons_self ..)).1)
theorem M_fold {N M : Nat → Int} (s : Spots N M) {ts : List (Nat × Nat)} (h : ∀ e ∈ ts, inh e) {c : Nat × Nat} (hc : okE c) : ∃ x, ex meet_all_T meet_all_L1 [some (.v (tl N M ts)), some (.v (cm N M c)), none, none, none] = .nx [some (.v (tl N M ts)), some (.v (cm N M (ts.foldl mt c))), x, none, none] := by
  obtain ⟨env', h1, x, rfl⟩ := ex_for_run (T := meet_all_T) (t := .name 2) (it := .cons (.var 0) .nil) (body := meet_all_W1) (told N M) ts
    (fun a env => ∃ x, env = [some (.v (tl N M ts)), some (.v (cm N M (a.foldl mt c))), x, none, none]) (env := [some (.v (tl N M ts)), some (.v (cm N M c)), none, none, none])
    (by simp [tl]) ⟨none, rfl⟩ (by
      rintro a t b _ hl ⟨x, rfl⟩
      have ht : inh t := h t (by rw [hl]; simp)
      have ha : okE (a.foldl mt c) := ok_fold (fun e he => h e (by rw [hl]; simp [he])) hc
      exact ⟨_, rfl, _, .inl (cm_mt s ha ht _ _ _), _, by rw [List.foldl_append]; rfl⟩)
  exact ⟨x, h1⟩
theorem S_fold {ts : List (Nat × Nat)} (c : Nat × Nat) : ∃ x, ex law_all_due_T law_all_due_L1 [some (.v (sl ts)), some (.v (nums (iv c))), none, none, none] = .nx [some (.v (sl ts)), some (.v (nums (iv (ts.foldl mt c)))), x, none, none] := by
  obtain ⟨env', h1, x, rfl⟩ := ex_for_run (T := law_all_due_T) (t := .name 2) (it := .cons (.var 0) .nil) (body := law_all_due_W1) (fun e => nums (iv e)) ts
    (fun a env => ∃ x, env = [some (.v (sl ts)), some (.v (nums (iv (a.foldl mt c)))), x, none, none]) (env := [some (.v (sl ts)), some (.v (nums (iv c))), none, none, none])
    (by simp [sl]) ⟨none, rfl⟩ (by
      rintro a t b _ hl ⟨x, rfl⟩
      exact ⟨_, rfl, _, .inl (by
        have := shared_nums (a.foldl mt c) t
        simp [law_all_due_W1, this]; exact rfl), some (.v (nums (iv t))), by rw [List.foldl_append]; rfl⟩)
  exact ⟨x, h1⟩
def due (N M : Nat → Int) (c : Nat × Nat) (w : D) (a : Option D) : D := if c.1 < c.2 then .tup [.str "all", w] else a.getD .non
theorem meet_all_eval {N M : Nat → Int} (s : Spots N M) {t : Nat × Nat} {ts : List (Nat × Nat)} (h : ∀ e ∈ t :: ts, inh e) (hn : (t :: ts).length ≤ 1000) : meet_all_F [tl N M (t :: ts)] = .ok (due N M ((t :: ts).foldl mt t) (told N M ((t :: ts).foldl mt t)) (apart (t :: ts))) := by
  have ht := h t (List.mem_cons_self ..)
  obtain ⟨x, e⟩ := M_fold s h ht.1
  have hc := ok_fold h ht.1
  have e0 : ixD (tl N M (t :: ts)) (.int 0) = .ok (cm N M t) := by simp [tl, cm, ht.2]
  have ho := ML_out s h (.non) x none none hn
  generalize (t :: ts).foldl mt t = c at *
  generalize apart (t :: ts) = ap at *
  generalize tl N M (t :: ts) = X at *
  generalize cm N M t = c0 at *
  by_cases q : c.1 < c.2
  · simp only [cm, q, if_true] at e
    simp [meet_all_F, runFn, meet_all_B, e0, e, told_ne, okLen_small, due, q]
  · simp only [cm, q, if_false] at e
    rcases ho with ⟨d, k1, k2⟩ | ⟨k1, x', y', k2⟩
    · simp [meet_all_F, runFn, meet_all_B, e0, e, due, q, k1, k2]
    · simp [meet_all_F, runFn, meet_all_B, e0, e, due, q, k1, k2]
theorem all_due_eval (N M : Nat → Int) {t : Nat × Nat} {ts : List (Nat × Nat)} (h : ∀ e ∈ t :: ts, inh e) (hn : (t :: ts).length ≤ 1000) : law_all_due_F [sl (t :: ts)] = .ok (due N M ((t :: ts).foldl mt t) (nums (iv ((t :: ts).foldl mt t))) (apart (t :: ts))) := by
  have ht := h t (List.mem_cons_self ..)
  obtain ⟨x, e⟩ := S_fold (ts := t :: ts) t
  have hc := ok_fold h ht.1
  have e0 : ixD (sl (t :: ts)) (.int 0) = .ok (nums (iv t)) := by simp [sl]
  have ho := SL_out h (nums (iv ((t :: ts).foldl mt t))) x none none hn
  generalize (t :: ts).foldl mt t = c at *
  generalize apart (t :: ts) = ap at *
  generalize sl (t :: ts) = X at *
  have hq := eq_nil hc
  generalize nums (iv t) = c0 at *
  generalize nums (iv c) = w at *
  by_cases q : c.1 < c.2
  · simp [q] at hq
    simp [law_all_due_F, runFn, law_all_due_B, e0, e, okLen_small, due, q, cop, hq]
  · simp [q] at hq
    rcases ho with ⟨d, k1, k2⟩ | ⟨k1, x', y', k2⟩
    · simp [law_all_due_F, runFn, law_all_due_B, e0, e, due, q, k1, k2, cop, hq]
    · simp [law_all_due_F, runFn, law_all_due_B, e0, e, due, q, k1, k2, cop, hq]
theorem fold_max : ∀ (ts : List (Nat × Nat)) (c : Nat × Nat), (ts.foldl mt c).1 = c.1 ∨ ∃ e ∈ ts, (ts.foldl mt c).1 = e.1
  | [], c => .inl rfl
  | t :: ts, c => by
    have hm : (mt c t).1 = max c.1 t.1 := rfl
    rcases fold_max ts (mt c t) with h | ⟨e, he, h⟩
    · rw [List.foldl_cons, h, hm]
      by_cases k : t.1 ≤ c.1
      · exact .inl (by omega)
      · exact .inr ⟨t, List.mem_cons_self .., by omega⟩
    · exact .inr ⟨e, List.mem_cons_of_mem _ he, h⟩
theorem fold_min : ∀ (ts : List (Nat × Nat)) (c : Nat × Nat), (ts.foldl mt c).2 = c.2 ∨ ∃ e ∈ ts, (ts.foldl mt c).2 = e.2
  | [], c => .inl rfl
  | t :: ts, c => by
    have hm : (mt c t).2 = min c.2 t.2 := rfl
    rcases fold_min ts (mt c t) with h | ⟨e, he, h⟩
    · rw [List.foldl_cons, h, hm]
      by_cases k : c.2 ≤ t.2
      · exact .inl (by omega)
      · exact .inr ⟨t, List.mem_cons_self .., by omega⟩
    · exact .inr ⟨e, List.mem_cons_of_mem _ he, h⟩
theorem apart_form {ts : List (Nat × Nat)} {d : D} (h : apart ts = some d) : ∃ i j : Nat, i < ts.length ∧ j < ts.length ∧ d = pr i j := by
  obtain ⟨i, hi, h⟩ := List.exists_of_findSome?_eq_some h
  obtain ⟨j, hj, h⟩ := List.exists_of_findSome?_eq_some h
  refine ⟨i, j, List.mem_range.mp hi, ?_, ?_⟩
  · have := List.mem_range'_1.mp hj
    omega
  · unfold gF at h
    split at h
    · cases h
    · injection h with h; exact h.symm
theorem helly {t : Nat × Nat} {ts : List (Nat × Nat)} (h : ∀ e ∈ t :: ts, inh e) (hc : ¬ ((t :: ts).foldl mt t).1 < ((t :: ts).foldl mt t).2) : ∃ i j : Nat, i < (t :: ts).length ∧ j < (t :: ts).length ∧ apart (t :: ts) = some (pr i j) := by
  cases e : apart (t :: ts) with
  | some d =>
    obtain ⟨i, j, hi, hj, hd⟩ := apart_form e
    exact ⟨i, j, hi, hj, by rw [hd]⟩
  | none =>
    exfalso
    have all : ∀ i j, i < j → j < (t :: ts).length → (mt ((t :: ts).getD i (0, 0)) ((t :: ts).getD j (0, 0))).1 < (mt ((t :: ts).getD i (0, 0)) ((t :: ts).getD j (0, 0))).2 := by
      intro i j hij hj
      have h1 := List.findSome?_eq_none_iff.mp e i (List.mem_range.mpr (by omega))
      have h2 := List.findSome?_eq_none_iff.mp h1 j (List.mem_range'_1.mpr (by omega))
      unfold gF at h2
      split at h2
      · assumption
      · cases h2
    have gd : ∀ i (hi : i < (t :: ts).length), (t :: ts).getD i (0, 0) = (t :: ts)[i] := fun i hi => by
      rw [List.getD_eq_getElem?_getD, List.getElem?_eq_getElem hi]; rfl
    have sym : ∀ a ∈ t :: ts, ∀ b ∈ t :: ts, a.1 < b.2 := by
      intro a ha b hb
      obtain ⟨i, hi, rfl⟩ := List.getElem_of_mem ha
      obtain ⟨j, hj, rfl⟩ := List.getElem_of_mem hb
      rcases Nat.lt_trichotomy i j with hij | hij | hij
      · have := all i j hij hj
        rw [gd i hi, gd j hj] at this
        simp only [mt] at this
        omega
      · subst hij
        exact (h _ ha).2
      · have := all j i hij hi
        rw [gd i hi, gd j hj] at this
        simp only [mt] at this
        omega
    apply hc
    have m1 : ∃ e ∈ t :: ts, ((t :: ts).foldl mt t).1 = e.1 := by
      rcases fold_max (t :: ts) t with k | k
      · exact ⟨t, List.mem_cons_self .., k⟩
      · exact k
    have m2 : ∃ e ∈ t :: ts, ((t :: ts).foldl mt t).2 = e.2 := by
      rcases fold_min (t :: ts) t with k | k
      · exact ⟨t, List.mem_cons_self .., k⟩
      · exact k
    obtain ⟨a, ha, ea⟩ := m1
    obtain ⟨b, hb, eb⟩ := m2
    rw [ea, eb]
    exact sym a ha b hb
end Pg
namespace Pg
open PySem PySem.Spec L2 Rf
def mx (N M : Nat → Int) : Option (Nat × Nat) → D
  | none => .non
  | some e => told N M e
def ml (N M : Nat → Int) (xs : List (Option (Nat × Nat))) : D := .lst (xs.map (mx N M))
theorem ml_some (N M : Nat → Int) (ts : List (Nat × Nat)) : ml N M (ts.map some) = tl N M ts := by simp [ml, tl, mx]
theorem mx_okN (N M : Nat → Int) (o : Option (Nat × Nat)) : okN 2 (mx N M o) = true := by cases o <;> rfl
theorem mx_nice (N M : Nat → Int) (o o' : Option (Nat × Nat)) : nice 2 (mx N M o) (mx N M o') = true := by cases o <;> cases o' <;> rfl
theorem eq_ml (N M : Nat → Int) (xs : List (Option (Nat × Nat))) : eqD (ml N M xs) (ml N M xs) = .ok true := by
  have h1 : okN 3 (ml N M xs) = true := by
    show (xs.map (mx N M)).all (okN 2) = true
    rw [List.all_eq_true]
    intro d hd
    obtain ⟨o, _, rfl⟩ := List.mem_map.mp hd
    exact mx_okN N M o
  have h2 : nice 3 (ml N M xs) (ml N M xs) = true := by
    show (((xs.map (mx N M)).zip (xs.map (mx N M))).all fun p => nice 2 p.1 p.2) = true
    rw [List.all_eq_true]
    rintro ⟨d, d'⟩ hd
    obtain ⟨k1, k2⟩ := List.of_mem_zip hd
    obtain ⟨o, _, rfl⟩ := List.mem_map.mp k1
    obtain ⟨o', _, rfl⟩ := List.mem_map.mp k2
    exact mx_nice N M o o'
  rw [eqD_of h1 h1 h2]; simp
theorem all_ok {N M : Nat → Int} (s : Spots N M) {t : Nat × Nat} {ts : List (Nat × Nat)} (h : ∀ e ∈ t :: ts, inh e) (hn : (t :: ts).length ≤ 1000) : law_all_F [tl N M (t :: ts), sl (t :: ts), spL N M] = .ok (.bl true) := by
  have a1 := meet_all_eval s h hn
  have a2 := all_due_eval N M h hn
  have a3 := eq_ml N M ((t :: ts).map some)
  rw [ml_some] at a3
  have hl : biF .list [tl N M (t :: ts)] = .ok (tl N M (t :: ts)) := by simp [tl]
  have hs : biF .len [sl (t :: ts)] = .ok (.int ((t :: ts).length : Int)) := by simp [sl]
  have hc := ok_fold h (h t (List.mem_cons_self ..)).1
  have hh := fun q => helly h q
  have eqs : eqD (.str "all") (.str "all") = .ok true := by rw [eqD_of (n := 0) (by decide +kernel) (by decide +kernel) rfl]; simp
  have eqs' : eqD (.str "apart") (.str "apart") = .ok true := by rw [eqD_of (n := 0) (by decide +kernel) (by decide +kernel) rfl]; simp
  have ne : ¬ (D.str "apart" = D.str "all") := by intro h; injection h with h; exact absurd h (by decide +kernel)
  have eqs2 : eqD (.str "apart") (.str "all") = .ok false := by rw [eqD_of (n := 0) (by decide +kernel) (by decide +kernel) rfl]; simp only [ne, decide_false]
  generalize (t :: ts).foldl mt t = c at *
  generalize apart (t :: ts) = ap at *
  generalize tl N M (t :: ts) = X at *
  generalize sl (t :: ts) = Y at *
  generalize (t :: ts).length = n at *
  by_cases q : c.1 < c.2
  · have a4 := is_stretch N M hc q
    simp only [due, q, if_true] at a1 a2
    simp [law_all_F, runFn, law_all_B, hl, a1, a2, cop, a3, isiB, eqs, a4]
  · obtain ⟨i, j, hi, hj, k⟩ := hh q
    simp only [due, q, if_false, k, Option.getD_some, pr] at a1 a2
    have b1 := is_index (i : Int) (n : Int)
    have b2 := is_index (j : Int) (n : Int)
    simp [law_all_F, runFn, law_all_B, hl, a1, a2, cop, a3, isiB, eqs', eqs2, law_all_L1, law_all_W1, ex_for, forL_cons, okLen_small, hs, b1, b2, hi, hj]
/-! ### the most met -/
def cov (b : Nat) : Option (Nat × Nat) → Bool
  | none => false
  | some e => decide (e.1 ≤ b) && decide (b < e.2)
def metL (xs : List (Option (Nat × Nat))) (b : Nat) : List Nat := (xs.zipIdx.filter fun p => cov b p.1).map (·.2)
def mets (xs : List (Option (Nat × Nat))) (b : Nat) : D := nums (metL xs b)
theorem metL_len (xs : List (Option (Nat × Nat))) (b : Nat) : (metL xs b).length = xs.countP (cov b) := by
  have : ∀ (xs : List (Option (Nat × Nat))) (n : Nat), ((xs.zipIdx n).filter fun p => cov b p.1).length = xs.countP (cov b) := by
    intro xs
    induction xs with
    | nil => intro n; rfl
    | cons x xs ih =>
      intro n
      rw [List.zipIdx_cons, List.filter_cons, List.countP_cons]
      by_cases h : cov b x = true
      · simp [h, ih]
      · simp [h, ih]
  rw [metL, List.length_map, this xs 0]
theorem mm_C {N M : Nat → Int} (s : Spots N M) {xs : List (Option (Nat × Nat))} (h : ∀ e, some e ∈ xs → inh e) {f : Nat × Nat} (hf : inh f) (hn : xs.length ≤ 1000) (k st : D) (x4 x5 x6 : Option Sl) :
    ev most_met_T most_met_C1 [some (.v (ml N M xs)), some (.v k), some (.v st), some (.v (told N M f)), x4, x5, x6] = .ok (mets xs f.1) := by
  unfold most_met_C1
  rw [ev_comp_map (fun p : Option (Nat × Nat) × Nat => D.tup [.int (p.2 : Int), mx N M p.1]) xs.zipIdx (fun p => cov f.1 p.1) (fun p => D.int (p.2 : Int)) (by
      simp [ml, enumD]
      rw [List.zipIdx_map, List.map_map]
      rfl) (fun p hp => by
      obtain ⟨o, i⟩ := p
      refine ⟨_, rfl, ?_, fun _ => by simp⟩
      cases o with
      | none => simp [mx, cov]
      | some e =>
        have he := h e (List.mem_of_getElem? (List.mem_zipIdx_iff_getElem?.mp hp))
        have := cov_told s he.1 hf.1 hf.2
        simp [mx, cov, told_ne, this]) (by rw [List.length_zipIdx]; omega)]
  simp [mets, nums, metL]
end Pg
namespace Pg
open PySem PySem.Spec L2 Rf
theorem zipIdx_eq (xs : List (Option (Nat × Nat))) : xs.zipIdx = (List.range xs.length).map fun i => (xs.getD i none, i) := by
  apply List.ext_getElem
  · simp
  · intro i h1 h2
    simp at h1
    simp [h1]
theorem metL_eq (xs : List (Option (Nat × Nat))) (b : Nat) : metL xs b = (List.range xs.length).filter fun i => cov b (xs.getD i none) := by
  unfold metL
  rw [zipIdx_eq, List.filter_map, List.map_map]
  exact List.map_id _
theorem metL_lt {xs : List (Option (Nat × Nat))} {b i : Nat} (h : i ∈ metL xs b) : i < xs.length := by
  rw [metL_eq] at h
  exact List.mem_range.mp (List.mem_filter.mp h).1
def cnt (xs : List (Option (Nat × Nat))) (b : Nat) : Nat := (metL xs b).length
theorem cnt_pos {xs : List (Option (Nat × Nat))} {b : Nat} (e : Nat × Nat) (h : some e ∈ xs) (k : cov b (some e) = true) : 0 < cnt xs b := by
  unfold cnt; rw [metL_len]; exact List.countP_pos_iff.mpr ⟨_, h, k⟩
theorem cnt_mono {xs : List (Option (Nat × Nat))} {b b' : Nat} (h : ∀ o ∈ xs, cov b o = true → cov b' o = true) : cnt xs b ≤ cnt xs b' := by
  unfold cnt; rw [metL_len, metL_len]; exact List.countP_mono_left h
/-- what is kept -/
def kl (xs : List (Option (Nat × Nat))) : Option Nat → List Nat
  | none => []
  | some b => metL xs b
structure IP (xs a : List (Option (Nat × Nat))) (st : Option (Nat × Nat)) : Prop where
  n : st = none → ∀ f, some f ∉ a
  s : ∀ f0, st = some f0 → some f0 ∈ a ∧ ∀ f, some f ∈ a → cnt xs f.1 < cnt xs f0.1 ∨ (cnt xs f.1 = cnt xs f0.1 ∧ f0.1 ≤ f.1)
structure IL (xs : List (Option (Nat × Nat))) (a : List Nat) (st : Option Nat) : Prop where
  n : st = none → ∀ j ∈ a, cnt xs j = 0
  s : ∀ k0, st = some k0 → k0 ∈ a ∧ 0 < cnt xs k0 ∧ (∀ j ∈ a, cnt xs j ≤ cnt xs k0) ∧ ∀ j ∈ a, j < k0 → cnt xs j < cnt xs k0
theorem last_ex (P : Nat → Prop) : ∀ n, (∃ m, m ≤ n ∧ P m) → ∃ m, m ≤ n ∧ P m ∧ ∀ k, k ≤ n → P k → k ≤ m := by
  intro n
  induction n with
  | zero => rintro ⟨m, hm, h⟩; exact ⟨m, hm, h, fun k hk _ => by omega⟩
  | succ n ih =>
    rintro ⟨m, hm, h⟩
    by_cases c : P (n + 1)
    · exact ⟨n + 1, Nat.le_refl _, c, fun k hk _ => hk⟩
    · have : m ≤ n := by
        rcases Nat.lt_or_ge n m with k | k
        · have : m = n + 1 := by omega
          exact absurd (this ▸ h) c
        · exact k
      obtain ⟨m', h1, h2, h3⟩ := ih ⟨m, this, h⟩
      refine ⟨m', by omega, h2, fun k hk hp => ?_⟩
      rcases Nat.lt_or_ge n k with q | q
      · have : k = n + 1 := by omega
        exact absurd (this ▸ hp) c
      · exact h3 k q hp
theorem same_kept {xs : List (Option (Nat × Nat))} (hx : ∀ e, some e ∈ xs → inh e) {st : Option (Nat × Nat)} {st' : Option Nat} (h : IP xs xs st) (h' : IL xs (List.range 17) st') : kl xs (st.map (·.1)) = kl xs st' := by
  cases st' with
  | none =>
    have h0 := h'.n rfl
    cases st with
    | none => rfl
    | some f0 =>
      exfalso
      have hf := (h.s f0 rfl).1
      have i0 := hx f0 hf
      have := cnt_pos (b := f0.1) f0 hf (by simp [cov]; exact i0.2)
      have z := h0 f0.1 (List.mem_range.mpr (by have := i0.1.2; have := i0.2; omega))
      omega
  | some k0 =>
    obtain ⟨hk, hp, hm, hlt⟩ := h'.s k0 rfl
    have hk := List.mem_range.mp hk
    have hpos : ∃ o ∈ xs, cov k0 o = true := by
      unfold cnt at hp; rw [metL_len] at hp; exact List.countP_pos_iff.mp hp
    obtain ⟨m, m1, ⟨e, e1, e2, e3⟩, m3⟩ := last_ex (fun m => ∃ e, some e ∈ xs ∧ cov k0 (some e) = true ∧ e.1 = m) k0 (by
      obtain ⟨o, ho, hc⟩ := hpos
      cases o with
      | none => simp [cov] at hc
      | some e => exact ⟨e.1, by simp [cov] at hc; exact hc.1, e, ho, hc, rfl⟩)
    have cm : cnt xs k0 ≤ cnt xs m := cnt_mono (by
      intro o ho hc
      cases o with
      | none => simp [cov] at hc
      | some e' =>
        have := m3 e'.1 (by simp [cov] at hc; exact hc.1) ⟨e', ho, hc, rfl⟩
        simp [cov] at hc ⊢
        omega)
    have hmk : m = k0 := by
      rcases Nat.lt_or_ge m k0 with q | q
      · have := hlt m (List.mem_range.mpr (by omega)) q
        omega
      · omega
    cases st with
    | none => exact absurd e1 (h.n rfl e)
    | some f0 =>
      obtain ⟨f1, f2⟩ := h.s f0 rfl
      have i0 := hx f0 f1
      have hf0 : f0.1 < 17 := by have := i0.1.2; have := i0.2; omega
      have q1 := f2 e e1
      rw [e3, hmk] at q1
      have q2 := hm f0.1 (List.mem_range.mpr hf0)
      have : f0.1 = k0 := by
        rcases Nat.lt_or_ge f0.1 k0 with q | q
        · have := hlt f0.1 (List.mem_range.mpr hf0) q
          omega
        · omega
      simp [kl, this]
end Pg
namespace Pg
open PySem PySem.Spec L2 Rf
def mmE (N M : Nat → Int) (xs : List (Option (Nat × Nat))) (st : Option (Nat × Nat)) (a b c d : Option Sl) : Rf.Env := [some (.v (ml N M xs)), some (.v (nums (kl xs (st.map (·.1))))), some (.v (mx N M st)), a, b, c, d]
theorem mm_W {N M : Nat → Int} (s : Spots N M) {xs a : List (Option (Nat × Nat))} (h : ∀ e, some e ∈ xs → inh e) (hn : xs.length ≤ 1000) {st : Option (Nat × Nat)} (ha : ∀ o ∈ a, o ∈ xs) (hI : IP xs a st) (o : Option (Nat × Nat)) (ho : o ∈ xs) (b c d : Option Sl) :
    ∃ st' b', (ex most_met_T most_met_W1 (mmE N M xs st (some (.v (mx N M o))) b c d) = .nx (mmE N M xs st' (some (.v (mx N M o))) b' c d) ∨ ex most_met_T most_met_W1 (mmE N M xs st (some (.v (mx N M o))) b c d) = .ct (mmE N M xs st' (some (.v (mx N M o))) b' c d)) ∧ IP xs (a ++ [o]) st' := by
  cases o with
  | none =>
    refine ⟨st, b, .inr (by simp [mmE, most_met_W1, mx]), ⟨fun e f hf => ?_, fun f0 e => ?_⟩⟩
    · rcases List.mem_append.mp hf with k | k
      · exact hI.n e f k
      · simp at k
    · obtain ⟨k1, k2⟩ := hI.s f0 e
      refine ⟨List.mem_append.mpr (.inl k1), fun f hf => ?_⟩
      rcases List.mem_append.mp hf with k | k
      · exact k2 f k
      · simp at k
  | some f =>
    have hf := h f ho
    have hC := fun x1 x2 => mm_C s h hf hn x1 x2 b c d
    have hpos := cnt_pos (b := f.1) f ho (by simp [cov]; exact hf.2)
    have hl : ∀ l, biF .len [nums l] = .ok (.int (l.length : Int)) := fun l => by simp [nums]
    have self : some f ∈ a ++ [some f] := List.mem_append.mpr (.inr (by simp))
    cases st with
    | none =>
      refine ⟨some f, some (.v (mets xs f.1)), .inl ?_, ⟨fun e => by simp at e, fun f0 e => ?_⟩⟩
      · unfold cnt at hpos
        simp [mmE, most_met_W1, told_ne, mx, hC, hl, mets, kl, hpos]
      · injection e with e; subst e
        refine ⟨self, fun g hg => ?_⟩
        rcases List.mem_append.mp hg with k | k
        · exact absurd k (hI.n rfl g)
        · simp at k; subst k; exact .inr ⟨rfl, Nat.le_refl _⟩
    | some f0 =>
      obtain ⟨k1, k2⟩ := hI.s f0 rfl
      have h0 := h f0 (ha _ k1)
      have hb := beg_told s hf.1 h0.1
      have key : evT most_met_T (.or (.cmp .gt (.bi .len (.cons (.var 4) .nil)) (.bi .len (.cons (.var 1) .nil))) (.and (.cmp .eq (.bi .len (.cons (.var 4) .nil)) (.bi .len (.cons (.var 1) .nil))) (.call 1 (.cons (.var 3) (.cons (.var 2) .nil))))) [some (.v (ml N M xs)), some (.v (nums (metL xs f0.1))), some (.v (told N M f0)), some (.v (told N M f)), some (.v (mets xs f.1)), c, d] = .ok (decide (cnt xs f0.1 < cnt xs f.1) || (decide (cnt xs f.1 = cnt xs f0.1) && decide (f.1 < f0.1))) := by
        have e1 : decide (((metL xs f0.1).length : Int) < ((metL xs f.1).length : Int)) = decide (cnt xs f0.1 < cnt xs f.1) := decide_eq_decide.mpr (by unfold cnt; omega)
        have e2 : decide (((metL xs f.1).length : Int) = ((metL xs f0.1).length : Int)) = decide (cnt xs f.1 = cnt xs f0.1) := decide_eq_decide.mpr (by unfold cnt; omega)
        simp only [evT_or, evT_and, evT_cmp, evT_call, ev_bi, evs_cons, evs_nil, ev_var, getV_zero, getV_succ, R.bind_ok, mets, hl, cop_gt, cop_eq_int, asB_bl, most_met_fn1, hb, truD_bl, e1, e2]
        cases decide (cnt xs f0.1 < cnt xs f.1) <;> cases decide (cnt xs f.1 = cnt xs f0.1) <;> simp
      by_cases q : cnt xs f0.1 < cnt xs f.1 ∨ (cnt xs f.1 = cnt xs f0.1 ∧ f.1 < f0.1)
      · have q' : (decide (cnt xs f0.1 < cnt xs f.1) || (decide (cnt xs f.1 = cnt xs f0.1) && decide (f.1 < f0.1))) = true := by simpa using q
        rw [q'] at key
        refine ⟨some f, some (.v (mets xs f.1)), .inl ?_, ⟨fun e => by simp at e, fun f1 e => ?_⟩⟩
        · simp [-evT_or, mmE, most_met_W1, told_ne, mx, hC, kl, key]
          rfl
        · injection e with e; subst e
          refine ⟨self, fun g hg => ?_⟩
          rcases List.mem_append.mp hg with k | k
          · have := k2 g k; omega
          · simp at k; subst k; exact .inr ⟨rfl, Nat.le_refl _⟩
      · have q' : (decide (cnt xs f0.1 < cnt xs f.1) || (decide (cnt xs f.1 = cnt xs f0.1) && decide (f.1 < f0.1))) = false := by
          cases hh : (decide (cnt xs f0.1 < cnt xs f.1) || (decide (cnt xs f.1 = cnt xs f0.1) && decide (f.1 < f0.1))) with
          | false => rfl
          | true => exact absurd (by simpa using hh) q
        rw [q'] at key
        refine ⟨some f0, some (.v (mets xs f.1)), .inl ?_, ⟨fun e => by simp at e, fun f1 e => ?_⟩⟩
        · simp [-evT_or, mmE, most_met_W1, told_ne, mx, hC, kl, key]
        · injection e with e; subst e
          refine ⟨List.mem_append.mpr (.inl k1), fun g hg => ?_⟩
          rcases List.mem_append.mp hg with k | k
          · exact k2 g k
          · simp at k; subst k; omega
theorem most_met_eval {N M : Nat → Int} (s : Spots N M) {xs : List (Option (Nat × Nat))} (h : ∀ e, some e ∈ xs → inh e) (hn : xs.length ≤ 1000) : ∃ st, most_met_F [ml N M xs] = .ok (nums (kl xs (st.map (·.1)))) ∧ IP xs xs st := by
  obtain ⟨env', h1, st, a, b, c, d, rfl, hI⟩ := ex_for_run (T := most_met_T) (t := .name 3) (it := .cons (.var 0) .nil) (body := most_met_W1) (mx N M) xs
    (fun p env => ∃ st a b c d, env = mmE N M xs st a b c d ∧ IP xs p st) (env := mmE N M xs none none none none none)
    (by simp [ml, mmE]) ⟨none, none, none, none, none, rfl, ⟨fun _ f hf => by simp at hf, fun f0 e => by simp at e⟩⟩ (by
      rintro p o q _ hl ⟨st, a, b, c, d, rfl, hI⟩
      obtain ⟨st', b', k1, k2⟩ := mm_W s h hn (fun o ho => by rw [hl]; exact List.mem_append.mpr (.inl ho)) hI o (by rw [hl]; simp) b c d
      exact ⟨_, rfl, _, k1, st', _, b', c, d, rfl, k2⟩)
  refine ⟨st, ?_, hI⟩
  have k2 : ex most_met_T most_met_L1 _ = _ := h1
  simp only [mmE, Option.map_none, kl, mx] at k2
  have e0 : (nums [] : D) = .lst [] := rfl
  rw [e0] at k2
  simp [most_met_F, runFn, most_met_B, okLen_small, k2]
  rfl
structure Mix (xs : List (Option (Nat × Nat))) (ts : List (Nat × Nat)) : Prop where
  len : xs.length = ts.length
  at_ : ∀ (i : Nat) (e : Nat × Nat), xs[i]? = some (some e) → ts[i]? = some e
theorem most_C {N M : Nat → Int} {xs : List (Option (Nat × Nat))} {ts : List (Nat × Nat)} (m : Mix xs ts) (hn : ts.length ≤ 1000) (a b c : D) (k : Nat) (hk : k ≤ 16) (x6 x7 : Option Sl) :
    ev law_most_T law_most_C1 [some (.v (ml N M xs)), some (.v (sl ts)), some (.v a), some (.v b), some (.v c), some (.v (.int (k : Int))), x6, x7] = .ok (mets xs k) := by
  unfold law_most_C1
  rw [ev_comp_map (fun i : Nat => D.int (i : Int)) (List.range ts.length) (fun i => cov k (xs.getD i none)) (fun i : Nat => D.int (i : Int)) (evI_rng1_nat (n := ts.length) (by simp [sl]) (by omega)) (fun i hi => by
      have hi := List.mem_range.mp hi
      have hix : i < xs.length := by rw [m.len]; exact hi
      have e1 : ixD (ml N M xs) (.int (i : Int)) = .ok (mx N M (xs.getD i none)) := ixD_nat (by rw [List.getElem?_map, List.getElem?_eq_getElem hix]; simp [List.getD, hix])
      have e2 := sl_ix ts hi
      refine ⟨_, rfl, ?_, fun _ => by simp⟩
      cases o : xs.getD i none with
      | none => rw [o] at e1; simp [e1, mx, cov]
      | some e =>
        rw [o] at e1
        have h2 : xs[i]? = some (some e) := by
          rw [List.getD_eq_getElem?_getD, List.getElem?_eq_getElem hix] at o
          rw [List.getElem?_eq_getElem hix]; exact congrArg some o
        have h3 : ts.getD i (0, 0) = e := by rw [List.getD_eq_getElem?_getD, m.at_ i e h2]; rfl
        rw [h3] at e2
        have hn : ∀ x, itemsD (nums x) = .ok (x.map fun k : Nat => D.int (k : Int)) := fun _ => rfl
        have : decide (k ∈ iv e) = (decide (e.1 ≤ k) && decide (k < e.2)) := by rw [Bool.eq_iff_iff]; simp [iv_mem, hk]
        simp [e1, e2, mx, cov, told_ne, cop, hn, mem_nums, this]) (by rw [List.length_range]; omega)]
  rw [mets, metL_eq, m.len]
  rfl
def lmE (N M : Nat → Int) (xs : List (Option (Nat × Nat))) (ts : List (Nat × Nat)) (w : D) (st : Option Nat) (a b c : Option Sl) : Rf.Env := [some (.v (ml N M xs)), some (.v (sl ts)), some (.v (ml N M xs)), some (.v w), some (.v (nums (kl xs st))), a, b, c]
theorem most_W {N M : Nat → Int} {xs : List (Option (Nat × Nat))} {ts : List (Nat × Nat)} (m : Mix xs ts) (hn : ts.length ≤ 1000) (w : D) {st : Option Nat} {a : List Nat} (k : Nat) (ha : ∀ j ∈ a, j < k) (hk : k ≤ 16) (hI : IL xs a st) (b c : Option Sl) :
    ∃ st' c', ex law_most_T law_most_W1 (lmE N M xs ts w st (some (.v (.int (k : Int)))) b c) = .nx (lmE N M xs ts w st' (some (.v (.int (k : Int)))) b c') ∧ IL xs (a ++ [k]) st' := by
  have hC := fun x1 => most_C (N := N) (M := M) m hn (ml N M xs) w x1 k hk b c
  have hl : ∀ l, biF .len [nums l] = .ok (.int (l.length : Int)) := fun l => by simp [nums]
  have self : k ∈ a ++ [k] := List.mem_append.mpr (.inr (by simp))
  by_cases q : (kl xs st).length < (metL xs k).length
  · refine ⟨some k, some (.v (mets xs k)), ?_, ⟨fun e => by simp at e, fun k1 e => ?_⟩⟩
    · simp [lmE, law_most_W1, hC, hl, mets, q]
      rfl
    · injection e with e; subst e
      refine ⟨self, by unfold cnt; omega, fun j hj => ?_, fun j hj hjk => ?_⟩
      · rcases List.mem_append.mp hj with h | h
        · cases st with
          | none => rw [hI.n rfl j h]; omega
          | some k0 =>
            have := (hI.s k0 rfl).2.2.1 j h
            simp only [kl] at q; unfold cnt at *; omega
        · simp at h; subst h; exact Nat.le_refl _
      · rcases List.mem_append.mp hj with h | h
        · cases st with
          | none => rw [hI.n rfl j h]; unfold cnt; omega
          | some k0 =>
            have := (hI.s k0 rfl).2.2.1 j h
            simp only [kl] at q; unfold cnt at *; omega
        · simp at h; omega
  · refine ⟨st, some (.v (mets xs k)), ?_, ⟨fun e j hj => ?_, fun k1 e => ?_⟩⟩
    · simp [lmE, law_most_W1, hC, hl, mets, q]
    · rcases List.mem_append.mp hj with h | h
      · exact hI.n e j h
      · simp at h; subst h; subst e; simp only [kl, List.length_nil] at q; unfold cnt; omega
    · obtain ⟨p1, p2, p3, p4⟩ := hI.s k1 e
      subst e
      refine ⟨List.mem_append.mpr (.inl p1), p2, fun j hj => ?_, fun j hj hjk => ?_⟩
      · rcases List.mem_append.mp hj with h | h
        · exact p3 j h
        · simp at h; subst h; simp only [kl] at q; unfold cnt; omega
      · rcases List.mem_append.mp hj with h | h
        · exact p4 j h hjk
        · simp at h; subst h; have := ha k1 p1; omega
theorem most_L {N M : Nat → Int} {xs : List (Option (Nat × Nat))} {ts : List (Nat × Nat)} (m : Mix xs ts) (hn : ts.length ≤ 1000) (w : D) : ∃ st a b c, ex law_most_T law_most_L1 (lmE N M xs ts w none none none none) = .nx (lmE N M xs ts w st a b c) ∧ IL xs (List.range 17) st := by
  obtain ⟨env', h1, st, a, b, c, rfl, hI⟩ := ex_for_run (T := law_most_T) (t := .name 5) (it := .rng1 (.int 17)) (body := law_most_W1) (fun k : Nat => D.int (k : Int)) (List.range 17)
    (fun p env => ∃ st a b c, env = lmE N M xs ts w st a b c ∧ IL xs p st) (env := lmE N M xs ts w none none none none)
    (evI_rng1_nat (n := 17) (by simp) (by decide)) ⟨none, none, none, none, rfl, ⟨fun _ f hf => by simp at hf, fun f0 e => by simp at e⟩⟩ (by
      rintro p k q _ hl ⟨st, a, b, c, rfl, hI⟩
      have hk : k ∈ List.range 17 := by rw [hl]; simp
      have hk := List.mem_range.mp hk
      have hp : ∀ j ∈ p, j < k := by
        have := List.pairwise_lt_range (n := 17)
        rw [hl] at this
        exact fun j hj => (List.pairwise_append.mp this).2.2 j hj k (List.mem_cons_self ..)
      obtain ⟨st', c', k1, k2⟩ := most_W (N := N) (M := M) m hn w k hp (by omega) hI b c
      exact ⟨_, rfl, _, .inl k1, st', _, b, c', rfl, k2⟩)
  exact ⟨st, a, b, c, h1, hI⟩
theorem most_ok {N M : Nat → Int} (s : Spots N M) {xs : List (Option (Nat × Nat))} {ts : List (Nat × Nat)} (h : ∀ e, some e ∈ xs → inh e) (m : Mix xs ts) (hn : ts.length ≤ 1000) : law_most_F [ml N M xs, sl ts] = .ok (.bl true) := by
  obtain ⟨st, a1, hI⟩ := most_met_eval s h (by rw [m.len]; exact hn)
  obtain ⟨st', x5, x6, x7, a2, hI'⟩ := most_L (N := N) (M := M) m hn (nums (kl xs (st.map (·.1))))
  have hk := same_kept h hI hI'
  have hin : ∀ i ∈ kl xs st', i < ts.length := by
    intro i hi
    cases st' with
    | none => simp [kl] at hi
    | some b => rw [← m.len]; exact metL_lt hi
  rw [hk] at a1 a2
  simp only [lmE] at a2
  rw [show kl xs none = [] from rfl, show nums [] = D.lst [] from rfl] at a2
  have a3 := eq_ml N M xs
  have a4 := eqD_nums (kl xs st') (kl xs st')
  have hl : biF .list [ml N M xs] = .ok (ml N M xs) := by simp [ml]
  have hs : biF .len [sl ts] = .ok (.int (ts.length : Int)) := by simp [sl]
  generalize kl xs st' = l at *
  obtain ⟨env', b1, y, rfl⟩ := ex_for_run (T := law_most_T) (t := .name 6) (it := .cons (.var 3) .nil) (body := law_most_W2) (fun k : Nat => D.int (k : Int)) l
    (fun _ env => ∃ y, env = [some (.v (ml N M xs)), some (.v (sl ts)), some (.v (ml N M xs)), some (.v (nums l)), some (.v (nums l)), x5, y, x7]) (env := [some (.v (ml N M xs)), some (.v (sl ts)), some (.v (ml N M xs)), some (.v (nums l)), some (.v (nums l)), x5, x6, x7])
    (by simp [nums]) ⟨_, rfl⟩ (by
      rintro p k q _ hl ⟨y, rfl⟩
      have hk := hin k (by rw [hl]; simp)
      have := is_index (k : Int) (ts.length : Int)
      exact ⟨_, rfl, _, .inl (by simp [law_most_W2, hs, this, hk]), some (.v (.int (k : Int))), rfl⟩)
  have b2 : ex law_most_T law_most_L2 _ = _ := b1
  have il : isiB .list (nums l) = .ok true := rfl
  simp [law_most_F, runFn, law_most_B, hl, a1, a2, b2, cop, a3, a4, il, okLen_small]
end Pg
namespace Pg
open PySem PySem.Spec L2 Rf
open Classical in
theorem eq_ml_nil (N M : Nat → Int) (xs : List (Option (Nat × Nat))) : eqD (ml N M xs) (.lst []) = .ok (decide (xs = [])) := by
  have h1 : okN 3 (ml N M xs) = true := by
    show (xs.map (mx N M)).all (okN 2) = true
    rw [List.all_eq_true]
    intro d hd
    obtain ⟨o, _, rfl⟩ := List.mem_map.mp hd
    exact mx_okN N M o
  have h2 : nice 3 (ml N M xs) (.lst []) = true := by
    show (((xs.map (mx N M)).zip []).all fun p => nice 2 p.1 p.2) = true
    rw [List.zip_nil_right]; rfl
  rw [eqD_of h1 (by rfl) h2]
  congr 1
  exact decide_eq_decide.mpr ⟨fun h => by unfold ml at h; injection h with h; exact List.map_eq_nil_iff.mp h, fun h => by rw [h]; rfl⟩
theorem mm_nil {N M : Nat → Int} (s : Spots N M) {xs : List (Option (Nat × Nat))} (hx : ∀ e, some e ∉ xs) (hn : xs.length ≤ 1000) : most_met_F [ml N M xs] = .ok (.lst []) := by
  obtain ⟨st, h1, h2⟩ := most_met_eval s (fun e he => absurd he (hx e)) hn
  cases st with
  | none => exact h1
  | some f => exact absurd (h2.s f rfl).1 (hx f)
def sls (ts : List (Nat × Nat)) : List D := ts.map fun e => nums (iv e)
def tls (N M : Nat → Int) (ts : List (Nat × Nat)) : List D := ts.map (told N M)
theorem law_1 {N M : Nat → Int} (s : Spots N M) (sc : D) {es : List (Nat × Nat)} (h : ∀ e ∈ es, okE e) (hn : es.length ≤ 12) : ∃ ts x, (∀ t ∈ ts, inh t) ∧ ts.length ≤ 12 ∧
    ex law_T law_L1 [some (.v sc), some (.v (spL N M)), some (.v (.lst (es.map ende))), some (.o []), some (.o []), none, none, none, none, none, none, none] = .nx [some (.v sc), some (.v (spL N M)), some (.v (.lst (es.map ende))), some (.o (tls N M ts)), some (.o (sls ts)), x, none, none, none, none, none, none] := by
  obtain ⟨env', h1, ts, x, rfl, ht, hl⟩ := ex_for_run (T := law_T) (t := .name 5) (it := .cons (.var 2) .nil) (body := law_W1) ende es
    (fun p env => ∃ ts x, env = [some (.v sc), some (.v (spL N M)), some (.v (.lst (es.map ende))), some (.o (tls N M ts)), some (.o (sls ts)), x, none, none, none, none, none, none] ∧ (∀ t ∈ ts, inh t) ∧ ts.length ≤ p.length)
    (env := [some (.v sc), some (.v (spL N M)), some (.v (.lst (es.map ende))), some (.o []), some (.o []), none, none, none, none, none, none, none])
    (by simp) ⟨[], none, rfl, by simp, by simp⟩ (by
      rintro p e q _ hl ⟨ts, x, rfl, h1, h2⟩
      have he := h e (by rw [hl]; simp)
      have hp : p.length < 12 := by
        have := congrArg List.length hl
        simp at this
        omega
      have a1 := single_ok s he
      have a2 := set_ende e
      have a3 := told_ende N M he
      have a4 := eq_nil he
      by_cases q : e.1 < e.2
      · refine ⟨_, rfl, [some (.v sc), some (.v (spL N M)), some (.v (.lst (es.map ende))), some (.o (tls N M (ts ++ [e]))), some (.o (sls (ts ++ [e]))), some (.v (ende e)), none, none, none, none, none, none], .inl ?_, ts ++ [e], some (.v (ende e)), rfl, ?_, ?_⟩
        · have k1 : (tls N M ts).length < 16777216 := by rw [tls, List.length_map]; omega
          have k2 : (sls ts).length < 16777216 := by rw [sls, List.length_map]; omega
          have k3 : tls N M (ts ++ [e]) = tls N M ts ++ [told N M e] := by simp [tls]
          have k4 : sls (ts ++ [e]) = sls ts ++ [nums (iv e)] := by simp [sls]
          simp [law_W1, a1, a2, cop, a4, q, a3, k1, k2, k3, k4, okLen_small]
        · intro t ht
          rcases List.mem_append.mp ht with k | k
          · exact h1 t k
          · rw [List.mem_singleton.mp k]; exact ⟨he, q⟩
        · simp; omega
      · refine ⟨_, rfl, [some (.v sc), some (.v (spL N M)), some (.v (.lst (es.map ende))), some (.o (tls N M ts)), some (.o (sls ts)), some (.v (ende e)), none, none, none, none, none, none], .inl ?_, ts, some (.v (ende e)), rfl, h1, ?_⟩
        · simp [law_W1, a1, a2, cop, a4, q, okLen_small]
        · simp; omega)
  exact ⟨ts, x, ht, by omega, h1⟩
/-- the env when the pairs are looked at -/
def lE (N M : Nat → Int) (sc dr : D) (ts : List (Nat × Nat)) (x5 x6 x8 x9 x10 : Option Sl) : Rf.Env := [some (.v sc), some (.v (spL N M)), some (.v dr), some (.v (tl N M ts)), some (.o (sls ts)), x5, x6, none, x8, x9, x10, none]
theorem law_2 {N M : Nat → Int} (s : Spots N M) (sc dr : D) {ts : List (Nat × Nat)} (h : ∀ t ∈ ts, inh t) (x5 : Option Sl) {i j : Nat} (hi : i < ts.length) (hj : j < ts.length) (x9 x10 : Option Sl) : ∃ x9' x10', ex law_T law_W2 (lE N M sc dr ts x5 (some (.v (.int (i : Int)))) (some (.v (.int (j : Int)))) x9 x10) = .nx (lE N M sc dr ts x5 (some (.v (.int (i : Int)))) (some (.v (.int (j : Int)))) x9' x10') := by
  have g1 : getL (lE N M sc dr ts x5 (some (.v (.int (i : Int)))) (some (.v (.int (j : Int)))) x9 x10) 4 = .ok (sls ts) := rfl
  have e1 := getD_ok h i hi
  have e2 := getD_ok h j hj
  have a1 := sl_ix ts hi
  have a2 := sl_ix ts hj
  have b1 := tl_ix N M ts hi
  have b2 := tl_ix N M ts hj
  have a3 := shared_nums (ts.getD i (0, 0)) (ts.getD j (0, 0))
  have a4 := meet_told s e1.1 e2.1
  have a5 := eq_nil (ok_mt e1.1 e2.1)
  have hL : ∀ (env : Rf.Env), getL (some (.v (tl N M ts)) :: env) 0 = .ok (tls N M ts) := fun _ => rfl
  have hT : D.lst (tls N M ts) = tl N M ts := rfl
  have hS : D.lst (sls ts) = sl ts := rfl
  have ok := ok_mt e1.1 e2.1
  generalize mt (ts.getD i (0, 0)) (ts.getD j (0, 0)) = c at *
  by_cases q : c.1 < c.2
  · have a6 := is_stretch N M ok q
    refine ⟨some (.v (nums (iv c))), some (.v (told N M c)), ?_⟩
    simp [-List.getD_eq_getElem?_getD, lE, law_W2, hL, hT, hS, a1, a2, b1, b2, a3, a4, cop, a5, q, a6, okLen_small]
  · refine ⟨some (.v (nums (iv c))), some (.v .non), ?_⟩
    simp [-List.getD_eq_getElem?_getD, lE, law_W2, hL, hT, hS, a1, a2, b1, b2, a3, a4, cop, a5, q, okLen_small]
theorem law_3 {N M : Nat → Int} (s : Spots N M) (sc dr : D) {ts : List (Nat × Nat)} (h : ∀ t ∈ ts, inh t) (hn : ts.length ≤ 1000) (x5 : Option Sl) {i : Nat} (hi : i < ts.length) (x8 x9 x10 : Option Sl) : ∃ x8' x9' x10', ex law_T law_L2 (lE N M sc dr ts x5 (some (.v (.int (i : Int)))) x8 x9 x10) = .nx (lE N M sc dr ts x5 (some (.v (.int (i : Int)))) x8' x9' x10') := by
  have d2 : okDiv 2 = true := by decide
  have q1 : ((i : Int)).fdiv 2 = ((i / 2 : Nat) : Int) := by rw [Int.fdiv_eq_ediv_of_nonneg _ (by decide)]; rfl
  have q2 : ((sls ts).length : Int) - 1 = ((ts.length - 1 : Nat) : Int) := by rw [sls, List.length_map]; omega
  obtain ⟨env', h1, x8', x9', x10', rfl⟩ := ex_for_run (T := law_T) (t := .name 8) (it := .cons (.lst (.cons (.int 0) (.cons (.bin .fdiv (.var 6) (.int 2)) (.cons (.bin .sub (.olen 4) (.int 1)) .nil)))) .nil) (body := law_W2) (fun k : Nat => D.int (k : Int)) [0, i / 2, ts.length - 1]
    (fun _ env => ∃ x8 x9 x10, env = lE N M sc dr ts x5 (some (.v (.int (i : Int)))) x8 x9 x10) (env := lE N M sc dr ts x5 (some (.v (.int (i : Int)))) x8 x9 x10)
    (by
      simp only [lE, evI_cons, ev_lst, evs_cons, evs_nil, ev_int, ev_bin, ev_var, ev_olen, getV_succ, getV_zero, getL_succ, getL_zeroO, R.bind_ok, bop_fdiv d2, q1, bop_sub, q2]
      simp [okLen_small]) ⟨x8, x9, x10, rfl⟩ (by
      rintro p j q _ hl ⟨x8, x9, x10, rfl⟩
      have hj : j < ts.length := by
        have : j ∈ [0, i / 2, ts.length - 1] := by rw [hl]; simp
        simp at this
        omega
      obtain ⟨y9, y10, k⟩ := law_2 s sc dr h x5 hi hj x9 x10
      exact ⟨_, rfl, _, .inl k, some (.v (.int (j : Int))), y9, y10, rfl⟩)
  exact ⟨x8', x9', x10', h1⟩
theorem law_4 {N M : Nat → Int} (s : Spots N M) (sc dr : D) {ts : List (Nat × Nat)} (h : ∀ t ∈ ts, inh t) (hn : ts.length ≤ 1000) (x5 : Option Sl) : ∃ x6 x8 x9 x10, ex law_T law_L3 (lE N M sc dr ts x5 none none none none) = .nx (lE N M sc dr ts x5 x6 x8 x9 x10) := by
  obtain ⟨env', h1, x6, x8, x9, x10, rfl⟩ := ex_for_run (T := law_T) (t := .name 6) (it := .rng1 (.olen 4)) (body := law_W3) (fun k : Nat => D.int (k : Int)) (List.range ts.length)
    (fun _ env => ∃ x6 x8 x9 x10, env = lE N M sc dr ts x5 x6 x8 x9 x10) (env := lE N M sc dr ts x5 none none none none)
    (evI_rng1_nat (n := ts.length) (by simp [lE, sls]) (by omega)) ⟨none, none, none, none, rfl⟩ (by
      rintro p i q _ hl ⟨x6, x8, x9, x10, rfl⟩
      have hi : i ∈ List.range ts.length := by rw [hl]; simp
      obtain ⟨y8, y9, y10, k⟩ := law_3 s sc dr h hn x5 (List.mem_range.mp hi) x8 x9 x10
      exact ⟨lE N M sc dr ts x5 (some (.v (.int (i : Int)))) x8 x9 x10, rfl, _, .inl (by rw [law_W3, ex_cons, k, andThen_nx, ex_nil]), _, _, _, _, rfl⟩)
  exact ⟨x6, x8, x9, x10, h1⟩
end Pg
namespace Pg
open PySem PySem.Spec L2 Rf
theorem law_5 {N M : Nat → Int} (sc dr : D) {ts : List (Nat × Nat)} (hn : ts.length ≤ 1000) (row : List Int) (hr : row.length = ts.length) (x5 x6 x8 x9 x10 x11 : Option Sl) : ∃ xs, (∀ e, some e ∈ xs → e ∈ ts) ∧ Mix xs ts ∧
    ev law_T law_C1 [some (.v sc), some (.v (spL N M)), some (.v dr), some (.v (tl N M ts)), some (.v (sl ts)), x5, x6, some (.v (.lst (row.map D.int))), x8, x9, x10, x11] = .ok (ml N M xs) := by
  refine ⟨(List.range ts.length).map fun k => if 0 < row.getD k 0 then some (ts.getD k (0, 0)) else none, ?_, ⟨by simp, ?_⟩, ?_⟩
  · intro e he
    obtain ⟨k, hk, h⟩ := List.mem_map.mp he
    have hk := List.mem_range.mp hk
    split at h
    · injection h with h
      rw [← h, List.getD_eq_getElem?_getD, List.getElem?_eq_getElem hk]
      exact List.getElem_mem hk
    · cases h
  · intro i e h
    have hi : i < ts.length := by
      have := (List.getElem?_eq_some_iff.mp h).1
      simpa using this
    rw [List.getElem?_map, List.getElem?_range hi] at h
    simp only [Option.map_some, Option.some.injEq] at h
    split at h
    · injection h with h
      rw [← h, List.getD_eq_getElem?_getD, List.getElem?_eq_getElem hi]; rfl
    · cases h
  · unfold law_C1
    rw [ev_comp_map (fun k : Nat => D.int (k : Int)) (List.range ts.length) (fun _ => true) (fun k => mx N M (if 0 < row.getD k 0 then some (ts.getD k (0, 0)) else none)) (evI_rng1_nat (n := ts.length) (by
        have hL : ∀ (env : Rf.Env), getL (some (.v (tl N M ts)) :: env) 0 = .ok (tls N M ts) := fun _ => rfl
        simp [hL, tls]) (by omega)) (fun k hk => ⟨_, rfl, by simp, fun _ => by
        have hk := List.mem_range.mp hk
        have a1 := tl_ix N M ts hk
        have a2 : ixD (.lst (row.map D.int)) (.int (k : Int)) = .ok (.int (row.getD k 0)) := ixD_nat (by rw [List.getElem?_map, List.getElem?_eq_getElem (by omega)]; simp [List.getD, hr, hk])
        by_cases q : 0 < row.getD k 0
        · simp [-List.getD_eq_getElem?_getD, a1, a2, q, mx]
        · simp [-List.getD_eq_getElem?_getD, a1, a2, q, mx]⟩) (by rw [List.length_range]; omega)]
    rw [List.filter_eq_self.mpr (fun _ _ => rfl), ml, List.map_map]
    rfl
theorem law_true (ns : List Int) (hlen : ns.length ≤ 63) : law_F [.lst (ns.map D.int)] = .ok (.bl true) := by
  obtain ⟨N, M, s, a1⟩ := spots_ok ns
  obtain ⟨es, h1, h2, a2⟩ := drawn_ok ns
  obtain ⟨ts, x5, h3, h4, a3⟩ := law_1 s (.lst (ns.map D.int)) h1 h2
  have m1 : most_met_F [.lst []] = .ok (.lst []) := mm_nil s (xs := []) (by simp) (by simp)
  have m2 : most_met_F [.lst [.non]] = .ok (.lst []) := mm_nil s (xs := [none]) (by simp) (by simp)
  have en : eqD (.lst []) (.lst []) = .ok true := by rw [eqD_of (n := 1) rfl rfl rfl]; simp
  have c15 := cell_ints ns 15
  simp only [Int.cast_ofNat_Int] at c15
  generalize ns.getD 15 0 = z at c15
  have hT : D.lst (tls N M ts) = tl N M ts := rfl
  have hS : D.lst (sls ts) = sl ts := rfl
  have ets := eq_ml_nil N M (ts.map some)
  rw [ml_some] at ets
  generalize D.lst (ns.map D.int) = sc at *
  generalize D.lst (es.map ende) = dr at *
  cases ts with
  | nil =>
    simp [law_F, runFn, law_B, a1, a2, a3, m1, m2, en, cop, okLen_small, frzE, tls]
  | cons t ts =>
    obtain ⟨x6, x8, x9, x10, a4⟩ := law_4 s sc dr h3 (by omega) x5
    have a5 := all_ok s h3 (by omega)
    have mm : Mix ((t :: ts).map some) (t :: ts) := ⟨by simp, fun i e h => by
      rw [List.getElem?_map] at h
      cases k : (t :: ts)[i]? with
      | none => rw [k] at h; cases h
      | some y => rw [k] at h; simpa using h⟩
    have a6 := most_ok s (xs := (t :: ts).map some) (ts := t :: ts) (fun e he => by
      obtain ⟨y, hy, k⟩ := List.mem_map.mp he
      injection k with k; exact k ▸ h3 y hy) mm (by omega)
    rw [ml_some] at a6
    obtain ⟨row, r1, r2, _⟩ := digits_ok z 3 (t :: ts).length (by decide) (by decide) (by omega)
    have hL : ∀ (env : Rf.Env), getL (some (.v (tl N M (t :: ts))) :: env) 0 = .ok (tls N M (t :: ts)) := fun _ => rfl
    obtain ⟨xs, k1, k2, a7⟩ := law_5 (N := N) (M := M) sc dr (ts := t :: ts) (by omega) row r2 x5 x6 x8 x9 x10 none
    have a8 := most_ok s (fun e he => h3 e (k1 e he)) k2 (by omega)
    have ln : (tls N M (t :: ts)).length = (t :: ts).length := by rw [tls, List.length_map]
    have ne : ¬ (t :: ts).map some = [] := by simp
    rw [decide_eq_false ne] at ets
    simp only [lE] at a4
    generalize ml N M xs = mxs at *
    generalize tl N M (t :: ts) = T at *
    generalize tls N M (t :: ts) = Tl at *
    generalize sl (t :: ts) = Y at *
    generalize sls (t :: ts) = Yl at *
    generalize (t :: ts).length = n at *
    simp [law_F, runFn, law_B, a1, a2, a3, m1, m2, en, cop, okLen_small, frzE, hT, hS, ets, a4, a5, a6, c15, hL, ln, r1, a7, a8]
end Pg
open PySem PySem.W PyProof.Rows in
set_option maxRecDepth 100000 in
set_option maxHeartbeats 0 in
theorem PySem.Challenge.cw_whattwosettle_k88_stretches_that_share_a_holds : PySem.Challenge.rw_whattwosettle_k88_stretches_that_share_a.Holds := by
  w_on; o_law; k_head; (case hw => w_witness2)
  k_fill
  refine Rf.law_walk (x := "script") (k := 6) (F := Pg.law_F) rfl rfl ⟨rfl, by decide, by decide⟩ (fun w h Y => PySem.W.kIn_of Y) ?F Pg.law_true
  case F =>
    intro w mg fa h KX G hmg
    refine' Pg.all_mk hmg ?f_below ?f_stretch ?f_in_stretch ?f_meet ?f_meet_all ?f_begins_earlier ?f_covers_begin ?f_most_met ?f_law_cell ?f_law_digits ?f_law_lowest ?f_law_spots ?f_law_has ?f_law_set ?f_law_shared ?f_law_drawn ?f_law_told ?f_law_due ?f_law_is_stretch ?f_law_single ?f_law_is_index ?f_law_all_due ?f_law_all ?f_law_most ?f_law ?b_range ?b_len ?b_enumerate ?b_abs ?b_int ?b_min ?b_max ?b_isinstance ?b_tuple ?b_bool ?b_list
    (case f_below => refine' Rf.defAt KX G ?a ?l ?c ?k; (case a => k_is); (case l => k_is); (case c => k_is); (case k => k_is))
    (case f_stretch => refine' Rf.defAt KX G ?a ?l ?c ?k; (case a => k_is); (case l => k_is); (case c => k_is); (case k => k_is))
    (case f_in_stretch => refine' Rf.defAt KX G ?a ?l ?c ?k; (case a => k_is); (case l => k_is); (case c => k_is); (case k => k_is))
    (case f_meet => refine' Rf.defAt KX G ?a ?l ?c ?k; (case a => k_is); (case l => k_is); (case c => k_is); (case k => k_is))
    (case f_meet_all => refine' Rf.defAt KX G ?a ?l ?c ?k; (case a => k_is); (case l => k_is); (case c => k_is); (case k => k_is))
    (case f_begins_earlier => refine' Rf.defAt KX G ?a ?l ?c ?k; (case a => k_is); (case l => k_is); (case c => k_is); (case k => k_is))
    (case f_covers_begin => refine' Rf.defAt KX G ?a ?l ?c ?k; (case a => k_is); (case l => k_is); (case c => k_is); (case k => k_is))
    (case f_most_met => refine' Rf.defAt KX G ?a ?l ?c ?k; (case a => k_is); (case l => k_is); (case c => k_is); (case k => k_is))
    (case f_law_cell => refine' Rf.defAt KX G ?a ?l ?c ?k; (case a => k_is); (case l => k_is); (case c => k_is); (case k => k_is))
    (case f_law_digits => refine' Rf.defAt KX G ?a ?l ?c ?k; (case a => k_is); (case l => k_is); (case c => k_is); (case k => k_is))
    (case f_law_lowest => refine' Rf.defAt KX G ?a ?l ?c ?k; (case a => k_is); (case l => k_is); (case c => k_is); (case k => k_is))
    (case f_law_spots => refine' Rf.defAt KX G ?a ?l ?c ?k; (case a => k_is); (case l => k_is); (case c => k_is); (case k => k_is))
    (case f_law_has => refine' Rf.defAt KX G ?a ?l ?c ?k; (case a => k_is); (case l => k_is); (case c => k_is); (case k => k_is))
    (case f_law_set => refine' Rf.defAt KX G ?a ?l ?c ?k; (case a => k_is); (case l => k_is); (case c => k_is); (case k => k_is))
    (case f_law_shared => refine' Rf.defAt KX G ?a ?l ?c ?k; (case a => k_is); (case l => k_is); (case c => k_is); (case k => k_is))
    (case f_law_drawn => refine' Rf.defAt KX G ?a ?l ?c ?k; (case a => k_is); (case l => k_is); (case c => k_is); (case k => k_is))
    (case f_law_told => refine' Rf.defAt KX G ?a ?l ?c ?k; (case a => k_is); (case l => k_is); (case c => k_is); (case k => k_is))
    (case f_law_due => refine' Rf.defAt KX G ?a ?l ?c ?k; (case a => k_is); (case l => k_is); (case c => k_is); (case k => k_is))
    (case f_law_is_stretch => refine' Rf.defAt KX G ?a ?l ?c ?k; (case a => k_is); (case l => k_is); (case c => k_is); (case k => k_is))
    (case f_law_single => refine' Rf.defAt KX G ?a ?l ?c ?k; (case a => k_is); (case l => k_is); (case c => k_is); (case k => k_is))
    (case f_law_is_index => refine' Rf.defAt KX G ?a ?l ?c ?k; (case a => k_is); (case l => k_is); (case c => k_is); (case k => k_is))
    (case f_law_all_due => refine' Rf.defAt KX G ?a ?l ?c ?k; (case a => k_is); (case l => k_is); (case c => k_is); (case k => k_is))
    (case f_law_all => refine' Rf.defAt KX G ?a ?l ?c ?k; (case a => k_is); (case l => k_is); (case c => k_is); (case k => k_is))
    (case f_law_most => refine' Rf.defAt KX G ?a ?l ?c ?k; (case a => k_is); (case l => k_is); (case c => k_is); (case k => k_is))
    (case f_law => refine' Rf.defAt KX G ?a ?l ?c ?k; (case a => k_is); (case l => k_is); (case c => k_is); (case k => k_is))
    (case b_range => refine' PySem.W.mg_none_of KX G ?a; (case a => k_is))
    (case b_len => refine' PySem.W.mg_none_of KX G ?a; (case a => k_is))
    (case b_enumerate => refine' PySem.W.mg_none_of KX G ?a; (case a => k_is))
    (case b_abs => refine' PySem.W.mg_none_of KX G ?a; (case a => k_is))
    (case b_int => refine' PySem.W.mg_none_of KX G ?a; (case a => k_is))
    (case b_min => refine' PySem.W.mg_none_of KX G ?a; (case a => k_is))
    (case b_max => refine' PySem.W.mg_none_of KX G ?a; (case a => k_is))
    (case b_isinstance => refine' PySem.W.mg_none_of KX G ?a; (case a => k_is))
    (case b_tuple => refine' PySem.W.mg_none_of KX G ?a; (case a => k_is))
    (case b_bool => refine' PySem.W.mg_none_of KX G ?a; (case a => k_is))
    (case b_list => refine' PySem.W.mg_none_of KX G ?a; (case a => k_is))
