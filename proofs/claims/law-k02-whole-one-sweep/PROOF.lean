import PyProof.Rows.All
import Wide.All
import OpenK.AllK
import Wide.FinOn
import KE.KStateDown
import HandS.ForMost
import HandS.ForExc
import HandS.Evl
import HandS.IsInst
import HandS.Defaults
import HandS.Wide
import HandS.SortInts
import KE.GoesMore
import KE.GoesEnum
import HandS.Style
import HandS.Zip
import HandS.Comp
import HandS.Nested
import HandS.More
import HandS.MakeKwOnly
import HandS.Star
import KE.KSuper
import HandS.Conv
import HandS.TupAny
import HandS.HeadHook1
import HandS.HeadHook2
import HandS.Head0
import HandS.Head1
import HandS.Head2
import HandS.HeadEnd
import PySem.Challenge.RW_ranksweeps_k02_whole_one_sweep
set_option Elab.async false
set_option linter.all false
set_option maxRecDepth 100000
set_option maxHeartbeats 2000000
/-! A layer over HandS: what a body does, told by data. -/
namespace G
open PySem PySem.Spec PyProof.Rows L2
open Evl (Ex)
/-! ### data -/
inductive Dt where
  | non | bl (b : Bool) | int (i : Int) | str (x : Str) | tup (ds : List Dt) | lst (ds : List Dt) | ty (n : String) | cls (C : Addr) | obj (C : Addr) (fs : List (Str × Dt)) | scr (ns : List Int)
mutual
/-- the value v stands for the datum in H -/
inductive Rp (K : PySem.W.Frag) (H : Hp) : V → Dt → Prop
  | non : Rp K H .non .non
  | bl (b : Bool) : Rp K H (.bl b) (.bl b)
  | int (i : Int) : Rp K H (.int i) (.int i)
  | str (x : Str) : Rp K H (.str x) (.str x)
  | ty (n : String) : Rp K H (.ty n) (.ty n)
  | cls (C : Addr) : Rp K H (.ref C) (.cls C)
  | scr {a : Addr} {ns : List Int} : SqL K H a (ns.map V.int) → Rp K H (.ref a) (.scr ns)
  | lst {a : Addr} {xs : List V} {ds : List Dt} : H a = some (.lst xs) → RpA K H xs ds → Rp K H (.ref a) (.lst ds)
  | tup {a : Addr} {xs : List V} {ds : List Dt} : SqT K H a xs → RpA K H xs ds → Rp K H (.ref a) (.tup ds)
  | obj {a C dx : Addr} {fs : List (Str × V)} {gs : List (Str × Dt)} : H a = some (.ins C dx fs) → RpF K H fs gs → Rp K H (.ref a) (.obj C gs)
inductive RpA (K : PySem.W.Frag) (H : Hp) : List V → List Dt → Prop
  | nil : RpA K H [] []
  | cons {v : V} {vs : List V} {d : Dt} {ds : List Dt} : Rp K H v d → RpA K H vs ds → RpA K H (v :: vs) (d :: ds)
inductive RpF (K : PySem.W.Frag) (H : Hp) : List (Str × V) → List (Str × Dt) → Prop
  | nil : RpF K H [] []
  | cons {f : Str} {v : V} {fs : List (Str × V)} {d : Dt} {gs : List (Str × Dt)} : Rp K H v d → RpF K H fs gs → RpF K H ((f, v) :: fs) ((f, d) :: gs)
end
section
variable {K : PySem.W.Frag} {H H' : Hp}
mutual
theorem Rp.mono (e : Ex H H') : ∀ {v : V} {d : Dt}, Rp K H v d → Rp K H' v d
  | _, _, .non => .non
  | _, _, .bl b => .bl b
  | _, _, .int i => .int i
  | _, _, .str x => .str x
  | _, _, .ty n => .ty n
  | _, _, .cls C => .cls C
  | _, _, .scr h => .scr (Evl.ex_l e h)
  | _, _, .lst h r => .lst (e _ _ h) (RpA.mono e r)
  | _, _, .tup h r => .tup (Evl.ex_t e h) (RpA.mono e r)
  | _, _, .obj h r => .obj (e _ _ h) (RpF.mono e r)
theorem RpA.mono (e : Ex H H') : ∀ {vs : List V} {ds : List Dt}, RpA K H vs ds → RpA K H' vs ds
  | _, _, .nil => .nil
  | _, _, .cons h r => .cons (Rp.mono e h) (RpA.mono e r)
theorem RpF.mono (e : Ex H H') : ∀ {fs : List (Str × V)} {gs : List (Str × Dt)}, RpF K H fs gs → RpF K H' fs gs
  | _, _, .nil => .nil
  | _, _, .cons h r => .cons (Rp.mono e h) (RpF.mono e r)
end
theorem RpA.length : ∀ {vs : List V} {ds : List Dt}, RpA K H vs ds → vs.length = ds.length
  | _, _, .nil => rfl
  | _, _, .cons _ r => congrArg Nat.succ (RpA.length r)
theorem RpA.get : ∀ {vs : List V} {ds : List Dt} {i : Nat} {d : Dt}, RpA K H vs ds → ds[i]? = some d → ∃ v, vs[i]? = some v ∧ Rp K H v d
  | _, _, _, _, .nil, e => by simp at e
  | _, _, 0, _, .cons h _, e => by simp at e; subst e; exact ⟨_, rfl, h⟩
  | _, _, i + 1, d, .cons _ r, e => by
    obtain ⟨u, h1, h2⟩ := RpA.get (i := i) (d := d) r (by simpa using e)
    exact ⟨u, by simpa using h1, h2⟩
theorem RpA.get' : ∀ {vs : List V} {ds : List Dt} {i : Nat} {v : V}, RpA K H vs ds → vs[i]? = some v → ∃ d, ds[i]? = some d ∧ Rp K H v d
  | _, _, _, _, .nil, e => by simp at e
  | _, _, 0, _, .cons h _, e => by simp at e; subst e; exact ⟨_, rfl, h⟩
  | _, _, i + 1, d, .cons _ r, e => by
    obtain ⟨u, h1, h2⟩ := RpA.get' (i := i) (v := d) r (by simpa using e)
    exact ⟨u, by simpa using h1, h2⟩
theorem RpA.append : ∀ {vs ws : List V} {ds es : List Dt}, RpA K H vs ds → RpA K H ws es → RpA K H (vs ++ ws) (ds ++ es)
  | _, _, _, _, .nil, s => s
  | _, _, _, _, .cons h r, s => .cons h (RpA.append r s)
theorem RpA.set {v : V} {d : Dt} (h : Rp K H v d) : ∀ {vs : List V} {ds : List Dt} (i : Nat), RpA K H vs ds → RpA K H (vs.set i v) (ds.set i d)
  | _, _, _, .nil => .nil
  | _, _, 0, .cons _ r => .cons h r
  | _, _, i + 1, .cons q r => .cons q (RpA.set h i r)
theorem RpA.take : ∀ {vs : List V} {ds : List Dt} (n : Nat), RpA K H vs ds → RpA K H (vs.take n) (ds.take n)
  | _, _, 0, _ => .nil
  | _, _, _ + 1, .nil => .nil
  | _, _, n + 1, .cons h r => .cons h (RpA.take n r)
theorem RpA.drop : ∀ {vs : List V} {ds : List Dt} (n : Nat), RpA K H vs ds → RpA K H (vs.drop n) (ds.drop n)
  | _, _, 0, r => r
  | _, _, _ + 1, .nil => .nil
  | _, _, n + 1, .cons _ r => RpA.drop n r
theorem RpA.reverse : ∀ {vs : List V} {ds : List Dt}, RpA K H vs ds → RpA K H vs.reverse ds.reverse
  | _, _, .nil => .nil
  | _, _, .cons h r => by
    rw [List.reverse_cons, List.reverse_cons]
    exact RpA.append (RpA.reverse r) (.cons h .nil)
theorem RpA.replicate {v : V} {d : Dt} (h : Rp K H v d) : ∀ n : Nat, RpA K H (List.replicate n v) (List.replicate n d)
  | 0 => .nil
  | n + 1 => .cons h (RpA.replicate h n)
theorem RpA.ints : ∀ {vs : List V} {ns : List Int}, RpA K H vs (ns.map Dt.int) → vs = ns.map V.int
  | _, [], .nil => rfl
  | _, n :: ns, .cons h r => by
    cases h
    rw [RpA.ints r]
    rfl
theorem RpA.of_ints : ∀ ns : List Int, RpA K H (ns.map V.int) (ns.map Dt.int)
  | [] => .nil
  | n :: ns => .cons (.int n) (RpA.of_ints ns)
theorem RpF.look : ∀ {fs : List (Str × V)} {gs : List (Str × Dt)} {f : Str} {d : Dt}, RpF K H fs gs → gs.lookup f = some d → ∃ v, fs.lookup f = some v ∧ Rp K H v d
  | _, _, _, _, .nil, e => by cases e
  | _, _, f, d, .cons (f := g) h r, e => by
    rw [List.lookup_cons] at e ⊢
    cases q : (f == g) with
    | true =>
      rw [q] at e
      have e2 := Option.some.inj e
      subst e2
      exact ⟨_, rfl, h⟩
    | false =>
      rw [q] at e
      exact RpF.look r e
end
/-! ### the state -/
/-- a datum; a list of one's own (m: a lent one) -/
inductive Ent where
  | dat (d : Dt) | ow (m : Bool) (ds : List Dt)
abbrev Ent.own (ds : List Dt) : Ent := .ow false ds
abbrev Ent.lnt (ds : List Dt) : Ent := .ow true ds
abbrev Gam := List (Option Ent)
/-- the heap grows: what is known, what is there -/
structure Gr (Hs H Hs' H' : Hp) : Prop where
  s : Ex Hs Hs'
  i : Ex Hs' H'
  e : Ex H H'
  n : ∀ a o, Hs' a = some o → Hs a = none → H a = none
theorem Gr.refl {Hs H : Hp} (i : Ex Hs H) : Gr Hs H Hs H := ⟨Ex.refl _, i, Ex.refl _, fun a o h n => by rw [h] at n; cases n⟩
theorem ex_none {H H' : Hp} {a : Addr} (e : Ex H H') (h : H' a = none) : H a = none := Evl.fresh_back e h
theorem Gr.trans {H0 H1 H2 K0 K1 K2 : Hp} (a : Gr H0 K0 H1 K1) (b : Gr H1 K1 H2 K2) : Gr H0 K0 H2 K2 where
  s := a.s.trans b.s
  i := b.i
  e := a.e.trans b.e
  n := fun x o h n => by
    cases q : H1 x with
    | none => exact ex_none a.e (b.n x o h q)
    | some u => exact a.n x u q n
/-- a new object -/
theorem Gr.new {Hs H : Hp} {p : Addr} {o : HO} (i : Ex Hs H) (h : H p = none) : Gr Hs H (upd Hs p o) (upd H p o) where
  s := Ex.new (ex_none i h)
  i := fun a u q => by
    by_cases z : a = p
    · subst z
      rw [upd_same] at q ⊢
      exact q
    · rw [upd_ne z] at q ⊢
      exact i a u q
  e := Ex.new h
  n := fun a u q n => by
    by_cases z : a = p
    · subst z
      exact h
    · rw [upd_ne z, n] at q
      cases q
/-- new objects that nothing is told of -/
theorem Gr.wide {Hs H H' : Hp} (i : Ex Hs H) (e : Ex H H') : Gr Hs H Hs H' := ⟨Ex.refl _, i.trans e, e, fun a o h n => by rw [h] at n; cases n⟩
structure Bs where
  Hs : Hp
  H : Hp
  L : Addr → Prop
  M : Addr → Prop
structure Sat (K : PySem.W.Frag) (B : Bs) (Γ : Gam) (σ : L2.St) (Hs H : Hp) : Prop where
  len : Γ.length = σ.length
  i : Ex Hs H
  s0 : Ex B.Hs Hs
  e0 : ∀ a o, ¬ B.L a → B.H a = some o → H a = some o
  t0 : ∀ a, H a = none → B.H a = none
  n0 : ∀ a o, Hs a = some o → B.Hs a = none → B.H a = none ∨ B.L a
  dat : ∀ (i : Nat) (d : Dt), Γ[i]? = some (some (.dat d)) → ∃ v, σ[i]? = some (some v) ∧ Rp K Hs v d
  own : ∀ (i : Nat) (m : Bool) (ds : List Dt), Γ[i]? = some (some (.ow m ds)) → ∃ l xs, σ[i]? = some (some (.ref l)) ∧ H l = some (.lst xs) ∧ Hs l = none ∧ RpA K Hs xs ds ∧ (B.H l = none ∨ B.L l) ∧ (m = true → B.M l)
  sep : ∀ (i j : Nat) (l : Addr) (m m' : Bool) (ds es : List Dt), Γ[i]? = some (some (.ow m ds)) → Γ[j]? = some (some (.ow m' es)) → σ[i]? = some (some (.ref l)) → σ[j]? = some (some (.ref l)) → i = j
section
variable {K : PySem.W.Frag} {B : Bs} {Γ : Gam} {σ : L2.St} {Hs H Hs' H' : Hp}
theorem Sat.step (S : Sat K B Γ σ Hs H) (g : Gr Hs H Hs' H') : Sat K B Γ σ Hs' H' where
  len := S.len
  i := g.i
  s0 := S.s0.trans g.s
  e0 := fun a o n h => g.e a o (S.e0 a o n h)
  t0 := fun a h => S.t0 a (ex_none g.e h)
  n0 := fun a o h n => by
    cases q : Hs a with
    | some u => exact S.n0 a u q n
    | none => exact .inl (S.t0 a (g.n a o h q))
  dat := fun i d h => by
    obtain ⟨v, h1, h2⟩ := S.dat i d h
    exact ⟨v, h1, h2.mono g.s⟩
  own := fun i m ds h => by
    obtain ⟨l, xs, h1, h2, h3, h4, h5⟩ := S.own i m ds h
    refine ⟨l, xs, h1, g.e l _ h2, ?_, h4.mono g.s, h5⟩
    cases q : Hs' l with
    | none => rfl
    | some u =>
      have z := g.n l u q h3
      rw [h2] at z
      cases z
  sep := S.sep
theorem set_get {α : Type} {l : List (Option α)} {i j : Nat} {x : α} {y : Option α} (h : (l.set i y)[j]? = some (some x)) : (i = j ∧ y = some x ∧ j < l.length) ∨ (i ≠ j ∧ l[j]? = some (some x)) := by
  rw [List.getElem?_set] at h
  by_cases e : i = j
  · rw [if_pos e] at h
    by_cases q : i < l.length
    · rw [if_pos q] at h
      exact .inl ⟨e, Option.some.inj h, e ▸ q⟩
    · rw [if_neg q] at h
      cases h
  · rw [if_neg e] at h
    exact .inr ⟨e, h⟩
/-- a slot is set to a datum -/
theorem Sat.put (S : Sat K B Γ σ Hs H) {i : Nat} {v : V} {d : Dt} (h : Rp K Hs v d) : Sat K B (Γ.set i (some (.dat d))) (σ.set i (some v)) Hs H where
  len := by rw [List.length_set, List.length_set, S.len]
  i := S.i
  s0 := S.s0
  e0 := S.e0
  t0 := S.t0
  n0 := S.n0
  dat := fun j e q => by
    rcases set_get q with ⟨e1, e2, e3⟩ | ⟨e1, e2⟩
    · subst e1
      cases e2
      exact ⟨v, by rw [List.getElem?_set_self (by rw [← S.len]; exact e3)], h⟩
    · obtain ⟨u, h1, h2⟩ := S.dat j e e2
      exact ⟨u, by rw [List.getElem?_set_ne e1]; exact h1, h2⟩
  own := fun j m es q => by
    rcases set_get q with ⟨e1, e2, e3⟩ | ⟨e1, e2⟩
    · cases e2
    · obtain ⟨l, xs, h1, h2⟩ := S.own j m es e2
      exact ⟨l, xs, by rw [List.getElem?_set_ne e1]; exact h1, h2⟩
  sep := fun a b l m m' ds es h1 h2 h3 h4 => by
    rcases set_get h1 with ⟨_, e2, _⟩ | ⟨n1, e1⟩
    · cases e2
    · rcases set_get h2 with ⟨_, e2, _⟩ | ⟨n2, e2⟩
      · cases e2
      · rw [List.getElem?_set_ne n1] at h3
        rw [List.getElem?_set_ne n2] at h4
        exact S.sep a b l m m' ds es e1 e2 h3 h4
/-- a slot is set to a new list of one's own -/
theorem Sat.putOwn (S : Sat K B Γ σ Hs H) {i : Nat} {l : Addr} {xs : List V} {ds : List Dt} (hn : H l = none) (r : RpA K Hs xs ds) : Sat K B (Γ.set i (some (.own ds))) (σ.set i (some (.ref l))) Hs (upd H l (.lst xs)) where
  len := by rw [List.length_set, List.length_set, S.len]
  i := S.i.trans (Ex.new hn)
  s0 := S.s0
  e0 := fun a o n h => Ex.new hn a o (S.e0 a o n h)
  t0 := fun a h => S.t0 a (ex_none (Ex.new hn) h)
  n0 := S.n0
  dat := fun j e q => by
    rcases set_get q with ⟨e1, e2, e3⟩ | ⟨e1, e2⟩
    · cases e2
    · obtain ⟨u, h1, h2⟩ := S.dat j e e2
      exact ⟨u, by rw [List.getElem?_set_ne e1]; exact h1, h2⟩
  own := fun j mm es q => by
    rcases set_get q with ⟨e1, e2, e3⟩ | ⟨e1, e2⟩
    · subst e1
      cases e2
      exact ⟨l, xs, by rw [List.getElem?_set_self (by rw [← S.len]; exact e3)], upd_same, ex_none S.i hn, r, .inl (S.t0 l hn), fun z => by cases z⟩
    · obtain ⟨m, ys, h1, h2, h3⟩ := S.own j mm es e2
      refine ⟨m, ys, by rw [List.getElem?_set_ne e1]; exact h1, ?_, h3⟩
      rw [upd_ne (ne_of_none h2 hn)]
      exact h2
  sep := fun a b m ma mb ds' es h1 h2 h3 h4 => by
    have key : ∀ (j : Nat) (mj : Bool) (es' : List Dt), j ≠ i → Γ[j]? = some (some (.ow mj es')) → σ[j]? = some (some (.ref l)) → False := fun j mj es' _ q1 q2 => by
      obtain ⟨m, ys, k1, k2, _⟩ := S.own j mj es' q1
      rw [q2] at k1
      cases k1
      rw [hn] at k2
      cases k2
    rcases set_get h1 with ⟨n1, e1, e3⟩ | ⟨n1, e1⟩
    · subst n1
      rcases set_get h2 with ⟨n2, e2, _⟩ | ⟨n2, e2⟩
      · exact n2
      · rw [List.getElem?_set_self (by rw [← S.len]; exact e3)] at h3
        cases h3
        rw [List.getElem?_set_ne n2] at h4
        exact (key b _ es (fun z => n2 z.symm) e2 h4).elim
    · rcases set_get h2 with ⟨n2, e2, e3⟩ | ⟨n2, e2⟩
      · subst n2
        rw [List.getElem?_set_self (by rw [← S.len]; exact e3)] at h4
        cases h4
        rw [List.getElem?_set_ne n1] at h3
        exact (key a _ ds' (fun z => n1 z.symm) e1 h3).elim
      · rw [List.getElem?_set_ne n1] at h3
        rw [List.getElem?_set_ne n2] at h4
        exact S.sep a b m _ _ ds' es e1 e2 h3 h4
/-- a new list, already laid, becomes one's own -/
theorem Sat.adopt (S : Sat K B Γ σ Hs H) (g : Gr Hs H Hs' H') {i : Nat} {l : Addr} {xs : List V} {ds : List Dt} (hn : H l = none) (h2 : Hs' l = none) (h3 : H' l = some (.lst xs)) (r : RpA K Hs' xs ds) : Sat K B (Γ.set i (some (.own ds))) (σ.set i (some (.ref l))) Hs' H' := by
  have T := S.step g
  have nl : ∀ (j : Nat) (mj : Bool) (es : List Dt) (m : Addr), Γ[j]? = some (some (.ow mj es)) → σ[j]? = some (some (.ref m)) → m ≠ l := fun j mj es m q1 q2 z => by
    obtain ⟨m', ys, k1, k2, _⟩ := S.own j mj es q1
    rw [q2] at k1
    cases k1
    rw [z, hn] at k2
    cases k2
  refine ⟨by rw [List.length_set, List.length_set, S.len], T.i, T.s0, T.e0, T.t0, T.n0, fun j e q => ?_, fun j mj es q => ?_, fun a b m ma mb ds' es h1 h2 h3 h4 => ?_⟩
  · rcases set_get q with ⟨e1, e2, e3⟩ | ⟨e1, e2⟩
    · cases e2
    · obtain ⟨u, k1, k2⟩ := T.dat j e e2
      exact ⟨u, by rw [List.getElem?_set_ne e1]; exact k1, k2⟩
  · rcases set_get q with ⟨e1, e2, e3⟩ | ⟨e1, e2⟩
    · subst e1
      cases e2
      exact ⟨l, xs, by rw [List.getElem?_set_self (by rw [← S.len]; exact e3)], h3, h2, r, .inl (S.t0 l hn), fun z => by cases z⟩
    · obtain ⟨m, ys, k1, k2⟩ := T.own j mj es e2
      exact ⟨m, ys, by rw [List.getElem?_set_ne e1]; exact k1, k2⟩
  · rcases set_get h1 with ⟨n1, e1, e3⟩ | ⟨n1, e1⟩
    · subst n1
      rcases set_get h2 with ⟨n2, e2, _⟩ | ⟨n2, e2⟩
      · exact n2
      · rw [List.getElem?_set_self (by rw [← S.len]; exact e3)] at h3
        cases h3
        rw [List.getElem?_set_ne n2] at h4
        exact (nl b _ es _ e2 h4 rfl).elim
    · rcases set_get h2 with ⟨n2, e2, e3⟩ | ⟨n2, e2⟩
      · subst n2
        rw [List.getElem?_set_self (by rw [← S.len]; exact e3)] at h4
        cases h4
        rw [List.getElem?_set_ne n1] at h3
        exact (nl a _ ds' _ e1 h3 rfl).elim
      · rw [List.getElem?_set_ne n1] at h3
        rw [List.getElem?_set_ne n2] at h4
        exact S.sep a b m _ _ ds' es e1 e2 h3 h4
/-- one's own list is changed -/
theorem Sat.mut (S : Sat K B Γ σ Hs H) {i : Nat} {l : Addr} {mm : Bool} {ds ds' : List Dt} {xs' : List V} (hi : Γ[i]? = some (some (.ow mm ds))) (hl : σ[i]? = some (some (.ref l))) (r : RpA K Hs xs' ds') : Sat K B (Γ.set i (some (.ow mm ds'))) σ Hs (upd H l (.lst xs')) := by
  obtain ⟨l', xs, h1, h2, h3, h4, h5, h6⟩ := S.own i mm ds hi
  rw [hl] at h1
  cases h1
  have hne : ∀ a o, Hs a = some o → a ≠ l := fun a o q z => by
    rw [z, h3] at q
    cases q
  refine ⟨by rw [List.length_set, S.len], fun a o q => ?_, S.s0, fun a o n q => ?_, fun a q => ?_, S.n0, fun j e q => ?_, fun j mj es q => ?_, fun a b m ma mb ds1 es k1 k2 k3 k4 => ?_⟩
  · rw [upd_ne (hne a o q)]
    exact S.i a o q
  · by_cases z : a = l
    · subst z
      rcases h5 with h5 | h5
      · rw [h5] at q
        cases q
      · exact absurd h5 n
    · rw [upd_ne z]
      exact S.e0 a o n q
  · by_cases z : a = l
    · subst z
      rw [upd_same] at q
      cases q
    · rw [upd_ne z] at q
      exact S.t0 a q
  · rcases set_get q with ⟨e1, e2, e3⟩ | ⟨e1, e2⟩
    · cases e2
    · exact S.dat j e e2
  · rcases set_get q with ⟨e1, e2, e3⟩ | ⟨e1, e2⟩
    · subst e1
      cases e2
      exact ⟨l, xs', hl, upd_same, h3, r, h5, h6⟩
    · obtain ⟨m, ys, k1, k2, k3⟩ := S.own j mj es e2
      refine ⟨m, ys, k1, ?_, k3⟩
      have nm : m ≠ l := fun z => by
        subst z
        exact e1 (S.sep i j m _ _ ds es hi e2 hl k1)
      rw [upd_ne nm]
      exact k2
  · have key : ∀ (j : Nat) (mj : Bool) (es' : List Dt), (Γ.set i (some (.ow mm ds')))[j]? = some (some (.ow mj es')) → ∃ mj' es'', Γ[j]? = some (some (.ow mj' es'')) := fun j mj es' q => by
      rcases set_get q with ⟨e1, _, _⟩ | ⟨_, e2⟩
      · subst e1
        exact ⟨mm, ds, hi⟩
      · exact ⟨mj, es', e2⟩
    obtain ⟨_, _, q1⟩ := key a ma ds1 k1
    obtain ⟨_, _, q2⟩ := key b mb es k2
    exact S.sep a b m _ _ _ _ q1 q2 k3 k4
/-- from here on one's own list stays as it is -/
theorem Sat.freezeX (S : Sat K B Γ σ Hs H) {i : Nat} {mm : Bool} {ds : List Dt} (hi : Γ[i]? = some (some (.ow mm ds))) : ∃ l xs, σ[i]? = some (some (.ref l)) ∧ H l = some (.lst xs) ∧ Hs l = none ∧ Sat K B (Γ.set i (some (.dat (.lst ds)))) σ (upd Hs l (.lst xs)) H := by
  obtain ⟨l, xs, h1, h2, h3, h4, h5, h6⟩ := S.own i mm ds hi
  have s1 : Ex Hs (upd Hs l (.lst xs)) := Ex.new h3
  refine ⟨l, xs, h1, h2, h3, by rw [List.length_set, S.len], fun a o q => ?_, S.s0.trans s1, S.e0, S.t0, fun a o q n => ?_, fun j e q => ?_, fun j mj es q => ?_, fun a b m ma mb ds1 es k1 k2 k3 k4 => ?_⟩
  · by_cases z : a = l
    · subst z
      rw [upd_same] at q
      cases q
      exact h2
    · rw [upd_ne z] at q
      exact S.i a o q
  · by_cases z : a = l
    · subst z
      exact h5
    · rw [upd_ne z] at q
      exact S.n0 a o q n
  · rcases set_get q with ⟨e1, e2, e3⟩ | ⟨e1, e2⟩
    · subst e1
      cases e2
      exact ⟨.ref l, h1, .lst upd_same (h4.mono s1)⟩
    · obtain ⟨u, k1, k2⟩ := S.dat j e e2
      exact ⟨u, k1, k2.mono s1⟩
  · rcases set_get q with ⟨e1, e2, e3⟩ | ⟨e1, e2⟩
    · cases e2
    · obtain ⟨m, ys, k1, k2, k3, k4, k5⟩ := S.own j mj es e2
      have nm : m ≠ l := fun z => by
        subst z
        exact e1 (S.sep i j m _ _ ds es hi e2 h1 k1)
      exact ⟨m, ys, k1, k2, by rw [upd_ne nm]; exact k3, k4.mono s1, k5⟩
  · rcases set_get k1 with ⟨_, e2, _⟩ | ⟨_, e1⟩
    · cases e2
    · rcases set_get k2 with ⟨_, e2, _⟩ | ⟨_, e2⟩
      · cases e2
      · exact S.sep a b m _ _ _ _ e1 e2 k3 k4
theorem Sat.freeze (S : Sat K B Γ σ Hs H) {i : Nat} {mm : Bool} {ds : List Dt} (hi : Γ[i]? = some (some (.ow mm ds))) : ∃ Hs', Ex Hs Hs' ∧ Sat K B (Γ.set i (some (.dat (.lst ds)))) σ Hs' H := by
  obtain ⟨l, xs, _, _, h3, h4⟩ := S.freezeX hi
  exact ⟨_, Ex.new h3, h4⟩
/-- the state as a new base -/
def rebase (M : Addr → Prop) (Γ : Gam) (σ : L2.St) (Hs H : Hp) : Bs := ⟨Hs, H, fun l => ∃ (i : Nat) (m : Bool) (ds : List Dt), Γ[i]? = some (some (.ow m ds)) ∧ σ[i]? = some (some (.ref l)), M⟩
theorem Sat.rebase (S : Sat K B Γ σ Hs H) : Sat K (G.rebase B.M Γ σ Hs H) Γ σ Hs H where
  len := S.len
  i := S.i
  s0 := Ex.refl _
  e0 := fun _ _ _ h => h
  t0 := fun _ h => h
  n0 := fun a o h n => by
    have h' : Hs a = some o := h
    have n' : Hs a = none := n
    rw [h'] at n'
    cases n'
  dat := S.dat
  own := fun i m ds h => by
    obtain ⟨l, xs, h1, h2, h3, h4, h5, h6⟩ := S.own i m ds h
    exact ⟨l, xs, h1, h2, h3, h4, .inr ⟨i, m, ds, h, h1⟩, h6⟩
  sep := S.sep
theorem Sat.unbase (S : Sat K B Γ σ Hs H) {Γ' : Gam} {σ' : L2.St} (T : Sat K (G.rebase B.M Γ σ Hs H) Γ' σ' Hs' H') : Sat K B Γ' σ' Hs' H' where
  len := T.len
  i := T.i
  s0 := S.s0.trans T.s0
  e0 := fun a o n h => by
    refine T.e0 a o (fun ⟨i, m, ds, h1, h2⟩ => ?_) (S.e0 a o n h)
    obtain ⟨l, xs, k1, k2, k3, k4, k5, _⟩ := S.own i m ds h1
    rw [h2] at k1
    cases k1
    rcases k5 with k5 | k5
    · rw [k5] at h
      cases h
    · exact n k5
  t0 := fun a h => S.t0 a (T.t0 a h)
  n0 := fun a o h n => by
    cases q : Hs a with
    | some u => exact S.n0 a u q n
    | none =>
      rcases T.n0 a o h q with z | ⟨j, mj, es, k1, k2⟩
      · exact .inl (S.t0 a z)
      · obtain ⟨l', xs', m1, m2, m3, m4, m5, _⟩ := S.own j mj es k1
        rw [k2] at m1
        cases m1
        exact m5
  dat := T.dat
  own := fun i m ds h => by
    obtain ⟨l, xs, h1, h2, h3, h4, h5, h6⟩ := T.own i m ds h
    refine ⟨l, xs, h1, h2, h3, h4, ?_, h6⟩
    rcases h5 with h5 | ⟨j, mj, es, k1, k2⟩
    · exact .inl (S.t0 l h5)
    · obtain ⟨l', xs', m1, m2, m3, m4, m5, _⟩ := S.own j mj es k1
      rw [k2] at m1
      cases m1
      exact m5
  sep := T.sep
/-- a slot is forgotten -/
theorem Sat.drop (S : Sat K B Γ σ Hs H) (i : Nat) : Sat K B (Γ.set i none) σ Hs H where
  len := by rw [List.length_set, S.len]
  i := S.i
  s0 := S.s0
  e0 := S.e0
  t0 := S.t0
  n0 := S.n0
  dat := fun j e q => by
    rcases set_get q with ⟨_, e2, _⟩ | ⟨_, e2⟩
    · cases e2
    · exact S.dat j e e2
  own := fun j m es q => by
    rcases set_get q with ⟨_, e2, _⟩ | ⟨_, e2⟩
    · cases e2
    · exact S.own j m es e2
  sep := fun a b l m m' ds es h1 h2 => by
    rcases set_get h1 with ⟨_, e2, _⟩ | ⟨_, e1⟩
    · cases e2
    · rcases set_get h2 with ⟨_, e2, _⟩ | ⟨_, e2⟩
      · cases e2
      · exact S.sep a b l m m' ds es e1 e2
end
end G

set_option Elab.async false
set_option linter.all false
set_option maxRecDepth 100000
set_option maxHeartbeats 2000000
namespace G
open PySem PySem.Spec PyProof.Rows L2
open Evl (Ex)
/-! ### the plainest readings -/
section
variable {X : Cx}
def RunE (X : Cx) (e : Expr) : TE := fun σ H Q => ∀ pins s, Inv X pins σ H s → wpAny (model X.prog X.w) X.A (eval e X.env) (EP X pins σ Q) X.xe s
def RunT (X : Cx) (e : Expr) : TT := fun σ H Q => ∀ pins s, Inv X pins σ H s → wpAny (model X.prog X.w) X.A (isTrue e X.env (eval e X.env)) (TP X pins σ Q) X.xe s
def RunW (X : Cx) (e : Expr) : TT := fun σ H Q => ∀ whole pins s, Inv X pins σ H s → wpAny (model X.prog X.w) X.A (isTrue e X.env whole) (TP X pins σ Q) X.xe s
def RunA (X : Cx) (es : List Expr) : TA := fun σ H Q => ∀ pos pins s, Inv X pins σ H s → wpAny (model X.prog X.w) X.A (spliced (backTo pos (starEach es X.env))) (AP X pins σ Q) X.xe s
def RunS (X : Cx) (st : Stmt) : TS := fun D σ H => ∀ pins s, Inv X pins σ H s → wpAny (model X.prog X.w) X.A (exec st X.env) (SP X pins D) X.xe s
def RunB (X : Cx) (ss : List Stmt) : TS := fun D σ H => ∀ pins s, Inv X pins σ H s → wpAny (model X.prog X.w) X.A (execs ss X.env) (SP X pins D) X.xe s
theorem pe_r {e : Expr} : PE X e (RunE X e) := ⟨fun pins s _ _ _ I h => h pins s I⟩
theorem pt_r {e : Expr} : PT X e (RunT X e) := ⟨fun pins s _ _ _ I h => h pins s I⟩
theorem pw_r {e : Expr} : PW X e (RunW X e) := ⟨fun wh pins s _ _ _ I h => h wh pins s I⟩
theorem pa_r {es : List Expr} : PA X es (RunA X es) := ⟨fun pos pins s _ _ _ I h => h pos pins s I⟩
theorem ps_r {st : Stmt} : PS X st (RunS X st) := ⟨fun pins s _ _ _ I h => h pins s I⟩
theorem pss_r {ss : List Stmt} : PSs X ss (RunB X ss) := ⟨fun pins s _ _ _ I h => h pins s I⟩
end
/-! ### what evaluates to what -/
def EvR (K : PySem.W.Frag) (te : TE) (Γ : Gam) (d : Dt) : Prop := ∀ (B : Bs) (σ : L2.St) (Hs H : Hp), Sat K B Γ σ Hs H → ∀ Q : VK, (∀ v Hs' H', Gr Hs H Hs' H' → Rp K Hs' v d → Q v H') → te σ H Q
def EvTR (K : PySem.W.Frag) (te : TT) (Γ : Gam) (b : Bool) : Prop := ∀ (B : Bs) (σ : L2.St) (Hs H : Hp), Sat K B Γ σ Hs H → ∀ Q : Bool → Hp → Prop, (∀ Hs' H', Gr Hs H Hs' H' → Q b H') → te σ H Q
def EvAR (K : PySem.W.Frag) (te : TA) (Γ : Gam) (ds : List Dt) : Prop := ∀ (B : Bs) (σ : L2.St) (Hs H : Hp), Sat K B Γ σ Hs H → ∀ Q : List V → Hp → Prop, (∀ vs Hs' H', Gr Hs H Hs' H' → RpA K Hs' vs ds → Q vs H') → te σ H Q
def Ev (X : Cx) (Γ : Gam) (e : Expr) (d : Dt) : Prop := EvR X.K (RunE X e) Γ d
def EvT (X : Cx) (Γ : Gam) (e : Expr) (b : Bool) : Prop := EvTR X.K (RunT X e) Γ b
def EvW (X : Cx) (Γ : Gam) (e : Expr) (b : Bool) : Prop := EvTR X.K (RunW X e) Γ b
def EvA (X : Cx) (Γ : Gam) (es : List Expr) (ds : List Dt) : Prop := EvAR X.K (RunA X es) Γ ds
/-- an operation on values -/
def OpV (K : PySem.W.Frag) (r : R2) (x y z : Dt) : Prop := ∀ (Hs H : Hp) (u v : V), Ex Hs H → Rp K Hs u x → Rp K Hs v y → ∀ Q : VK, (∀ w Hs' H', Gr Hs H Hs' H' → Rp K Hs' w z → Q w H') → r u v H Q
def UnV (K : PySem.W.Frag) (r : V → Hp → VK → Prop) (x z : Dt) : Prop := ∀ (Hs H : Hp) (u : V), Ex Hs H → Rp K Hs u x → ∀ Q : VK, (∀ w Hs' H', Gr Hs H Hs' H' → Rp K Hs' w z → Q w H') → r u H Q
def CaV (K : PySem.W.Frag) (r : List V → Hp → VK → Prop) (ds : List Dt) (z : Dt) : Prop := ∀ (Hs H : Hp) (us : List V), Ex Hs H → RpA K Hs us ds → ∀ Q : VK, (∀ w Hs' H', Gr Hs H Hs' H' → Rp K Hs' w z → Q w H') → r us H Q
section
variable {X : Cx} {Γ : Gam} {e a b c : Expr} {es : List Expr} {x y z d : Dt} {ds : List Dt} {pos p : Pos}
theorem ev_of {t : TE} (h : PE X e t) (q : EvR X.K t Γ d) : Ev X Γ e d := fun B σ Hs H S Q k pins s I => h.run pins s σ H Q I (q B σ Hs H S Q k)
theorem et_of {t : TT} {k : Bool} (h : PT X e t) (q : EvTR X.K t Γ k) : EvT X Γ e k := fun B σ Hs H S Q k pins s I => h.run pins s σ H Q I (q B σ Hs H S Q k)
theorem ew_of {t : TT} {k : Bool} (h : PW X e t) (q : EvTR X.K t Γ k) : EvW X Γ e k := fun B σ Hs H S Q k wh pins s I => h.run wh pins s σ H Q I (q B σ Hs H S Q k)
theorem ea_of {t : TA} (h : PA X es t) (q : EvAR X.K t Γ ds) : EvA X Γ es ds := fun B σ Hs H S Q k pos pins s I => h.run pos pins s σ H Q I (q B σ Hs H S Q k)
/-! names, constants -/
theorem ev_var (i : Nat) {n : Str} (h : Γ[i]? = some (some (.dat d)) := by rfl) (hN : X.N[i]? = some n := by rfl) (hv : Vis X.env.scope n := by first | exact Or.inl rfl | exact Or.inr (Or.inl rfl) | exact Or.inr (Or.inr rfl)) (hd : (n == ("__debug__" : Str)) = false := by decide)
    (hcd : (n == ("__classdict__" : Str)) = false := by decide) : Ev X Γ (.Name n pos) d :=
  ev_of (pe_var hN hv hd hcd) fun B σ Hs H S Q k => by
    obtain ⟨v, h1, h2⟩ := S.dat i d h
    exact ⟨v, h1, k v Hs H (Gr.refl S.i) h2⟩
theorem ev_const {v : V} (h : PE X e (tC v)) (r : ∀ H, Rp X.K H v d) : Ev X Γ e d := ev_of h fun B σ Hs H S Q k => k v Hs H (Gr.refl S.i) (r Hs)
theorem ev_int {i : Int} {j : Nat} : Ev X Γ (.Constant (.int i) j pos) (.int i) := ev_const pe_int fun _ => .int i
theorem ev_str {s : Str} {j : Nat} : Ev X Γ (.Constant (.str s) j pos) (.str s) := ev_const pe_str fun _ => .str s
theorem ev_bl {k : Bool} {j : Nat} : Ev X Γ (.Constant (.bool k) j pos) (.bl k) := ev_const pe_bl fun _ => .bl k
theorem ev_non {j : Nat} : Ev X Γ (.Constant .none j pos) .non := ev_const pe_non fun _ => .non
theorem ev_gint {n : Str} {i : Int} (h : ∃ t, X.mg n = some (.int i t)) (hg : Gl X n := by rfl) (hd : (n == ("__debug__" : Str)) = false := by decide) : Ev X Γ (.Name n pos) (.int i) := by
  obtain ⟨t, h⟩ := h
  exact ev_const (pe_glob hg h (v := .int i) ⟨t, rfl⟩ hd) fun _ => .int i
theorem ev_gstr {n s : Str} (h : ∃ t, X.mg n = some (.str s t)) (hg : Gl X n := by rfl) (hd : (n == ("__debug__" : Str)) = false := by decide) : Ev X Γ (.Name n pos) (.str s) := by
  obtain ⟨t, h⟩ := h
  exact ev_const (pe_glob hg h (v := .str s) ⟨t, rfl⟩ hd) fun _ => .str s
theorem ev_gcls {n : Str} {C : Addr} (h : X.mg n = some (.ref C)) (hg : Gl X n := by rfl) (hd : (n == ("__debug__" : Str)) = false := by decide) : Ev X Γ (.Name n pos) (.cls C) :=
  ev_const (pe_glob hg h (v := .ref C) rfl hd) fun _ => .cls C
theorem ev_bty {n : Str} {T : String} (hm : X.mg n = none) (hv : bootBuiltins n = some (.type T)) (hg : Gl X n := by rfl) (hn : n ≠ "__name__" := by decide) (hd : (n == ("__debug__" : Str)) = false := by decide) : Ev X Γ (.Name n pos) (.ty T) :=
  ev_const (pe_bltn hg hm hv (v := .ty T) rfl hn hd) fun _ => .ty T
/-! operations -/
theorem evr_op {K : PySem.W.Frag} {ta tb : TE} {r : R2} (ha : EvR K ta Γ x) (hb : EvR K tb Γ y) (hr : OpV K r x y z) : EvR K (tOp r ta tb) Γ z := fun B σ Hs H S Q k =>
  ha B σ Hs H S _ fun u Hs1 H1 g1 r1 => hb B σ Hs1 H1 (S.step g1) _ fun v Hs2 H2 g2 r2 => hr Hs2 H2 u v g2.i (r1.mono g2.s) r2 Q fun w Hs3 H3 g3 r3 => k w Hs3 H3 (g1.trans (g2.trans g3)) r3
theorem evr_un {K : PySem.W.Frag} {ta : TE} {r : V → Hp → VK → Prop} (ha : EvR K ta Γ x) (hr : UnV K r x z) : EvR K (tUn r ta) Γ z := fun B σ Hs H S Q k =>
  ha B σ Hs H S _ fun u Hs1 H1 g1 r1 => hr Hs1 H1 u g1.i r1 Q fun w Hs3 H3 g3 r3 => k w Hs3 H3 (g1.trans g3) r3
theorem ev_op {op : Operator} {r : R2} (ho : OpR X (binaryOp op) r) (ha : Ev X Γ a x) (hb : Ev X Γ b y) (hr : OpV X.K r x y z) : Ev X Γ (.BinOp a op b pos) z := ev_of (pe_op ho pe_r pe_r) (evr_op ha hb hr)
theorem ov_I0 {K : PySem.W.Frag} {g : Int → Int → V} {i j : Int} {z : Dt} (hz : ∀ H, Rp K H (g i j) z) : OpV K (rI0 g) (.int i) (.int j) z := fun Hs H u v e r1 r2 Q k => by
  cases r1
  cases r2
  exact ⟨i, j, rfl, rfl, k _ Hs H (Gr.refl e) (hz _)⟩
theorem ov_I {K : PySem.W.Frag} {C : Int → Int → Prop} {g : Int → Int → V} {i j : Int} {z : Dt} (hc : C i j) (hz : ∀ H, Rp K H (g i j) z) : OpV K (rI C g) (.int i) (.int j) z := fun Hs H u v e r1 r2 Q k => by
  cases r1
  cases r2
  exact ⟨i, j, rfl, rfl, hc, k _ Hs H (Gr.refl e) (hz _)⟩
section
variable {i j l : Int}
theorem ev_add (ha : Ev X Γ a (.int i)) (hb : Ev X Γ b (.int j)) : Ev X Γ (.BinOp a .Add b pos) (.int (i + j)) := ev_op op_add ha hb (ov_I0 fun _ => .int _)
theorem ev_sub (ha : Ev X Γ a (.int i)) (hb : Ev X Γ b (.int j)) : Ev X Γ (.BinOp a .Sub b pos) (.int (i - j)) := ev_op op_sub ha hb (ov_I0 fun _ => .int _)
theorem ev_mul (ha : Ev X Γ a (.int i)) (hb : Ev X Γ b (.int j)) (h : CMul i j) : Ev X Γ (.BinOp a .Mult b pos) (.int (i * j)) := ev_op op_mul ha hb (ov_I h fun _ => .int _)
theorem ev_fdiv (ha : Ev X Γ a (.int i)) (hb : Ev X Γ b (.int j)) (h : CDiv i j) : Ev X Γ (.BinOp a .FloorDiv b pos) (.int (i / j)) := ev_op op_fdiv ha hb (ov_I h fun _ => .int _)
theorem ev_mod (ha : Ev X Γ a (.int i)) (hb : Ev X Γ b (.int j)) (h : 0 < j) : Ev X Γ (.BinOp a .Mod b pos) (.int (i % j)) := ev_op op_mod ha hb (ov_I (C := fun _ j => 0 < j) h fun _ => .int _)
theorem ev_pow (ha : Ev X Γ a (.int i)) (hb : Ev X Γ b (.int j)) (h : CPow i j) : Ev X Γ (.BinOp a .Pow b pos) (.int (i ^ j.toNat)) := ev_op op_pow ha hb (ov_I h fun _ => .int _)
theorem ev_neg (ha : Ev X Γ a (.int i)) : Ev X Γ (.UnaryOp .USub a pos) (.int (-i)) := ev_of (pe_un un_neg pe_r) (evr_un ha fun Hs H u e r1 Q k => by
  cases r1
  exact ⟨i, rfl, k _ Hs H (Gr.refl e) (.int _)⟩)
/-! comparisons -/
theorem ev_cmp {op : CmpOp} {r : R2} (ho : OpR X (compareOp op) r) (ha : Ev X Γ a x) (hb : Ev X Γ b y) (hr : OpV X.K r x y z) (hm : behindInMarks op b = false) : Ev X Γ (.Compare a [op] [b] pos) z := ev_of (pe_cmpR ho pe_r pe_r hm) (evr_op ha hb hr)
theorem evr_test {K : PySem.W.Frag} {t : TE} {k : Bool} (h : EvR K t Γ (.bl k)) : EvTR K (tTest t) Γ k := fun B σ Hs H S Q q => h B σ Hs H S _ fun v Hs1 H1 g1 r1 => by
  cases r1
  exact ⟨k, rfl, q Hs1 H1 g1⟩
theorem et_cmp {op : CmpOp} {r : R2} {k : Bool} (ho : OpR X (compareOp op) r) (ha : Ev X Γ a x) (hb : Ev X Γ b y) (hr : OpV X.K r x y (.bl k)) (hm : behindInMarks op b = false) : EvT X Γ (.Compare a [op] [b] pos) k :=
  et_of (pt_cmpR ho pe_r pe_r hm) (evr_test (evr_op ha hb hr))
theorem ov_eq {K : PySem.W.Frag} {u v : V} {x y : Dt} (hx : ∀ H w, Rp K H w x → w = u) (hy : ∀ H w, Rp K H w y → w = v) (h : scal u v = true) : OpV K rEq x y (.bl (decide (u = v))) := fun Hs H u' v' e r1 r2 Q k => by
  rw [hx _ _ r1, hy _ _ r2]
  exact ⟨h, k _ Hs H (Gr.refl e) (.bl _)⟩
theorem ov_ne {K : PySem.W.Frag} {u v : V} {x y : Dt} (hx : ∀ H w, Rp K H w x → w = u) (hy : ∀ H w, Rp K H w y → w = v) (h : scal u v = true) : OpV K rNe x y (.bl (!decide (u = v))) := fun Hs H u' v' e r1 r2 Q k => by
  rw [hx _ _ r1, hy _ _ r2]
  exact ⟨h, k _ Hs H (Gr.refl e) (.bl _)⟩
theorem vint {K : PySem.W.Frag} {i : Int} : ∀ H w, Rp K H w (.int i) → w = V.int i := fun H w h => by cases h; rfl
theorem vstr {K : PySem.W.Frag} {s : Str} : ∀ H w, Rp K H w (.str s) → w = V.str s := fun H w h => by cases h; rfl
theorem vbl {K : PySem.W.Frag} {k : Bool} : ∀ H w, Rp K H w (.bl k) → w = V.bl k := fun H w h => by cases h; rfl
theorem decV_int {i j : Int} : decide (V.int i = V.int j) = decide (i = j) := by
  by_cases h : i = j
  · subst h; simp
  · rw [decide_eq_false h, decide_eq_false fun q => h (V.int.inj q)]
theorem decV_str {i j : Str} : decide (V.str i = V.str j) = decide (i = j) := by
  by_cases h : i = j
  · subst h; simp
  · rw [decide_eq_false h, decide_eq_false fun q => h (V.str.inj q)]
theorem ov_eqI {K : PySem.W.Frag} : OpV K rEq (.int i) (.int j) (.bl (decide (i = j))) := decV_int ▸ ov_eq vint vint rfl
theorem ov_neI {K : PySem.W.Frag} : OpV K rNe (.int i) (.int j) (.bl (!decide (i = j))) := decV_int ▸ ov_ne vint vint rfl
theorem ov_eqS {K : PySem.W.Frag} {s t : Str} : OpV K rEq (.str s) (.str t) (.bl (decide (s = t))) := decV_str ▸ ov_eq vstr vstr rfl
theorem ov_neS {K : PySem.W.Frag} {s t : Str} : OpV K rNe (.str s) (.str t) (.bl (!decide (s = t))) := decV_str ▸ ov_ne vstr vstr rfl
theorem ov_lt {K : PySem.W.Frag} : OpV K (rI0 fun i j => .bl (decide (i < j))) (.int i) (.int j) (.bl (decide (i < j))) := ov_I0 fun _ => .bl _
theorem ov_le {K : PySem.W.Frag} : OpV K (rI0 fun i j => .bl (decide (i ≤ j))) (.int i) (.int j) (.bl (decide (i ≤ j))) := ov_I0 fun _ => .bl _
theorem ov_gt {K : PySem.W.Frag} : OpV K (rI0 fun i j => .bl (decide (j < i))) (.int i) (.int j) (.bl (decide (j < i))) := ov_I0 fun _ => .bl _
theorem ov_ge {K : PySem.W.Frag} : OpV K (rI0 fun i j => .bl (decide (j ≤ i))) (.int i) (.int j) (.bl (decide (j ≤ i))) := ov_I0 fun _ => .bl _
theorem ev_lt (ha : Ev X Γ a (.int i)) (hb : Ev X Γ b (.int j)) : Ev X Γ (.Compare a [.Lt] [b] pos) (.bl (decide (i < j))) := ev_cmp op_lt ha hb ov_lt (nomark _)
theorem ev_le (ha : Ev X Γ a (.int i)) (hb : Ev X Γ b (.int j)) : Ev X Γ (.Compare a [.LtE] [b] pos) (.bl (decide (i ≤ j))) := ev_cmp op_le ha hb ov_le (nomark _)
theorem ev_gt (ha : Ev X Γ a (.int i)) (hb : Ev X Γ b (.int j)) : Ev X Γ (.Compare a [.Gt] [b] pos) (.bl (decide (j < i))) := ev_cmp op_gt ha hb ov_gt (nomark _)
theorem ev_ge (ha : Ev X Γ a (.int i)) (hb : Ev X Γ b (.int j)) : Ev X Γ (.Compare a [.GtE] [b] pos) (.bl (decide (j ≤ i))) := ev_cmp op_ge ha hb ov_ge (nomark _)
theorem ev_eqI (ha : Ev X Γ a (.int i)) (hb : Ev X Γ b (.int j)) : Ev X Γ (.Compare a [.Eq] [b] pos) (.bl (decide (i = j))) := ev_cmp op_eq ha hb ov_eqI (nomark _)
theorem ev_neI (ha : Ev X Γ a (.int i)) (hb : Ev X Γ b (.int j)) : Ev X Γ (.Compare a [.NotEq] [b] pos) (.bl (!decide (i = j))) := ev_cmp op_ne ha hb ov_neI (nomark _)
theorem et_lt (ha : Ev X Γ a (.int i)) (hb : Ev X Γ b (.int j)) : EvT X Γ (.Compare a [.Lt] [b] pos) (decide (i < j)) := et_cmp op_lt ha hb ov_lt (nomark _)
theorem et_le (ha : Ev X Γ a (.int i)) (hb : Ev X Γ b (.int j)) : EvT X Γ (.Compare a [.LtE] [b] pos) (decide (i ≤ j)) := et_cmp op_le ha hb ov_le (nomark _)
theorem et_gt (ha : Ev X Γ a (.int i)) (hb : Ev X Γ b (.int j)) : EvT X Γ (.Compare a [.Gt] [b] pos) (decide (j < i)) := et_cmp op_gt ha hb ov_gt (nomark _)
theorem et_ge (ha : Ev X Γ a (.int i)) (hb : Ev X Γ b (.int j)) : EvT X Γ (.Compare a [.GtE] [b] pos) (decide (j ≤ i)) := et_cmp op_ge ha hb ov_ge (nomark _)
theorem et_eqI (ha : Ev X Γ a (.int i)) (hb : Ev X Γ b (.int j)) : EvT X Γ (.Compare a [.Eq] [b] pos) (decide (i = j)) := et_cmp op_eq ha hb ov_eqI (nomark _)
theorem et_neI (ha : Ev X Γ a (.int i)) (hb : Ev X Γ b (.int j)) : EvT X Γ (.Compare a [.NotEq] [b] pos) (!decide (i = j)) := et_cmp op_ne ha hb ov_neI (nomark _)
theorem ev_eqS {s t : Str} (ha : Ev X Γ a (.str s)) (hb : Ev X Γ b (.str t)) : Ev X Γ (.Compare a [.Eq] [b] pos) (.bl (decide (s = t))) := ev_cmp op_eq ha hb ov_eqS (nomark _)
theorem ev_neS {s t : Str} (ha : Ev X Γ a (.str s)) (hb : Ev X Γ b (.str t)) : Ev X Γ (.Compare a [.NotEq] [b] pos) (.bl (!decide (s = t))) := ev_cmp op_ne ha hb ov_neS (nomark _)
theorem et_eqS {s t : Str} (ha : Ev X Γ a (.str s)) (hb : Ev X Γ b (.str t)) : EvT X Γ (.Compare a [.Eq] [b] pos) (decide (s = t)) := et_cmp op_eq ha hb ov_eqS (nomark _)
theorem et_neS {s t : Str} (ha : Ev X Γ a (.str s)) (hb : Ev X Γ b (.str t)) : EvT X Γ (.Compare a [.NotEq] [b] pos) (!decide (s = t)) := et_cmp op_ne ha hb ov_neS (nomark _)
end
/-- d is None -/
def Dt.isN : Dt → Bool
  | .non => true
  | _ => false
theorem isN_V {K : PySem.W.Frag} {H : Hp} {v : V} {d : Dt} (h : Rp K H v d) : decide (v = V.non) = d.isN := by
  cases h <;> first | rfl | exact decide_eq_false (fun z => nomatch z)
theorem ov_isN {K : PySem.W.Frag} : OpV K (fun x y H Q => y = .non ∧ Q (.bl (decide (x = .non))) H) x .non (.bl x.isN) := fun Hs H u v e r1 r2 Q k => by
  cases r2
  refine ⟨rfl, ?_⟩
  rw [isN_V r1]
  exact k _ Hs H (Gr.refl e) (.bl _)
theorem ov_notN {K : PySem.W.Frag} : OpV K (fun x y H Q => y = .non ∧ Q (.bl (!decide (x = .non))) H) x .non (.bl (!x.isN)) := fun Hs H u v e r1 r2 Q k => by
  cases r2
  refine ⟨rfl, ?_⟩
  rw [isN_V r1]
  exact k _ Hs H (Gr.refl e) (.bl _)
theorem ev_isN {j : Nat} {p' : Pos} (ha : Ev X Γ a x) : Ev X Γ (.Compare a [.Is] [.Constant .none j p'] pos) (.bl x.isN) := ev_cmp op_isN ha ev_non ov_isN (nomark _)
theorem ev_notN {j : Nat} {p' : Pos} (ha : Ev X Γ a x) : Ev X Γ (.Compare a [.IsNot] [.Constant .none j p'] pos) (.bl (!x.isN)) := ev_cmp op_notN ha ev_non ov_notN (nomark _)
theorem et_isN {j : Nat} {p' : Pos} (ha : Ev X Γ a x) : EvT X Γ (.Compare a [.Is] [.Constant .none j p'] pos) x.isN := et_cmp op_isN ha ev_non ov_isN (nomark _)
theorem et_notN {j : Nat} {p' : Pos} (ha : Ev X Γ a x) : EvT X Γ (.Compare a [.IsNot] [.Constant .none j p'] pos) (!x.isN) := et_cmp op_notN ha ev_non ov_notN (nomark _)
/-! chains of two comparisons -/
theorem evr_chain {K : PySem.W.Frag} {ta tb tc : TE} {r r' : R2} {x y w : Dt} {k k' : Bool} (ha : EvR K ta Γ x) (hb : EvR K tb Γ y) (hr : OpV K r x y (.bl k)) (hc : k = true → EvR K tc Γ w) (hr' : k = true → OpV K r' y w (.bl k')) : EvR K (tChain r r' ta tb tc) Γ (.bl (k && k')) :=
  fun B σ Hs H S Q q => ha B σ Hs H S _ fun u Hs1 H1 g1 r1 => hb B σ Hs1 H1 (S.step g1) _ fun v Hs2 H2 g2 r2 => hr Hs2 H2 u v g2.i (r1.mono g2.s) r2 _ fun m Hs3 H3 g3 r3 => by
    cases r3
    refine ⟨k, rfl, ?_⟩
    cases k with
    | false => exact q _ Hs3 H3 (g1.trans (g2.trans g3)) (.bl _)
    | true => exact hc rfl B σ Hs3 H3 ((S.step g1).step (g2.trans g3)) _ fun m Hs4 H4 g4 r4 => hr' rfl Hs4 H4 v m g4.i (r2.mono (g3.s.trans g4.s)) r4 Q fun m' Hs5 H5 g5 r5 => q m' Hs5 H5 (g1.trans (g2.trans (g3.trans (g4.trans g5)))) r5
section
variable {i j l : Int}
theorem ev_lele (ha : Ev X Γ a (.int i)) (hb : Ev X Γ b (.int j)) (hc : Ev X Γ c (.int l)) (hm : lastMarks [.LtE, .LtE] [b, c] = false := by with_unfolding_all rfl) : Ev X Γ (.Compare a [.LtE, .LtE] [b, c] pos) (.bl (decide (i ≤ j) && decide (j ≤ l))) :=
  ev_of (pe_chain op_le op_le pe_r pe_r pe_r hm) (evr_chain ha hb ov_le (fun _ => hc) fun _ => ov_le)
theorem et_lele (ha : Ev X Γ a (.int i)) (hb : Ev X Γ b (.int j)) (hc : Ev X Γ c (.int l)) (hm : lastMarks [.LtE, .LtE] [b, c] = false := by with_unfolding_all rfl) : EvT X Γ (.Compare a [.LtE, .LtE] [b, c] pos) (decide (i ≤ j) && decide (j ≤ l)) :=
  et_of (pt_chain op_le op_le pe_r pe_r pe_r hm) (evr_test (evr_chain ha hb ov_le (fun _ => hc) fun _ => ov_le))
theorem ev_lelt (ha : Ev X Γ a (.int i)) (hb : Ev X Γ b (.int j)) (hc : Ev X Γ c (.int l)) (hm : lastMarks [.LtE, .Lt] [b, c] = false := by with_unfolding_all rfl) : Ev X Γ (.Compare a [.LtE, .Lt] [b, c] pos) (.bl (decide (i ≤ j) && decide (j < l))) :=
  ev_of (pe_chain op_le op_lt pe_r pe_r pe_r hm) (evr_chain ha hb ov_le (fun _ => hc) fun _ => ov_lt)
theorem et_lelt (ha : Ev X Γ a (.int i)) (hb : Ev X Γ b (.int j)) (hc : Ev X Γ c (.int l)) (hm : lastMarks [.LtE, .Lt] [b, c] = false := by with_unfolding_all rfl) : EvT X Γ (.Compare a [.LtE, .Lt] [b, c] pos) (decide (i ≤ j) && decide (j < l)) :=
  et_of (pt_chain op_le op_lt pe_r pe_r pe_r hm) (evr_test (evr_chain ha hb ov_le (fun _ => hc) fun _ => ov_lt))
theorem et_ltle (ha : Ev X Γ a (.int i)) (hb : Ev X Γ b (.int j)) (hc : Ev X Γ c (.int l)) (hm : lastMarks [.Lt, .LtE] [b, c] = false := by with_unfolding_all rfl) : EvT X Γ (.Compare a [.Lt, .LtE] [b, c] pos) (decide (i < j) && decide (j ≤ l)) :=
  et_of (pt_chain op_lt op_le pe_r pe_r pe_r hm) (evr_test (evr_chain ha hb ov_lt (fun _ => hc) fun _ => ov_le))
end
/-! and, or, not, if else -/
theorem evr_andV {K : PySem.W.Frag} {ta tb : TE} {k k' : Bool} (ha : EvR K ta Γ (.bl k)) (hb : k = true → EvR K tb Γ (.bl k')) : EvR K (tAndV ta tb) Γ (.bl (k && k')) := fun B σ Hs H S Q q => ha B σ Hs H S _ fun u Hs1 H1 g1 r1 => by
  cases r1
  refine ⟨k, rfl, ?_⟩
  cases k with
  | false => exact q _ Hs1 H1 g1 (.bl _)
  | true => exact hb rfl B σ Hs1 H1 (S.step g1) Q fun w Hs2 H2 g2 r2 => q w Hs2 H2 (g1.trans g2) r2
theorem evr_orV {K : PySem.W.Frag} {ta tb : TE} {k k' : Bool} (ha : EvR K ta Γ (.bl k)) (hb : k = false → EvR K tb Γ (.bl k')) : EvR K (tOrV ta tb) Γ (.bl (k || k')) := fun B σ Hs H S Q q => ha B σ Hs H S _ fun u Hs1 H1 g1 r1 => by
  cases r1
  refine ⟨k, rfl, ?_⟩
  cases k with
  | true => exact q _ Hs1 H1 g1 (.bl _)
  | false => exact hb rfl B σ Hs1 H1 (S.step g1) Q fun w Hs2 H2 g2 r2 => q w Hs2 H2 (g1.trans g2) r2
variable {k k' : Bool} {rest : List Expr}
theorem ev_one {op : BoolOp} (ha : Ev X Γ a d) : Ev X Γ (.BoolOp op [a] pos) d := ev_of (pe_one pe_r) ha
theorem ev_and (ha : Ev X Γ a (.bl k)) (hb : k = true → Ev X Γ (.BoolOp .And (b :: rest) pos) (.bl k')) : Ev X Γ (.BoolOp .And (a :: b :: rest) pos) (.bl (k && k')) := ev_of (pe_and pe_r pe_r) (evr_andV ha hb)
theorem ev_or (ha : Ev X Γ a (.bl k)) (hb : k = false → Ev X Γ (.BoolOp .Or (b :: rest) pos) (.bl k')) : Ev X Γ (.BoolOp .Or (a :: b :: rest) pos) (.bl (k || k')) := ev_of (pe_or pe_r pe_r) (evr_orV ha hb)
theorem ev_not (ha : Ev X Γ a (.bl k)) : Ev X Γ (.UnaryOp .Not a pos) (.bl (!k)) := ev_of (pe_not pe_r) fun B σ Hs H S Q q => ha B σ Hs H S _ fun u Hs1 H1 g1 r1 => by
  cases r1
  exact ⟨k, rfl, q _ Hs1 H1 g1 (.bl _)⟩
theorem et_val (h : Ev X Γ e (.bl k)) (he : ∀ whole, isTrue e X.env whole = (do let v ← whole; standAt e.pos; holding [v] (truthy v)) := by intro _; rfl) : EvT X Γ e k := et_of (pt_val pe_r he) fun B σ Hs H S Q q => h B σ Hs H S _ fun u Hs1 H1 g1 r1 => by
  cases r1
  exact ⟨k, rfl, q Hs1 H1 g1⟩
theorem et_w (h : EvW X Γ e k) : EvT X Γ e k := fun B σ Hs H S Q q pins s I => h B σ Hs H S Q q _ pins s I
theorem ew_and1 (h : EvT X Γ a k) : EvW X Γ (.BoolOp .And [a] pos) k := ew_of (pw_and1 pt_r) h
theorem ew_or1 (h : EvT X Γ a k) : EvW X Γ (.BoolOp .Or [a] pos) k := ew_of (pw_or1 pt_r) h
theorem ew_and (h : EvT X Γ a k) (h' : k = true → EvW X Γ (.BoolOp .And (b :: rest) pos) k') : EvW X Γ (.BoolOp .And (a :: b :: rest) pos) (k && k') := ew_of (pw_and pt_r pw_r) fun B σ Hs H S Q q => h B σ Hs H S _ fun Hs1 H1 g1 => by
  cases k with
  | false => exact q Hs1 H1 g1
  | true => exact h' rfl B σ Hs1 H1 (S.step g1) Q fun Hs2 H2 g2 => q Hs2 H2 (g1.trans g2)
theorem ew_or (h : EvT X Γ a k) (h' : k = false → EvW X Γ (.BoolOp .Or (b :: rest) pos) k') : EvW X Γ (.BoolOp .Or (a :: b :: rest) pos) (k || k') := ew_of (pw_or pt_r pw_r) fun B σ Hs H S Q q => h B σ Hs H S _ fun Hs1 H1 g1 => by
  cases k with
  | true => exact q Hs1 H1 g1
  | false => exact h' rfl B σ Hs1 H1 (S.step g1) Q fun Hs2 H2 g2 => q Hs2 H2 (g1.trans g2)
theorem et_not (h : EvT X Γ a k) : EvT X Γ (.UnaryOp .Not a pos) (!k) := et_of (pt_not pt_r) fun B σ Hs H S Q q => h B σ Hs H S _ fun Hs1 H1 g1 => q Hs1 H1 g1
theorem ev_ifexp (h : EvT X Γ c k) (ha : k = true → Ev X Γ a d) (hb : k = false → Ev X Γ b d) : Ev X Γ (.IfExp c a b pos) d := ev_of (pe_ifExp pt_r pe_r pe_r) fun B σ Hs H S Q q => h B σ Hs H S _ fun Hs1 H1 g1 => by
  cases k with
  | true => exact ha rfl B σ Hs1 H1 (S.step g1) Q fun w Hs2 H2 g2 r2 => q w Hs2 H2 (g1.trans g2) r2
  | false => exact hb rfl B σ Hs1 H1 (S.step g1) Q fun w Hs2 H2 g2 r2 => q w Hs2 H2 (g1.trans g2) r2
theorem ev_is {d' : Dt} (h : Ev X Γ e d) (q : d = d') : Ev X Γ e d' := q ▸ h
theorem et_is (h : EvT X Γ e k) (q : k = k') : EvT X Γ e k' := q ▸ h
/-! arguments, displays -/
theorem ea_nil : EvA X Γ [] [] := ea_of pa_nil fun B σ Hs H S Q q => q [] Hs H (Gr.refl S.i) .nil
theorem ea_cons (ha : Ev X Γ e d) (hr : EvA X Γ es ds) (hs : starEach (e :: es) X.env = (false, eval e X.env) :: starEach es X.env := by rfl) : EvA X Γ (e :: es) (d :: ds) :=
  ea_of (pa_cons pe_r pa_r hs) fun B σ Hs H S Q q => ha B σ Hs H S _ fun v Hs1 H1 g1 r1 => hr B σ Hs1 H1 (S.step g1) _ fun vs Hs2 H2 g2 r2 => q _ Hs2 H2 (g1.trans g2) (.cons (r1.mono g2.s) r2)
theorem ev_tup {x1 : Nat} (h : EvA X Γ es ds) (hl : ds.length ≤ 100000) : Ev X Γ (.Tuple es x1 pos) (.tup ds) := ev_of (pe_tup pa_r) fun B σ Hs H S Q q => h B σ Hs H S _ fun vs Hs1 H1 g1 r1 =>
  ⟨Evl.sz_of (by rw [r1.length]; exact hl), fun p hp => q _ (upd Hs1 p (.tup vs)) _ (g1.trans (Gr.new g1.i hp)) (.tup (Evl.st_of upd_same) (r1.mono (Gr.new (o := .tup vs) g1.i hp).s))⟩
theorem ev_lst (h : EvA X Γ es ds) (hl : ds.length ≤ 100000) : Ev X Γ (.List es pos) (.lst ds) := ev_of (pe_lst pa_r) fun B σ Hs H S Q q => h B σ Hs H S _ fun vs Hs1 H1 g1 r1 =>
  ⟨Evl.sz_of (by rw [r1.length]; exact hl), fun p hp => q _ (upd Hs1 p (.lst vs)) _ (g1.trans (Gr.new g1.i hp)) (.lst upd_same (r1.mono (Gr.new (o := .lst vs) g1.i hp).s))⟩
/-! subscripts -/
theorem RpA.at {K : PySem.W.Frag} {H : Hp} {vs : List V} {ds : List Dt} {i : Int} {d : Dt} (r : RpA K H vs ds) (h : atI ds i = some d) : ∃ v, atI vs i = some v ∧ Rp K H v d := by
  unfold atI at h ⊢
  rw [r.length]
  cases q : ixN ds.length i with
  | none =>
    rw [q] at h
    cases h
  | some j =>
    rw [q] at h
    exact r.get h
theorem ev_ixL {i : Int} (ha : Ev X Γ a (.lst ds)) (hb : Ev X Γ b (.int i)) (h : atI ds i = some d) (hs : PlainIx b := by intro _ _; rfl) : Ev X Γ (.Subscript a b pos) d := ev_of (pe_ix ix_list pe_r pe_r hs) (evr_op ha hb fun Hs H u v e r1 r2 Q k => by
  cases r1 with
  | lst h1 h2 =>
    cases r2
    obtain ⟨w, k1, k2⟩ := h2.at h
    exact ⟨_, _, i, w, rfl, rfl, Evl.sq_of (e _ _ h1), k1, k w Hs H (Gr.refl e) k2⟩)
theorem ev_ixT {i : Int} (ha : Ev X Γ a (.tup ds)) (hb : Ev X Γ b (.int i)) (h : atI ds i = some d) (hs : PlainIx b := by intro _ _; rfl) : Ev X Γ (.Subscript a b pos) d := ev_of (pe_ix ix_tup pe_r pe_r hs) (evr_op ha hb fun Hs H u v e r1 r2 Q k => by
  cases r1 with
  | tup h1 h2 =>
    cases r2
    obtain ⟨w, k1, k2⟩ := h2.at h
    exact ⟨_, _, i, w, rfl, rfl, Evl.ex_t e h1, k1, k w Hs H (Gr.refl e) k2⟩)
theorem ev_ixS {i n : Int} {ns : List Int} (ha : Ev X Γ a (.scr ns)) (hb : Ev X Γ b (.int i)) (h : atI ns i = some n) (hs : PlainIx b := by intro _ _; rfl) : Ev X Γ (.Subscript a b pos) (.int n) := ev_of (pe_ix ix_list pe_r pe_r hs) (evr_op ha hb fun Hs H u v e r1 r2 Q k => by
  cases r1 with
  | scr h1 =>
    cases r2
    have h2 : atI (ns.map V.int) i = some (V.int n) := by
      unfold atI at h ⊢
      rw [List.length_map]
      cases q : ixN ns.length i with
      | none =>
        rw [q] at h
        cases h
      | some j =>
        rw [q] at h
        have h3 : ns[j]? = some n := h
        show (ns.map V.int)[j]? = some (V.int n)
        rw [List.getElem?_map, h3]
        rfl
    exact ⟨_, _, i, _, rfl, rfl, Evl.ex_l e h1, h2, k _ Hs H (Gr.refl e) (.int n)⟩)
/-! built-in functions, types -/
theorem evr_cb {K : PySem.W.Frag} {r : List V → Hp → VK → Prop} {ta : TA} (h : EvAR K ta Γ ds) (hr : CaV K r ds z) : EvR K (tCB r ta) Γ z := fun B σ Hs H S Q q =>
  h B σ Hs H S _ fun us Hs1 H1 g1 r1 => hr Hs1 H1 us g1.i r1 Q fun w Hs2 H2 g2 r2 => q w Hs2 H2 (g1.trans g2) r2
theorem ev_callB {n : Str} {id : String} {r : List V → Hp → VK → Prop} (hc : CallR X (.builtin id) r) (hm : X.mg n = none) (hv : bootBuiltins n = some (.builtin id)) (ha : EvA X Γ (e :: es) ds) (hr : CaV X.K r ds z) (hg : Gl X n := by rfl) (hn : n ≠ "__name__" := by decide) (hdb : (n == ("__debug__" : Str)) = false := by decide)
    (he : starEach (e :: es) X.env = (false, eval e X.env) :: starEach es X.env := by rfl) (hpl : (backTo pos (starEach es X.env)).any (·.1) = false := by rfl) : Ev X Γ (.Call (.Name n p) (e :: es) [] pos) z := ev_of (pe_callB hc hg hm hv pa_r hn hdb he hpl) (evr_cb ha hr)
theorem ev_callTy {n : Str} {T : String} {r : List V → Hp → VK → Prop} (hc : CallR X (.type T) r) (hm : X.mg n = none) (hv : bootBuiltins n = some (.type T)) (ha : EvA X Γ (e :: es) ds) (hr : CaV X.K r ds z) (hg : Gl X n := by rfl) (hn : n ≠ "__name__" := by decide) (hdb : (n == ("__debug__" : Str)) = false := by decide)
    (he : starEach (e :: es) X.env = (false, eval e X.env) :: starEach es X.env := by rfl) (hpl : (backTo pos (starEach es X.env)).any (·.1) = false := by rfl) : Ev X Γ (.Call (.Name n p) (e :: es) [] pos) z := ev_of (pe_callTy hc hg hm hv pa_r hn hdb he hpl) (evr_cb ha hr)
end
end G

set_option Elab.async false
set_option linter.all false
set_option maxRecDepth 100000
set_option maxHeartbeats 2000000
/-! enumerate(tuple), walked. -/
namespace PySem
open Sem (wp)
open AutoSeq1 (wpAny_loadPart')
theorem g_meets_enumT {v : Value} {o : Obj} {H : Heap → Prop} (B : Begins v o H) :
    Meets (Builtin.«enumerate.__new__» ⟨[.type "enumerate", v], []⟩) (fun _ R s => H s.heap ∧
      R (.ok (.ret (.ref (s.heap.push o).objs.size))) { s with heap := (s.heap.push o).push { cls := .type "enumerate", data := .fields #[.none, .bool false, .ref s.heap.objs.size, rawInt 0, .none, .none] } }) :=
  .of_wp fun prog w A R s h => by
    obtain ⟨hp, g, d, tk, os⟩ := s; obtain ⟨h1, h⟩ := h
    have hsub := sub_enumerate
    have q1 : ∀ {A' : Around} {E : Value → Shared → Prop} {Q : Value → Shared → Prop}, Q (.ref hp.objs.size) ⟨hp.push o, g, d, tk, os⟩ → wpAny (model prog w) A' (pyIter v) Q E ⟨hp, g, d, tk, os⟩ :=
      fun q => B.iter prog w _ _ ⟨hp, g, d, tk, os⟩ _ h1 q
    wp_walk using q1
    refine wpAny_stack_any fun st => wpAny_pure ?_
    split
    · rename_i c _ _ _ _ _
      cases (c == Value.type "enumerate")
      · wp_walk using q1
        exact ⟨_, rfl, h⟩
      · wp_walk using q1
        exact ⟨_, rfl, h⟩
    · wp_walk using q1
      exact ⟨_, rfl, h⟩
section
variable {prog : Program} {w : World} {A : Around} {E : Value → Shared → Prop} {s : Shared}
theorem g_enum_begins {v : Value} {o : Obj} {H : Heap → Prop} {Q : Value → Shared → Prop} (B : Begins v o H) (h1 : H s.heap)
    (h : ∀ h', IsEnum h' (s.heap.objs.size + 1) s.heap.objs.size 0 .none → h'.get? s.heap.objs.size = some o → h'.objs.size = s.heap.objs.size + 2 →
      (∀ b o, s.heap.get? b = some o → h'.get? b = some o) → Q (.ref (s.heap.objs.size + 1)) { s with heap := h' }) :
    wpAny (model prog w) A (call (.type "enumerate") [v]) Q E s := by
  refine callType_new F.called_enumerate (by decide) (F.typeCall_enumerate_1 _) (F.newCall_enumerate_1 _) (fun obj => F.args_object_init_2 obj _) F.entry_enumerate_new
    (g_meets_enumT B) ⟨h1, ?_⟩
  have hz : (s.heap.push o).objs.size = s.heap.objs.size + 1 := Heap.size_push ..
  show _ ∧ _
  rw [hz]
  have he : IsEnum ((s.heap.push o).push { cls := .type "enumerate", data := .fields #[.none, .bool false, .ref s.heap.objs.size, rawInt 0, .none, .none] }) (s.heap.objs.size + 1) s.heap.objs.size 0 .none := by
    have := Heap.get?_push_size (s.heap.push o) (o := { cls := .type "enumerate", data := .fields #[.none, .bool false, .ref s.heap.objs.size, rawInt 0, .none, .none] }) rfl
    rw [hz] at this; exact this
  refine ⟨⟨_, he, rfl⟩, h _ he (Heap.get?_push_of_some _ (Heap.get?_push_size _ B.free)) (by rw [Heap.size_push, hz]) fun b o x => Heap.get?_push_of_some _ (Heap.get?_push_of_some _ x)⟩
end
end PySem
namespace L2
open PySem PySem.Spec PyProof.Rows
def IteT (K : PySem.W.Frag) (a : Addr) : It :=
  ⟨fun i H => ∃ (xs : List V) (x : V), SqT K H a xs ∧ xs[i]? = some x, fun i H v H' => ∃ T x, v = .ref T ∧ H T = none ∧ H' = upd H T (.tup [.int (i : Nat), x]) ∧ ∀ xs, SqT K H a xs → xs[i]? = some x, fun i H => ∃ xs : List V, SqT K H a xs ∧ xs.length ≤ i⟩
theorem turn_enumT {P : Program} {w : World} {K : PySem.W.Frag} {elts : List Expr} {kk : Nat} {tpos : Pos} (a e it : Addr) :
    Turn P w K (.Tuple elts kk tpos) (IteT K a) [e, it] e (fun i h => (∃ old, IsEnum h e it ((i : Nat) : Int) old) ∧ h.IsTupleIter it a i ∧ e ≠ it ∧ a ≠ it ∧ e ≠ a) where
  mem := by simp
  obj := fun i h st b hb => by
    obtain ⟨⟨old, he⟩, ⟨o, ho, hc, hd⟩, _⟩ := st
    have e' : b = e ∨ b = it := by simpa using hb
    rcases e' with z | z
    · rw [z]; exact ⟨_, he, fun v q => nomatch q⟩
    · rw [z]; exact ⟨o, ho, fun v q => by rw [hd] at q; cases q⟩
  keep := fun i h h' st k => let ⟨⟨old, he⟩, hi, hne⟩ := st; ⟨⟨old, k e (by simp) _ he⟩, hi.at fun o q => k it (by simp) o q, hne⟩
  item := by
    intro X hP hw hK hc i pins s σ H E I hf st hg
    subst hP hw hK
    obtain ⟨⟨old, he⟩, hit, hne, hai, hea⟩ := st
    obtain ⟨xs, x, hq, hx⟩ := hg
    obtain ⟨its, rv, p, hz⟩ := I.tuple hq
    obtain ⟨u, hu, ru⟩ := rv.get hx
    have p' : s.heap.IsTuple a its.toArray := p
    have hel : e < s.heap.objs.size := Heap.lt_size he
    have hil : it < s.heap.objs.size := by obtain ⟨_, q, _⟩ := hit; exact Heap.lt_size q
    have hlt : i < its.toArray.size := by
      have := (List.getElem?_eq_some_iff.mp hu).1
      simpa using this
    refine wpAny_pyNext_enum_itemD (Draws.tuple (A := X.A.in1) (I.ok.hd hc) it a hai its.toArray) he ⟨hit, p'⟩ hlt hne (by simp; exact ⟨hne, hea⟩) fun y h' tk hy ho hst' hT hsz hk => ?_
    have ey : y = u := by
      have h1 : its[i]? = some y := by simpa using hy
      rw [hu] at h1
      exact (Option.some.inj h1).symm
    subst ey
    refine ⟨_, rfl, wpAny_letOwnedTupleGo_enum (s := { s with heap := h', toks := tk + 1 }) ho fun h'' he' sb => ?_⟩
    have hT2 : h''.get? s.heap.objs.size = some { cls := .type "tuple", data := .seq #[.int i tk, y] } := (sb.2 _ (Nat.ne_of_gt hel)).trans hT
    have new : ObjOk X.prog X.w (upd H s.heap.objs.size (.tup [.int (i : Nat), x])) h'' s.heap.objs.size (.tup [.int (i : Nat), x]) :=
      ⟨by show 2 ≤ sizeLine; decide, [.int i tk, y], .cons ⟨_, rfl⟩ (.cons ru .nil), ⟨_, hT2, rfl, _, rfl⟩⟩
    have I1 : Inv X pins σ (upd H s.heap.objs.size (.tup [.int (i : Nat), x])) { s with heap := h'', toks := tk + 1 } :=
      I.turnedNew (t' := tk + 1) (ch := [e, it]) (fun b ob hb q => (sb.2 b (fun z => hb (by simp [z]))).trans (hk b ob (fun z => hb (by simp [z])) (fun z => hb (by simp [z])) q)) hf (Nat.le_refl _) new
    refine ⟨.ref s.heap.objs.size, _, I1, rfl, ⟨_, x, rfl, I.hok.fresh (Nat.le_refl _), rfl, fun ys hy => ?_⟩, ⟨⟨y, ?_⟩, hst'.1.at fun o q => (sb.2 it (Ne.symm hne)).trans q, hne, hai, hea⟩, fun b hb => ?_⟩
    · rw [I.tuple_inj hy hq]
      exact hx
    · have e1 : ((i + 1 : Nat) : Int) = (i : Int) + 1 := by omega
      rw [e1]; exact he'
    · have hb' : b < s.heap.objs.size := by
        have e' : b = e ∨ b = it := by simpa using hb
        rcases e' with z | z
        · rw [z]; exact hel
        · rw [z]; exact hil
      rw [upd_ne (Nat.ne_of_lt hb')]
      exact (hf b hb).1
  done := by
    intro X hP hw hK hc i pins s σ H E I hf st hg
    subst hP hw hK
    obtain ⟨⟨old, he⟩, hit, hne, hai, hea⟩ := st
    obtain ⟨xs, hq, hx⟩ := hg
    obtain ⟨its, rv, p, hz⟩ := I.tuple hq
    have p' : s.heap.IsTuple a its.toArray := p
    obtain ⟨f0, f1, f2, f3, f4, f5⟩ := hf it (by simp)
    have hl := rv.length
    have hT : s.TypeIs (.ref e) "enumerate" := ⟨_, he, rfl⟩
    unfold pyNext
    refine wpAny_bind (wpAny_attempt (wpAny_callSpecial?_slot (name := Str.ofString "__next__") hT F.slot_enumerate_next
      (wpAny_call_entry F.slot_enumerate_next hT F.entry_enumerate_next ?_ (F.args_enumerate_next_1 _))))
    show wpAny _ _ (field (.ref e) 2 >>= _) _ _ _
    refine wpAny_bind (wpAny_field he rfl (x := .ref it) rfl ?_)
    refine wpAny_bind (wpAny_nextOf_tuple_end (show X.A.in1.handled = none from I.ok.hd hc) hit p' (by simp; omega) fun h' x he' hx' => ?_)
    obtain ⟨o, ho, hcs⟩ := hx'
    refine wpAny_bind (wpAny_isInstance (T := "StopIteration") (b := true) ⟨o, ho, hcs⟩ isSubtype_stop ?_)
    exact wpAny_pure ⟨rfl, I.turned (t' := s.toks) (fun b o hb q => he' b o hb q) f0 f1 f3 f4 f5⟩
  self := fun A i s Q E st h => let ⟨⟨_, he⟩, _⟩ := st; wpAny_pyIter_enum he h
def iEnumT (K : PySem.W.Frag) (ta : TA) : TI := fun σ H R => ta σ H fun vs H1 => ∃ a xs, vs = [.ref a] ∧ SqT K H1 a xs ∧ R (IteT K a) H1
theorem pi_enumT {X : Cx} {e : Expr} {ta : TA} {p pos tpos : Pos} {elts : List Expr} {kk : Nat} (hg : Gl X "enumerate") (hm : X.mg "enumerate" = none) (ha : PA X [e] ta) (hs : starEach [e] X.env = [(false, eval e X.env)] := by rfl) :
    PI X (.Tuple elts kk tpos) (.Call (.Name "enumerate" p) [e] [] pos) (iEnumT X.K ta) := by
  refine ⟨fun pins s σ H R I h => ?_⟩
  refine Call_ (ld_blt I hg hm boot_enumerate (PyProof.Rows.callWith_type1 (thn (ha.run pos pins s σ H _ I h) fun us s1 ⟨vs, H1, I1, r1, q1⟩ => ?_) hs rfl))
  obtain ⟨a, xs, ex, hq, q⟩ := q1
  subst ex
  cases r1 with
  | cons r rr =>
    cases rr
    cases r
    obtain ⟨its, rv, p', hz⟩ := I1.tuple hq
    have p2 : s1.heap.IsTuple a its.toArray := p'
    have hal : a < s1.heap.objs.size := by obtain ⟨_, q, _⟩ := p2; exact Heap.lt_size q
    refine g_enum_begins (begins_tuple (t := a) (items := its.toArray)) p2 fun h' he hit hsz hk => wpAny_pyIter_enum he ?_
    have I2 : Inv X pins σ H1 { s1 with heap := h' } := I1.kept (t' := s1.toks) hk
    refine ⟨s1.heap.objs.size + 1, [s1.heap.objs.size + 1, s1.heap.objs.size], _, _, H1, rfl, I2, turn_enumT a (s1.heap.objs.size + 1) s1.heap.objs.size, ⟨⟨.none, he⟩, ⟨_, hit, rfl, rfl⟩, Nat.succ_ne_self _, Nat.ne_of_lt hal, Nat.ne_of_gt (Nat.lt_succ_of_lt hal)⟩, fun b hb => ?_, q⟩
    have e' : b = s1.heap.objs.size + 1 ∨ b = s1.heap.objs.size := by simpa using hb
    have hle : s1.heap.objs.size ≤ b := by
      rcases e' with z | z
      · rw [z]; exact Nat.le_add_right _ _
      · rw [z]; exact Nat.le_refl _
    exact I1.fpOk hle (I1.hok.fresh hle)
end L2

set_option Elab.async false
set_option linter.all false
set_option maxRecDepth 100000
set_option maxHeartbeats 2000000
namespace G
open PySem PySem.Spec PyProof.Rows L2
open Evl (Ex)
/-! ### new lists -/
def EvNR (K : PySem.W.Frag) (te : TE) (Γ : Gam) (ds : List Dt) : Prop := ∀ (B : Bs) (σ : L2.St) (Hs H : Hp), Sat K B Γ σ Hs H → ∀ Q : VK, (∀ p xs Hs' H', Gr Hs H Hs' H' → H p = none → Hs' p = none → H' p = some (.lst xs) → RpA K Hs' xs ds → Q (.ref p) H') → te σ H Q
def EvN (X : Cx) (Γ : Gam) (e : Expr) (ds : List Dt) : Prop := EvNR X.K (RunE X e) Γ ds
theorem Gr.take {Hs H Hs' H' : Hp} {p : Addr} {o : HO} (g : Gr Hs H Hs' H') (h1 : H p = none) (h2 : Hs' p = none) (h3 : H' p = some o) : Gr Hs H (upd Hs' p o) H' where
  s := g.s.trans (Ex.new h2)
  i := fun a u q => by
    by_cases z : a = p
    · subst z
      rw [upd_same] at q
      rw [h3]
      exact q
    · rw [upd_ne z] at q
      exact g.i a u q
  e := g.e
  n := fun a u q n => by
    by_cases z : a = p
    · subst z
      exact h1
    · rw [upd_ne z] at q
      exact g.n a u q n
theorem EvNR.ev {K : PySem.W.Frag} {te : TE} {Γ : Gam} {ds : List Dt} (h : EvNR K te Γ ds) : EvR K te Γ (.lst ds) := fun B σ Hs H S Q k => h B σ Hs H S Q fun p xs Hs' H' g h1 h2 h3 r =>
  k _ (upd Hs' p (.lst xs)) H' (g.take h1 h2 h3) (.lst upd_same (r.mono (Ex.new h2)))
section
variable {X : Cx} {Γ : Gam} {e a b c : Expr} {es : List Expr} {x y z d : Dt} {ds : List Dt} {pos p : Pos}
theorem ev_new (h : EvN X Γ e ds) : Ev X Γ e (.lst ds) := EvNR.ev h
theorem en_of {t : TE} (h : PE X e t) (q : EvNR X.K t Γ ds) : EvN X Γ e ds := fun B σ Hs H S Q k pins s I => h.run pins s σ H Q I (q B σ Hs H S Q k)
/-- a new list is laid -/
theorem laid {K : PySem.W.Frag} {Hs H : Hp} {xs : List V} {ds : List Dt} {Q : VK} (i : Ex Hs H) (r : RpA K Hs xs ds) (k : ∀ p xs Hs' H', Gr Hs H Hs' H' → H p = none → Hs' p = none → H' p = some (.lst xs) → RpA K Hs' xs ds → Q (.ref p) H') : ∀ p, H p = none → Q (.ref p) (upd H p (.lst xs)) := fun p hp =>
  k p xs Hs _ (Gr.wide i (Ex.new hp)) hp (ex_none i hp) upd_same r
theorem en_lst (h : EvA X Γ es ds) (hl : ds.length ≤ 100000) : EvN X Γ (.List es pos) ds := en_of (pe_lst pa_r) fun B σ Hs H S Q q => h B σ Hs H S _ fun vs Hs1 H1 g1 r1 =>
  ⟨Evl.sz_of (by rw [r1.length]; exact hl), laid g1.i r1 fun p xs Hs' H' g h1 h2 h3 r => q p xs Hs' H' (g1.trans g) (ex_none g1.e h1) h2 h3 r⟩
/-! operations that give new lists -/
def OpN (K : PySem.W.Frag) (r : R2) (x y : Dt) (ds : List Dt) : Prop := ∀ (Hs H : Hp) (u v : V), Ex Hs H → Rp K Hs u x → Rp K Hs v y → ∀ Q : VK, (∀ p xs Hs' H', Gr Hs H Hs' H' → H p = none → Hs' p = none → H' p = some (.lst xs) → RpA K Hs' xs ds → Q (.ref p) H') → r u v H Q
def CaN (K : PySem.W.Frag) (r : List V → Hp → VK → Prop) (as ds : List Dt) : Prop := ∀ (Hs H : Hp) (us : List V), Ex Hs H → RpA K Hs us as → ∀ Q : VK, (∀ p xs Hs' H', Gr Hs H Hs' H' → H p = none → Hs' p = none → H' p = some (.lst xs) → RpA K Hs' xs ds → Q (.ref p) H') → r us H Q
theorem enr_op {K : PySem.W.Frag} {ta tb : TE} {r : R2} (ha : EvR K ta Γ x) (hb : EvR K tb Γ y) (hr : OpN K r x y ds) : EvNR K (tOp r ta tb) Γ ds := fun B σ Hs H S Q k =>
  ha B σ Hs H S _ fun u Hs1 H1 g1 r1 => hb B σ Hs1 H1 (S.step g1) _ fun v Hs2 H2 g2 r2 => hr Hs2 H2 u v g2.i (r1.mono g2.s) r2 Q fun p xs Hs3 H3 g3 h1 h2 h3 r3 => k p xs Hs3 H3 (g1.trans (g2.trans g3)) (ex_none (g1.e.trans g2.e) h1) h2 h3 r3
theorem enr_cb {K : PySem.W.Frag} {r : List V → Hp → VK → Prop} {ta : TA} {as : List Dt} (h : EvAR K ta Γ as) (hr : CaN K r as ds) : EvNR K (tCB r ta) Γ ds := fun B σ Hs H S Q q =>
  h B σ Hs H S _ fun us Hs1 H1 g1 r1 => hr Hs1 H1 us g1.i r1 Q fun p xs Hs2 H2 g2 h1 h2 h3 r2 => q p xs Hs2 H2 (g1.trans g2) (ex_none g1.e h1) h2 h3 r2
theorem en_callB {n : Str} {id : String} {r : List V → Hp → VK → Prop} {as : List Dt} (hc : CallR X (.builtin id) r) (hm : X.mg n = none) (hv : bootBuiltins n = some (.builtin id)) (ha : EvA X Γ (e :: es) as) (hr : CaN X.K r as ds) (hg : Gl X n := by rfl) (hn : n ≠ "__name__" := by decide) (hdb : (n == ("__debug__" : Str)) = false := by decide)
    (he : starEach (e :: es) X.env = (false, eval e X.env) :: starEach es X.env := by rfl) (hpl : (backTo pos (starEach es X.env)).any (·.1) = false := by rfl) : EvN X Γ (.Call (.Name n p) (e :: es) [] pos) ds := en_of (pe_callB hc hg hm hv pa_r hn hdb he hpl) (enr_cb ha hr)
theorem en_callTy {n : Str} {T : String} {r : List V → Hp → VK → Prop} {as : List Dt} (hc : CallR X (.type T) r) (hm : X.mg n = none) (hv : bootBuiltins n = some (.type T)) (ha : EvA X Γ (e :: es) as) (hr : CaN X.K r as ds) (hg : Gl X n := by rfl) (hn : n ≠ "__name__" := by decide) (hdb : (n == ("__debug__" : Str)) = false := by decide)
    (he : starEach (e :: es) X.env = (false, eval e X.env) :: starEach es X.env := by rfl) (hpl : (backTo pos (starEach es X.env)).any (·.1) = false := by rfl) : EvN X Γ (.Call (.Name n p) (e :: es) [] pos) ds := en_of (pe_callTy hc hg hm hv pa_r hn hdb he hpl) (enr_cb ha hr)
theorem en_cat {es' : List Dt} (ha : Ev X Γ a (.lst ds)) (hb : Ev X Γ b (.lst es')) (hl : ds.length + es'.length ≤ 100000) : EvN X Γ (.BinOp a .Add b pos) (ds ++ es') := en_of (pe_op op_cat pe_r pe_r) (enr_op ha hb fun Hs H u v e r1 r2 Q k => by
  cases r1 with
  | lst h1 h2 =>
    cases r2 with
    | lst h3 h4 => exact ⟨_, _, _, _, rfl, rfl, e _ _ h1, e _ _ h3, Evl.sz_of (by rw [h2.length, h4.length]; exact hl), laid e (h2.append h4) k⟩)
theorem rp_flat {K : PySem.W.Frag} {H : Hp} {xs : List V} {ds : List Dt} (r : RpA K H xs ds) : ∀ n : Nat, RpA K H (List.replicate n xs).flatten (List.replicate n ds).flatten
  | 0 => .nil
  | n + 1 => by
    rw [List.replicate_succ, List.replicate_succ, List.flatten_cons, List.flatten_cons]
    exact r.append (rp_flat r n)
theorem en_rep {i : Int} (ha : Ev X Γ a (.lst ds)) (hb : Ev X Γ b (.int i)) (h1 : -(2 ^ 63) ≤ i) (h2 : i < 2 ^ 63) (hl : ds.length * i.toNat ≤ 100000) : EvN X Γ (.BinOp a .Mult b pos) (List.replicate i.toNat ds).flatten := en_of (pe_op op_rep pe_r pe_r) (enr_op ha hb fun Hs H u v e r1 r2 Q k => by
  cases r1 with
  | lst h3 h4 =>
    cases r2
    exact ⟨_, _, _, rfl, rfl, e _ _ h3, h1, h2, Evl.sz_of (by rw [h4.length]; exact hl), laid e (rp_flat h4 _) k⟩)
theorem en_listL (hm : X.mg "list" = none) (ha : EvA X Γ [a] [.lst ds]) (hg : Gl X "list" := by rfl) (he : starEach [a] X.env = (false, eval a X.env) :: starEach [] X.env := by rfl) : EvN X Γ (.Call (.Name "list" p) [a] [] pos) ds := en_callTy call_list_of hm (by decide +kernel) ha (fun Hs H us e r Q k => by
  cases r with
  | cons r1 r2 =>
    cases r2
    cases r1 with
    | lst h1 h2 => exact ⟨_, _, rfl, .inl (Evl.sq_of (e _ _ h1)), laid e h2 k⟩) hg (by decide) (by decide) he
theorem en_listT (hm : X.mg "list" = none) (ha : EvA X Γ [a] [.tup ds]) (hg : Gl X "list" := by rfl) (he : starEach [a] X.env = (false, eval a X.env) :: starEach [] X.env := by rfl) : EvN X Γ (.Call (.Name "list" p) [a] [] pos) ds := en_callTy call_list_of hm (by decide +kernel) ha (fun Hs H us e r Q k => by
  cases r with
  | cons r1 r2 =>
    cases r2
    cases r1 with
    | tup h1 h2 => exact ⟨_, _, rfl, .inr (Evl.ex_t e h1), laid e h2 k⟩) hg (by decide) (by decide) he
theorem ev_tupleL (hm : X.mg "tuple" = none) (ha : EvA X Γ [a] [.lst ds]) (hg : Gl X "tuple" := by rfl) (he : starEach [a] X.env = (false, eval a X.env) :: starEach [] X.env := by rfl) : Ev X Γ (.Call (.Name "tuple" p) [a] [] pos) (.tup ds) := ev_callTy call_tuple_of hm (by decide +kernel) ha (fun Hs H us e r Q k => by
  cases r with
  | cons r1 r2 =>
    cases r2
    cases r1 with
    | @lst _ xs _ h1 h2 => exact ⟨_, _, rfl, .inl ⟨Evl.sq_of (e _ _ h1), fun l hl => k _ (upd Hs l (.tup xs)) _ (Gr.new e hl) (.tup (Evl.st_of upd_same) (h2.mono (Gr.new (o := .tup xs) e hl).s))⟩⟩) hg (by decide) (by decide) he
theorem ev_tupleT (hm : X.mg "tuple" = none) (ha : EvA X Γ [a] [.tup ds]) (hg : Gl X "tuple" := by rfl) (he : starEach [a] X.env = (false, eval a X.env) :: starEach [] X.env := by rfl) : Ev X Γ (.Call (.Name "tuple" p) [a] [] pos) (.tup ds) := ev_callTy call_tuple_of hm (by decide +kernel) ha (fun Hs H us e r Q k => by
  cases r with
  | cons r1 r2 =>
    cases r2
    cases r1 with
    | @tup _ xs _ h1 h2 => exact ⟨_, _, rfl, .inr ⟨Evl.ex_t e h1, k _ Hs H (Gr.refl e) (.tup h1 h2)⟩⟩) hg (by decide) (by decide) he
/-- sorted: the one ascending list -/
theorem perm_sorted : ∀ {xs ys : List Int}, xs.Perm ys → xs.Pairwise (· ≤ ·) → ys.Pairwise (· ≤ ·) → xs = ys
  | [], ys, h, _, _ => (List.Perm.nil_eq h)
  | x :: xs, [], h, _, _ => by
    have := h.length_eq
    cases this
  | x :: xs, y :: ys, h, h1, h2 => by
    have h1' := List.pairwise_cons.mp h1
    have h2' := List.pairwise_cons.mp h2
    have e : x = y := by
      have a : x ∈ y :: ys := h.subset List.mem_cons_self
      have b : y ∈ x :: xs := h.symm.subset List.mem_cons_self
      rcases List.mem_cons.mp a with a | a
      · exact a
      · rcases List.mem_cons.mp b with b | b
        · exact b.symm
        · have := h1'.1 y b
          have := h2'.1 x a
          omega
    subst e
    rw [perm_sorted (List.Perm.cons_inv h) h1'.2 h2'.2]
def ins (x : Int) : List Int → List Int
  | [] => [x]
  | y :: r => if x ≤ y then x :: y :: r else y :: ins x r
def srt : List Int → List Int
  | [] => []
  | x :: r => ins x (srt r)
theorem ins_perm (x : Int) : ∀ l : List Int, (ins x l).Perm (x :: l)
  | [] => List.Perm.refl _
  | y :: r => by
    unfold ins
    split
    · exact List.Perm.refl _
    · exact ((ins_perm x r).cons y).trans (List.Perm.swap x y r)
theorem srt_perm : ∀ l : List Int, (srt l).Perm l
  | [] => List.Perm.refl _
  | x :: r => (ins_perm x (srt r)).trans ((srt_perm r).cons x)
theorem ins_sorted (x : Int) : ∀ {l : List Int}, l.Pairwise (· ≤ ·) → (ins x l).Pairwise (· ≤ ·)
  | [], _ => List.pairwise_singleton _ _
  | y :: r, h => by
    have h' := List.pairwise_cons.mp h
    unfold ins
    split
    · rename_i q
      refine List.pairwise_cons.mpr ⟨fun z hz => ?_, h⟩
      rcases List.mem_cons.mp hz with e | e
      · rw [e]
        exact q
      · have := h'.1 z e
        omega
    · rename_i q
      refine List.pairwise_cons.mpr ⟨fun z hz => ?_, ins_sorted x h'.2⟩
      have := (ins_perm x r).subset hz
      rcases List.mem_cons.mp this with e | e
      · rw [e]
        omega
      · exact h'.1 z e
theorem srt_sorted : ∀ l : List Int, (srt l).Pairwise (· ≤ ·)
  | [] => List.Pairwise.nil
  | x :: r => ins_sorted x (srt_sorted r)
theorem srt_length (l : List Int) : (srt l).length = l.length := (srt_perm l).length_eq
theorem en_sorted {ns : List Int} (hm : X.mg "sorted" = none) (ha : EvA X Γ [a] [.lst (ns.map Dt.int)]) (hg : Gl X "sorted" := by rfl) (he : starEach [a] X.env = (false, eval a X.env) :: starEach [] X.env := by rfl) : EvN X Γ (.Call (.Name "sorted" p) [a] [] pos) ((srt ns).map Dt.int) :=
  en_callB cr_sortedI hm (by decide +kernel) ha (fun Hs H us e r Q k => by
    cases r with
    | cons r1 r2 =>
      cases r2
      cases r1 with
      | lst h1 h2 =>
        have e2 := h2.ints
        subst e2
        refine ⟨_, ns, rfl, Evl.sq_of (e _ _ h1), fun ns' p perm srtd hp => ?_⟩
        have e3 : ns' = srt ns := perm_sorted (perm.trans (srt_perm ns).symm) srtd (srt_sorted ns)
        subst e3
        exact laid e (RpA.of_ints _) k p hp) hg (by decide) (by decide) he
/-! ### iteration -/
structure Wk (K : PySem.W.Frag) (Hs : Hp) (J : It) (ds : List Dt) : Prop where
  stop : ∀ Hs' H', Ex Hs Hs' → Ex Hs' H' → J.stop ds.length H'
  item : ∀ (i : Nat) (d : Dt) Hs' H', Ex Hs Hs' → Ex Hs' H' → ds[i]? = some d → J.go i H' ∧ ∀ x H'', J.yld i H' x H'' → ∃ Hs'', Gr Hs' H' Hs'' H'' ∧ Rp K Hs'' x d
def RunI (X : Cx) (tg iter : Expr) : TI := fun σ H R => ∀ pins s, Inv X pins σ H s → wpAny (model X.prog X.w) X.A (eval iter X.env) (fun v s1 => wpAny (model X.prog X.w) X.A (pyIter v) (PIE X pins σ tg R) X.xe s1) X.xe s
theorem pi_r {tg iter : Expr} : PI X tg iter (RunI X tg iter) := ⟨fun pins s σ H R I h => h pins s I⟩
def EvIR (K : PySem.W.Frag) (wi : TI) (Γ : Gam) (ds : List Dt) : Prop := ∀ (B : Bs) (σ : L2.St) (Hs H : Hp), Sat K B Γ σ Hs H → ∀ R : It → Hp → Prop, (∀ J Hs1 H1, Gr Hs H Hs1 H1 → Wk K Hs1 J ds → R J H1) → wi σ H R
def EvI (X : Cx) (Γ : Gam) (tg iter : Expr) (ds : List Dt) : Prop := EvIR X.K (RunI X tg iter) Γ ds
theorem ei_of {tg : Expr} {wi : TI} (h : PI X tg e wi) (q : EvIR X.K wi Γ ds) : EvI X Γ tg e ds := fun B σ Hs H S R k pins s I => h.run pins s σ H R I (q B σ Hs H S R k)
theorem wk_list {K : PySem.W.Frag} {Hs : Hp} {p : Addr} {xs : List V} (h : SqL K Hs p xs) (r : RpA K Hs xs ds) : Wk K Hs (Itl K p) ds where
  stop := fun Hs' H' e1 e2 => ⟨xs, Evl.ex_l (e1.trans e2) h, Nat.le_of_eq r.length⟩
  item := fun i d Hs' H' e1 e2 hd => by
    obtain ⟨v, h1, h2⟩ := r.get hd
    refine ⟨⟨xs, v, Evl.ex_l (e1.trans e2) h, h1⟩, fun x H'' hy => ?_⟩
    obtain ⟨e3, h3⟩ := hy
    subst e3
    have h4 := h3 xs (Evl.ex_l (e1.trans e2) h)
    rw [h1] at h4
    cases h4
    exact ⟨Hs', Gr.refl e2, h2.mono e1⟩
theorem wk_tup {K : PySem.W.Frag} {Hs : Hp} {p : Addr} {xs : List V} (h : SqT K Hs p xs) (r : RpA K Hs xs ds) : Wk K Hs (Itt K p) ds where
  stop := fun Hs' H' e1 e2 => ⟨xs, Evl.ex_t (e1.trans e2) h, Nat.le_of_eq r.length⟩
  item := fun i d Hs' H' e1 e2 hd => by
    obtain ⟨v, h1, h2⟩ := r.get hd
    refine ⟨⟨xs, v, Evl.ex_t (e1.trans e2) h, h1⟩, fun x H'' hy => ?_⟩
    obtain ⟨e3, h3⟩ := hy
    subst e3
    have h4 := h3 xs (Evl.ex_t (e1.trans e2) h)
    rw [h1] at h4
    cases h4
    exact ⟨Hs', Gr.refl e2, h2.mono e1⟩
theorem ei_lst {tg : Expr} (h : Ev X Γ e (.lst ds)) : EvI X Γ tg e ds := ei_of (pi_list pe_r) fun B σ Hs H S R k => h B σ Hs H S _ fun v Hs1 H1 g1 r1 => by
  cases r1 with
  | @lst p xs _ h1 h2 => exact ⟨p, rfl, ⟨xs, Evl.sq_of (g1.i _ _ h1)⟩, k _ Hs1 H1 g1 (wk_list (Evl.sq_of h1) h2)⟩
theorem ei_tup {tg : Expr} (h : Ev X Γ e (.tup ds)) : EvI X Γ tg e ds := ei_of (pi_tup pe_r) fun B σ Hs H S R k => h B σ Hs H S _ fun v Hs1 H1 g1 r1 => by
  cases r1 with
  | @tup p xs _ h1 h2 => exact ⟨p, rfl, ⟨xs, Evl.ex_t g1.i h1⟩, k _ Hs1 H1 g1 (wk_tup h1 h2)⟩
theorem ei_scr {tg : Expr} {ns : List Int} (h : Ev X Γ e (.scr ns)) : EvI X Γ tg e (ns.map Dt.int) := ei_of (pi_list pe_r) fun B σ Hs H S R k => h B σ Hs H S _ fun v Hs1 H1 g1 r1 => by
  cases r1 with
  | @scr p _ h1 => exact ⟨p, rfl, ⟨_, Evl.ex_l g1.i h1⟩, k _ Hs1 H1 g1 (wk_list h1 (RpA.of_ints ns))⟩
/-- lo, lo + 1, .., n of them -/
def rng (lo : Int) (n : Nat) : List Dt := (List.range n).map fun k => .int (lo + (k : Nat))
theorem rng_get {lo : Int} {n i : Nat} {d : Dt} (h : (rng lo n)[i]? = some d) : i < n ∧ d = .int (lo + (i : Nat)) := by
  unfold rng at h
  rw [List.getElem?_map] at h
  by_cases q : i < n
  · rw [List.getElem?_range q] at h
    exact ⟨q, (Option.some.inj h).symm⟩
  · rw [List.getElem?_eq_none (by rw [List.length_range]; omega)] at h
    cases h
theorem rng_len {lo : Int} {n : Nat} : (rng lo n).length = n := by
  unfold rng
  rw [List.length_map, List.length_range]
theorem wk_rng {K : PySem.W.Frag} {Hs : Hp} {lo : Int} {n : Nat} : Wk K Hs (Itr lo n) (rng lo n) where
  stop := fun Hs' H' e1 e2 => by
    show n ≤ (rng lo n).length
    rw [rng_len]
    exact Nat.le_refl _
  item := fun i d Hs' H' e1 e2 hd => by
    obtain ⟨h1, h2⟩ := rng_get hd
    refine ⟨h1, fun x H'' hy => ?_⟩
    obtain ⟨e3, h3⟩ := hy
    subst e3 h3 h2
    exact ⟨Hs', Gr.refl e2, .int _⟩
theorem ei_range1 {tg : Expr} {n : Int} (hm : X.mg "range" = none) (h : EvA X Γ [a] [.int n]) (h1 : -(2 ^ 62) ≤ n) (h2 : n < 2 ^ 62) (hg : Gl X "range" := by rfl) (hs : starEach [a] X.env = [(false, eval a X.env)] := by rfl) : EvI X Γ tg (.Call (.Name "range" p) [a] [] pos) (rng 0 n.toNat) :=
  ei_of (pi_range1 hg hm pa_r hs) fun B σ Hs H S R k => h B σ Hs H S _ fun vs Hs1 H1 g1 r1 => by
    cases r1 with
    | cons r2 r3 =>
      cases r3
      cases r2
      exact ⟨n, rfl, h1, h2, k _ Hs1 H1 g1 wk_rng⟩
theorem ei_range2 {tg : Expr} {m n : Int} (hm : X.mg "range" = none) (h : EvA X Γ [a, b] [.int m, .int n]) (h0 : -(2 ^ 62) ≤ m ∧ m < 2 ^ 62 ∧ -(2 ^ 62) ≤ n ∧ n < 2 ^ 62) (hg : Gl X "range" := by rfl) (hs : starEach [a, b] X.env = [(false, eval a X.env), (false, eval b X.env)] := by rfl) (hs2 : starEach [b] X.env = [(false, eval b X.env)] := by rfl) :
    EvI X Γ tg (.Call (.Name "range" p) [a, b] [] pos) (rng m (n - m).toNat) :=
  ei_of (pi_range2 hg hm pa_r hs hs2) fun B σ Hs H S R k => h B σ Hs H S _ fun vs Hs1 H1 g1 r1 => by
    cases r1 with
    | cons r2 r3 =>
      cases r3 with
      | cons r4 r5 =>
        cases r5
        cases r2
        cases r4
        exact ⟨m, n, rfl, h0, k _ Hs1 H1 g1 wk_rng⟩
/-- (0, a), (1, b), .. -/
def enm (ds : List Dt) : List Dt := (ds.zipIdx).map fun q => .tup [.int (q.2 : Nat), q.1]
theorem enm_get {i : Nat} {d : Dt} (h : (enm ds)[i]? = some d) : ∃ d', ds[i]? = some d' ∧ d = .tup [.int (i : Nat), d'] := by
  unfold enm at h
  rw [List.getElem?_map, List.getElem?_zipIdx] at h
  cases q : ds[i]? with
  | none =>
    rw [q] at h
    cases h
  | some d' =>
    rw [q] at h
    refine ⟨d', rfl, ?_⟩
    have h2 := Option.some.inj h
    rw [← h2]
    simp
theorem enm_len : (enm ds).length = ds.length := by
  unfold enm
  rw [List.length_map, List.length_zipIdx]
theorem pair_new {K : PySem.W.Frag} {Hs H : Hp} {T : Addr} {x y : V} {c d : Dt} (i : Ex Hs H) (h : H T = none) (h1 : Rp K Hs x c) (h2 : Rp K Hs y d) : Gr Hs H (upd Hs T (.tup [x, y])) (upd H T (.tup [x, y])) ∧ Rp K (upd Hs T (.tup [x, y])) (.ref T) (.tup [c, d]) :=
  ⟨Gr.new i h, .tup (Evl.st_of upd_same) (.cons (h1.mono (Gr.new (o := .tup [x, y]) i h).s) (.cons (h2.mono (Gr.new (o := .tup [x, y]) i h).s) .nil))⟩
theorem wk_enumL {K : PySem.W.Frag} {Hs : Hp} {p : Addr} {xs : List V} (h : SqL K Hs p xs) (r : RpA K Hs xs ds) : Wk K Hs (Ite K p) (enm ds) where
  stop := fun Hs' H' e1 e2 => ⟨xs, Evl.ex_l (e1.trans e2) h, by rw [enm_len]; exact Nat.le_of_eq r.length⟩
  item := fun i d Hs' H' e1 e2 hd => by
    obtain ⟨d', h0, ed⟩ := enm_get hd
    obtain ⟨v, h1, h2⟩ := r.get h0
    refine ⟨⟨xs, v, Evl.ex_l (e1.trans e2) h, h1⟩, fun x H'' hy => ?_⟩
    obtain ⟨T, y, e3, hT, e4, h3⟩ := hy
    have h4 := h3 xs (Evl.ex_l (e1.trans e2) h)
    rw [h1] at h4
    cases h4
    subst e3 e4 ed
    obtain ⟨g, q⟩ := pair_new e2 hT (.int _) (h2.mono e1)
    exact ⟨_, g, q⟩
theorem wk_enumT {K : PySem.W.Frag} {Hs : Hp} {p : Addr} {xs : List V} (h : SqT K Hs p xs) (r : RpA K Hs xs ds) : Wk K Hs (IteT K p) (enm ds) where
  stop := fun Hs' H' e1 e2 => ⟨xs, Evl.ex_t (e1.trans e2) h, by rw [enm_len]; exact Nat.le_of_eq r.length⟩
  item := fun i d Hs' H' e1 e2 hd => by
    obtain ⟨d', h0, ed⟩ := enm_get hd
    obtain ⟨v, h1, h2⟩ := r.get h0
    refine ⟨⟨xs, v, Evl.ex_t (e1.trans e2) h, h1⟩, fun x H'' hy => ?_⟩
    obtain ⟨T, y, e3, hT, e4, h3⟩ := hy
    have h4 := h3 xs (Evl.ex_t (e1.trans e2) h)
    rw [h1] at h4
    cases h4
    subst e3 e4 ed
    obtain ⟨g, q⟩ := pair_new e2 hT (.int _) (h2.mono e1)
    exact ⟨_, g, q⟩
theorem ei_enumL {elts : List Expr} {kk : Nat} {tpos : Pos} (hm : X.mg "enumerate" = none) (h : EvA X Γ [e] [.lst ds]) (hg : Gl X "enumerate" := by rfl) (hs : starEach [e] X.env = [(false, eval e X.env)] := by rfl) : EvI X Γ (.Tuple elts kk tpos) (.Call (.Name "enumerate" p) [e] [] pos) (enm ds) :=
  ei_of (pi_enum hg hm pa_r hs) fun B σ Hs H S R k => h B σ Hs H S _ fun vs Hs1 H1 g1 r1 => by
    cases r1 with
    | cons r2 r3 =>
      cases r3
      cases r2 with
      | @lst p xs _ h1 h2 => exact ⟨p, xs, rfl, Evl.sq_of (g1.i _ _ h1), k _ Hs1 H1 g1 (wk_enumL (Evl.sq_of h1) h2)⟩
theorem ei_enumT {elts : List Expr} {kk : Nat} {tpos : Pos} (hm : X.mg "enumerate" = none) (h : EvA X Γ [e] [.tup ds]) (hg : Gl X "enumerate" := by rfl) (hs : starEach [e] X.env = [(false, eval e X.env)] := by rfl) : EvI X Γ (.Tuple elts kk tpos) (.Call (.Name "enumerate" p) [e] [] pos) (enm ds) :=
  ei_of (pi_enumT hg hm pa_r hs) fun B σ Hs H S R k => h B σ Hs H S _ fun vs Hs1 H1 g1 r1 => by
    cases r1 with
    | cons r2 r3 =>
      cases r3
      cases r2 with
      | @tup p xs _ h1 h2 => exact ⟨p, xs, rfl, Evl.ex_t g1.i h1, k _ Hs1 H1 g1 (wk_enumT h1 h2)⟩
/-! ### targets -/
def RunG (X : Cx) (tg : Expr) : TG := fun v σ H Q => ∀ pins s u, Inv X pins σ H s → RelV v u → wpAny (model X.prog X.w) X.A (assign tg X.env u) (fun _ s' => ∃ σ' H', Inv X pins σ' H' s' ∧ Q σ' H') X.xe s
theorem pg_r {tg : Expr} : PG X tg (RunG X tg) := ⟨fun pins s σ H v u Q I r h => h pins s u I r⟩
def TgR (K : PySem.W.Frag) (g : TG) (Γ : Gam) (d : Dt) (Γ' : Gam) : Prop := ∀ (B : Bs) (σ : L2.St) (Hs H : Hp) (v : V), Sat K B Γ σ Hs H → Rp K Hs v d → ∀ Q : L2.St → Hp → Prop, (∀ σ', Sat K B Γ' σ' Hs H → Q σ' H) → g v σ H Q
def Tg (X : Cx) (Γ : Gam) (tg : Expr) (d : Dt) (Γ' : Gam) : Prop := TgR X.K (RunG X tg) Γ d Γ'
theorem tg_of {tg : Expr} {g : TG} {Γ' : Gam} (h : PG X tg g) (q : TgR X.K g Γ d Γ') : Tg X Γ tg d Γ' := fun B σ Hs H v S r Q k pins s u I ru => h.run pins s σ H v u Q I ru (q B σ Hs H v S r Q k)
theorem tg_name (i : Nat) {n : Str} (hN : X.N.Nodup) (hi : X.N[i]? = some n := by rfl) (hx : Loc X.env.scope n := by first | exact Or.inl rfl | exact Or.inr rfl) (hf : X.fn n = true ∨ X.env.scope.names.lookup n = some .local := by first | exact .inl rfl | exact .inr rfl) : Tg X Γ (.Name n pos) d (Γ.set i (some (.dat d))) :=
  tg_of (pg_name hN hi hx hf) fun B σ Hs H v S r Q k => k _ (S.put r)
theorem tg_tup2 {t1 t2 : Expr} {kk : Nat} {d1 d2 : Dt} {Γ1 Γ2 : Gam} (hc : X.calm = true) (h1 : Tg X Γ t1 d1 Γ1) (h2 : Tg X Γ1 t2 d2 Γ2) (hn : (assignEach [t1, t2] X.env).length = 2 := by rfl) (hst : (assignEach [t1, t2] X.env).findIdx? (·.1) = none := by rfl)
    (a1 : assignEach [t1, t2] X.env = (false, assign t1 X.env) :: assignEach [t2] X.env := by rfl) (a2 : assignEach [t2] X.env = (false, assign t2 X.env) :: assignEach [] X.env := by rfl) : Tg X Γ (.Tuple [t1, t2] kk pos) (.tup [d1, d2]) Γ2 :=
  tg_of (pg_tup hc (pgs_cons pg_r (pgs_cons pg_r pgs_nil (by rw [a2] <;> rfl)) (by rw [a1] <;> rfl)) hn hst) fun B σ Hs H v S r Q k => by
    cases r with
    | @tup p xs _ q1 q2 =>
      cases q2 with
      | cons r1 r2 =>
        cases r2 with
        | cons r3 r4 =>
          cases r4
          exact ⟨p, _, rfl, Evl.ex_t S.i q1, rfl, _, _, rfl, h1 B σ Hs H _ S r1 _ fun σ1 S1 => ⟨_, _, rfl, h2 B σ1 Hs H _ S1 r3 _ fun σ2 S2 => ⟨rfl, k σ2 S2⟩⟩⟩
end
end G

set_option Elab.async false
set_option linter.all false
set_option maxRecDepth 100000
set_option maxHeartbeats 2000000
namespace G
open PySem PySem.Spec PyProof.Rows L2
open Evl (Ex)
/-! ### comprehensions -/
def wipeG (Γ : Gam) : List Nat → Gam
  | [] => Γ
  | v :: vs => (wipeG Γ vs).set v none
theorem wipeG_len (Γ : Gam) : ∀ vs : List Nat, (wipeG Γ vs).length = Γ.length
  | [] => rfl
  | v :: vs => by
    unfold wipeG
    rw [List.length_set, wipeG_len Γ vs]
theorem wipeG_some {Γ : Gam} {i : Nat} {x : Ent} : ∀ {vs : List Nat}, (wipeG Γ vs)[i]? = some (some x) → Γ[i]? = some (some x) ∧ i ∉ vs
  | [], h => ⟨h, by simp⟩
  | v :: vs, h => by
    rcases set_get h with ⟨_, e2, _⟩ | ⟨e1, e2⟩
    · cases e2
    · obtain ⟨h1, h2⟩ := wipeG_some e2
      refine ⟨h1, fun q => ?_⟩
      rcases List.mem_cons.mp q with z | z
      · exact e1 z.symm
      · exact h2 z
theorem Sat.wipe {K : PySem.W.Frag} {B : Bs} {Γ : Gam} {σ : L2.St} {Hs H : Hp} (S : Sat K B Γ σ Hs H) (vs : List Nat) : Sat K B (wipeG Γ vs) (L2.wipe σ vs) Hs H where
  len := by rw [wipeG_len, L2.wipe_length, S.len]
  i := S.i
  s0 := S.s0
  e0 := S.e0
  t0 := S.t0
  n0 := S.n0
  dat := fun i d h => by
    obtain ⟨h1, h2⟩ := wipeG_some h
    obtain ⟨v, k1, k2⟩ := S.dat i d h1
    exact ⟨v, by rw [L2.wipe_out h2]; exact k1, k2⟩
  own := fun i m ds h => by
    obtain ⟨h1, h2⟩ := wipeG_some h
    obtain ⟨l, xs, k1, k2⟩ := S.own i m ds h1
    exact ⟨l, xs, by rw [L2.wipe_out h2]; exact k1, k2⟩
  sep := fun i j l m m' ds es h1 h2 h3 h4 => by
    obtain ⟨k1, n1⟩ := wipeG_some h1
    obtain ⟨k2, n2⟩ := wipeG_some h2
    rw [L2.wipe_out n1] at h3
    rw [L2.wipe_out n2] at h4
    exact S.sep i j l m m' ds es k1 k2 h3 h4
/-- the block of a comprehension, whatever its frame -/
abbrev Cb (X : Cx) (scope : Scope) (q : Shared × Hp × Addr × List (Str × Addr) × List Addr) : Cx := X.blk q.1 q.2.1 scope (compEnvC scope q.2.2.2.1 q.2.2.1 X.env) q.2.2.2.2
def RunEb (X : Cx) (scope : Scope) (e : Expr) : TE := fun σ H Q => ∀ q, RunE (Cb X scope q) e σ H Q
def RunTb (X : Cx) (scope : Scope) (e : Expr) : TT := fun σ H Q => ∀ q, RunT (Cb X scope q) e σ H Q
def RunGb (X : Cx) (scope : Scope) (e : Expr) : TG := fun v σ H Q => ∀ q, RunG (Cb X scope q) e v σ H Q
/-- what the comprehension has made so far -/
structure Lw (K : PySem.W.Frag) (Hs1 H1 : Hp) (D : Addr) (ds : List Dt) (H : Hp) : Prop where
  ex : ∃ Hs acc, Gr Hs1 H1 Hs H ∧ H1 D = none ∧ Hs D = none ∧ H D = some (.lst acc) ∧ RpA K Hs acc ds
theorem enr_lc {K : PySem.W.Frag} {Γ : Gam} {wi : TI} {g : TG} {tt : TT} {te : TE} {vs : List Nat} {ds : List Dt} (f : Dt → Bool) (v : Dt → Dt) (hi : EvIR K wi Γ ds) (hl : ds.length < 100000)
    (hg : ∀ d ∈ ds, ∃ Γ2 : Gam, (∀ (B : Bs) (σ : L2.St) (Hs H : Hp) (x : V), Sat K B (wipeG Γ vs) (L2.wipe σ vs) Hs H → Rp K Hs x d → ∀ Q : L2.St → Hp → Prop, (∀ σ', Sat K B Γ2 σ' Hs H → L2.wipe σ' vs = L2.wipe σ vs → Q σ' H) → g x (L2.wipe σ vs) H Q) ∧
      EvTR K tt Γ2 (f d) ∧ (f d = true → EvR K te Γ2 (v d))) : EvNR K (tLc wi g tt te vs) Γ ((ds.filter f).map v) := by
  intro B σ Hs H S Q k
  refine hi B σ Hs H S _ fun J Hs1 H1 g1 w => ?_
  intro D hD
  have S1 := S.step g1
  refine ⟨fun i m H' => m = ds.length - i ∧ i ≤ ds.length ∧ Lw K Hs1 H1 D (((ds.take i).filter f).map v) H', ⟨ds.length, rfl, Nat.zero_le _, ⟨Hs1, [], Gr.wide g1.i (Ex.new hD), hD, ex_none g1.i hD, upd_same, .nil⟩⟩, ?_⟩
  rintro i m H' ⟨rfl, hi', ⟨Hs', acc, g2, n1, n2, hacc, ra⟩⟩
  by_cases hlt : i < ds.length
  · have hd : ds[i]? = some ds[i] := List.getElem?_eq_getElem hlt
    obtain ⟨go, yl⟩ := w.item i ds[i] Hs' H' g2.s g2.i hd
    refine .inr ⟨go, fun H2 => Lw K Hs1 H1 D (((ds.take (i + 1)).filter f).map v) H2, fun H2 h2 => ⟨ds.length - (i + 1), by omega, rfl, hlt, h2⟩, fun x H'' hy => ?_⟩
    obtain ⟨Hs2, g3, rx⟩ := yl x H'' hy
    obtain ⟨Γ2, q1, q2, q3⟩ := hg ds[i] (List.getElem_mem hlt)
    have S2 : Sat K B Γ σ Hs2 H'' := S1.step (g2.trans g3)
    refine q1 B σ Hs2 H'' x (S2.wipe vs) rx _ fun σ' S3 hw => ⟨hw, ?_⟩
    have hD2 : Hs2 D = none := by
      cases z : Hs2 D with
      | none => rfl
      | some u =>
        have := g3.n D u z n2
        rw [hacc] at this
        cases this
    have tk : ((ds.take (i + 1)).filter f).map v = ((ds.take i).filter f).map v ++ (if f ds[i] then [v ds[i]] else []) := by
      rw [List.take_succ, hd]
      show (((ds.take i) ++ [ds[i]]).filter f).map v = _
      rw [List.filter_append, List.map_append]
      congr 1
      cases h : f ds[i] <;> simp [h]
    refine q2 B σ' Hs2 H'' S3 _ fun Hs3 H3 g4 => ?_
    have hD3 : Hs3 D = none := by
      cases z : Hs3 D with
      | none => rfl
      | some u =>
        have := g4.n D u z hD2
        rw [g3.e D _ hacc] at this
        cases this
    cases hf : f ds[i] with
    | false =>
      show Lw K Hs1 H1 D _ H3
      rw [tk, hf]
      refine ⟨Hs3, acc, g2.trans (g3.trans g4), n1, hD3, g4.e D _ (g3.e D _ hacc), ?_⟩
      show RpA K Hs3 acc (_ ++ [])
      rw [List.append_nil]
      exact ra.mono (g3.s.trans g4.s)
    | true =>
      show te σ' H3 _
      refine q3 hf B σ' Hs3 H3 (S3.step g4) _ fun y Hs4 H4 g5 ry => ?_
      have hD4 : Hs4 D = none := by
        cases z : Hs4 D with
        | none => rfl
        | some u =>
          have := g5.n D u z hD3
          rw [g4.e D _ (g3.e D _ hacc)] at this
          cases this
      have len : acc.length ≤ i := by
        rw [ra.length, List.length_map]
        exact Nat.le_trans (List.length_filter_le _ _) (by rw [List.length_take]; omega)
      refine ⟨acc, g5.e D _ (g4.e D _ (g3.e D _ hacc)), Evl.sz_lt (by omega), ?_⟩
      show Lw K Hs1 H1 D _ (upd H4 D (.lst (acc ++ [y])))
      rw [tk, hf]
      have g6 := g2.trans (g3.trans (g4.trans g5))
      refine ⟨Hs4, acc ++ [y], ⟨g6.s, fun a u q => ?_, fun a u q => ?_, g6.n⟩, n1, hD4, upd_same, (ra.mono (g3.s.trans (g4.s.trans g5.s))).append (.cons ry .nil)⟩
      · rw [upd_ne (fun z => by rw [z, hD4] at q; cases q)]
        exact g6.i a u q
      · rw [upd_ne (fun z => by rw [z, n1] at q; cases q)]
        exact g6.e a u q
  · have ei : i = ds.length := by omega
    subst ei
    refine .inl ⟨w.stop Hs' H' g2.s g2.i, ?_⟩
    rw [List.take_length] at ra
    exact k D acc Hs' H' (g1.trans g2) (ex_none g1.e n1) n2 hacc ra
section
variable {X : Cx} {Γ : Gam} {e a b c : Expr} {es : List Expr} {x y z d : Dt} {ds : List Dt} {pos p : Pos}
/-- the one name of a comprehension's target, in slot i -/
structure Tn (Γ : Gam) (i : Nat) : Prop where
  lt : i < Γ.length
theorem wipe1 (σ : L2.St) (i : Nat) (x : V) : L2.wipe ((L2.wipe σ [i]).set i (some x)) [i] = L2.wipe σ [i] := by
  show ((σ.set i none).set i (some x)).set i none = σ.set i none
  rw [List.set_set, List.set_set]
theorem wipe2 (σ : L2.St) (i j : Nat) (x y : V) (h : i ≠ j) : L2.wipe (((L2.wipe σ [i, j]).set i (some x)).set j (some y)) [i, j] = L2.wipe σ [i, j] := by
  show (((((σ.set j none).set i none).set i (some x)).set j (some y)).set j none).set i none = (σ.set j none).set i none
  rw [List.set_set, List.set_set, List.set_comm _ _ h, List.set_set, List.set_set]
/-- [elt for n in iter], n in slot i -/
theorem en_lcM {elt iter : Expr} {scope : Scope} {n : Str} {i : Nat} {pn : Pos} (v : Dt → Dt) (hc : X.calm = true) (hN : X.N.Nodup) (hi : EvI X Γ (.Name n pn) iter ds) (hl : ds.length < 100000) (ok : blkC X.N X.env.scope scope [(n, i)] = true)
    (he : ∀ d ∈ ds, ∀ q, Ev (Cb X scope q) ((wipeG Γ [i]).set i (some (.dat d))) elt (v d))
    (hni : X.N[i]? = some n := by rfl) (hx : ∀ q, Loc (Cb X scope q).env.scope n := by intro _; first | exact Or.inl rfl | exact Or.inr rfl) (hf : ∀ q, (Cb X scope q).fn n = true ∨ (Cb X scope q).env.scope.names.lookup n = some .local := by intro _; first | exact .inl rfl | exact .inr rfl) (hs : ∀ x, foldedSetIterable iter X.env x = pure x := by intro _; rfl) :
    EvN X Γ (.ListComp elt [⟨.Name n pn, iter, [], 0⟩] scope pos) (ds.map v) := by
  have h0 := enr_lc (K := X.K) (Γ := Γ) (wi := RunI X (.Name n pn) iter) (g := gName i) (tt := tYes) (te := RunEb X scope elt) (vs := [i]) (ds := ds) (fun _ => true) v hi hl (fun d hd => ⟨(wipeG Γ [i]).set i (some (.dat d)), fun B σ Hs H x S r Q k => k _ (S.put r) (wipe1 σ i x), fun B σ Hs H S Q k => k Hs H (Gr.refl S.i), fun _ B σ Hs H S Q k q => he d hd q B σ Hs H S Q k⟩)
  rw [List.filter_eq_self.mpr fun _ _ => rfl] at h0
  exact en_of (pe_lc (own := [(n, i)]) hc hN pi_r (blkOk_by ok) (fun s H C cl fp => pg_name hN hni (hx (s, H, C, cl, fp)) (hf (s, H, C, cl, fp))) (fun _ _ _ _ _ => pts_nil) (fun s H C cl fp => ⟨fun pins t σ' H' Q I h => h (s, H, C, cl, fp) pins t I⟩) hs) h0
/-- [elt for n in iter if t] -/
theorem en_lcF {elt iter t : Expr} {scope : Scope} {n : Str} {i : Nat} {pn : Pos} (f : Dt → Bool) (v : Dt → Dt) (hc : X.calm = true) (hN : X.N.Nodup) (hi : EvI X Γ (.Name n pn) iter ds) (hl : ds.length < 100000) (ok : blkC X.N X.env.scope scope [(n, i)] = true)
    (ht : ∀ d ∈ ds, ∀ q, EvT (Cb X scope q) ((wipeG Γ [i]).set i (some (.dat d))) t (f d)) (he : ∀ d ∈ ds, f d = true → ∀ q, Ev (Cb X scope q) ((wipeG Γ [i]).set i (some (.dat d))) elt (v d))
    (hni : X.N[i]? = some n := by rfl) (hx : ∀ q, Loc (Cb X scope q).env.scope n := by intro _; first | exact Or.inl rfl | exact Or.inr rfl) (hf : ∀ q, (Cb X scope q).fn n = true ∨ (Cb X scope q).env.scope.names.lookup n = some .local := by intro _; first | exact .inl rfl | exact .inr rfl) (hs : ∀ x, foldedSetIterable iter X.env x = pure x := by intro _; rfl) :
    EvN X Γ (.ListComp elt [⟨.Name n pn, iter, [t], 0⟩] scope pos) ((ds.filter f).map v) := by
  have h0 := enr_lc (K := X.K) (Γ := Γ) (wi := RunI X (.Name n pn) iter) (g := gName i) (tt := RunTb X scope t) (te := RunEb X scope elt) (vs := [i]) (ds := ds) f v hi hl (fun d hd => ⟨(wipeG Γ [i]).set i (some (.dat d)), fun B σ Hs H x S r Q k => k _ (S.put r) (wipe1 σ i x), fun B σ Hs H S Q k q => ht d hd q B σ Hs H S Q k, fun hf B σ Hs H S Q k q => he d hd hf q B σ Hs H S Q k⟩)
  exact en_of (pe_lc (own := [(n, i)]) hc hN pi_r (blkOk_by ok) (fun s H C cl fp => pg_name hN hni (hx (s, H, C, cl, fp)) (hf (s, H, C, cl, fp))) (fun s H C cl fp => pts_one ⟨fun pins t σ' H' Q I h => h (s, H, C, cl, fp) pins t I⟩) (fun s H C cl fp => ⟨fun pins t σ' H' Q I h => h (s, H, C, cl, fp) pins t I⟩) hs) h0
/-- [elt for n, m in iter if t], the items pairs -/
theorem en_lcF2 {elt iter t : Expr} {scope : Scope} {n m : Str} {i j kk : Nat} {pn pm pt : Pos} (f : Dt → Bool) (v : Dt → Dt) (hc : X.calm = true) (hN : X.N.Nodup) (hij : i ≠ j) (hi : EvI X Γ (.Tuple [.Name n pn, .Name m pm] kk pt) iter ds) (hl : ds.length < 100000) (ok : blkC X.N X.env.scope scope [(n, i), (m, j)] = true)
    (hd : ∀ d ∈ ds, ∃ d1 d2, d = .tup [d1, d2] ∧ (∀ q, EvT (Cb X scope q) (((wipeG Γ [i, j]).set i (some (.dat d1))).set j (some (.dat d2))) t (f d)) ∧ (f d = true → ∀ q, Ev (Cb X scope q) (((wipeG Γ [i, j]).set i (some (.dat d1))).set j (some (.dat d2))) elt (v d)))
    (hni : X.N[i]? = some n := by rfl) (hnj : X.N[j]? = some m := by rfl) (hx : ∀ q, Loc (Cb X scope q).env.scope n := by intro _; first | exact Or.inl rfl | exact Or.inr rfl) (hf : ∀ q, (Cb X scope q).fn n = true ∨ (Cb X scope q).env.scope.names.lookup n = some .local := by intro _; first | exact .inl rfl | exact .inr rfl)
    (hx2 : ∀ q, Loc (Cb X scope q).env.scope m := by intro _; first | exact Or.inl rfl | exact Or.inr rfl) (hf2 : ∀ q, (Cb X scope q).fn m = true ∨ (Cb X scope q).env.scope.names.lookup m = some .local := by intro _; first | exact .inl rfl | exact .inr rfl) (hs : ∀ x, foldedSetIterable iter X.env x = pure x := by intro _; rfl) :
    EvN X Γ (.ListComp elt [⟨.Tuple [.Name n pn, .Name m pm] kk pt, iter, [t], 0⟩] scope pos) ((ds.filter f).map v) := by
  have h0 := enr_lc (K := X.K) (Γ := Γ) (wi := RunI X (.Tuple [.Name n pn, .Name m pm] kk pt) iter) (g := gTup X.K 2 (gCons (gName i) (gCons (gName j) gNil))) (tt := RunTb X scope t) (te := RunEb X scope elt) (vs := [i, j]) (ds := ds) f v hi hl (fun d hd' => by
    obtain ⟨d1, d2, ed, ht, he⟩ := hd d hd'
    refine ⟨((wipeG Γ [i, j]).set i (some (.dat d1))).set j (some (.dat d2)), fun B σ Hs H x S r Q k => ?_, fun B σ Hs H S Q k q => ht q B σ Hs H S Q k, fun hf B σ Hs H S Q k q => he hf q B σ Hs H S Q k⟩
    subst ed
    cases r with
    | @tup p xs _ q1 q2 =>
      cases q2 with
      | cons r1 r2 =>
        cases r2 with
        | cons r3 r4 =>
          cases r4
          exact ⟨p, _, rfl, Evl.ex_t S.i q1, rfl, _, _, rfl, _, _, rfl, rfl, k _ ((S.put r1).put r3) (wipe2 σ i j _ _ hij)⟩)
  exact en_of (pe_lc (own := [(n, i), (m, j)]) hc hN pi_r (blkOk_by ok) (fun s H C cl fp => pg_tup (X := Cb X scope (s, H, C, cl, fp)) hc (pgs_cons (pg_name hN hni (hx (s, H, C, cl, fp)) (hf (s, H, C, cl, fp))) (pgs_cons (pg_name hN hnj (hx2 (s, H, C, cl, fp)) (hf2 (s, H, C, cl, fp))) pgs_nil))) (fun s H C cl fp => pts_one ⟨fun pins t σ' H' Q I h => h (s, H, C, cl, fp) pins t I⟩) (fun s H C cl fp => ⟨fun pins t σ' H' Q I h => h (s, H, C, cl, fp) pins t I⟩) hs) h0
end
end G

set_option Elab.async false
set_option linter.all false
set_option maxRecDepth 100000
set_option maxHeartbeats 2000000
namespace G
open PySem PySem.Spec PyProof.Rows L2
open Evl (Ex)
/-! ### statements -/
/-- a list that nothing else names -/
structure Frs (B : Bs) (Γ : Gam) (σ : L2.St) (Hs H : Hp) (p : Addr) (xs : List V) : Prop where
  hs : Hs p = none
  h : H p = some (.lst xs)
  b : B.H p = none ∨ B.L p
  o : ∀ (s : Nat) (m : Bool) (ps : List Dt), Γ[s]? = some (some (.ow m ps)) → σ[s]? ≠ some (some (.ref p))
theorem Frs.unbase {K : PySem.W.Frag} {B : Bs} {Γ Γ' : Gam} {σ σ' : L2.St} {Hs H Hs' H' : Hp} {p : Addr} {xs : List V} (S : Sat K B Γ σ Hs H) (F : Frs (rebase B.M Γ σ Hs H) Γ' σ' Hs' H' p xs) : Frs B Γ' σ' Hs' H' p xs where
  hs := F.hs
  h := F.h
  b := by
    rcases F.b with q | ⟨j, mj, es, k1, k2⟩
    · exact .inl (S.t0 p q)
    · obtain ⟨l', xs', m1, m2, m3, m4, m5, _⟩ := S.own j mj es k1
      rw [k2] at m1
      cases m1
      exact m5
  o := F.o
/-- rn: a new list is given back -/
structure DE where
  nx : Gam → Prop
  rt : Dt → Gam → Prop
  rn : List Dt → Gam → Prop := fun _ _ => False
  bk : Gam → Prop := fun _ => False
  ct : Gam → Prop := fun _ => False
def lift (K : PySem.W.Frag) (B : Bs) (D : DE) : Ends where
  nx := fun σ H => ∃ Γ Hs, Sat K B Γ σ Hs H ∧ D.nx Γ
  rt := fun v H => (∃ d Γ σ Hs, Sat K B Γ σ Hs H ∧ Rp K Hs v d ∧ D.rt d Γ) ∨ ∃ ds Γ σ Hs p xs, v = .ref p ∧ Sat K B Γ σ Hs H ∧ Frs B Γ σ Hs H p xs ∧ RpA K Hs xs ds ∧ D.rn ds Γ
  bk := fun σ H => ∃ Γ Hs, Sat K B Γ σ Hs H ∧ D.bk Γ
  ct := fun σ H => ∃ Γ Hs, Sat K B Γ σ Hs H ∧ D.ct Γ
def Blk (X : Cx) (Γ : Gam) (ss : List Stmt) (D : DE) : Prop := ∀ (B : Bs) (σ : L2.St) (Hs H : Hp), Sat X.K B Γ σ Hs H → RunB X ss (lift X.K B D) σ H
def Stm (X : Cx) (Γ : Gam) (st : Stmt) (D : DE) : Prop := ∀ (B : Bs) (σ : L2.St) (Hs H : Hp), Sat X.K B Γ σ Hs H → RunS X st (lift X.K B D) σ H
section
variable {X : Cx}
theorem sp_mono {pins : List (Addr × Obj)} {D1 D2 : Ends} {f : Flow} {s : Shared} (h1 : ∀ σ H, D1.nx σ H → D2.nx σ H) (h2 : ∀ v H, D1.rt v H → D2.rt v H) (h3 : ∀ σ H, D1.bk σ H → D2.bk σ H) (h4 : ∀ σ H, D1.ct σ H → D2.ct σ H) (h : SP X pins D1 f s) : SP X pins D2 f s := by
  cases f with
  | next =>
    obtain ⟨σ, H, I, q⟩ := h
    exact ⟨σ, H, I, h1 _ _ q⟩
  | brk =>
    obtain ⟨σ, H, I, q⟩ := h
    exact ⟨σ, H, I, h3 _ _ q⟩
  | cont =>
    obtain ⟨σ, H, I, q⟩ := h
    exact ⟨σ, H, I, h4 _ _ q⟩
  | ret u =>
    obtain ⟨v, σ, H, I, r, q⟩ := h
    exact ⟨v, σ, H, I, r, h2 _ _ q⟩
theorem RunS.mono {st : Stmt} {D1 D2 : Ends} {σ : L2.St} {H : Hp} (h : RunS X st D1 σ H) (h1 : ∀ σ H, D1.nx σ H → D2.nx σ H) (h2 : ∀ v H, D1.rt v H → D2.rt v H) (h3 : ∀ σ H, D1.bk σ H → D2.bk σ H) (h4 : ∀ σ H, D1.ct σ H → D2.ct σ H) : RunS X st D2 σ H := fun pins s I => thn (h pins s I) fun _ _ q => sp_mono h1 h2 h3 h4 q
theorem RunB.mono {st : List Stmt} {D1 D2 : Ends} {σ : L2.St} {H : Hp} (h : RunB X st D1 σ H) (h1 : ∀ σ H, D1.nx σ H → D2.nx σ H) (h2 : ∀ v H, D1.rt v H → D2.rt v H) (h3 : ∀ σ H, D1.bk σ H → D2.bk σ H) (h4 : ∀ σ H, D1.ct σ H → D2.ct σ H) : RunB X st D2 σ H := fun pins s I => thn (h pins s I) fun _ _ q => sp_mono h1 h2 h3 h4 q
variable {Γ : Gam} {D : DE} {st : Stmt} {ss : List Stmt} {e a b c : Expr} {es : List Expr} {d : Dt} {ds : List Dt} {pos p : Pos} {k : Bool}
theorem stm_of {t : TS} (h : PS X st t) (q : ∀ (B : Bs) (σ : L2.St) (Hs H : Hp), Sat X.K B Γ σ Hs H → t (lift X.K B D) σ H) : Stm X Γ st D := fun B σ Hs H S pins s I => h.run pins s σ H _ I (q B σ Hs H S)
theorem blk_nil (h : D.nx Γ) : Blk X Γ [] D := fun B σ Hs H S pins s I => pss_nil.run pins s σ H (lift X.K B D) I ⟨Γ, Hs, S, h⟩
theorem blk_cons (h : Stm X Γ st { D with nx := fun Γ' => Blk X Γ' ss D }) : Blk X Γ (st :: ss) D := fun B σ Hs H S pins s I =>
  (pss_cons (ps_r (X := X) (st := st)) (pss_r (X := X) (ss := ss))).run pins s σ H (lift X.K B D) I
    (RunS.mono (h B σ Hs H S) (fun σ' H' ⟨Γ', Hs', S', q⟩ => q B σ' Hs' H' S') (fun _ _ q => q) (fun _ _ q => q) (fun _ _ q => q))
theorem blk_one (h : Stm X Γ st D) : Blk X Γ [st] D := fun B σ Hs H S pins s I => (pss_one (ps_r (X := X) (st := st))).run pins s σ H (lift X.K B D) I (h B σ Hs H S)
theorem Stm.mono {D' : DE} (h : Stm X Γ st D) (h1 : ∀ Γ, D.nx Γ → D'.nx Γ) (h2 : ∀ d Γ, D.rt d Γ → D'.rt d Γ) (h2' : ∀ ds Γ, D.rn ds Γ → D'.rn ds Γ) (h3 : ∀ Γ, D.bk Γ → D'.bk Γ) (h4 : ∀ Γ, D.ct Γ → D'.ct Γ) : Stm X Γ st D' := fun B σ Hs H S => RunS.mono (h B σ Hs H S) (fun _ _ ⟨Γ', Hs', S', q⟩ => ⟨Γ', Hs', S', h1 _ q⟩) (fun _ _ q => by
    rcases q with ⟨d, Γ', σ, Hs', S', r, q⟩ | ⟨ds, Γ', σ, Hs', p, xs, e, S', f, r, q⟩
    · exact .inl ⟨d, Γ', σ, Hs', S', r, h2 _ _ q⟩
    · exact .inr ⟨ds, Γ', σ, Hs', p, xs, e, S', f, r, h2' _ _ q⟩) (fun _ _ ⟨Γ', Hs', S', q⟩ => ⟨Γ', Hs', S', h3 _ q⟩) (fun _ _ ⟨Γ', Hs', S', q⟩ => ⟨Γ', Hs', S', h4 _ q⟩)
theorem Blk.mono {D' : DE} (h : Blk X Γ ss D) (h1 : ∀ Γ, D.nx Γ → D'.nx Γ) (h2 : ∀ d Γ, D.rt d Γ → D'.rt d Γ) (h2' : ∀ ds Γ, D.rn ds Γ → D'.rn ds Γ) (h3 : ∀ Γ, D.bk Γ → D'.bk Γ) (h4 : ∀ Γ, D.ct Γ → D'.ct Γ) : Blk X Γ ss D' := fun B σ Hs H S => RunB.mono (h B σ Hs H S) (fun _ _ ⟨Γ', Hs', S', q⟩ => ⟨Γ', Hs', S', h1 _ q⟩) (fun _ _ q => by
    rcases q with ⟨d, Γ', σ, Hs', S', r, q⟩ | ⟨ds, Γ', σ, Hs', p, xs, e, S', f, r, q⟩
    · exact .inl ⟨d, Γ', σ, Hs', S', r, h2 _ _ q⟩
    · exact .inr ⟨ds, Γ', σ, Hs', p, xs, e, S', f, r, h2' _ _ q⟩) (fun _ _ ⟨Γ', Hs', S', q⟩ => ⟨Γ', Hs', S', h3 _ q⟩) (fun _ _ ⟨Γ', Hs', S', q⟩ => ⟨Γ', Hs', S', h4 _ q⟩)
/-- a statement, a word M behind it, the rest from there -/
theorem blk_mid (M : Gam → Prop) (h : Stm X Γ st { D with nx := M }) (q : ∀ Γ', M Γ' → Blk X Γ' ss D) : Blk X Γ (st :: ss) D := blk_cons (h.mono (fun Γ' m => q Γ' m) (fun _ _ z => z) (fun _ _ z => z) (fun _ z => z) (fun _ z => z))
/-- one's own list in slot i is from here on a datum -/
theorem blk_freeze (i : Nat) {m : Bool} (hi : Γ[i]? = some (some (.ow m ds))) (h : Blk X (Γ.set i (some (.dat (.lst ds)))) ss D) : Blk X Γ ss D := fun B σ Hs H S => by
  obtain ⟨Hs', _, S'⟩ := S.freeze hi
  exact h B σ Hs' H S'
theorem blk_drop (i : Nat) (h : Blk X (Γ.set i none) ss D) : Blk X Γ ss D := fun B σ Hs H S => h B σ Hs H (S.drop i)
/-! simple statements -/
theorem asg_ev {te : TE} {i : Nat} (h : PS X st (tAsg te (gName i))) (q : EvR X.K te Γ d) (k : D.nx (Γ.set i (some (.dat d)))) : Stm X Γ st D := stm_of h fun B σ Hs H S => q B σ Hs H S _ fun v Hs1 H1 g1 r1 => ⟨_, Hs1, (S.step g1).put r1, k⟩
theorem asg_en {te : TE} {i : Nat} (h : PS X st (tAsg te (gName i))) (q : EvNR X.K te Γ ds) (k : D.nx (Γ.set i (some (.own ds)))) : Stm X Γ st D := stm_of h fun B σ Hs H S => q B σ Hs H S _ fun p xs Hs1 H1 g1 h1 h2 h3 r1 => ⟨_, Hs1, S.adopt g1 h1 h2 h3 r1, k⟩
theorem st_set (i : Nat) {n : Str} {pn : Pos} (hN : X.N.Nodup) (h : Ev X Γ e d) (k : D.nx (Γ.set i (some (.dat d)))) (hi : X.N[i]? = some n := by rfl) (hx : Loc X.env.scope n := by first | exact Or.inl rfl | exact Or.inr rfl) (hs : swapsWith e (some (.Name n pn)) pos.line X.env = pure false := by rfl)
    (hf : X.fn n = true ∨ X.env.scope.names.lookup n = some .local := by first | exact .inl rfl | exact .inr rfl) : Stm X Γ (.Assign [.Name n pn] e pos) D := asg_ev (ps_set hN hi hx pe_r hs hf) h k
theorem st_setN (i : Nat) {n : Str} {pn : Pos} (hN : X.N.Nodup) (h : EvN X Γ e ds) (k : D.nx (Γ.set i (some (.own ds)))) (hi : X.N[i]? = some n := by rfl) (hx : Loc X.env.scope n := by first | exact Or.inl rfl | exact Or.inr rfl) (hs : swapsWith e (some (.Name n pn)) pos.line X.env = pure false := by rfl)
    (hf : X.fn n = true ∨ X.env.scope.names.lookup n = some .local := by first | exact .inl rfl | exact .inr rfl) : Stm X Γ (.Assign [.Name n pn] e pos) D := asg_en (ps_set hN hi hx pe_r hs hf) h k
/-- a, b = e and the like -/
theorem st_tg {tg : Expr} {Γ' : Gam} (h : Ev X Γ e d) (ht : Tg X Γ tg d Γ') (k : D.nx Γ') (hs : swapsWithSole [tg] e pos.line X.env = pure false := by rfl) (hw : swappedStores [tg] e X.env = pure none := by rfl) (h1 : (assignEach [tg] X.env).map (·.2) = [assign tg X.env] := by rfl) : Stm X Γ (.Assign [tg] e pos) D :=
  stm_of (ps_asg pe_r pg_r hs hw h1) fun B σ Hs H S => h B σ Hs H S _ fun v Hs1 H1 g1 r1 => ht B σ Hs1 H1 v (S.step g1) r1 _ fun σ' S' => ⟨Γ', Hs1, S', k⟩
theorem st_if {aa bb : List Stmt} (h : EvT X Γ c k) (h1 : k = true → Blk X Γ aa D) (h2 : k = false → Blk X Γ bb D) : Stm X Γ (.If c aa bb pos) D := stm_of (ps_if pt_r pss_r pss_r) fun B σ Hs H S => h B σ Hs H S _ fun Hs1 H1 g1 => by
  cases k with
  | true => exact h1 rfl B σ Hs1 H1 (S.step g1)
  | false => exact h2 rfl B σ Hs1 H1 (S.step g1)
theorem st_ret (h : Ev X Γ e d) (k : D.rt d Γ) : Stm X Γ (.Return (some e) pos) D := stm_of (ps_ret pe_r) fun B σ Hs H S => h B σ Hs H S _ fun v Hs1 H1 g1 r1 => .inl ⟨d, Γ, σ, Hs1, S.step g1, r1, k⟩
/-- return e, e a new list -/
theorem st_rn (h : EvN X Γ e ds) (k : D.rn ds Γ) : Stm X Γ (.Return (some e) pos) D := stm_of (ps_ret pe_r) fun B σ Hs H S => h B σ Hs H S _ fun p xs Hs1 H1 g1 h1 h2 h3 r1 =>
  .inr ⟨ds, Γ, σ, Hs1, p, xs, rfl, S.step g1, ⟨h2, h3, .inl (S.t0 p h1), fun s m ps q e => by
    obtain ⟨l, ys, k1, k2, _⟩ := S.own s m ps q
    rw [e] at k1
    cases k1
    rw [h1] at k2
    cases k2⟩, r1, k⟩
/-- return x, x one's own list -/
theorem st_rown (i : Nat) {n : Str} {pn : Pos} (hg : Γ[i]? = some (some (.own ds))) (k : D.rn ds (Γ.set i none)) (hi : X.N[i]? = some n := by rfl) (hv : Vis X.env.scope n := by first | exact Or.inl rfl | exact Or.inr (Or.inl rfl) | exact Or.inr (Or.inr rfl)) (hd : (n == ("__debug__" : Str)) = false := by decide)
    (hcd : (n == ("__classdict__" : Str)) = false := by decide) : Stm X Γ (.Return (some (.Name n pn)) pos) D := stm_of (ps_ret (pe_var hi hv hd hcd)) fun B σ Hs H S => by
  obtain ⟨l, xs, h1, h2, h3, h4, h5, h6⟩ := S.own i _ ds hg
  refine ⟨.ref l, h1, .inr ⟨ds, Γ.set i none, σ, Hs, l, xs, rfl, S.drop i, ⟨h3, h2, h5, fun s m ps q e => ?_⟩, h4, k⟩⟩
  rcases set_get q with ⟨_, e2, _⟩ | ⟨e1, e2⟩
  · cases e2
  · exact e1 (S.sep i s l _ _ _ _ hg e2 h1 e)
theorem st_retN (k : D.rt .non Γ) : Stm X Γ (.Return none pos) D := stm_of ps_retN fun B σ Hs H S => .inl ⟨.non, Γ, σ, Hs, S, .non, k⟩
theorem st_expr (h : Ev X Γ e d) (k : D.nx Γ) (hs : swapsWith e none pos.line X.env = pure false := by rfl) : Stm X Γ (.Expr e pos) D := stm_of (ps_expr pe_r hs) fun B σ Hs H S => h B σ Hs H S _ fun v Hs1 H1 g1 r1 => ⟨Γ, Hs1, S.step g1, k⟩
theorem st_pass (k : D.nx Γ) : Stm X Γ (.Pass pos) D := stm_of ps_pass fun B σ Hs H S => ⟨Γ, Hs, S, k⟩
theorem st_break (k : D.bk Γ) : Stm X Γ (.Break pos) D := stm_of ps_break fun B σ Hs H S => ⟨Γ, Hs, S, k⟩
theorem st_cont (k : D.ct Γ) : Stm X Γ (.Continue pos) D := stm_of ps_continue fun B σ Hs H S => ⟨Γ, Hs, S, k⟩
/-- x += e, ints -/
theorem st_augI (i : Nat) {n : Str} {pn : Pos} {u v : Int} (hN : X.N.Nodup) (hg : Γ[i]? = some (some (.dat (.int u)))) (h : Ev X Γ e (.int v)) (k : D.nx (Γ.set i (some (.dat (.int (u + v)))))) (hi : X.N[i]? = some n := by rfl) (hx : Loc X.env.scope n := by first | exact Or.inl rfl | exact Or.inr rfl)
    (hf : X.fn n = true ∨ X.env.scope.names.lookup n = some .local := by first | exact .inl rfl | exact .inr rfl) : Stm X Γ (.AugAssign (.Name n pn) .Add e pos) D := stm_of (ps_aug hN hi hx pe_r ip_add hf) fun B σ Hs H S => by
  obtain ⟨w, h1, h2⟩ := S.dat i _ hg
  cases h2
  exact ⟨_, h1, h B σ Hs H S _ fun w Hs1 H1 g1 r1 => by
    cases r1
    exact ⟨u, v, rfl, rfl, _, Hs1, (S.step g1).put (.int _), k⟩⟩
/-! one's own lists changed -/
theorem st_app (i : Nat) {m : Bool} {n : Str} {pn apos cpos : Pos} (hg : Γ[i]? = some (some (.ow m ds))) (h : Ev X Γ e d) (hl : ds.length < 100000) (k : D.nx (Γ.set i (some (.ow m (ds ++ [d]))))) (hi : X.N[i]? = some n := by rfl) (hv : Vis X.env.scope n := by first | exact Or.inl rfl | exact Or.inr (Or.inl rfl) | exact Or.inr (Or.inr rfl))
    (hd : (n == ("__debug__" : Str)) = false := by decide) (hcd : (n == ("__classdict__" : Str)) = false := by decide) (hs : swapsWith (.Call (.Attribute (.Name n pn) "append" apos) [e] [] cpos) none pos.line X.env = pure false := by rfl)
    (hbase : attributeBase (.Name n pn) "append" X.env (eval (.Name n pn) X.env) = eval (.Name n pn) X.env := by rfl)
    (hfew : ((backTo cpos (starEach [e] X.env)).all (fun x => !x.1) && (backToKw cpos (keywordEach [] X.env)).all (fun x => x.1.isSome) && decide ([e].length + ([] : List Keyword).length + (if ([] : List Keyword).isEmpty then 0 else 1) < 30)) = true := by rfl)
    (hline : (apos.endLine == cpos.line) = true := by rfl) (hst : starEach [e] X.env = (false, eval e X.env) :: starEach [] X.env := by rfl) : Stm X Γ (.Expr (.Call (.Attribute (.Name n pn) "append" apos) [e] [] cpos) pos) D :=
  stm_of (ps_expr (pe_bm PySem.F.plainAttrs_list PySem.F.slot_list_append PySem.F.type_list_append mt_append (pe_var hi hv hd hcd) (pa_cons pe_r pa_nil hst) hbase hfew hline hst rfl) hs) fun B σ Hs H S => by
    obtain ⟨l, xs, h1, h2, h3, h4, h5⟩ := S.own i _ ds hg
    refine ⟨.ref l, h1, .inl ⟨rfl, xs, Evl.sq_of h2⟩, h B σ Hs H S _ fun v Hs1 H1 g1 r1 => ?_⟩
    exact ⟨l, xs, v, rfl, rfl, g1.e _ _ h2, Evl.sz_lt (by rw [h4.length]; exact hl), _, Hs1, (S.step g1).mut hg h1 ((h4.mono g1.s).append (.cons r1 .nil)), k⟩
theorem st_ext (i : Nat) {m : Bool} {n : Str} {pn apos cpos : Pos} {es : List Dt} (hg : Γ[i]? = some (some (.ow m ds))) (h : Ev X Γ e (.lst es)) (hl : ds.length + es.length ≤ 100000) (k : D.nx (Γ.set i (some (.ow m (ds ++ es))))) (hi : X.N[i]? = some n := by rfl) (hv : Vis X.env.scope n := by first | exact Or.inl rfl | exact Or.inr (Or.inl rfl) | exact Or.inr (Or.inr rfl))
    (hd : (n == ("__debug__" : Str)) = false := by decide) (hcd : (n == ("__classdict__" : Str)) = false := by decide) (hs : swapsWith (.Call (.Attribute (.Name n pn) "extend" apos) [e] [] cpos) none pos.line X.env = pure false := by rfl)
    (hbase : attributeBase (.Name n pn) "extend" X.env (eval (.Name n pn) X.env) = eval (.Name n pn) X.env := by rfl)
    (hfew : ((backTo cpos (starEach [e] X.env)).all (fun x => !x.1) && (backToKw cpos (keywordEach [] X.env)).all (fun x => x.1.isSome) && decide ([e].length + ([] : List Keyword).length + (if ([] : List Keyword).isEmpty then 0 else 1) < 30)) = true := by rfl)
    (hline : (apos.endLine == cpos.line) = true := by rfl) (hst : starEach [e] X.env = (false, eval e X.env) :: starEach [] X.env := by rfl) : Stm X Γ (.Expr (.Call (.Attribute (.Name n pn) "extend" apos) [e] [] cpos) pos) D :=
  stm_of (ps_expr (pe_bm PySem.F.plainAttrs_list PySem.F.slot_list_extend PySem.F.type_list_extend mt_extend (pe_var hi hv hd hcd) (pa_cons pe_r pa_nil hst) hbase hfew hline hst rfl) hs) fun B σ Hs H S => by
    obtain ⟨l, xs, h1, h2, h3, h4, h5⟩ := S.own i _ ds hg
    refine ⟨.ref l, h1, .inl ⟨rfl, xs, Evl.sq_of h2⟩, h B σ Hs H S _ fun v Hs1 H1 g1 r1 => ?_⟩
    cases r1 with
    | @lst q ys _ q1 q2 => exact ⟨l, q, xs, ys, rfl, rfl, g1.e _ _ h2, g1.i _ _ q1, Evl.sz_of (by rw [h4.length, q2.length]; exact hl), _, Hs1, (S.step g1).mut hg h1 ((h4.mono g1.s).append q2), k⟩
/-- x[j] = e -/
theorem st_item (i : Nat) {mm : Bool} {n : Str} {j : Expr} {pn ps : Pos} {z : Int} {m : Nat} (hg : Γ[i]? = some (some (.ow mm ds))) (h : Ev X Γ e d) (hj : Ev X Γ j (.int z)) (hm : ixN ds.length z = some m) (k : D.nx (Γ.set i (some (.ow mm (ds.set m d))))) (hi : X.N[i]? = some n := by rfl) (hv : Vis X.env.scope n := by first | exact Or.inl rfl | exact Or.inr (Or.inl rfl) | exact Or.inr (Or.inr rfl))
    (hd : (n == ("__debug__" : Str)) = false := by decide) (hcd : (n == ("__classdict__" : Str)) = false := by decide)
    (ha : ∀ v, assign (.Subscript (.Name n pn) j ps) X.env v = (do
      let ov ← holding [v] (eval (.Name n pn) X.env)
      let iv ← holding [v, ov] (eval j X.env)
      standAt ps
      holding [v, ov, iv] (setItem ov iv v)
      release [v, ov, iv] []) := by intro _; rfl)
    (hs : swapsWithSole [.Subscript (.Name n pn) j ps] e pos.line X.env = pure false := by rfl) (hw : swappedStores [.Subscript (.Name n pn) j ps] e X.env = pure none := by rfl) (h1 : (assignEach [.Subscript (.Name n pn) j ps] X.env).map (·.2) = [assign (.Subscript (.Name n pn) j ps) X.env] := by rfl) : Stm X Γ (.Assign [.Subscript (.Name n pn) j ps] e pos) D :=
  stm_of (ps_asg pe_r (pg_sub (pe_var hi hv hd hcd) pe_r set_list ha) hs hw h1) fun B σ Hs H S => h B σ Hs H S _ fun v Hs1 H1 g1 r1 => by
    have S1 := S.step g1
    obtain ⟨l, xs, h1, h2, h3, h4, h5⟩ := S1.own i _ ds hg
    refine ⟨.ref l, h1, hj B σ Hs1 H1 S1 _ fun w Hs2 H2 g2 r2 => ?_⟩
    cases r2
    exact ⟨l, xs, z, m, rfl, rfl, g2.e _ _ h2, by rw [h4.length]; exact hm, _, Hs2, (S1.step g2).mut hg h1 ((h4.mono g2.s).set (r1.mono g2.s) m), k⟩
/-! loops -/
theorem st_for {tg iter : Expr} {body : List Stmt} (hp : PassesOwn (model X.prog X.w) X.A X.env X.xe) (hc : X.calm = true) (hi : EvI X Γ tg iter ds) (I : Nat → Gam → Prop) (h0 : I 0 Γ)
    (hs : ∀ (i : Nat) (d : Dt) (Γ' : Gam), ds[i]? = some d → I i Γ' → ∃ Γ2, Tg X Γ' tg d Γ2 ∧ Blk X Γ2 body { nx := I (i + 1), rt := D.rt, rn := D.rn, ct := I (i + 1), bk := D.nx }) (hd : ∀ Γ', I ds.length Γ' → D.nx Γ')
    (hfs : ∀ x, foldedSetIterable iter X.env x = pure x := by intro _; rfl) : Stm X Γ (.For tg iter body [] pos) D := stm_of (ps_for hp hc pi_r pg_r pss_r hfs) fun B σ Hs H S => hi B σ Hs H S _ fun J Hs1 H1 g1 w => by
  have S1 := S.step g1
  refine ⟨fun i m σ' H' => m = ds.length - i ∧ i ≤ ds.length ∧ ∃ Γ' Hs', Sat X.K (rebase B.M Γ σ Hs1 H1) Γ' σ' Hs' H' ∧ I i Γ', ⟨ds.length, rfl, Nat.zero_le _, Γ, Hs1, S1.rebase, h0⟩, ?_⟩
  rintro i m σ' H' ⟨rfl, hi', Γ', Hs', T, hI⟩
  by_cases hlt : i < ds.length
  · have hd' : ds[i]? = some ds[i] := List.getElem?_eq_getElem hlt
    obtain ⟨go, yl⟩ := w.item i ds[i] Hs' H' T.s0 T.i hd'
    refine .inr ⟨go, fun σ2 H2 => ∃ Γ2 Hs2, Sat X.K (rebase B.M Γ σ Hs1 H1) Γ2 σ2 Hs2 H2 ∧ I (i + 1) Γ2, fun σ2 H2 h2 => ⟨ds.length - (i + 1), by omega, rfl, hlt, h2⟩, fun x H'' hy => ?_⟩
    obtain ⟨Hs2, g3, rx⟩ := yl x H'' hy
    obtain ⟨Γ2, q1, q2⟩ := hs i ds[i] Γ' hd' hI
    refine q1 _ σ' Hs2 H'' x (T.step g3) rx _ fun σ2 S2 => ?_
    exact RunB.mono (q2 _ σ2 Hs2 H'' S2) (fun _ _ z => z) (fun v H3 q => by
      rcases q with ⟨d, Γ3, σ3, Hs3, S3, r3, q3⟩ | ⟨es, Γ3, σ3, Hs3, p, xs, e, S3, f, r3, q3⟩
      · exact .inl ⟨d, Γ3, σ3, Hs3, S1.unbase S3, r3, q3⟩
      · exact .inr ⟨es, Γ3, σ3, Hs3, p, xs, e, S1.unbase S3, Frs.unbase S1 f, r3, q3⟩) (fun σ3 H3 ⟨Γ3, Hs3, S3, q3⟩ => ⟨Γ3, Hs3, S1.unbase S3, q3⟩) (fun _ _ z => z)
  · have ei : i = ds.length := by omega
    subst ei
    exact .inl ⟨w.stop Hs' H' T.s0 T.i, Γ', Hs', S1.unbase T, hd Γ' hI⟩
/-- W: what holds ahead of each test, and a number that falls -/
theorem st_while {body : List Stmt} (hp : PassesOwn (model X.prog X.w) X.A X.env X.xe) (W : Nat → Gam → Prop) (m0 : Nat) (h0 : W m0 Γ)
    (hs : ∀ (m : Nat) (Γ' : Gam), W m Γ' → ∃ k, EvT X Γ' c k ∧ (k = true → Blk X Γ' body { nx := fun Γ2 => ∃ m', m' < m ∧ W m' Γ2, rt := D.rt, rn := D.rn, ct := fun Γ2 => ∃ m', m' < m ∧ W m' Γ2, bk := D.nx }) ∧ (k = false → D.nx Γ')) : Stm X Γ (.While c body [] pos) D :=
  stm_of (ps_while hp pt_r pss_r) fun B σ Hs H S => by
    refine ⟨fun m σ' H' => ∃ Γ' Hs', Sat X.K B Γ' σ' Hs' H' ∧ W m Γ', ⟨m0, Γ, Hs, S, h0⟩, fun m σ' H' ⟨Γ', Hs', S', hW⟩ => ?_⟩
    obtain ⟨k, q1, q2, q3⟩ := hs m Γ' hW
    refine q1 B σ' Hs' H' S' _ fun Hs2 H2 g2 => ?_
    cases k with
    | true =>
      refine ⟨fun σ3 H3 => ∃ Γ3 Hs3, Sat X.K B Γ3 σ3 Hs3 H3 ∧ ∃ m', m' < m ∧ W m' Γ3, fun σ3 H3 ⟨Γ3, Hs3, S3, m', l, w⟩ => ⟨m', l, Γ3, Hs3, S3, w⟩, ?_⟩
      exact RunB.mono (q2 rfl B σ' Hs2 H2 (S'.step g2)) (fun _ _ z => z) (fun _ _ z => z) (fun _ _ z => z) (fun _ _ z => z)
    | false => exact ⟨Γ', Hs2, S'.step g2, q3 rfl⟩
end
/-! ### defs -/
/-- a def that changes nothing: from the data of its arguments the datum that it gives -/
def spF (K : PySem.W.Frag) (R : List Dt → Dt → Prop) : Sp := fun vs H Q _ => ∃ Hs ds d, Ex Hs H ∧ RpA K Hs vs ds ∧ R ds d ∧ ∀ v Hs' H', Gr Hs H Hs' H' → Rp K Hs' v d → Q v H'
structure Fn (P : Program) (w : World) (K : PySem.W.Frag) (mg : Str → Option Value) (base : Heap) (k : Nat) (x : Str) (R : List Dt → Dt → Prop) : Prop where
  ex : ∃ f fd ps, FnOk P w K mg base (L2.CX P w) k f fd ps (spF K R) ∧ mg x = some (.ref f) ∧ PySem.W.keepIn K (.ref f) = true ∧ Binds K fd ps []
def startG (N : List Str) (ds : List Dt) : Gam := ds.map (fun d => some (.dat d)) ++ List.replicate (N.length - ds.length) none
theorem start_len {N : List Str} {ds : List Dt} (h : ds.length ≤ N.length) : (startG N ds).length = N.length := by
  unfold startG
  rw [List.length_append, List.length_map, List.length_replicate]
  omega
theorem sat_start {K : PySem.W.Frag} {N : List Str} {vs : List V} {ds : List Dt} {Hs H : Hp} (i : Ex Hs H) (r : RpA K Hs vs ds) : Sat K ⟨Hs, H, fun _ => False, fun _ => False⟩ (startG N ds) (start N vs) Hs H where
  len := by
    unfold startG L2.start
    rw [List.length_append, List.length_append, List.length_map, List.length_map, List.length_replicate, List.length_replicate, r.length]
  i := i
  s0 := Ex.refl _
  e0 := fun _ _ _ h => h
  t0 := fun _ h => h
  n0 := fun a o h n => by
    have h' : Hs a = some o := h
    have n' : Hs a = none := n
    rw [h'] at n'
    cases n'
  dat := fun i d h => by
    unfold startG at h
    by_cases q : i < ds.length
    · rw [List.getElem?_append_left (by rw [List.length_map]; exact q), List.getElem?_map] at h
      cases hd : ds[i]? with
      | none =>
        rw [hd] at h
        cases h
      | some d' =>
        rw [hd] at h
        cases h
        obtain ⟨v, h1, h2⟩ := r.get hd
        refine ⟨v, ?_, h2⟩
        unfold L2.start
        rw [List.getElem?_append_left (by rw [List.length_map, r.length]; exact q), List.getElem?_map, h1]
        rfl
    · rw [List.getElem?_append_right (by rw [List.length_map]; omega), List.getElem?_replicate] at h
      split at h <;> cases h
  own := fun i m ds' h => by
    unfold startG at h
    by_cases q : i < ds.length
    · rw [List.getElem?_append_left (by rw [List.length_map]; exact q), List.getElem?_map] at h
      cases hd : ds[i]? with
      | none =>
        rw [hd] at h
        cases h
      | some d' =>
        rw [hd] at h
        cases h
    · rw [List.getElem?_append_right (by rw [List.length_map]; omega), List.getElem?_replicate] at h
      split at h <;> cases h
  sep := fun i j l m m' ds' es h => by
    exfalso
    unfold startG at h
    by_cases q : i < ds.length
    · rw [List.getElem?_append_left (by rw [List.length_map]; exact q), List.getElem?_map] at h
      cases hd : ds[i]? with
      | none =>
        rw [hd] at h
        cases h
      | some d' =>
        rw [hd] at h
        cases h
    · rw [List.getElem?_append_right (by rw [List.length_map]; omega), List.getElem?_replicate] at h
      split at h <;> cases h
section
variable {P : Program} {w : World} {K : PySem.W.Frag} {mg : Str → Option Value} {base : Heap}
/-- the context of a def's body -/
abbrev cxF (P : Program) (w : World) (K : PySem.W.Frag) (mg : Str → Option Value) (base : Heap) (N : List Str) (x : Str) (sc : Scope) (f : Addr) (q : Value × Around × List Env × Shared × Hp × XK) : Cx :=
  cxOf (L2.CX P w) P w K mg base N x sc f q.1 q.2.1 q.2.2.1 q.2.2.2.1 q.2.2.2.2.1 q.2.2.2.2.2
theorem passesF {N : List Str} {x : Str} {sc : Scope} {f : Addr} {q : Value × Around × List Env × Shared × Hp × XK} : PassesOwn (model (cxF P w K mg base N x sc f q).prog (cxF P w K mg base N x sc f q).w) (cxF P w K mg base N x sc f q).A (cxF P w K mg base N x sc f q).env (cxF P w K mg base N x sc f q).xe := passes_of rfl
/-- THE RULE for a def that changes nothing -/
theorem fn_pure {x : Str} {params : Arguments} {body : List Stmt} {sc : Scope} {f : Addr} {fd : FuncData} {N ps : List Str} {k : Nat} {R : List Dt → Dt → Prop} (F : FunD K x x params body sc [] [] f fd) (hm : mg x = some (.ref f)) (S : FnScope N ps sc)
    (hb : ∀ (kV doc pm : Value) (an : Option Addr) (cdv ct : Value) (us : List Value), us.length = ps.length → bindArgs (PySem.W.fnOf x x params body sc .none kV doc pm an cdv ct) ⟨us, []⟩ = pure (ps.zip us))
    (len : ∀ ds d, R ds d → ds.length = ps.length)
    (hbody : ∀ (q : Value × Around × List Env × Shared × Hp × XK) (ds : List Dt) (d : Dt), Room k (cxF P w K mg base N x sc f q).A → R ds d →
      Blk (cxF P w K mg base N x sc f q) (startG N ds) body { nx := fun _ => d = .non, rt := fun d' _ => d' = d }) : Fn P w K mg base (k + 1) x R := by
  refine ⟨f, fd, ps, F.ok S (fun vs H Q E h => ?_) (fun cdv A outer s H vs Q E hr h => ?_), hm, F.kp, F.bindsN hb⟩
  · obtain ⟨Hs, ds, d, _, r, h, _⟩ := h
    rw [r.length]
    exact len ds d h
  · obtain ⟨Hs, ds, d, i, r, hR, q⟩ := h
    have B := hbody (cdv, A, outer, s, H, E) ds d hr hR
    refine ⟨_, pss_r, RunB.mono (B ⟨Hs, H, fun _ => False, fun _ => False⟩ (start N vs) Hs H (sat_start i r)) (fun σ' H' ⟨Γ', Hs', S', e⟩ => ?_) (fun v H' z => ?_) (fun _ _ ⟨_, _, _, z⟩ => z.elim) (fun _ _ ⟨_, _, _, z⟩ => z.elim)⟩
    · refine q _ Hs' H' ⟨S'.s0, S'.i, fun a o h => S'.e0 a o (fun z => z) h, fun a o h n => ?_⟩ (by rw [e]; exact .non)
      rcases S'.n0 a o h n with z | z
      · exact z
      · exact z.elim
    · rcases z with ⟨d', Γ', σ', Hs', S', rv, e⟩ | ⟨_, _, _, _, _, _, _, _, _, _, z⟩
      · have e' : d' = d := e
        subst e'
        refine q v Hs' H' ⟨S'.s0, S'.i, fun a o h => S'.e0 a o (fun z => z) h, fun a o h n => ?_⟩ rv
        rcases S'.n0 a o h n with z | z
        · exact z
        · exact z.elim
      · exact z.elim
end
/-- a def that gives a new list -/
def spN (K : PySem.W.Frag) (R : List Dt → List Dt → Prop) : Sp := fun vs H Q _ => ∃ Hs ds es, Ex Hs H ∧ RpA K Hs vs ds ∧ R ds es ∧ ∀ p xs Hs' H', Gr Hs H Hs' H' → H p = none → Hs' p = none → H' p = some (.lst xs) → RpA K Hs' xs es → Q (.ref p) H'
structure FnN (P : Program) (w : World) (K : PySem.W.Frag) (mg : Str → Option Value) (base : Heap) (k : Nat) (x : Str) (R : List Dt → List Dt → Prop) : Prop where
  ex : ∃ f fd ps, FnOk P w K mg base (L2.CX P w) k f fd ps (spN K R) ∧ mg x = some (.ref f) ∧ PySem.W.keepIn K (.ref f) = true ∧ Binds K fd ps []
theorem fn_new {P : Program} {w : World} {K : PySem.W.Frag} {mg : Str → Option Value} {base : Heap} {x : Str} {params : Arguments} {body : List Stmt} {sc : Scope} {f : Addr} {fd : FuncData} {N ps : List Str} {k : Nat} {R : List Dt → List Dt → Prop} (F : FunD K x x params body sc [] [] f fd) (hm : mg x = some (.ref f)) (S : FnScope N ps sc)
    (hb : ∀ (kV doc pm : Value) (an : Option Addr) (cdv ct : Value) (us : List Value), us.length = ps.length → bindArgs (PySem.W.fnOf x x params body sc .none kV doc pm an cdv ct) ⟨us, []⟩ = pure (ps.zip us))
    (len : ∀ ds es, R ds es → ds.length = ps.length)
    (hbody : ∀ (q : Value × Around × List Env × Shared × Hp × XK) (ds es : List Dt), Room k (cxF P w K mg base N x sc f q).A → R ds es →
      Blk (cxF P w K mg base N x sc f q) (startG N ds) body { nx := fun _ => False, rt := fun _ _ => False, rn := fun es' _ => es' = es }) : FnN P w K mg base (k + 1) x R := by
  refine ⟨f, fd, ps, F.ok S (fun vs H Q E h => ?_) (fun cdv A outer s H vs Q E hr h => ?_), hm, F.kp, F.bindsN hb⟩
  · obtain ⟨Hs, ds, d, _, r, h, _⟩ := h
    rw [r.length]
    exact len ds d h
  · obtain ⟨Hs, ds, d, i, r, hR, q⟩ := h
    have B := hbody (cdv, A, outer, s, H, E) ds d hr hR
    refine ⟨_, pss_r, RunB.mono (B ⟨Hs, H, fun _ => False, fun _ => False⟩ (L2.start N vs) Hs H (sat_start i r)) (fun σ' H' ⟨Γ', Hs', S', e⟩ => e.elim) (fun v H' z => ?_) (fun _ _ ⟨_, _, _, z⟩ => z.elim) (fun _ _ ⟨_, _, _, z⟩ => z.elim)⟩
    rcases z with ⟨_, _, _, _, _, _, z⟩ | ⟨es, Γ', σ', Hs', p, xs, rfl, S', f, rv, e⟩
    · exact z.elim
    · have e' : es = d := e
      subst e'
      refine q p xs Hs' H' ⟨S'.s0, S'.i, fun a o h => S'.e0 a o (fun z => z) h, fun a o h n => ?_⟩ ?_ f.hs f.h rv
      · rcases S'.n0 a o h n with z | z
        · exact z
        · exact z.elim
      · rcases f.b with z | z
        · exact z
        · exact z.elim
section
variable {X : Cx} {Γ : Gam} {e : Expr} {es : List Expr} {d : Dt} {ds : List Dt} {pos p : Pos}
theorem en_call {x : Str} {k j : Nat} {R : List Dt → List Dt → Prop} {rs : List Dt} (F : FnN X.prog X.w X.K X.mg X.base k x R) (hr : Room j X.A) (hk : k ≤ j) (ha : EvA X Γ (e :: es) ds) (h : R ds rs) (hg : Gl X x := by rfl) (hdb : (x == ("__debug__" : Str)) = false := by decide)
    (he : starEach (e :: es) X.env = (false, eval e X.env) :: starEach es X.env := by rfl) (hpl : (backTo pos (starEach es X.env)).any (·.1) = false := by rfl) : EvN X Γ (.Call (.Name x p) (e :: es) [] pos) rs := by
  obtain ⟨f, fd, ps, F, hm, kp, b⟩ := F.ex
  refine en_of (pe_call F (hr.mono hk) hg hm kp b .nil passL pa_r hdb he hpl) fun B σ Hs H S Q q => ha B σ Hs H S _ fun vs Hs1 H1 g1 r1 => ?_
  exact ⟨Hs1, ds, rs, g1.i, by rw [List.append_nil]; exact r1, h, fun p xs Hs2 H2 g2 h1 h2 h3 r2 => q p xs Hs2 H2 (g1.trans g2) (ex_none g1.e h1) h2 h3 r2⟩
theorem ev_call {x : Str} {k j : Nat} {R : List Dt → Dt → Prop} (F : Fn X.prog X.w X.K X.mg X.base k x R) (hr : Room j X.A) (hk : k ≤ j) (ha : EvA X Γ (e :: es) ds) (h : R ds d) (hg : Gl X x := by rfl) (hdb : (x == ("__debug__" : Str)) = false := by decide)
    (he : starEach (e :: es) X.env = (false, eval e X.env) :: starEach es X.env := by rfl) (hpl : (backTo pos (starEach es X.env)).any (·.1) = false := by rfl) : Ev X Γ (.Call (.Name x p) (e :: es) [] pos) d := by
  obtain ⟨f, fd, ps, F, hm, kp, b⟩ := F.ex
  refine ev_of (pe_call F (hr.mono hk) hg hm kp b .nil passL pa_r hdb he hpl) fun B σ Hs H S Q q => ha B σ Hs H S _ fun vs Hs1 H1 g1 r1 => ?_
  exact ⟨Hs1, ds, d, g1.i, by rw [List.append_nil]; exact r1, h, fun v Hs2 H2 g2 r2 => q v Hs2 H2 (g1.trans g2) r2⟩
end
end G

set_option Elab.async false
set_option linter.all false
set_option maxRecDepth 100000
set_option maxHeartbeats 2000000
namespace G
open PySem PySem.Spec PyProof.Rows L2
open Evl (Ex)
/-- the built-ins that the top leaves as they are -/
structure Bt (mg : Str → Option Value) : Prop where
  len : mg "len" = none
  int : mg "int" = none
  abs : mg "abs" = none
  min : mg "min" = none
  max : mg "max" = none
  sum : mg "sum" = none
  sorted : mg "sorted" = none
  all : mg "all" = none
  any : mg "any" = none
  isinstance : mg "isinstance" = none
  tuple : mg "tuple" = none
  list : mg "list" = none
  range : mg "range" = none
  enumerate : mg "enumerate" = none
  zip : mg "zip" = none
  reversed : mg "reversed" = none
  bool : mg "bool" = none
  str : mg "str" = none
  dict : mg "dict" = none
def btNames : List Str := ["len", "int", "abs", "min", "max", "sum", "sorted", "all", "any", "isinstance", "tuple", "list", "range", "enumerate", "zip", "reversed", "bool", "str", "dict"]
theorem bt_mk {mg : Str → Option Value} (h : ∀ x ∈ btNames, mg x = none) : Bt mg :=
  ⟨h _ (by decide), h _ (by decide), h _ (by decide), h _ (by decide), h _ (by decide), h _ (by decide), h _ (by decide), h _ (by decide), h _ (by decide), h _ (by decide), h _ (by decide), h _ (by decide), h _ (by decide), h _ (by decide), h _ (by decide), h _ (by decide), h _ (by decide), h _ (by decide), h _ (by decide)⟩
section
variable {X : Cx} {Γ : Gam} {e a b c : Expr} {es : List Expr} {x y z d : Dt} {ds : List Dt} {pos p : Pos} {i j : Int} {k : Bool}
theorem ev_lenL (T : Bt X.mg) (h : Ev X Γ a (.lst ds)) (hg : Gl X "len" := by rfl) (hs : starEach [a] X.env = (false, eval a X.env) :: starEach [] X.env := by rfl) : Ev X Γ (.Call (.Name "len" p) [a] [] pos) (.int (ds.length : Int)) := ev_callB call_len_seq T.len PySem.boot_len (ea_cons h ea_nil hs) (fun Hs H us e r Q q => by
  cases r with
  | cons r1 r2 =>
    cases r2
    cases r1 with
    | lst h1 h2 =>
      rw [← h2.length] at q
      exact ⟨_, _, rfl, .inl (Evl.sq_of (e _ _ h1)), q _ Hs H (Gr.refl e) (.int _)⟩) hg (by decide) (by decide) hs
theorem ev_lenT (T : Bt X.mg) (h : Ev X Γ a (.tup ds)) (hg : Gl X "len" := by rfl) (hs : starEach [a] X.env = (false, eval a X.env) :: starEach [] X.env := by rfl) : Ev X Γ (.Call (.Name "len" p) [a] [] pos) (.int (ds.length : Int)) := ev_callB call_len_seq T.len PySem.boot_len (ea_cons h ea_nil hs) (fun Hs H us e r Q q => by
  cases r with
  | cons r1 r2 =>
    cases r2
    cases r1 with
    | tup h1 h2 =>
      rw [← h2.length] at q
      exact ⟨_, _, rfl, .inr (Evl.ex_t e h1), q _ Hs H (Gr.refl e) (.int _)⟩) hg (by decide) (by decide) hs
theorem ev_lenS {ns : List Int} (T : Bt X.mg) (h : Ev X Γ a (.scr ns)) (hg : Gl X "len" := by rfl) (hs : starEach [a] X.env = (false, eval a X.env) :: starEach [] X.env := by rfl) : Ev X Γ (.Call (.Name "len" p) [a] [] pos) (.int (ns.length : Int)) := ev_callB call_len_seq T.len PySem.boot_len (ea_cons h ea_nil hs) (fun Hs H us e r Q q => by
  cases r with
  | cons r1 r2 =>
    cases r2
    cases r1 with
    | scr h1 =>
      rw [← List.length_map (f := V.int)] at q
      exact ⟨_, _, rfl, .inl (Evl.ex_l e h1), q _ Hs H (Gr.refl e) (.int _)⟩) hg (by decide) (by decide) hs
theorem ev_intI (T : Bt X.mg) (h : Ev X Γ a (.int i)) (hg : Gl X "int" := by rfl) (hs : starEach [a] X.env = (false, eval a X.env) :: starEach [] X.env := by rfl) : Ev X Γ (.Call (.Name "int" p) [a] [] pos) (.int i) := ev_callTy call_int1 T.int (by decide +kernel) (ea_cons h ea_nil hs) (fun Hs H us e r Q q => by
  cases r with
  | cons r1 r2 =>
    cases r2
    cases r1
    exact .inl ⟨i, rfl, q _ Hs H (Gr.refl e) (.int _)⟩) hg (by decide) (by decide) hs
theorem ev_intB (T : Bt X.mg) (h : Ev X Γ a (.bl k)) (hg : Gl X "int" := by rfl) (hs : starEach [a] X.env = (false, eval a X.env) :: starEach [] X.env := by rfl) : Ev X Γ (.Call (.Name "int" p) [a] [] pos) (.int (if k then 1 else 0)) := ev_callTy call_int1 T.int (by decide +kernel) (ea_cons h ea_nil hs) (fun Hs H us e r Q q => by
  cases r with
  | cons r1 r2 =>
    cases r2
    cases r1
    exact .inr ⟨k, rfl, q _ Hs H (Gr.refl e) (.int _)⟩) hg (by decide) (by decide) hs
theorem ev_abs (T : Bt X.mg) (h : Ev X Γ a (.int i)) (hg : Gl X "abs" := by rfl) (hs : starEach [a] X.env = (false, eval a X.env) :: starEach [] X.env := by rfl) : Ev X Γ (.Call (.Name "abs" p) [a] [] pos) (.int (if i < 0 then -i else i)) := ev_callB call_abs T.abs (by decide +kernel) (ea_cons h ea_nil hs) (fun Hs H us e r Q q => by
  cases r with
  | cons r1 r2 =>
    cases r2
    cases r1
    exact ⟨i, rfl, q _ Hs H (Gr.refl e) (.int _)⟩) hg (by decide) (by decide) hs
theorem ev_max2 (T : Bt X.mg) (hc : X.calm = true) (h : Ev X Γ a (.int i)) (h' : Ev X Γ b (.int j)) (hg : Gl X "max" := by rfl) (hs : starEach [a, b] X.env = (false, eval a X.env) :: starEach [b] X.env := by rfl) (hs2 : starEach [b] X.env = (false, eval b X.env) :: starEach [] X.env := by rfl) (hpl : (backTo pos (starEach [b] X.env)).any (·.1) = false := by rfl) : Ev X Γ (.Call (.Name "max" p) [a, b] [] pos) (.int (if j > i then j else i)) := ev_callB (call_max2 hc) T.max (by decide +kernel) (ea_cons h (ea_cons h' ea_nil hs2) hs) (fun Hs H us e r Q q => by
  cases r with
  | cons r1 r2 =>
    cases r2 with
    | cons r3 r4 =>
      cases r4
      cases r1
      cases r3
      exact ⟨i, j, rfl, q _ Hs H (Gr.refl e) (.int _)⟩) hg (by decide) (by decide) hs hpl
theorem ev_min2 (T : Bt X.mg) (hc : X.calm = true) (h : Ev X Γ a (.int i)) (h' : Ev X Γ b (.int j)) (hg : Gl X "min" := by rfl) (hs : starEach [a, b] X.env = (false, eval a X.env) :: starEach [b] X.env := by rfl) (hs2 : starEach [b] X.env = (false, eval b X.env) :: starEach [] X.env := by rfl) (hpl : (backTo pos (starEach [b] X.env)).any (·.1) = false := by rfl) : Ev X Γ (.Call (.Name "min" p) [a, b] [] pos) (.int (if j < i then j else i)) := ev_callB (call_min2 hc) T.min (by decide +kernel) (ea_cons h (ea_cons h' ea_nil hs2) hs) (fun Hs H us e r Q q => by
  cases r with
  | cons r1 r2 =>
    cases r2 with
    | cons r3 r4 =>
      cases r4
      cases r1
      cases r3
      exact ⟨i, j, rfl, q _ Hs H (Gr.refl e) (.int _)⟩) hg (by decide) (by decide) hs hpl
theorem ev_sumL {ns : List Int} (T : Bt X.mg) (hc : X.calm = true) (h : Ev X Γ a (.lst (ns.map Dt.int))) (hg : Gl X "sum" := by rfl) (hs : starEach [a] X.env = (false, eval a X.env) :: starEach [] X.env := by rfl) : Ev X Γ (.Call (.Name "sum" p) [a] [] pos) (.int ns.sum) := ev_callB (cr_sum hc) T.sum (by decide +kernel) (ea_cons h ea_nil hs) (fun Hs H us e r Q q => by
  cases r with
  | cons r1 r2 =>
    cases r2
    cases r1 with
    | lst h1 h2 =>
      have e2 := h2.ints
      subst e2
      exact ⟨_, ns, rfl, Evl.sq_of (e _ _ h1), q _ Hs H (Gr.refl e) (.int _)⟩) hg (by decide) (by decide) hs
theorem RpA.bools {K : PySem.W.Frag} {H : Hp} : ∀ {vs : List V} {bs : List Bool}, RpA K H vs (bs.map Dt.bl) → vs = bs.map V.bl
  | _, [], .nil => rfl
  | _, n :: ns, .cons h r => by
    cases h
    rw [RpA.bools r]
    rfl
theorem ev_all {bs : List Bool} (T : Bt X.mg) (hc : X.calm = true) (h : Ev X Γ a (.lst (bs.map Dt.bl))) (hg : Gl X "all" := by rfl) (hs : starEach [a] X.env = (false, eval a X.env) :: starEach [] X.env := by rfl) : Ev X Γ (.Call (.Name "all" p) [a] [] pos) (.bl (bs.all id)) := ev_callB (cr_all hc) T.all (by decide +kernel) (ea_cons h ea_nil hs) (fun Hs H us e r Q q => by
  cases r with
  | cons r1 r2 =>
    cases r2
    cases r1 with
    | lst h1 h2 =>
      have e2 := h2.bools
      subst e2
      exact ⟨_, bs, rfl, Evl.sq_of (e _ _ h1), q _ Hs H (Gr.refl e) (.bl _)⟩) hg (by decide) (by decide) hs
theorem ev_any {bs : List Bool} (T : Bt X.mg) (hc : X.calm = true) (h : Ev X Γ a (.lst (bs.map Dt.bl))) (hg : Gl X "any" := by rfl) (hs : starEach [a] X.env = (false, eval a X.env) :: starEach [] X.env := by rfl) : Ev X Γ (.Call (.Name "any" p) [a] [] pos) (.bl (bs.any id)) := ev_callB (cr_any hc) T.any (by decide +kernel) (ea_cons h ea_nil hs) (fun Hs H us e r Q q => by
  cases r with
  | cons r1 r2 =>
    cases r2
    cases r1 with
    | lst h1 h2 =>
      have e2 := h2.bools
      subst e2
      exact ⟨_, bs, rfl, Evl.sq_of (e _ _ h1), q _ Hs H (Gr.refl e) (.bl _)⟩) hg (by decide) (by decide) hs
/-! isinstance -/
/-- the type of a datum, where it is a built-in one -/
def Dt.tyn : Dt → String
  | .non => "NoneType"
  | .bl _ => "bool"
  | .int _ => "int"
  | .str _ => "str"
  | .tup _ => "tuple"
  | .lst _ => "list"
  | .scr _ => "list"
  | _ => ""
/-- no object, no class -/
def Dt.plain : Dt → Bool
  | .ty _ => false
  | .cls _ => false
  | .obj _ _ => false
  | _ => true
theorem ty_sqT {K : PySem.W.Frag} {H : Hp} {p : Addr} {xs : List V} (h : SqT K H p xs) : TyX K H (.ref p) (.type "tuple") := by
  rcases h with (h | ⟨o, h⟩) | ⟨o, its, n, h1, h2, _⟩
  · exact .base (.tup h)
  · exact .fTuple h
  · exact .kTuple h1 h2
theorem ty_sqL {K : PySem.W.Frag} {H : Hp} {p : Addr} {xs : List V} (h : SqL K H p xs) : TyX K H (.ref p) (.type "list") := by
  rcases h with (h | ⟨o, h⟩) | ⟨o, its, n, h1, h2, _⟩
  · exact .base (.lst h)
  · exact .base (.frz h)
  · exact .kList h1 h2
theorem ty_of {K : PySem.W.Frag} {Hs H : Hp} {v : V} {d : Dt} (e : Ex Hs H) (r : Rp K Hs v d) (h : d.plain = true) : TyX K H v (.type d.tyn) := by
  cases r with
  | non => exact .base .non
  | bl b => exact .base (.bl b)
  | int i => exact .base (.int i)
  | str x => exact .base (.str x)
  | ty n => cases h
  | cls C => cases h
  | scr h1 => exact ty_sqL (Evl.ex_l e h1)
  | lst h1 h2 => exact .base (.lst (e _ _ h1))
  | tup h1 h2 => exact ty_sqT (Evl.ex_t e h1)
  | obj h1 h2 => cases h
theorem ev_isi {T' : String} {n : Str} {pn : Pos} (T : Bt X.mg) (h : Ev X Γ a d) (hp : d.plain = true) (hm : X.mg n = none) (hv : bootBuiltins n = some (.type T')) (hk : kitB d.tyn T' = some k) (hg : Gl X "isinstance" := by rfl) (hgn : Gl X n := by rfl) (hnn : n ≠ "__name__" := by decide) (hnd : (n == ("__debug__" : Str)) = false := by decide)
    (hs : starEach [a, .Name n pn] X.env = (false, eval a X.env) :: starEach [.Name n pn] X.env := by rfl) (hs2 : starEach [.Name n pn] X.env = (false, eval (.Name n pn) X.env) :: starEach [] X.env := by rfl) (hpl : (backTo pos (starEach [.Name n pn] X.env)).any (·.1) = false := by rfl) : Ev X Γ (.Call (.Name "isinstance" p) [a, .Name n pn] [] pos) (.bl k) :=
  ev_callB call_isi T.isinstance (by decide +kernel) (ea_cons h (ea_cons (ev_bty hm hv hgn hnn hnd) ea_nil hs2) hs) (fun Hs H us e r Q q => by
    cases r with
    | cons r1 r2 =>
      cases r2 with
      | cons r3 r4 =>
        cases r4
        cases r3
        exact ⟨_, _, _, _, k, rfl, .ty T', ty_of e r1 hp, kit_ty hk, q _ Hs H (Gr.refl e) (.bl _)⟩) hg (by decide) (by decide) hs hpl
/-- isinstance(a, (list, tuple)) -/
theorem ev_isiLT {p1 p2 p3 : Pos} {kk : Nat} (T : Bt X.mg) (h : Ev X Γ a d) (hp : d.plain = true) (hk : PySem.W.kitAny X.K (.type d.tyn) [.type "list", .type "tuple"] = some k) (hg : Gl X "isinstance" := by rfl) (hgl : Gl X "list" := by rfl) (hgt : Gl X "tuple" := by rfl)
    (hs : starEach [a, .Tuple [.Name "list" p1, .Name "tuple" p2] kk p3] X.env = (false, eval a X.env) :: starEach [.Tuple [.Name "list" p1, .Name "tuple" p2] kk p3] X.env := by rfl) (hs2 : starEach [.Tuple [.Name "list" p1, .Name "tuple" p2] kk p3] X.env = (false, eval (.Tuple [.Name "list" p1, .Name "tuple" p2] kk p3) X.env) :: starEach [] X.env := by rfl)
    (hpl : (backTo pos (starEach [.Tuple [.Name "list" p1, .Name "tuple" p2] kk p3] X.env)).any (·.1) = false := by rfl)
    (hs3 : starEach [.Name "list" p1, .Name "tuple" p2] X.env = (false, eval (.Name "list" p1) X.env) :: starEach [.Name "tuple" p2] X.env := by rfl) (hs4 : starEach [.Name "tuple" p2] X.env = (false, eval (.Name "tuple" p2) X.env) :: starEach [] X.env := by rfl) :
    Ev X Γ (.Call (.Name "isinstance" p) [a, .Tuple [.Name "list" p1, .Name "tuple" p2] kk p3] [] pos) (.bl k) :=
  ev_of (pe_callB call_isiT hg T.isinstance (by decide +kernel) (pa_cons pe_r (pa_cons (pe_tup (pa_cons (pe_bltn hgl T.list (by decide +kernel) (v := .ty "list") rfl) (pa_cons (pe_bltn hgt T.tuple (by decide +kernel) (v := .ty "tuple") rfl) pa_nil hs4) hs3)) pa_nil hs2) hs) (by decide) (by decide) hs hpl) fun B σ Hs H S Q q => h B σ Hs H S _ fun v Hs1 H1 g1 r1 => by
    refine ⟨by show 2 ≤ sizeLine; decide, fun t ht => ?_⟩
    refine ⟨v, t, [.ty "list", .ty "tuple"], _, [.type "list", .type "tuple"], k, rfl, upd_same, .cons (.ty _) (.cons (.ty _) .nil), ty_of (g1.i.trans (Ex.new ht)) r1 hp, hk, ?_⟩
    exact q _ Hs1 _ (g1.trans (Gr.wide g1.i (Ex.new ht))) (.bl _)
/-! fields of objects -/
theorem ev_fld {f : Str} {C : Addr} {gs : List (Str × Dt)} (h : Ev X Γ a (.obj C gs)) (hC : Cls X.K C) (hn : NoAttr X.K C f) (hl : gs.lookup f = some d) (hb : attributeBase a f X.env (eval a X.env) = eval a X.env := by rfl) : Ev X Γ (.Attribute a f pos) d :=
  ev_of (pe_fld pe_r hb) fun B σ Hs H S Q q => h B σ Hs H S _ fun v Hs1 H1 g1 r1 => by
    cases r1 with
    | @obj o _ dx fs _ h1 h2 =>
      obtain ⟨w, k1, k2⟩ := h2.look hl
      exact ⟨o, C, dx, fs, w, rfl, g1.i _ _ h1, hC, hn, k1, q w Hs1 H1 g1 k2⟩
/-! truth -/
theorem et_truth (h : Ev X Γ a d) (ht : ∀ Hs H v, Ex Hs H → Rp X.K Hs v d → TruV X.K v H k) (he : ∀ whole, isTrue a X.env whole = (do let v ← whole; standAt a.pos; holding [v] (truthy v)) := by intro _; rfl) : EvT X Γ a k := et_of (pt_truth pe_r he) fun B σ Hs H S Q q => h B σ Hs H S _ fun v Hs1 H1 g1 r1 => ⟨k, ht Hs1 H1 v g1.i r1, q Hs1 H1 g1⟩
/-- what is asked of one's own list is asked as of a datum -/
def Dt.flat : Dt → Bool
  | .non => true
  | .bl _ => true
  | .int _ => true
  | .str _ => true
  | .ty _ => true
  | _ => false
theorem rp_flat_any {K : PySem.W.Frag} {H H' : Hp} {v : V} {d : Dt} (r : Rp K H v d) (h : d.flat = true) : Rp K H' v d := by
  cases r with
  | non => exact .non
  | bl b => exact .bl b
  | int i => exact .int i
  | str x => exact .str x
  | ty n => exact .ty n
  | cls C => cases h
  | scr h1 => cases h
  | lst h1 h2 => cases h
  | tup h1 h2 => cases h
  | obj h1 h2 => cases h
theorem rpA_flat {K : PySem.W.Frag} {H H' : Hp} : ∀ {vs : List V} {ds : List Dt}, RpA K H vs ds → (∀ d ∈ ds, d.flat = true) → RpA K H' vs ds
  | _, _, .nil, _ => .nil
  | _, _, .cons r1 r2, h => .cons (rp_flat_any r1 (h _ List.mem_cons_self)) (rpA_flat r2 fun d hd => h d (List.mem_cons_of_mem _ hd))
theorem ev_borrow (i : Nat) {m : Bool} (hi : Γ[i]? = some (some (.ow m ds))) (h : Ev X (Γ.set i (some (.dat (.lst ds)))) e d) (hf : d.flat = true) : Ev X Γ e d := fun B σ Hs H S Q q => by
  obtain ⟨Hs', e1, S'⟩ := S.freeze hi
  exact h B σ Hs' H S' Q fun v Hs2 H2 g2 r2 => q v Hs H2 (Gr.wide S.i g2.e) (rp_flat_any r2 hf)
theorem et_borrow (i : Nat) {m : Bool} (hi : Γ[i]? = some (some (.ow m ds))) (h : EvT X (Γ.set i (some (.dat (.lst ds)))) e k) : EvT X Γ e k := fun B σ Hs H S Q q => by
  obtain ⟨Hs', e1, S'⟩ := S.freeze hi
  exact h B σ Hs' H S' Q fun Hs2 H2 g2 => q Hs H2 (Gr.wide S.i g2.e)
/-- .. where a new list of flat things comes out -/
theorem en_borrow (i : Nat) {m : Bool} {es : List Dt} (hi : Γ[i]? = some (some (.ow m ds))) (h : EvN X (Γ.set i (some (.dat (.lst ds)))) e es) (hf : ∀ d ∈ es, d.flat = true) : EvN X Γ e es := fun B σ Hs H S Q q => by
  obtain ⟨Hs', e1, S'⟩ := S.freeze hi
  exact h B σ Hs' H S' Q fun p xs Hs2 H2 g2 h1 h2 h3 r => q p xs Hs H2 (Gr.wide S.i g2.e) h1 (ex_none S.i h1) h3 (rpA_flat r hf)
end
end G

set_option Elab.async false
set_option linter.all false
set_option maxRecDepth 100000
set_option maxHeartbeats 2000000
namespace G
open PySem PySem.Spec PyProof.Rows L2
open Evl (Ex)
/-! ### expressions that change one's own lists (or a lent one) -/
def EfR (K : PySem.W.Frag) (te : TE) (Γ : Gam) (d : Dt) (Γ' : Gam) : Prop := ∀ (B : Bs) (σ : L2.St) (Hs H : Hp), Sat K B Γ σ Hs H → ∀ Q : VK, (∀ v Hs' H', Sat K B Γ' σ Hs' H' → Ex Hs Hs' → Rp K Hs' v d → Q v H') → te σ H Q
def EfAR (K : PySem.W.Frag) (ta : TA) (Γ : Gam) (ds : List Dt) (Γ' : Gam) : Prop := ∀ (B : Bs) (σ : L2.St) (Hs H : Hp), Sat K B Γ σ Hs H → ∀ Q : List V → Hp → Prop, (∀ vs Hs' H', Sat K B Γ' σ Hs' H' → Ex Hs Hs' → RpA K Hs' vs ds → Q vs H') → ta σ H Q
def EfTR (K : PySem.W.Frag) (tt : TT) (Γ : Gam) (b : Bool) (Γ' : Gam) : Prop := ∀ (B : Bs) (σ : L2.St) (Hs H : Hp), Sat K B Γ σ Hs H → ∀ Q : Bool → Hp → Prop, (∀ Hs' H', Sat K B Γ' σ Hs' H' → Ex Hs Hs' → Q b H') → tt σ H Q
def EfNR (K : PySem.W.Frag) (te : TE) (Γ : Gam) (ds : List Dt) (Γ' : Gam) : Prop := ∀ (B : Bs) (σ : L2.St) (Hs H : Hp), Sat K B Γ σ Hs H → ∀ Q : VK, (∀ p xs Hs' H', Sat K B Γ' σ Hs' H' → Ex Hs Hs' → Frs B Γ' σ Hs' H' p xs → RpA K Hs' xs ds → Q (.ref p) H') → te σ H Q
def Ef (X : Cx) (Γ : Gam) (e : Expr) (d : Dt) (Γ' : Gam) : Prop := EfR X.K (RunE X e) Γ d Γ'
def EfA (X : Cx) (Γ : Gam) (es : List Expr) (ds : List Dt) (Γ' : Gam) : Prop := EfAR X.K (RunA X es) Γ ds Γ'
def EfT (X : Cx) (Γ : Gam) (e : Expr) (b : Bool) (Γ' : Gam) : Prop := EfTR X.K (RunT X e) Γ b Γ'
def EfN (X : Cx) (Γ : Gam) (e : Expr) (ds : List Dt) (Γ' : Gam) : Prop := EfNR X.K (RunE X e) Γ ds Γ'
section
variable {X : Cx} {Γ Γ1 Γ2 Γ' : Gam} {e a b c : Expr} {es : List Expr} {x y z d : Dt} {ds : List Dt} {pos p : Pos} {k : Bool}
theorem ef_of {t : TE} (h : PE X e t) (q : EfR X.K t Γ d Γ') : Ef X Γ e d Γ' := fun B σ Hs H S Q k pins s I => h.run pins s σ H Q I (q B σ Hs H S Q k)
theorem efn_of {t : TE} (h : PE X e t) (q : EfNR X.K t Γ ds Γ') : EfN X Γ e ds Γ' := fun B σ Hs H S Q k pins s I => h.run pins s σ H Q I (q B σ Hs H S Q k)
theorem ef_ev (h : Ev X Γ e d) : Ef X Γ e d Γ := fun B σ Hs H S Q q => h B σ Hs H S Q fun v Hs' H' g r => q v Hs' H' (S.step g) g.s r
theorem efa_ev (h : EvA X Γ es ds) : EfA X Γ es ds Γ := fun B σ Hs H S Q q => h B σ Hs H S Q fun v Hs' H' g r => q v Hs' H' (S.step g) g.s r
theorem eft_ev (h : EvT X Γ e k) : EfT X Γ e k Γ := fun B σ Hs H S Q q => h B σ Hs H S Q fun Hs' H' g => q Hs' H' (S.step g) g.s
theorem efr_op {K : PySem.W.Frag} {ta tb : TE} {r : R2} (ha : EfR K ta Γ x Γ1) (hb : EfR K tb Γ1 y Γ2) (hr : OpV K r x y z) : EfR K (tOp r ta tb) Γ z Γ2 := fun B σ Hs H S Q k =>
  ha B σ Hs H S _ fun u Hs1 H1 S1 e1 r1 => hb B σ Hs1 H1 S1 _ fun v Hs2 H2 S2 e2 r2 => hr Hs2 H2 u v S2.i (r1.mono e2) r2 Q fun w Hs3 H3 g3 r3 => k w Hs3 H3 (S2.step g3) (e1.trans (e2.trans g3.s)) r3
theorem ef_op {op : Operator} {r : R2} (ho : OpR X (binaryOp op) r) (ha : Ef X Γ a x Γ1) (hb : Ef X Γ1 b y Γ2) (hr : OpV X.K r x y z) : Ef X Γ (.BinOp a op b pos) z Γ2 := ef_of (pe_op ho pe_r pe_r) (efr_op ha hb hr)
section
variable {i j : Int}
theorem ef_add (ha : Ef X Γ a (.int i) Γ1) (hb : Ef X Γ1 b (.int j) Γ2) : Ef X Γ (.BinOp a .Add b pos) (.int (i + j)) Γ2 := ef_op op_add ha hb (ov_I0 fun _ => .int _)
theorem ef_sub (ha : Ef X Γ a (.int i) Γ1) (hb : Ef X Γ1 b (.int j) Γ2) : Ef X Γ (.BinOp a .Sub b pos) (.int (i - j)) Γ2 := ef_op op_sub ha hb (ov_I0 fun _ => .int _)
theorem ef_mod (ha : Ef X Γ a (.int i) Γ1) (hb : Ef X Γ1 b (.int j) Γ2) (h : 0 < j) : Ef X Γ (.BinOp a .Mod b pos) (.int (i % j)) Γ2 := ef_op op_mod ha hb (ov_I (C := fun _ j => 0 < j) h fun _ => .int _)
theorem ef_cmp {op : CmpOp} {r : R2} (ho : OpR X (compareOp op) r) (ha : Ef X Γ a x Γ1) (hb : Ef X Γ1 b y Γ2) (hr : OpV X.K r x y z) (hm : behindInMarks op b = false) : Ef X Γ (.Compare a [op] [b] pos) z Γ2 := ef_of (pe_cmpR ho pe_r pe_r hm) (efr_op ha hb hr)
theorem efr_test {K : PySem.W.Frag} {t : TE} (h : EfR K t Γ (.bl k) Γ') : EfTR K (tTest t) Γ k Γ' := fun B σ Hs H S Q q => h B σ Hs H S _ fun v Hs1 H1 S1 e1 r1 => by
  cases r1
  exact ⟨k, rfl, q Hs1 H1 S1 e1⟩
theorem eft_of {t : TT} (h : PT X e t) (q : EfTR X.K t Γ k Γ') : EfT X Γ e k Γ' := fun B σ Hs H S Q k pins s I => h.run pins s σ H Q I (q B σ Hs H S Q k)
theorem eft_cmp {op : CmpOp} {r : R2} (ho : OpR X (compareOp op) r) (ha : Ef X Γ a x Γ1) (hb : Ef X Γ1 b y Γ2) (hr : OpV X.K r x y (.bl k)) (hm : behindInMarks op b = false) : EfT X Γ (.Compare a [op] [b] pos) k Γ2 := eft_of (pt_cmpR ho pe_r pe_r hm) (efr_test (efr_op ha hb hr))
theorem eft_eqI (ha : Ef X Γ a (.int i) Γ1) (hb : Ef X Γ1 b (.int j) Γ2) : EfT X Γ (.Compare a [.Eq] [b] pos) (decide (i = j)) Γ2 := eft_cmp op_eq ha hb ov_eqI (nomark _)
theorem ef_eqI (ha : Ef X Γ a (.int i) Γ1) (hb : Ef X Γ1 b (.int j) Γ2) : Ef X Γ (.Compare a [.Eq] [b] pos) (.bl (decide (i = j))) Γ2 := ef_cmp op_eq ha hb ov_eqI (nomark _)
theorem ef_gtI (ha : Ef X Γ a (.int i) Γ1) (hb : Ef X Γ1 b (.int j) Γ2) : Ef X Γ (.Compare a [.Gt] [b] pos) (.bl (decide (j < i))) Γ2 := ef_cmp op_gt ha hb ov_gt (nomark _)
/-- the truth of an int -/
theorem eft_int (h : Ef X Γ a (.int i) Γ') (he : ∀ whole, isTrue a X.env whole = (do let v ← whole; standAt a.pos; holding [v] (truthy v)) := by intro _; rfl) : EfT X Γ a (i != 0) Γ' := eft_of (pt_truth pe_r he) fun B σ Hs H S Q q => h B σ Hs H S _ fun v Hs1 H1 S1 e1 r1 => by
  cases r1
  exact ⟨i != 0, rfl, q Hs1 H1 S1 e1⟩
theorem ef_ixL {a b : Expr} (ha : Ef X Γ a (.lst ds) Γ1) (hb : Ef X Γ1 b (.int i) Γ2) (h : atI ds i = some d) (hs : PlainIx b := by intro _ _; rfl) : Ef X Γ (.Subscript a b pos) d Γ2 := ef_of (pe_ix ix_list pe_r pe_r hs) (efr_op ha hb fun Hs H u v e r1 r2 Q k => by
  cases r1 with
  | lst h1 h2 =>
    cases r2
    obtain ⟨w, k1, k2⟩ := h2.at h
    exact ⟨_, _, i, w, rfl, rfl, Evl.sq_of (e _ _ h1), k1, k w Hs H (Gr.refl e) k2⟩)
theorem ef_ixT {a b : Expr} (ha : Ef X Γ a (.tup ds) Γ1) (hb : Ef X Γ1 b (.int i) Γ2) (h : atI ds i = some d) (hs : PlainIx b := by intro _ _; rfl) : Ef X Γ (.Subscript a b pos) d Γ2 := ef_of (pe_ix ix_tup pe_r pe_r hs) (efr_op ha hb fun Hs H u v e r1 r2 Q k => by
  cases r1 with
  | tup h1 h2 =>
    cases r2
    obtain ⟨w, k1, k2⟩ := h2.at h
    exact ⟨_, _, i, w, rfl, rfl, Evl.ex_t e h1, k1, k w Hs H (Gr.refl e) k2⟩)
end
theorem efa_of {t : TA} (h : PA X es t) (q : EfAR X.K t Γ ds Γ') : EfA X Γ es ds Γ' := fun B σ Hs H S Q k pos pins s I => h.run pos pins s σ H Q I (q B σ Hs H S Q k)
theorem efa_nil : EfA X Γ [] [] Γ := efa_ev ea_nil
theorem efa_cons (ha : Ef X Γ e d Γ1) (hr : EfA X Γ1 es ds Γ2) (hs : starEach (e :: es) X.env = (false, eval e X.env) :: starEach es X.env := by rfl) : EfA X Γ (e :: es) (d :: ds) Γ2 :=
  efa_of (pa_cons pe_r pa_r hs) fun B σ Hs H S Q q => ha B σ Hs H S _ fun v Hs1 H1 S1 e1 r1 => hr B σ Hs1 H1 S1 _ fun vs Hs2 H2 S2 e2 r2 => q _ Hs2 H2 S2 (e1.trans e2) (.cons (r1.mono e2) r2)
theorem ef_tup {x1 : Nat} (h : EfA X Γ es ds Γ') (hl : ds.length ≤ 100000) : Ef X Γ (.Tuple es x1 pos) (.tup ds) Γ' := ef_of (pe_tup pa_r) fun B σ Hs H S Q q => h B σ Hs H S _ fun vs Hs1 H1 S1 e1 r1 =>
  ⟨Evl.sz_of (by rw [r1.length]; exact hl), fun p hp => q _ (upd Hs1 p (.tup vs)) _ (S1.step (Gr.new S1.i hp)) (e1.trans (Gr.new (o := .tup vs) S1.i hp).s) (.tup (Evl.st_of upd_same) (r1.mono (Gr.new (o := .tup vs) S1.i hp).s))⟩
theorem ef_lst (h : EfA X Γ es ds Γ') (hl : ds.length ≤ 100000) : Ef X Γ (.List es pos) (.lst ds) Γ' := ef_of (pe_lst pa_r) fun B σ Hs H S Q q => h B σ Hs H S _ fun vs Hs1 H1 S1 e1 r1 =>
  ⟨Evl.sz_of (by rw [r1.length]; exact hl), fun p hp => q _ (upd Hs1 p (.lst vs)) _ (S1.step (Gr.new S1.i hp)) (e1.trans (Gr.new (o := .lst vs) S1.i hp).s) (.lst upd_same (r1.mono (Gr.new (o := .lst vs) S1.i hp).s))⟩
theorem ef_callB {n : Str} {id : String} {r : List V → Hp → VK → Prop} (hc : CallR X (.builtin id) r) (hm : X.mg n = none) (hv : bootBuiltins n = some (.builtin id)) (ha : EfA X Γ (e :: es) ds Γ') (hr : CaV X.K r ds z) (hg : Gl X n := by rfl) (hn : n ≠ "__name__" := by decide) (hdb : (n == ("__debug__" : Str)) = false := by decide)
    (he : starEach (e :: es) X.env = (false, eval e X.env) :: starEach es X.env := by rfl) (hpl : (backTo pos (starEach es X.env)).any (·.1) = false := by rfl) : Ef X Γ (.Call (.Name n p) (e :: es) [] pos) z Γ' := ef_of (pe_callB hc hg hm hv pa_r hn hdb he hpl) fun B σ Hs H S Q q =>
  ha B σ Hs H S _ fun us Hs1 H1 S1 e1 r1 => hr Hs1 H1 us S1.i r1 Q fun w Hs2 H2 g2 r2 => q w Hs2 H2 (S1.step g2) (e1.trans g2.s) r2
theorem ef_callTy {n : Str} {T : String} {r : List V → Hp → VK → Prop} (hc : CallR X (.type T) r) (hm : X.mg n = none) (hv : bootBuiltins n = some (.type T)) (ha : EfA X Γ (e :: es) ds Γ') (hr : CaV X.K r ds z) (hg : Gl X n := by rfl) (hn : n ≠ "__name__" := by decide) (hdb : (n == ("__debug__" : Str)) = false := by decide)
    (he : starEach (e :: es) X.env = (false, eval e X.env) :: starEach es X.env := by rfl) (hpl : (backTo pos (starEach es X.env)).any (·.1) = false := by rfl) : Ef X Γ (.Call (.Name n p) (e :: es) [] pos) z Γ' := ef_of (pe_callTy hc hg hm hv pa_r hn hdb he hpl) fun B σ Hs H S Q q =>
  ha B σ Hs H S _ fun us Hs1 H1 S1 e1 r1 => hr Hs1 H1 us S1.i r1 Q fun w Hs2 H2 g2 r2 => q w Hs2 H2 (S1.step g2) (e1.trans g2.s) r2
theorem cv_int {K : PySem.W.Frag} {i : Int} : CaV K (fun xs H Q => (∃ i, xs = [.int i] ∧ Q (.int i) H) ∨ ∃ k, xs = [.bl k] ∧ Q (.int (if k then 1 else 0)) H) [.int i] (.int i) := fun Hs H us e r Q q => by
  cases r with
  | cons r1 r2 =>
    cases r2
    cases r1
    exact .inl ⟨i, rfl, q _ Hs H (Gr.refl e) (.int _)⟩
theorem ef_intI {i : Int} (T : Bt X.mg) (h : Ef X Γ a (.int i) Γ') (hg : Gl X "int" := by rfl) (hs : starEach [a] X.env = (false, eval a X.env) :: starEach [] X.env := by rfl) : Ef X Γ (.Call (.Name "int" p) [a] [] pos) (.int i) Γ' := ef_callTy call_int1 T.int (by decide +kernel) (efa_cons h efa_nil hs) cv_int hg (by decide) (by decide) hs
/-- a def that changes nothing -/
theorem ef_call {n : Str} {k j : Nat} {R : List Dt → Dt → Prop} (F : Fn X.prog X.w X.K X.mg X.base k n R) (hr : Room j X.A) (hk : k ≤ j) (ha : EfA X Γ (e :: es) ds Γ') (h : R ds d) (hg : Gl X n := by rfl) (hdb : (n == ("__debug__" : Str)) = false := by decide)
    (he : starEach (e :: es) X.env = (false, eval e X.env) :: starEach es X.env := by rfl) (hpl : (backTo pos (starEach es X.env)).any (·.1) = false := by rfl) : Ef X Γ (.Call (.Name n p) (e :: es) [] pos) d Γ' := by
  obtain ⟨f, fd, ps, F, hm, kp, b⟩ := F.ex
  refine ef_of (pe_call F (hr.mono hk) hg hm kp b .nil passL pa_r hdb he hpl) fun B σ Hs H S Q q => ha B σ Hs H S _ fun vs Hs1 H1 S1 e1 r1 => ?_
  exact ⟨Hs1, ds, d, S1.i, by rw [List.append_nil]; exact r1, h, fun v Hs2 H2 g2 r2 => q v Hs2 H2 (S1.step g2) (e1.trans g2.s) r2⟩
end
/-! ### a def whose first argument is a list lent to it -/
structure GrL (l : Addr) (Hs H Hs' H' : Hp) : Prop where
  s : Ex Hs Hs'
  i : Ex Hs' H'
  e : ∀ a o, a ≠ l → H a = some o → H' a = some o
  t : ∀ a, H' a = none → H a = none
  n : ∀ a o, Hs' a = some o → Hs a = none → H a = none
def spP (K : PySem.W.Frag) (R : List Dt → List Dt → List Dt → Dt → Prop) : Sp := fun vs H Q _ => ∃ Hs l xs ps vs' ds ps' d, vs = .ref l :: vs' ∧ Ex Hs H ∧ H l = some (.lst xs) ∧ Hs l = none ∧ RpA K Hs xs ps ∧ RpA K Hs vs' ds ∧ R ps ds ps' d ∧
  ∀ v Hs' H' xs', GrL l Hs H Hs' H' → H' l = some (.lst xs') → Hs' l = none → RpA K Hs' xs' ps' → Rp K Hs' v d → Q v H'
structure FnP (P : Program) (w : World) (K : PySem.W.Frag) (mg : Str → Option Value) (base : Heap) (k : Nat) (x : Str) (R : List Dt → List Dt → List Dt → Dt → Prop) : Prop where
  ex : ∃ f fd ps, FnOk P w K mg base (L2.CX P w) k f fd ps (spP K R) ∧ mg x = some (.ref f) ∧ PySem.W.keepIn K (.ref f) = true ∧ Binds K fd ps []
def startP (N : List Str) (ps ds : List Dt) : Gam := some (.lnt ps) :: (ds.map (fun d => some (.dat d)) ++ List.replicate (N.length - (ds.length + 1)) none)
theorem sat_startP {K : PySem.W.Frag} {N : List Str} {l : Addr} {xs vs : List V} {ps ds : List Dt} {Hs H : Hp} (i : Ex Hs H) (hl : H l = some (.lst xs)) (hn : Hs l = none) (rp : RpA K Hs xs ps) (r : RpA K Hs vs ds) : Sat K ⟨Hs, H, fun a => a = l, fun a => a = l⟩ (startP N ps ds) (L2.start N (.ref l :: vs)) Hs H := by
  have key : ∀ (j : Nat) (en : Ent), (ds.map (fun d => some (Ent.dat d)) ++ List.replicate (N.length - (ds.length + 1)) none)[j]? = some (some en) → ∃ d v, en = .dat d ∧ (vs.map some ++ List.replicate (N.length - (vs.length + 1)) none)[j]? = some (some v) ∧ Rp K Hs v d := fun j en h => by
    by_cases q : j < ds.length
    · rw [List.getElem?_append_left (by rw [List.length_map]; exact q), List.getElem?_map] at h
      cases hd : ds[j]? with
      | none =>
        rw [hd] at h
        cases h
      | some d' =>
        rw [hd] at h
        cases h
        obtain ⟨v, h1, h2⟩ := r.get hd
        refine ⟨d', v, rfl, ?_, h2⟩
        rw [List.getElem?_append_left (by rw [List.length_map, r.length]; exact q), List.getElem?_map, h1]
        rfl
    · rw [List.getElem?_append_right (by rw [List.length_map]; omega), List.getElem?_replicate] at h
      split at h <;> cases h
  have est : L2.start N (.ref l :: vs) = some (.ref l) :: (vs.map some ++ List.replicate (N.length - (vs.length + 1)) none) := rfl
  rw [est]
  refine ⟨?_, i, Ex.refl _, fun _ _ _ h => h, fun _ h => h, fun a o h n => ?_, fun j d h => ?_, fun j mj es h => ?_, fun a b m ma mb es es' h1 h2 h3 h4 => ?_⟩
  · unfold startP
    rw [List.length_cons, List.length_cons, List.length_append, List.length_append, List.length_map, List.length_map, List.length_replicate, List.length_replicate, r.length]
  · have h' : Hs a = some o := h
    have n' : Hs a = none := n
    rw [h'] at n'
    cases n'
  · cases j with
    | zero => cases h
    | succ j =>
      obtain ⟨d', v, e1, e2, e3⟩ := key j _ h
      cases e1
      exact ⟨v, e2, e3⟩
  · cases j with
    | zero =>
      cases h
      exact ⟨l, xs, rfl, hl, hn, rp, .inr rfl, fun _ => rfl⟩
    | succ j =>
      obtain ⟨d', v, e1, _⟩ := key j _ h
      cases e1
  · cases a with
    | zero =>
      cases b with
      | zero => rfl
      | succ b =>
        obtain ⟨d', v, e1, _⟩ := key b _ h2
        cases e1
    | succ a =>
      obtain ⟨d', v, e1, _⟩ := key a _ h1
      cases e1
section
variable {P : Program} {w : World} {K : PySem.W.Frag} {mg : Str → Option Value} {base : Heap}
theorem fn_lent {x : Str} {params : Arguments} {body : List Stmt} {sc : Scope} {f : Addr} {fd : FuncData} {N ps : List Str} {k : Nat} {R : List Dt → List Dt → List Dt → Dt → Prop} (F : FunD K x x params body sc [] [] f fd) (hm : mg x = some (.ref f)) (S : FnScope N ps sc)
    (hb : ∀ (kV doc pm : Value) (an : Option Addr) (cdv ct : Value) (us : List Value), us.length = ps.length → bindArgs (PySem.W.fnOf x x params body sc .none kV doc pm an cdv ct) ⟨us, []⟩ = pure (ps.zip us))
    (len : ∀ qs ds qs' d, R qs ds qs' d → ds.length + 1 = ps.length)
    (hbody : ∀ (q : Value × Around × List Env × Shared × Hp × XK) (qs ds qs' : List Dt) (d : Dt), Room k (cxF P w K mg base N x sc f q).A → R qs ds qs' d →
      Blk (cxF P w K mg base N x sc f q) (startP N qs ds) body { nx := fun Γ => d = .non ∧ Γ[0]? = some (some (.lnt qs')), rt := fun d' Γ => d' = d ∧ Γ[0]? = some (some (.lnt qs')) }) : FnP P w K mg base (k + 1) x R := by
  refine ⟨f, fd, ps, F.ok S (fun vs H Q E h => ?_) (fun cdv A outer s H vs Q E hr h => ?_), hm, F.kp, F.bindsN hb⟩
  · obtain ⟨Hs, l, xs, qs, vs', ds, qs', d, rfl, _, _, _, _, r, h, _⟩ := h
    rw [List.length_cons, r.length]
    exact len qs ds qs' d h
  · obtain ⟨Hs, l, xs, qs, vs', ds, qs', d, rfl, i, hl, hn, rp, r, hR, q⟩ := h
    have B := hbody (cdv, A, outer, s, H, E) qs ds qs' d hr hR
    have S0 := sat_startP (N := N) i hl hn rp r
    have fin : ∀ (v : V) (Γ' : Gam) (σ' : L2.St) (Hs' H' : Hp), Sat K ⟨Hs, H, fun a => a = l, fun a => a = l⟩ Γ' σ' Hs' H' → Rp K Hs' v d → Γ'[0]? = some (some (.lnt qs')) → Q v H' := fun v Γ' σ' Hs' H' S' rv e => by
      obtain ⟨l', xs', k1, k2, k3, k4, k5, k6⟩ := S'.own 0 true qs' e
      have el : l' = l := k6 rfl
      subst el
      refine q v Hs' H' xs' ⟨S'.s0, S'.i, fun a o n h => S'.e0 a o n h, S'.t0, fun a o h n => ?_⟩ k2 k3 k4 rv
      rcases S'.n0 a o h n with z | z
      · exact z
      · have z' : a = l' := z
        rw [z', k3] at h
        cases h
    refine ⟨_, pss_r, RunB.mono (B _ (L2.start N (.ref l :: vs')) Hs H S0) (fun σ' H' ⟨Γ', Hs', S', e1, e2⟩ => ?_) (fun v H' z => ?_) (fun _ _ ⟨_, _, _, z⟩ => z.elim) (fun _ _ ⟨_, _, _, z⟩ => z.elim)⟩
    · exact fin _ Γ' σ' Hs' H' S' (by rw [e1]; exact .non) e2
    · rcases z with ⟨d', Γ', σ', Hs', S', rv, e1, e2⟩ | ⟨_, _, _, _, _, _, _, _, _, _, z⟩
      · rw [e1] at rv
        exact fin _ Γ' σ' Hs' H' S' rv e2
      · exact z.elim
end
section
variable {X : Cx} {Γ Γ1 Γ2 Γ' : Gam} {e a b c : Expr} {es : List Expr} {x y z d : Dt} {ds : List Dt} {pos p : Pos} {k : Bool}
/-- the call of such a def: the list lent stands in slot i -/
theorem Sat.lentCall {K : PySem.W.Frag} {B : Bs} {Γ : Gam} {σ : L2.St} {Hs H Hs' H' : Hp} (S : Sat K B Γ σ Hs H) {i : Nat} {m : Bool} {ps ps' : List Dt} {l : Addr} {xs' : List V} (hi : Γ[i]? = some (some (.ow m ps))) (hl : σ[i]? = some (some (.ref l)))
    (g : GrL l Hs H Hs' H') (h1 : H' l = some (.lst xs')) (h2 : Hs' l = none) (r : RpA K Hs' xs' ps') : Sat K B (Γ.set i (some (.ow m ps'))) σ Hs' H' := by
  obtain ⟨l', xs, q1, q2, q3, q4, q5, q6⟩ := S.own i m ps hi
  rw [hl] at q1
  cases q1
  refine ⟨by rw [List.length_set, S.len], g.i, S.s0.trans g.s, fun a o n h => ?_, fun a h => S.t0 a (g.t a h), fun a o h n => ?_, fun j d h => ?_, fun j mj es h => ?_, fun a b m1 ma mb ds1 es k1 k2 k3 k4 => ?_⟩
  · by_cases z : a = l
    · subst z
      rcases q5 with q5 | q5
      · rw [q5] at h
        cases h
      · exact absurd q5 n
    · exact g.e a o z (S.e0 a o n h)
  · cases q : Hs a with
    | some u => exact S.n0 a u q n
    | none => exact .inl (S.t0 a (g.n a o h q))
  · rcases set_get h with ⟨_, e2, _⟩ | ⟨_, e2⟩
    · cases e2
    · obtain ⟨v, k1, k2⟩ := S.dat j d e2
      exact ⟨v, k1, k2.mono g.s⟩
  · rcases set_get h with ⟨e1, e2, _⟩ | ⟨e1, e2⟩
    · subst e1
      cases e2
      exact ⟨l, xs', hl, h1, h2, r, q5, q6⟩
    · obtain ⟨m', ys, k1, k2, k3, k4, k5⟩ := S.own j mj es e2
      have nm : m' ≠ l := fun z => by
        subst z
        exact e1 (S.sep i j m' _ _ ps es hi e2 hl k1)
      refine ⟨m', ys, k1, g.e m' _ nm k2, ?_, k4.mono g.s, k5⟩
      cases z : Hs' m' with
      | none => rfl
      | some u =>
        have := g.n m' u z k3
        rw [k2] at this
        cases this
  · have key : ∀ (j : Nat) (mj : Bool) (es' : List Dt), (Γ.set i (some (.ow m ps')))[j]? = some (some (.ow mj es')) → ∃ mj' es'', Γ[j]? = some (some (.ow mj' es'')) := fun j mj es' q => by
      rcases set_get q with ⟨e1, _, _⟩ | ⟨_, e2⟩
      · subst e1
        exact ⟨m, ps, hi⟩
      · exact ⟨mj, es', e2⟩
    obtain ⟨_, _, r1⟩ := key a ma ds1 k1
    obtain ⟨_, _, r2⟩ := key b mb es k2
    exact S.sep a b m1 _ _ _ _ r1 r2 k3 k4
theorem ef_callP {n v : Str} {k j i : Nat} {m : Bool} {pv : Pos} {ps ps' : List Dt} {R : List Dt → List Dt → List Dt → Dt → Prop} (F : FnP X.prog X.w X.K X.mg X.base k n R) (hr : Room j X.A) (hk : k ≤ j) (ha : EfA X Γ es ds Γ1) (hi : Γ1[i]? = some (some (.ow m ps))) (hi0 : ∃ m0 ps0, Γ[i]? = some (some (.ow m0 ps0))) (h : R ps ds ps' d) (hN : X.N[i]? = some v := by rfl)
    (hv : Vis X.env.scope v := by first | exact Or.inl rfl | exact Or.inr (Or.inl rfl) | exact Or.inr (Or.inr rfl)) (hg : Gl X n := by rfl) (hdv : (v == ("__debug__" : Str)) = false := by decide) (hcd : (v == ("__classdict__" : Str)) = false := by decide) (hdb : (n == ("__debug__" : Str)) = false := by decide)
    (he : starEach (.Name v pv :: es) X.env = (false, eval (.Name v pv) X.env) :: starEach es X.env := by rfl) (hpl : (backTo pos (starEach es X.env)).any (·.1) = false := by rfl) : Ef X Γ (.Call (.Name n p) (.Name v pv :: es) [] pos) d (Γ1.set i (some (.ow m ps'))) := by
  obtain ⟨f, fd, qs, F, hm, kp, b⟩ := F.ex
  refine ef_of (pe_call F (hr.mono hk) hg hm kp b .nil passL (pa_cons (pe_var hN hv hdv hcd) pa_r he) hdb he hpl) fun B σ Hs H S Q q => ?_
  obtain ⟨m0, ps0, hi0⟩ := hi0
  obtain ⟨l, xs0, h1, _⟩ := S.own i m0 ps0 hi0
  refine ⟨.ref l, h1, ha B σ Hs H S _ fun vs Hs1 H1 S1 e1 r1 => ?_⟩
  obtain ⟨l', xs, h1', h2, h3, h4, h5, h6⟩ := S1.own i m ps hi
  rw [h1] at h1'
  cases h1'
  refine ⟨Hs1, l, xs, ps, vs, ds, ps', d, by rw [List.append_nil], S1.i, h2, h3, h4, r1, h, fun w Hs2 H2 xs' g k1 k2 k3 k4 => ?_⟩
  exact q w Hs2 H2 (S1.lentCall hi h1 g k1 k2 k3) (e1.trans g.s) k4
/-! statements with such expressions -/
variable {D : DE} {st : Stmt} {ss : List Stmt}
theorem asg_ef {te : TE} {i : Nat} (h : PS X st (tAsg te (gName i))) (q : EfR X.K te Γ d Γ') (k : D.nx (Γ'.set i (some (.dat d)))) : Stm X Γ st D := stm_of h fun B σ Hs H S => q B σ Hs H S _ fun v Hs1 H1 S1 e1 r1 => ⟨_, Hs1, S1.put r1, k⟩
theorem st_setF (i : Nat) {n : Str} {pn : Pos} (hN : X.N.Nodup) (h : Ef X Γ e d Γ') (k : D.nx (Γ'.set i (some (.dat d)))) (hi : X.N[i]? = some n := by rfl) (hx : Loc X.env.scope n := by first | exact Or.inl rfl | exact Or.inr rfl) (hs : swapsWith e (some (.Name n pn)) pos.line X.env = pure false := by rfl)
    (hf : X.fn n = true ∨ X.env.scope.names.lookup n = some .local := by first | exact .inl rfl | exact .inr rfl) : Stm X Γ (.Assign [.Name n pn] e pos) D := asg_ef (ps_set hN hi hx pe_r hs hf) h k
theorem st_retF (h : Ef X Γ e d Γ') (k : D.rt d Γ') : Stm X Γ (.Return (some e) pos) D := stm_of (ps_ret pe_r) fun B σ Hs H S => h B σ Hs H S _ fun v Hs1 H1 S1 e1 r1 => .inl ⟨d, Γ', σ, Hs1, S1, r1, k⟩
theorem st_ifF {aa bb : List Stmt} (h : EfT X Γ c k Γ') (h1 : k = true → Blk X Γ' aa D) (h2 : k = false → Blk X Γ' bb D) : Stm X Γ (.If c aa bb pos) D := stm_of (ps_if pt_r pss_r pss_r) fun B σ Hs H S => h B σ Hs H S _ fun Hs1 H1 S1 e1 => by
  cases k with
  | true => exact h1 rfl B σ Hs1 H1 S1
  | false => exact h2 rfl B σ Hs1 H1 S1
/-- x[j] = e, x one's own list, e changing another one or x itself -/
theorem st_itemF (i : Nat) {mm : Bool} {n : Str} {j : Expr} {pn ps : Pos} {z : Int} {m : Nat} (hg : Γ'[i]? = some (some (.ow mm ds))) (h : Ef X Γ e d Γ') (hj : Ev X Γ' j (.int z)) (hm : ixN ds.length z = some m) (k : D.nx (Γ'.set i (some (.ow mm (ds.set m d))))) (hi : X.N[i]? = some n := by rfl) (hv : Vis X.env.scope n := by first | exact Or.inl rfl | exact Or.inr (Or.inl rfl) | exact Or.inr (Or.inr rfl))
    (hd : (n == ("__debug__" : Str)) = false := by decide) (hcd : (n == ("__classdict__" : Str)) = false := by decide)
    (ha : ∀ v, assign (.Subscript (.Name n pn) j ps) X.env v = (do
      let ov ← holding [v] (eval (.Name n pn) X.env)
      let iv ← holding [v, ov] (eval j X.env)
      standAt ps
      holding [v, ov, iv] (setItem ov iv v)
      release [v, ov, iv] []) := by intro _; rfl)
    (hs : swapsWithSole [.Subscript (.Name n pn) j ps] e pos.line X.env = pure false := by rfl) (hw : swappedStores [.Subscript (.Name n pn) j ps] e X.env = pure none := by rfl) (h1 : (assignEach [.Subscript (.Name n pn) j ps] X.env).map (·.2) = [assign (.Subscript (.Name n pn) j ps) X.env] := by rfl) : Stm X Γ (.Assign [.Subscript (.Name n pn) j ps] e pos) D :=
  stm_of (ps_asg pe_r (pg_sub (pe_var hi hv hd hcd) pe_r set_list ha) hs hw h1) fun B σ Hs H S => h B σ Hs H S _ fun v Hs1 H1 S1 e1 r1 => by
    obtain ⟨l, xs, h1, h2, h3, h4, h5⟩ := S1.own i _ ds hg
    refine ⟨.ref l, h1, hj B σ Hs1 H1 S1 _ fun w Hs2 H2 g2 r2 => ?_⟩
    cases r2
    exact ⟨l, xs, z, m, rfl, rfl, g2.e _ _ h2, by rw [h4.length]; exact hm, _, Hs2, (S1.step g2).mut hg h1 ((h4.mono g2.s).set (r1.mono g2.s) m), k⟩
end
end G

set_option Elab.async false
set_option linter.all false
set_option maxRecDepth 100000
set_option maxHeartbeats 2000000
namespace G
open PySem PySem.Spec PyProof.Rows L2
open Evl (Ex)
section
variable {K : PySem.W.Frag} {B : Bs} {Γ : Gam} {σ : L2.St} {Hs H : Hp}
/-- an object beside is laid or changed -/
theorem Sat.aside (S : Sat K B Γ σ Hs H) {D : Addr} {o : HO} (hD : Hs D = none) (hB : B.H D = none) (ho : ∀ (s : Nat) (m : Bool) (ps : List Dt), Γ[s]? = some (some (.ow m ps)) → σ[s]? ≠ some (some (.ref D))) : Sat K B Γ σ Hs (upd H D o) where
  len := S.len
  i := fun a u q => by
    rw [upd_ne (fun z => by rw [z, hD] at q; cases q)]
    exact S.i a u q
  s0 := S.s0
  e0 := fun a u n q => by
    rw [upd_ne (fun z => by rw [z, hB] at q; cases q)]
    exact S.e0 a u n q
  t0 := fun a q => by
    by_cases z : a = D
    · rw [z, upd_same] at q
      cases q
    · rw [upd_ne z] at q
      exact S.t0 a q
  n0 := S.n0
  dat := S.dat
  own := fun i m ds h => by
    obtain ⟨l, xs, h1, h2, h3⟩ := S.own i m ds h
    refine ⟨l, xs, h1, ?_, h3⟩
    rw [upd_ne (fun z => ho i m ds h (by rw [h1, z]))]
    exact h2
  sep := S.sep
theorem Sat.adoptF (S : Sat K B Γ σ Hs H) {i : Nat} {p : Addr} {xs : List V} {ds : List Dt} (F : Frs B Γ σ Hs H p xs) (r : RpA K Hs xs ds) : Sat K B (Γ.set i (some (.own ds))) (σ.set i (some (.ref p))) Hs H := by
  refine ⟨by rw [List.length_set, List.length_set, S.len], S.i, S.s0, S.e0, S.t0, S.n0, fun j e q => ?_, fun j mj es q => ?_, fun a b m ma mb ds' es h1 h2 h3 h4 => ?_⟩
  · rcases set_get q with ⟨e1, e2, e3⟩ | ⟨e1, e2⟩
    · cases e2
    · obtain ⟨u, k1, k2⟩ := S.dat j e e2
      exact ⟨u, by rw [List.getElem?_set_ne e1]; exact k1, k2⟩
  · rcases set_get q with ⟨e1, e2, e3⟩ | ⟨e1, e2⟩
    · subst e1
      cases e2
      exact ⟨p, xs, by rw [List.getElem?_set_self (by rw [← S.len]; exact e3)], F.h, F.hs, r, F.b, fun z => by cases z⟩
    · obtain ⟨m, ys, k1, k2⟩ := S.own j mj es e2
      exact ⟨m, ys, by rw [List.getElem?_set_ne e1]; exact k1, k2⟩
  · rcases set_get h1 with ⟨n1, e1, e3⟩ | ⟨n1, e1⟩
    · subst n1
      rcases set_get h2 with ⟨n2, e2, _⟩ | ⟨n2, e2⟩
      · exact n2
      · rw [List.getElem?_set_self (by rw [← S.len]; exact e3)] at h3
        cases h3
        rw [List.getElem?_set_ne n2] at h4
        exact (F.o b _ es e2 h4).elim
    · rcases set_get h2 with ⟨n2, e2, e3⟩ | ⟨n2, e2⟩
      · subst n2
        rw [List.getElem?_set_self (by rw [← S.len]; exact e3)] at h4
        cases h4
        rw [List.getElem?_set_ne n1] at h3
        exact (F.o a _ ds' e1 h3).elim
      · rw [List.getElem?_set_ne n1] at h3
        rw [List.getElem?_set_ne n2] at h4
        exact S.sep a b m _ _ ds' es e1 e2 h3 h4
/-- behind a comprehension's turn -/
theorem Sat.back {j : Nat} {en : Option Ent} {x : Option V} (hlen : Γ.length = σ.length) (hj : ∀ e, Γ[j]? ≠ some (some e)) (S : Sat K B ((wipeG Γ [j]).set j en) ((L2.wipe σ [j]).set j x) Hs H) : Sat K B Γ σ Hs H := by
  have key : ∀ (i : Nat) (e : Ent), Γ[i]? = some (some e) → ((wipeG Γ [j]).set j en)[i]? = some (some e) ∧ ((L2.wipe σ [j]).set j x)[i]? = σ[i]? := fun i e h => by
    have ne : j ≠ i := fun z => hj e (by rw [z]; exact h)
    constructor
    · show ((Γ.set j none).set j en)[i]? = _
      rw [List.getElem?_set_ne ne, List.getElem?_set_ne ne]
      exact h
    · show ((σ.set j none).set j x)[i]? = _
      rw [List.getElem?_set_ne ne, List.getElem?_set_ne ne]
  refine ⟨hlen, S.i, S.s0, S.e0, S.t0, S.n0, fun i d h => ?_, fun i m ds h => ?_, fun a b l m m' ds es h1 h2 h3 h4 => ?_⟩
  · obtain ⟨k1, k2⟩ := key i _ h
    obtain ⟨v, q1, q2⟩ := S.dat i d k1
    exact ⟨v, by rw [← k2]; exact q1, q2⟩
  · obtain ⟨k1, k2⟩ := key i _ h
    obtain ⟨l, xs, q1, q2⟩ := S.own i m ds k1
    exact ⟨l, xs, by rw [← k2]; exact q1, q2⟩
  · obtain ⟨k1, k2⟩ := key a _ h1
    obtain ⟨k3, k4⟩ := key b _ h2
    exact S.sep a b l m m' ds es k1 k3 (by rw [k2]; exact h3) (by rw [k4]; exact h4)
end
def EfIR (K : PySem.W.Frag) (wi : TI) (Γ : Gam) (ds : List Dt) (Γ' : Gam) : Prop := ∀ (B : Bs) (σ : L2.St) (Hs H : Hp), Sat K B Γ σ Hs H → ∀ R : It → Hp → Prop, (∀ J Hs1 H1, Sat K B Γ' σ Hs1 H1 → Ex Hs Hs1 → Wk K Hs1 J ds → R J H1) → wi σ H R
def EfI (X : Cx) (Γ : Gam) (tg iter : Expr) (ds : List Dt) (Γ' : Gam) : Prop := EfIR X.K (RunI X tg iter) Γ ds Γ'
theorem efnr_lc {K : PySem.W.Frag} {Γ : Gam} {wi : TI} {te : TE} {j : Nat} {ds : List Dt} (Γs : Nat → Gam) (v : Nat → Dt) (hi : EfIR K wi Γ ds (Γs 0)) (hl : ds.length < 100000) (hlen : ∀ i, (Γs i).length = (Γs 0).length) (hcl : ∀ i en, (Γs i)[j]? ≠ some (some en))
    (hown : ∀ (i s : Nat) (m : Bool) (ps : List Dt), (Γs i)[s]? = some (some (.ow m ps)) → ∃ m' ps', (Γs 0)[s]? = some (some (.ow m' ps')))
    (hs : ∀ (i : Nat) (d : Dt), ds[i]? = some d → EfR K te ((wipeG (Γs i) [j]).set j (some (.dat d))) (v i) ((wipeG (Γs (i + 1)) [j]).set j (some (.dat d)))) : EfNR K (tLc wi (gName j) tYes te [j]) Γ ((List.range ds.length).map v) (Γs ds.length) := by
  intro B σ Hs H S Q k
  refine hi B σ Hs H S _ fun J Hs1 H1 S1 x1 w => ?_
  intro D hD
  have bD : B.H D = none := S1.t0 D hD
  have oD : ∀ (i s : Nat) (m : Bool) (ps : List Dt), (Γs i)[s]? = some (some (.ow m ps)) → σ[s]? ≠ some (some (.ref D)) := fun i s m ps h e => by
    obtain ⟨m', ps', h0⟩ := hown i s m ps h
    obtain ⟨l, xs, k1, k2, _⟩ := S1.own s m' ps' h0
    rw [e] at k1
    cases k1
    rw [hD] at k2
    cases k2
  have hl1 : ∀ i, (Γs i).length = σ.length := fun i => by rw [hlen i, S1.len]
  refine ⟨fun i m H' => m = ds.length - i ∧ i ≤ ds.length ∧ ∃ Hs' acc, Sat K B (Γs i) σ Hs' H' ∧ Ex Hs1 Hs' ∧ Hs' D = none ∧ H' D = some (.lst acc) ∧ RpA K Hs' acc ((List.range i).map v), ⟨ds.length, rfl, Nat.zero_le _, Hs1, [], S1.aside (ex_none S1.i hD) bD (oD 0), Ex.refl _, ex_none S1.i hD, upd_same, .nil⟩, ?_⟩
  rintro i m H' ⟨rfl, hi', Hs', acc, S2, x2, hD2, hacc, ra⟩
  by_cases hlt : i < ds.length
  · have hd : ds[i]? = some ds[i] := List.getElem?_eq_getElem hlt
    obtain ⟨go, yl⟩ := w.item i ds[i] Hs' H' x2 S2.i hd
    refine .inr ⟨go, fun H2 => ∃ Hs' acc, Sat K B (Γs (i + 1)) σ Hs' H2 ∧ Ex Hs1 Hs' ∧ Hs' D = none ∧ H2 D = some (.lst acc) ∧ RpA K Hs' acc ((List.range (i + 1)).map v), fun H2 h2 => ⟨ds.length - (i + 1), by omega, rfl, hlt, h2⟩, fun x H'' hy => ?_⟩
    obtain ⟨Hs2, g3, rx⟩ := yl x H'' hy
    have S3 := S2.step g3
    refine ⟨wipe1 σ j x, ?_⟩
    show te ((L2.wipe σ [j]).set j (some x)) H'' _
    -- the list that grows is hidden from the element: its own address is not in Hs2
    have hD3 : Hs2 D = none := by
      cases z : Hs2 D with
      | none => rfl
      | some u =>
        have := g3.n D u z hD2
        rw [hacc] at this
        cases this
    -- B with D told apart
    have S4 : Sat K ⟨B.Hs, fun a => if a = D then some (.lst acc) else B.H a, fun a => B.L a ∧ a ≠ D, B.M⟩ (Γs i) σ Hs2 H'' := by
      refine ⟨S3.len, S3.i, S3.s0, fun a o n h => ?_, fun a h => ?_, fun a o h n => ?_, S3.dat, fun s m ps h => ?_, S3.sep⟩
      · have h' : (if a = D then some (HO.lst acc) else B.H a) = some o := h
        by_cases z : a = D
        · rw [if_pos z] at h'
          cases h'
          rw [z]
          exact g3.e D _ hacc
        · rw [if_neg z] at h'
          exact S3.e0 a o (fun q => n ⟨q, z⟩) h'
      · show (if a = D then some (HO.lst acc) else B.H a) = none
        by_cases z : a = D
        · rw [z, g3.e D _ hacc] at h
          cases h
        · rw [if_neg z]
          exact S3.t0 a h
      · show (if a = D then some (HO.lst acc) else B.H a) = none ∨ (B.L a ∧ a ≠ D)
        by_cases z : a = D
        · rw [z, hD3] at h
          cases h
        · rw [if_neg z]
          rcases S3.n0 a o h n with q | q
          · exact .inl q
          · exact .inr ⟨q, z⟩
      · obtain ⟨l, xs, k1, k2, k3, k4, k5, k6⟩ := S3.own s m ps h
        refine ⟨l, xs, k1, k2, k3, k4, ?_, k6⟩
        show (if l = D then some (HO.lst acc) else B.H l) = none ∨ (B.L l ∧ l ≠ D)
        by_cases z : l = D
        · exact (oD i s m ps h (by rw [k1, z])).elim
        · rw [if_neg z]
          rcases k5 with q | q
          · exact .inl q
          · exact .inr ⟨q, z⟩
    refine hs i ds[i] hd _ _ Hs2 H'' ((S4.wipe [j]).put rx) _ fun y Hs4 H4 S5 x5 ry => ?_
    have S6 := S5.back (hl1 (i + 1)) (hcl (i + 1))
    have hLD : ¬ (B.L D ∧ D ≠ D) := fun q => q.2 rfl
    have hacc4 : H4 D = some (.lst acc) := S6.e0 D _ hLD (if_pos rfl)
    have hD4 : Hs4 D = none := by
      cases z : Hs4 D with
      | none => rfl
      | some u =>
        cases z0 : B.Hs D with
        | some u0 =>
          have := S1.s0 D u0 z0
          rw [ex_none S1.i hD] at this
          cases this
        | none =>
          have q := S6.n0 D u z z0
          rcases q with q | q
          · have q' : (if D = D then some (HO.lst acc) else B.H D) = none := q
            rw [if_pos rfl] at q'
            cases q'
          · exact (hLD q).elim
    have S7 : Sat K B (Γs (i + 1)) σ Hs4 H4 := by
      refine ⟨S6.len, S6.i, S6.s0, fun a o n h => ?_, fun a h => ?_, fun a o h n => ?_, S6.dat, fun s m ps h => ?_, S6.sep⟩
      · refine S6.e0 a o (fun q => n q.1) ?_
        show (if a = D then some (HO.lst acc) else B.H a) = some o
        rw [if_neg (fun z => by rw [z, bD] at h; cases h)]
        exact h
      · have q : (if a = D then some (HO.lst acc) else B.H a) = none := S6.t0 a h
        by_cases z : a = D
        · rw [if_pos z] at q
          cases q
        · rw [if_neg z] at q
          exact q
      · have q : (if a = D then some (HO.lst acc) else B.H a) = none ∨ (B.L a ∧ a ≠ D) := S6.n0 a o h n
        by_cases z : a = D
        · rw [z]
          exact .inl bD
        · rw [if_neg z] at q
          rcases q with q | q
          · exact .inl q
          · exact .inr q.1
      · obtain ⟨l, xs, k1, k2, k3, k4, k5, k6⟩ := S6.own s m ps h
        refine ⟨l, xs, k1, k2, k3, k4, ?_, k6⟩
        have k5' : (if l = D then some (HO.lst acc) else B.H l) = none ∨ (B.L l ∧ l ≠ D) := k5
        by_cases z : l = D
        · exact (oD (i + 1) s m ps h (by rw [k1, z])).elim
        · rw [if_neg z] at k5'
          rcases k5' with q | q
          · exact .inl q
          · exact .inr q.1
    have len : acc.length = i := by
      rw [ra.length, List.length_map, List.length_range]
    refine ⟨acc, hacc4, Evl.sz_lt (by omega), Hs4, acc ++ [y], S7.aside hD4 bD (oD (i + 1)), x2.trans (g3.s.trans x5), hD4, upd_same, ?_⟩
    rw [List.range_succ, List.map_append]
    exact (ra.mono (g3.s.trans x5)).append (.cons ry .nil)
  · have ei : i = ds.length := by omega
    subst ei
    exact .inl ⟨w.stop Hs' H' x2 S2.i, k D acc Hs' H' S2 (x1.trans x2) ⟨hD2, hacc, .inl bD, oD ds.length⟩ ra⟩
section
variable {X : Cx} {Γ Γ1 Γ2 Γ' : Gam} {e a b c : Expr} {es : List Expr} {x y z d : Dt} {ds : List Dt} {pos p : Pos} {k : Bool} {D : DE} {st : Stmt}
theorem efi_ev {tg : Expr} (h : EvI X Γ tg e ds) : EfI X Γ tg e ds Γ := fun B σ Hs H S R q => h B σ Hs H S R fun J Hs1 H1 g w => q J Hs1 H1 (S.step g) g.s w
theorem efi_range1 {tg : Expr} {n : Int} (hm : X.mg "range" = none) (h : EfA X Γ [a] [.int n] Γ') (h1 : -(2 ^ 62) ≤ n) (h2 : n < 2 ^ 62) (hg : Gl X "range" := by rfl) (hs : starEach [a] X.env = [(false, eval a X.env)] := by rfl) : EfI X Γ tg (.Call (.Name "range" p) [a] [] pos) (rng 0 n.toNat) Γ' := fun B σ Hs H S R q pins s I =>
  (pi_range1 (X := X) hg hm (pa_r (X := X)) hs).run pins s σ H R I (h B σ Hs H S _ fun vs Hs1 H1 S1 e1 r1 => by
    cases r1 with
    | cons r2 r3 =>
      cases r3
      cases r2
      exact ⟨n, rfl, h1, h2, q _ Hs1 H1 S1 e1 wk_rng⟩)
/-- y = [elt for n in iter], y one's own list in slot i0; n in slot i -/
theorem st_lcF {elt iter : Expr} {scope : Scope} {y n : Str} {i0 i : Nat} {py pn pc : Pos} (Γs : Nat → Gam) (v : Nat → Dt) (hc : X.calm = true) (hN : X.N.Nodup) (hi : EfI X Γ (.Name n pn) iter ds (Γs 0)) (hl : ds.length < 100000) (ok : blkC X.N X.env.scope scope [(n, i)] = true) (hlen : ∀ i, (Γs i).length = (Γs 0).length) (hcl : ∀ k en, (Γs k)[i]? ≠ some (some en))
    (hown : ∀ (i s : Nat) (m : Bool) (ps : List Dt), (Γs i)[s]? = some (some (.ow m ps)) → ∃ m' ps', (Γs 0)[s]? = some (some (.ow m' ps')))
    (hst : ∀ (k : Nat) (d : Dt), ds[k]? = some d → ∀ q, Ef (Cb X scope q) ((wipeG (Γs k) [i]).set i (some (.dat d))) elt (v k) ((wipeG (Γs (k + 1)) [i]).set i (some (.dat d))))
    (k : D.nx ((Γs ds.length).set i0 (some (.own ((List.range ds.length).map v)))))
    (hy : X.N[i0]? = some y := by rfl) (hyl : X.env.scope.names.lookup y = some .local := by rfl) (hsw : swapsWith (.ListComp elt [⟨.Name n pn, iter, [], 0⟩] scope pc) (some (.Name y py)) pos.line X.env = pure true := by first | rfl | exact sw_true rfl rfl rfl (by decide +kernel))
    (hni : X.N[i]? = some n := by rfl) (hx : ∀ q, Loc (Cb X scope q).env.scope n := by intro _; first | exact Or.inl rfl | exact Or.inr rfl) (hf : ∀ q, (Cb X scope q).fn n = true ∨ (Cb X scope q).env.scope.names.lookup n = some .local := by intro _; first | exact .inl rfl | exact .inr rfl) (hs : ∀ x, foldedSetIterable iter X.env x = pure x := by intro _; rfl) :
    Stm X Γ (.Assign [.Name y py] (.ListComp elt [⟨.Name n pn, iter, [], 0⟩] scope pc) pos) D := by
  have h0 := efnr_lc (K := X.K) (Γ := Γ) (wi := RunI X (.Name n pn) iter) (te := RunEb X scope elt) (j := i) (ds := ds) Γs v hi hl hlen hcl hown (fun k d hd B σ Hs H S Q q' q => hst k d hd q B σ Hs H S Q q')
  exact stm_of (ps_setLc (own := [(n, i)]) hc hN hy hyl hsw pi_r (blkOk_by ok) (fun s H C cl fp => pg_name hN hni (hx (s, H, C, cl, fp)) (hf (s, H, C, cl, fp))) (fun _ _ _ _ _ => pts_nil) (fun s H C cl fp => ⟨fun pins t σ' H' Q I h => h (s, H, C, cl, fp) pins t I⟩) hs) fun B σ Hs H S => h0 B σ Hs H S _ fun p xs Hs1 H1 S1 e1 fr r1 => ⟨_, Hs1, S1.adoptF fr r1, k⟩
theorem st_setFN (i : Nat) {n : Str} {pn : Pos} (hN : X.N.Nodup) (h : EfN X Γ e ds Γ') (k : D.nx (Γ'.set i (some (.own ds)))) (hi : X.N[i]? = some n := by rfl) (hx : Loc X.env.scope n := by first | exact Or.inl rfl | exact Or.inr rfl) (hs : swapsWith e (some (.Name n pn)) pos.line X.env = pure false := by rfl)
    (hf : X.fn n = true ∨ X.env.scope.names.lookup n = some .local := by first | exact .inl rfl | exact .inr rfl) : Stm X Γ (.Assign [.Name n pn] e pos) D := stm_of (ps_set hN hi hx pe_r hs hf) fun B σ Hs H S => h B σ Hs H S _ fun p xs Hs1 H1 S1 e1 fr r1 => ⟨_, Hs1, S1.adoptF fr r1, k⟩
/-- [elt for n in iter] with changes -/
theorem efn_lc {elt iter : Expr} {scope : Scope} {n : Str} {i : Nat} {pn : Pos} (Γs : Nat → Gam) (v : Nat → Dt) (hc : X.calm = true) (hN : X.N.Nodup) (hi : EfI X Γ (.Name n pn) iter ds (Γs 0)) (hl : ds.length < 100000) (ok : blkC X.N X.env.scope scope [(n, i)] = true) (hlen : ∀ i, (Γs i).length = (Γs 0).length) (hcl : ∀ k en, (Γs k)[i]? ≠ some (some en))
    (hown : ∀ (i s : Nat) (m : Bool) (ps : List Dt), (Γs i)[s]? = some (some (.ow m ps)) → ∃ m' ps', (Γs 0)[s]? = some (some (.ow m' ps')))
    (hst : ∀ (k : Nat) (d : Dt), ds[k]? = some d → ∀ q, Ef (Cb X scope q) ((wipeG (Γs k) [i]).set i (some (.dat d))) elt (v k) ((wipeG (Γs (k + 1)) [i]).set i (some (.dat d))))
    (hni : X.N[i]? = some n := by rfl) (hx : ∀ q, Loc (Cb X scope q).env.scope n := by intro _; first | exact Or.inl rfl | exact Or.inr rfl) (hf : ∀ q, (Cb X scope q).fn n = true ∨ (Cb X scope q).env.scope.names.lookup n = some .local := by intro _; first | exact .inl rfl | exact .inr rfl) (hs : ∀ x, foldedSetIterable iter X.env x = pure x := by intro _; rfl) :
    EfN X Γ (.ListComp elt [⟨.Name n pn, iter, [], 0⟩] scope pos) ((List.range ds.length).map v) (Γs ds.length) := by
  have h0 := efnr_lc (K := X.K) (Γ := Γ) (wi := RunI X (.Name n pn) iter) (te := RunEb X scope elt) (j := i) (ds := ds) Γs v hi hl hlen hcl hown (fun k d hd B σ Hs H S Q q' q => hst k d hd q B σ Hs H S Q q')
  exact efn_of (pe_lc (own := [(n, i)]) hc hN pi_r (blkOk_by ok) (fun s H C cl fp => pg_name hN hni (hx (s, H, C, cl, fp)) (hf (s, H, C, cl, fp))) (fun _ _ _ _ _ => pts_nil) (fun s H C cl fp => ⟨fun pins t σ' H' Q I h => h (s, H, C, cl, fp) pins t I⟩) hs) h0
/-- y = [elt for n in iter], nothing is changed -/
theorem st_lcM {elt iter : Expr} {scope : Scope} {y n : Str} {i0 i : Nat} {py pn pc : Pos} (v : Dt → Dt) (hc : X.calm = true) (hN : X.N.Nodup) (hi : EvI X Γ (.Name n pn) iter ds) (hl : ds.length < 100000) (ok : blkC X.N X.env.scope scope [(n, i)] = true)
    (he : ∀ d ∈ ds, ∀ q, Ev (Cb X scope q) ((wipeG Γ [i]).set i (some (.dat d))) elt (v d)) (k : D.nx (Γ.set i0 (some (.own (ds.map v)))))
    (hy : X.N[i0]? = some y := by rfl) (hyl : X.env.scope.names.lookup y = some .local := by rfl) (hsw : swapsWith (.ListComp elt [⟨.Name n pn, iter, [], 0⟩] scope pc) (some (.Name y py)) pos.line X.env = pure true := by first | rfl | exact sw_true rfl rfl rfl (by decide +kernel))
    (hni : X.N[i]? = some n := by rfl) (hx : ∀ q, Loc (Cb X scope q).env.scope n := by intro _; first | exact Or.inl rfl | exact Or.inr rfl) (hf : ∀ q, (Cb X scope q).fn n = true ∨ (Cb X scope q).env.scope.names.lookup n = some .local := by intro _; first | exact .inl rfl | exact .inr rfl) (hs : ∀ x, foldedSetIterable iter X.env x = pure x := by intro _; rfl) :
    Stm X Γ (.Assign [.Name y py] (.ListComp elt [⟨.Name n pn, iter, [], 0⟩] scope pc) pos) D := by
  have h0 := enr_lc (K := X.K) (Γ := Γ) (wi := RunI X (.Name n pn) iter) (g := gName i) (tt := tYes) (te := RunEb X scope elt) (vs := [i]) (ds := ds) (fun _ => true) v hi hl (fun d hd => ⟨(wipeG Γ [i]).set i (some (.dat d)), fun B σ Hs H x S r Q k => k _ (S.put r) (wipe1 σ i x), fun B σ Hs H S Q k => k Hs H (Gr.refl S.i), fun _ B σ Hs H S Q k q => he d hd q B σ Hs H S Q k⟩)
  rw [List.filter_eq_self.mpr fun _ _ => rfl] at h0
  exact asg_en (ps_setLc (own := [(n, i)]) hc hN hy hyl hsw pi_r (blkOk_by ok) (fun s H C cl fp => pg_name hN hni (hx (s, H, C, cl, fp)) (hf (s, H, C, cl, fp))) (fun _ _ _ _ _ => pts_nil) (fun s H C cl fp => ⟨fun pins t σ' H' Q I h => h (s, H, C, cl, fp) pins t I⟩) hs) h0 k
/-- y = [elt for n in iter if t] -/
theorem st_lcFi {elt iter t : Expr} {scope : Scope} {y n : Str} {i0 i : Nat} {py pn pc : Pos} (f : Dt → Bool) (v : Dt → Dt) (hc : X.calm = true) (hN : X.N.Nodup) (hi : EvI X Γ (.Name n pn) iter ds) (hl : ds.length < 100000) (ok : blkC X.N X.env.scope scope [(n, i)] = true)
    (ht : ∀ d ∈ ds, ∀ q, EvT (Cb X scope q) ((wipeG Γ [i]).set i (some (.dat d))) t (f d)) (he : ∀ d ∈ ds, f d = true → ∀ q, Ev (Cb X scope q) ((wipeG Γ [i]).set i (some (.dat d))) elt (v d)) (k : D.nx (Γ.set i0 (some (.own ((ds.filter f).map v)))))
    (hy : X.N[i0]? = some y := by rfl) (hyl : X.env.scope.names.lookup y = some .local := by rfl) (hsw : swapsWith (.ListComp elt [⟨.Name n pn, iter, [t], 0⟩] scope pc) (some (.Name y py)) pos.line X.env = pure true := by first | rfl | exact sw_true rfl rfl rfl (by decide +kernel))
    (hni : X.N[i]? = some n := by rfl) (hx : ∀ q, Loc (Cb X scope q).env.scope n := by intro _; first | exact Or.inl rfl | exact Or.inr rfl) (hf : ∀ q, (Cb X scope q).fn n = true ∨ (Cb X scope q).env.scope.names.lookup n = some .local := by intro _; first | exact .inl rfl | exact .inr rfl) (hs : ∀ x, foldedSetIterable iter X.env x = pure x := by intro _; rfl) :
    Stm X Γ (.Assign [.Name y py] (.ListComp elt [⟨.Name n pn, iter, [t], 0⟩] scope pc) pos) D := by
  have h0 := enr_lc (K := X.K) (Γ := Γ) (wi := RunI X (.Name n pn) iter) (g := gName i) (tt := RunTb X scope t) (te := RunEb X scope elt) (vs := [i]) (ds := ds) f v hi hl (fun d hd => ⟨(wipeG Γ [i]).set i (some (.dat d)), fun B σ Hs H x S r Q k => k _ (S.put r) (wipe1 σ i x), fun B σ Hs H S Q k q => ht d hd q B σ Hs H S Q k, fun hf B σ Hs H S Q k q => he d hd hf q B σ Hs H S Q k⟩)
  exact asg_en (ps_setLc (own := [(n, i)]) hc hN hy hyl hsw pi_r (blkOk_by ok) (fun s H C cl fp => pg_name hN hni (hx (s, H, C, cl, fp)) (hf (s, H, C, cl, fp))) (fun s H C cl fp => pts_one ⟨fun pins t σ' H' Q I h => h (s, H, C, cl, fp) pins t I⟩) (fun s H C cl fp => ⟨fun pins t σ' H' Q I h => h (s, H, C, cl, fp) pins t I⟩) hs) h0 k
end
end G

set_option Elab.async false
set_option linter.all false
set_option maxRecDepth 100000
set_option maxHeartbeats 2000000
/-! a method that says super().m(..): its frame, the statement -/
namespace G
open PySem PySem.Spec PyProof.Rows L2
open Evl (Ex)
/-- the method at f, with a __class__ cell at cc that holds the class D; c its code object -/
structure FunC (P : Program) (K : PySem.W.Frag) (x qual : Str) (params : Arguments) (body : List Stmt) (scope : Scope) (kws : List (Str × V)) (D f : Addr) (fd : FuncData) (cc c : Addr) : Prop where
  ex : ∃ (oc : Value) (od : Option Addr) (kV doc pm : Value) (an : Option Addr) (ct : Value) (osl : Array (Option Value)),
    fd = PySem.W.fnX x qual params body scope [("__class__", cc)] .none kV doc pm an (.ref c) ct ∧ K.lookup f = some ⟨oc, od, .func fd, osl⟩ ∧ KwdV K kV kws
  code : PySem.W.codeIn K (.ref c) qual = true
  cell : ∃ (cl : Value) (cld : Option Addr) (csl : Array (Option Value)), K.lookup cc = some ⟨cl, cld, .cell (some (.ref D)), csl⟩
  file : ∃ (ccl : Value) (cdd : Option Addr) (vs : Array Value) (ccs : Array (Option Value)) (file : Str) (tf : Tok), K.lookup c = some ⟨ccl, cdd, .fields vs, ccs⟩ ∧ vs[2]? = some (.str file tf) ∧ ((P.main.file : Str) == file) = true
abbrev nfC (x qual : Str) (params : Arguments) (body : List Stmt) (scope : Scope) (cc c : Addr) : NdefX.NF := ⟨x, qual, params, body, scope, [("__class__", cc)], c⟩
def RunBA (X : Cx) (c : Code) (ss : List Stmt) : TS := fun D σ H => ∀ pins s, Inv X pins σ H s → _root_.PySem.wpAt (model X.prog X.w) X.A c (execs ss X.env) (SP X pins D) X.xe s
def RunSA (X : Cx) (c : Code) (st : Stmt) : TS := fun D σ H => ∀ pins s, Inv X pins σ H s → _root_.PySem.wpAt (model X.prog X.w) X.A c (exec st X.env) (SP X pins D) X.xe s
section
variable {X : Cx} {c : Code}
theorem rba_cons {st : Stmt} {ss : List Stmt} {D : Ends} {σ : L2.St} {H : Hp} (h : RunSA X c st { D with nx := fun σ' H' => RunBA X c ss D σ' H' } σ H) : RunBA X c (st :: ss) D σ H := fun pins s I => by
  refine PySem.ks_wpAt_execs_cons (PySem.ks_wpAt_mono (h pins s I) (fun f s' q => ?_) fun _ _ z => z)
  cases f with
  | next =>
    obtain ⟨σ', H', I', q⟩ := q
    exact q pins s' I'
  | brk => exact q
  | cont => exact q
  | ret u => exact q
theorem rba_nil {D : Ends} {σ : L2.St} {H : Hp} (h : D.nx σ H) : RunBA X c [] D σ H := fun pins s I => PySem.wpAt_of_wpAny ((pss_nil (X := X)).run pins s σ H D I h)
theorem rsa_of {st : Stmt} {D : Ends} {σ : L2.St} {H : Hp} (h : RunS X st D σ H) : RunSA X c st D σ H := fun pins s I => PySem.wpAt_of_wpAny (h pins s I)
end
section
variable {CX : CXT} {P : Program} {w : World} {K : PySem.W.Frag} {mg : Str → Option Value} {base : Heap} {k : Nat} {f D cc c : Addr} {x qual : Str} {params : Arguments} {body : List Stmt} {scope : Scope} {kws : List (Str × V)} {fd : FuncData} {N ps : List Str} {sp : Sp}
theorem cells_C {s : Shared} {H : Hp} {A : Around} {outer : List Env} (F : FunC P K x qual params body scope kws D f fd cc c) (e0 : Env0 P w K mg base A outer s H) : NdefX.CellsAt [("__class__", cc)] ["__class__"] [none] s.heap H := by
  obtain ⟨cl, cld, csl, h⟩ := F.cell
  have key : ∀ y b, ([("__class__", cc)] : List (Str × Addr)).lookup y = some b → y = "__class__" ∧ b = cc := fun y b e => by
    rw [List.lookup_cons] at e
    cases q : (y == ("__class__" : Str)) with
    | true =>
      rw [q] at e
      exact ⟨beq_iff_eq.mp q, (Option.some.inj e).symm⟩
    | false =>
      rw [q] at e
      cases e
  have hb := e0.mod.kin _ _ h
  refine ⟨rfl, fun y b e => ?_, fun a b d e1 e2 => ?_, fun i y e => ?_⟩
  · obtain ⟨_, rfl⟩ := key y b e
    exact ⟨(e0.bs _ _ hb).2, _, _, (e0.bs _ _ hb).1, rfl⟩
  · rw [(key _ _ e1).1, (key _ _ e2).1]
  · cases i with
    | zero =>
      cases e
      exact ⟨cc, rfl, fun v q => by cases q⟩
    | succ i => cases e
theorem fn_C (F : FunC P K x qual params body scope kws D f fd cc c) (S : NdefX.NScope N ps ["__class__"] scope) (len : ∀ vs H Q E, sp vs H Q E → vs.length = ps.length)
    (hbody : ∀ (A : Around) (outer : List Env) (s : Shared) (H : Hp) (vs : List V) (Q : VK) (E : XK), Room k (A.deeper (NdefX.envF (nfC x qual params body scope cc c) f s.heap.objs.size)) → sp vs H Q E →
      RunBA (NdefX.ncx CX P w K mg base N (nfC x qual params body scope cc c) f A outer s H E) (.func body (NdefX.envF (nfC x qual params body scope cc c) f s.heap.objs.size)) body { nx := fun _ H' => Q .non H', rt := Q } (L2.start N vs) H) :
    FnOk P w K mg base CX (k + 1) f fd ps sp := by
  refine ⟨len, fun A outer s H args us vs Q E hr e0 hb r hsp => ?_⟩
  have hl := len _ _ _ _ hsp
  have KX : K.In s.heap := e0.mod.kin.keeps fun b o e => (e0.bs b o e).1
  have lim : s.heap.NoLimit := e0.mod.nolimit.keeps fun b o e => (e0.bs b o e).1
  have C := cells_C F e0
  obtain ⟨oc, od, kV, doc, pm, an, ct, osl, e, lk, _⟩ := F.ex
  subst e
  refine PySem.ks_codeAny_call_defAt (binds := ps.zip us) hr.depth (KX _ _ lk) rfl lim (PySem.W.codeRec_of KX F.code) rfl hb S.nocell (fun ⟨n, _⟩ hy => S.par n (List.of_mem_zip hy).1) (fun h₁ hns kp => ?_) S.co S.gen S.kind
  have I : Inv (NdefX.ncx CX P w K mg base N (nfC x qual params body scope cc c) f A outer s H E) [] (NdefX.startF N vs [none]) H { s with heap := h₁, toks := s.toks + (ps.zip us).length } := NdefX.inv_startN S hr.hd e0 hl r C hns kp
  have est : NdefX.startF N vs [none] = L2.start N vs := by
    have hp := congrArg List.length S.pre
    rw [List.length_take, List.length_append] at hp
    have h1 : ([("__class__" : Str)]).length = 1 := rfl
    unfold NdefX.startF L2.start
    congr 1
    rw [h1] at hp
    have : N.length - vs.length = (N.length - vs.length - 1) + 1 := by omega
    rw [this, List.replicate_succ]
    rfl
  rw [est] at I
  refine PySem.ks_wpAt_mono (hbody A outer s H vs Q E (hr.deeper _) hsp [] _ I) (fun fl s' hs => ?_) fun e s' hs => hs
  have fin : ∀ {σ' : L2.St} {H' : Hp} {v : V} {u : Value}, Inv (NdefX.ncx CX P w K mg base N (nfC x qual params body scope cc c) f A outer s H E) [] σ' H' s' → L2.RelV v u → Q v H' → CE outer P w H s Q u s' :=
    fun {σ' H' v u} J rv q => ⟨v, H', J.os, J.bare, J.base, J.hok, rv, q⟩
  cases fl with
  | ret u =>
    obtain ⟨v, σ', H', J, rv, q⟩ := hs
    exact fin J rv q
  | next =>
    obtain ⟨σ', H', J, q⟩ := hs
    exact fin (v := V.non) (u := Value.none) J rfl q
  | brk =>
    obtain ⟨_, _, _, q⟩ := hs
    exact False.elim q
  | cont =>
    obtain ⟨_, _, _, q⟩ := hs
    exact False.elim q
/-- keyword-only defaults bound -/
theorem FunC.kbinds (F : FunC P K x qual params body scope kws D f fd cc c) (n : Nat) (ks : List Str) (ms : List (Str × V)) (g : {α : Type} → List α → List α → List α → List α) (hk : kws ≠ []) (hms : ∀ q ∈ ms, q ∈ kws)
    (hrel : ∀ {vs mz zs : List V} {us mv ws : List Value}, Vals vs us → Vals mz mv → Vals zs ws → Vals (g vs mz zs) (g us mv ws))
    (h : ∀ (D : Addr) (doc pm : Value) (an : Option Addr) (ct : Value) (us mv ws : List Value), us.length = n → mv.length = ms.length → ws.length = ks.length →
      KwChain D ((ms.map (·.1)).zip mv) (bindArgs (PySem.W.fnX x qual params body scope [("__class__", cc)] .none (.ref D) doc pm an (.ref c) ct) ⟨us, ks.zip ws⟩) (ps.zip (g us mv ws))) :
    ∃ mv : List Value, KBn K fd ps n ks (fun us ws => g us mv ws) (fun vs zs => g vs (ms.map (·.2)) zs) := by
  obtain ⟨oc, od, kV, doc, pm, an, ct, osl, rfl, lk, hK⟩ := F.ex
  rcases hK with e | ⟨D, rfl, hq⟩
  · exact absurd e hk
  · obtain ⟨mv, hl, rk, hks⟩ := kwd_vals (ms := ms) fun q hm => hq q (hms q hm)
    exact ⟨mv, ⟨fun s us ws X l1 l2 => BindsTo.of_looks fun M => KwChain.looks X hks (h D doc pm an ct us mv ws l1 hl l2), fun r1 r2 => hrel r1 rk r2⟩⟩
end
/-- what super().m needs of the classes: g is m behind D in C's order -/
structure SupM (K : PySem.W.Frag) (C D : Addr) (m : Str) (g : Addr) : Prop where
  cls : ∃ cd, PySem.W.clsIn K D = some cd
  sub : PySem.W.mroIn K C (.ref D) = some true
  opq : PySem.W.nsIn K cStatics "thirdparty.any" = some none
  fnd : PySem.W.ks_superIn K C D m = some (some (.ref g))
  ty : PySem.W.typeIn K (.ref g) = some (.type "function")
  fi : PySem.W.fnIn K g = true
section
variable {X : Cx} {CX : CXT} {k j : Nat} {f D C cc c a dx g : Addr} {x qual n : Str} {params : Arguments} {body : List Stmt} {scope : Scope} {kws : List (Str × V)} {fd : FuncData} {ar : Arg} {sp : Sp} {E : XK} {p0 p1 apos pos : Pos} {e : Expr} {es : List Expr} {m : Str} {fs : List (Str × V)}
theorem run_super {pl : Sem Bool} {pins : List (Addr × Obj)} {σ : L2.St} {H : Hp} {s : Shared} {Q : VK} (F : FunC X.prog X.K x qual params body scope kws D f fd cc c) (M : SupM X.K C D m g) (GR : FnR X.prog X.w X.K X.mg X.base CX k g sp) (hr : Room k X.A) (hx : Passes CX X E)
    (hfu : X.env.func = some f) (hco : X.env.code = .ref c) (hce : X.env.cells.lookup ("__class__" : Str) = some cc) (hks : X.env.kindOf "super" = some .globalImplicit) (hkc : X.env.kindOf "__class__" = some .free) (hsl : X.mg "super" = none)
    (hp : (params.posonlyargs ++ params.args).head? = some ar) (har : X.N[0]? = some ar.arg) (hka : X.env.kindOf ar.arg = some .local) (htop : (X.prog.main.scope.names.lookup ("super" : Str)).isSome = false) (hm : (m == ("__class__" : Str)) = false)
    (I : Inv X pins σ H s) (h0 : σ[0]? = some (some (.ref a))) (ha : H a = some (.ins C dx fs))
    (h : ∀ q, H q = none → RunA X (e :: es) σ (upd H q (.met g a)) fun vs H2 => H2 q = some (.met g a) ∧ sp (.ref a :: vs) H2 Q E)
    (he : starEach (e :: es) X.env = (false, eval e X.env) :: starEach es X.env := by rfl) (hpl : (backTo pos (starEach es X.env)).any (·.1) = false := by rfl)
    (hev : eval (.Call (.Attribute (.Call (.Name "super" p0) [] [] p1) m apos) (e :: es) [] pos) X.env = (do
      let ov ← attributeBase (.Call (.Name "super" p0) [] [] p1) m X.env (eval (.Call (.Name "super" p0) [] [] p1) X.env)
      standAt apos.atName
      let (f, first) ← holding [ov] (getMethod ov m pl)
      callWith pos f first (backTo pos (starEach (e :: es) X.env)) []) := by rfl) :
    _root_.PySem.wpAt (model X.prog X.w) X.A (.func body X.env) (eval (.Call (.Attribute (.Call (.Name "super" p0) [] [] p1) m apos) (e :: es) [] pos) X.env) (EP X pins σ Q) X.xe s := by
  obtain ⟨oc, od, kV, doc, pm, an, ct, osl, rfl, lk, _⟩ := F.ex
  obtain ⟨ccl, cdd, vs, ccs, file, tf, hcode, hvs, hfile⟩ := F.file
  obtain ⟨cl, cld, csl, hcell⟩ := F.cell
  obtain ⟨cdD, hD⟩ := M.cls
  have KX := I.kIn
  obtain ⟨oD, hD1, hD2⟩ : ∃ oD, s.heap.get? D = some oD ∧ oD.data = .cls cdD := by
    unfold PySem.W.clsIn at hD
    split at hD
    · rename_i c d cd' sl ho
      cases hD
      exact ⟨_, KX _ _ ho, rfl⟩
    · cases hD
  obtain ⟨mA, O, _, _, _, _⟩ := ins_get I.hok ha
  obtain ⟨odx, J, _⟩ := O.look
  refine PySem.ks_wpAt_MethodCall ?_ hev
  refine PySem.ks_wpAt_super_base (env := X.env) hks hkc hm hfu (KX _ _ lk) rfl hp hco (KX _ _ hcode) rfl hvs hfile htop ?_
  obtain ⟨mb, b1, b2⟩ := I.mod.blt
  refine PySem.W.ks_loadName_global I.ok.kind hks (Calls.loadGlobal_builtin (by rw [I.ok.glob]; exact I.mod.glob.keeps I.bk) hsl (by rw [I.ok.blt]; exact b1.keeps I.bk) ((b2 "super" (by decide)).trans (by decide +kernel)) ⟨rfl, ?_⟩)
  refine wpAny_loadName_free I.ok.kind hkc hce ⟨_, KX _ _ hcell, rfl⟩ ?_
  obtain ⟨ml, hns, hlk⟩ := I.loc
  obtain ⟨u, ru, lu⟩ := hlk 0 ar.arg (.ref a) har h0 (Or.inl hka)
  obtain rfl : u = Value.ref a := ru
  have hlm : ml ar.arg = some (.ref a) := by
    rcases lu with ⟨_, q⟩ | ⟨q, _⟩
    · exact q
    · rcases q with q | q <;> rw [hka] at q <;> cases q
  refine wpAny_loadName_local I.ok.kind hka hns hlm ?_
  refine PySem.ks_wpAny_isType_cls hD1 hD2 ⟨rfl, ?_⟩
  refine PySem.ks_wpAny_call_super hD1 hD2 J.at_ J.cls (fun c e => ?_) (PySem.W.looks_mroIn KX M.sub) (fun h' hso kp => ?_)
  · have := J.no
    unfold PySem.W.notCls at this
    rw [e] at this
    exact Bool.noConfusion this
  have I2 : Inv X pins σ H { s with heap := h', toks := s.toks } := I.kept kp
  have KX2 := I2.kIn
  obtain ⟨mA2, O2, _, _, _, _⟩ := ins_get I2.hok ha
  obtain ⟨odx2, J2, _⟩ := O2.look
  cases hc : PySem.W.clsIn X.K C with
  | none =>
    have z := M.fnd
    unfold PySem.W.ks_superIn at z
    rw [hc] at z
    cases z
  | some cd =>
    have z := M.fnd
    unfold PySem.W.ks_superIn at z
    rw [hc] at z
    obtain ⟨of, hof, hofc⟩ : ∃ of, h'.get? g = some of ∧ of.cls = .type "function" := by
      have ht' : (X.K.lookup g).map (·.cls) = some (.type "function") := M.ty
      cases z : X.K.lookup g with
      | none => rw [z] at ht'; cases ht'
      | some of => rw [z] at ht'; exact ⟨of, KX2 _ _ z, Option.some.inj ht'⟩
    refine PySem.ks_wpAny_getMethod_super hso (PySem.W.looks_opaque KX2 M.opq) (l₀ := cd.mro) ?_ rfl KX2 z hof hofc (PySem.W.ks_ne KX2 J2 hc) hm ?_
    · exact fun A Q E s k q => wpAny_bind ((PySem.W.looks_clsIn KX2 hc) A _ E s k (wpAny_pure q))
    have I3 := I2.laid (t' := s.toks + 1) (a := h'.objs.size) (o := .met g a) (h' := h'.push (PySem.W.methodObj (.ref g) (.ref a))) (fun b u z => Heap.get?_push_of_some _ z) (Nat.le_refl _)
      (show (h'.push (PySem.W.methodObj (.ref g) (.ref a))).get? h'.objs.size = some (PySem.W.methodObj (.ref g) (.ref a)) from Heap.get?_push_size h' rfl)
    have hq0 : H h'.objs.size = none := I2.hok.fresh (Nat.le_refl _)
    have hA := h h'.objs.size hq0 pos pins _ I3
    rw [he] at hA ⊢
    refine callwith_met (X := X) (g := g) (a := a) (by show ((false || (backTo pos (starEach es X.env)).any (·.1)) || false) = false; rw [hpl]; rfl) M.fi (Calls.evalArgs_plain (thn hA fun us s4 ⟨vs, H4, I4, r4, hq4, q4⟩ => ?_))
    exact ⟨met_P I4 hq4, wpAny_call (PySem.W.method_call (met_P I4 hq4).1 (run_fnR (us := Value.ref a :: us) (vs := V.ref a :: vs) GR hr hx I4 (.cons rfl r4) q4))⟩
end
end G

set_option Elab.async false
set_option linter.all false
set_option maxRecDepth 100000
set_option maxHeartbeats 2000000
namespace G
open PySem PySem.Spec PyProof.Rows L2
open Evl (Ex)
/-! ### objects being made -/
def putD (f : Str) (d : Dt) : List (Str × Dt) → List (Str × Dt)
  | [] => [(f, d)]
  | (g, x) :: r => if g = f then (g, d) :: r else (g, x) :: putD f d r
section
variable {K : PySem.W.Frag} {H : Hp}
theorem RpF.length : ∀ {fs : List (Str × V)} {gs : List (Str × Dt)}, RpF K H fs gs → fs.length = gs.length
  | _, _, .nil => rfl
  | _, _, .cons _ r => congrArg Nat.succ (RpF.length r)
theorem RpF.put {f : Str} {v : V} {d : Dt} (h : Rp K H v d) : ∀ {fs : List (Str × V)} {gs : List (Str × Dt)}, RpF K H fs gs → RpF K H (putF f v fs) (putD f d gs)
  | _, _, .nil => .cons h .nil
  | _, _, .cons (f := g) q r => by
    unfold putF putD
    by_cases e : g = f
    · rw [if_pos e, if_pos e]
      exact .cons h r
    · rw [if_neg e, if_neg e]
      exact .cons q (RpF.put h r)
end
section
variable {K : PySem.W.Frag} {B : Bs} {Γ : Gam} {σ : L2.St} {Hs H Hs' H' : Hp} {x C dx : Addr} {us us' : List (Str × V)}
theorem Sat.objset (S : Sat K B Γ σ Hs H) (hx : H x = some (.ins C dx us)) (hn : Hs x = none) (hL : B.L x) : Sat K B Γ σ Hs (upd H x (.ins C dx us')) := by
  have hne : ∀ a o, Hs a = some o → a ≠ x := fun a o q z => by
    rw [z, hn] at q
    cases q
  refine ⟨S.len, fun a o q => ?_, S.s0, fun a o n q => ?_, fun a q => ?_, S.n0, S.dat, fun j m es q => ?_, S.sep⟩
  · rw [upd_ne (hne a o q)]
    exact S.i a o q
  · have z : a ≠ x := fun z => n (by rw [z]; exact hL)
    rw [upd_ne z]
    exact S.e0 a o n q
  · by_cases z : a = x
    · subst z
      rw [upd_same] at q
      cases q
    · rw [upd_ne z] at q
      exact S.t0 a q
  · obtain ⟨l, xs, h1, h2, h3⟩ := S.own j m es q
    refine ⟨l, xs, h1, ?_, h3⟩
    rw [upd_ne (fun z => by rw [z, hx] at h2; cases h2)]
    exact h2
theorem Sat.objCall (S : Sat K B Γ σ Hs H) (hx : H x = some (.ins C dx us)) (hL : B.L x) (g : GrL x Hs H Hs' H') : Sat K B Γ σ Hs' H' := by
  refine ⟨S.len, g.i, S.s0.trans g.s, fun a o n h => g.e a o (fun z => n (by rw [z]; exact hL)) (S.e0 a o n h), fun a h => S.t0 a (g.t a h), fun a o h n => ?_, fun j d h => ?_, fun j m es h => ?_, S.sep⟩
  · cases q : Hs a with
    | some u => exact S.n0 a u q n
    | none => exact .inl (S.t0 a (g.n a o h q))
  · obtain ⟨v, k1, k2⟩ := S.dat j d h
    exact ⟨v, k1, k2.mono g.s⟩
  · obtain ⟨l, xs, k1, k2, k3, k4, k5⟩ := S.own j m es h
    have nl : l ≠ x := fun z => by
      rw [z, hx] at k2
      cases k2
    refine ⟨l, xs, k1, g.e l _ nl k2, ?_, k4.mono g.s, k5⟩
    cases z : Hs' l with
    | none => rfl
    | some u =>
      have := g.n l u z k3
      rw [k2] at this
      cases this
theorem Sat.lend {L : Addr → Prop} (S : Sat K B Γ σ Hs H) (h : ∀ a, B.L a → L a) : Sat K ⟨B.Hs, B.H, L, B.M⟩ Γ σ Hs H where
  len := S.len
  i := S.i
  s0 := S.s0
  e0 := fun a o n q => S.e0 a o (fun z => n (h a z)) q
  t0 := S.t0
  n0 := fun a o q n => (S.n0 a o q n).imp (fun z => z) (h a)
  dat := S.dat
  own := fun i m ds q => by
    obtain ⟨l, xs, k1, k2, k3, k4, k5, k6⟩ := S.own i m ds q
    exact ⟨l, xs, k1, k2, k3, k4, k5.imp (fun z => z) (h l), k6⟩
  sep := S.sep
end
structure Rnr (X : Cx) (Rn : List Stmt → TS) : Prop where
  cons : ∀ (st : Stmt) (ss : List Stmt) (D : Ends) (σ : L2.St) (H : Hp), RunS X st { D with nx := fun σ' H' => Rn ss D σ' H' } σ H → Rn (st :: ss) D σ H
  nil : ∀ (D : Ends) (σ : L2.St) (H : Hp), D.nx σ H → Rn [] D σ H
theorem rnr_A {X : Cx} {c : Code} : Rnr X (RunBA X c) := ⟨fun _ _ _ _ _ h => rba_cons (rsa_of h), fun _ _ _ h => rba_nil h⟩
theorem rnr_B {X : Cx} : Rnr X (RunB X) := ⟨fun st ss D σ H h pins s I => (pss_cons (ps_r (X := X) (st := st)) (pss_r (X := X) (ss := ss))).run pins s σ H D I h, fun D σ H h pins s I => pss_nil.run pins s σ H D I h⟩
def endO (K : PySem.W.Frag) (B : Bs) (x C dx : Addr) (fs : List (Str × Dt)) : Ends := { nx := fun σ' H' => ∃ Γ' Hs' us', Sat K B Γ' σ' Hs' H' ∧ H' x = some (.ins C dx us') ∧ Hs' x = none ∧ RpF K Hs' us' fs, rt := fun _ _ => False }
/-- the body of an __init__: x the object, fs its fields so far, fsE those in the end -/
def IB (X : Cx) (Rn : List Stmt → TS) (x C : Addr) (Γ : Gam) (fs : List (Str × Dt)) (ss : List Stmt) (fsE : List (Str × Dt)) : Prop := ∀ (B : Bs) (σ : L2.St) (Hs H : Hp) (dx : Addr) (us : List (Str × V)), Sat X.K B Γ σ Hs H → B.L x → H x = some (.ins C dx us) → Hs x = none → RpF X.K Hs us fs →
  Rn ss (endO X.K B x C dx fsE) σ H
/-- an expression that may read x's fields -/
def EvOR (K : PySem.W.Frag) (te : TE) (x C : Addr) (fs : List (Str × Dt)) (Γ : Gam) (d : Dt) : Prop := ∀ (B : Bs) (σ : L2.St) (Hs H : Hp) (dx : Addr) (us : List (Str × V)), Sat K B Γ σ Hs H → H x = some (.ins C dx us) → RpF K Hs us fs → ∀ Q : VK, (∀ v Hs' H', Gr Hs H Hs' H' → Rp K Hs' v d → Q v H') → te σ H Q
def EvAOR (K : PySem.W.Frag) (te : TA) (x C : Addr) (fs : List (Str × Dt)) (Γ : Gam) (ds : List Dt) : Prop := ∀ (B : Bs) (σ : L2.St) (Hs H : Hp) (dx : Addr) (us : List (Str × V)), Sat K B Γ σ Hs H → H x = some (.ins C dx us) → RpF K Hs us fs → ∀ Q : List V → Hp → Prop, (∀ vs Hs' H', Gr Hs H Hs' H' → RpA K Hs' vs ds → Q vs H') → te σ H Q
abbrev EvO (X : Cx) (x C : Addr) (fs : List (Str × Dt)) (Γ : Gam) (e : Expr) (d : Dt) : Prop := EvOR X.K (RunE X e) x C fs Γ d
abbrev EvAO (X : Cx) (x C : Addr) (fs : List (Str × Dt)) (Γ : Gam) (es : List Expr) (ds : List Dt) : Prop := EvAOR X.K (RunA X es) x C fs Γ ds
section
variable {X : Cx} {Rn : List Stmt → TS} {x C : Addr} {Γ : Gam} {fs fsE : List (Str × Dt)} {ss : List Stmt} {st : Stmt} {e a b : Expr} {es : List Expr} {d y z w : Dt} {ds : List Dt} {pos p : Pos} {n f : Str}
theorem evo_ev (h : Ev X Γ e d) : EvO X x C fs Γ e d := fun B σ Hs H _ _ S _ _ Q q => h B σ Hs H S Q q
theorem evo_of {t : TE} (h : PE X e t) (q : EvOR X.K t x C fs Γ d) : EvO X x C fs Γ e d := fun B σ Hs H dx us S h1 h2 Q k pins s I => h.run pins s σ H Q I (q B σ Hs H dx us S h1 h2 Q k)
theorem evao_of {t : TA} (h : PA X es t) (q : EvAOR X.K t x C fs Γ ds) : EvAO X x C fs Γ es ds := fun B σ Hs H dx us S h1 h2 Q k pos pins s I => h.run pos pins s σ H Q I (q B σ Hs H dx us S h1 h2 Q k)
theorem evo_fld (i : Nat) {pn : Pos} (hg : Γ[i]? = some (some (.dat (.cls x)))) (hC : Cls X.K C) (hn : NoAttr X.K C f) (hl : fs.lookup f = some d) (hN : X.N[i]? = some n := by rfl) (hv : Vis X.env.scope n := by first | exact Or.inl rfl | exact Or.inr (Or.inl rfl) | exact Or.inr (Or.inr rfl)) (hd : (n == ("__debug__" : Str)) = false := by decide)
    (hcd : (n == ("__classdict__" : Str)) = false := by decide) (hb : attributeBase (.Name n pn) f X.env (eval (.Name n pn) X.env) = eval (.Name n pn) X.env := by rfl) : EvO X x C fs Γ (.Attribute (.Name n pn) f pos) d :=
  evo_of (pe_fld (pe_var hN hv hd hcd) hb) fun B σ Hs H dx us S hx r Q q => by
    obtain ⟨v, h1, h2⟩ := S.dat i _ hg
    cases h2
    obtain ⟨w, k1, k2⟩ := r.look hl
    exact ⟨.ref x, h1, x, C, dx, us, w, rfl, hx, hC, hn, k1, q w Hs H (Gr.refl S.i) k2⟩
theorem evo_op {op : Operator} {r : R2} (ho : OpR X (binaryOp op) r) (ha : EvO X x C fs Γ a y) (hb : EvO X x C fs Γ b z) (hr : OpV X.K r y z w) : EvO X x C fs Γ (.BinOp a op b pos) w := evo_of (pe_op ho pe_r pe_r) fun B σ Hs H dx us S hx rf Q k =>
  ha B σ Hs H dx us S hx rf _ fun u Hs1 H1 g1 r1 => hb B σ Hs1 H1 dx us (S.step g1) (g1.e _ _ hx) (rf.mono g1.s) _ fun v Hs2 H2 g2 r2 => hr Hs2 H2 u v g2.i (r1.mono g2.s) r2 Q fun w Hs3 H3 g3 r3 => k w Hs3 H3 (g1.trans (g2.trans g3)) r3
theorem evo_sub {i j : Int} (ha : EvO X x C fs Γ a (.int i)) (hb : EvO X x C fs Γ b (.int j)) : EvO X x C fs Γ (.BinOp a .Sub b pos) (.int (i - j)) := evo_op op_sub ha hb (ov_I0 fun _ => .int _)
theorem eao_nil : EvAO X x C fs Γ [] [] := evao_of pa_nil fun B σ Hs H _ _ S _ _ Q q => q [] Hs H (Gr.refl S.i) .nil
theorem eao_cons (ha : EvO X x C fs Γ e d) (hr : EvAO X x C fs Γ es ds) (hs : starEach (e :: es) X.env = (false, eval e X.env) :: starEach es X.env := by rfl) : EvAO X x C fs Γ (e :: es) (d :: ds) :=
  evao_of (pa_cons pe_r pa_r hs) fun B σ Hs H dx us S hx rf Q q => ha B σ Hs H dx us S hx rf _ fun v Hs1 H1 g1 r1 => hr B σ Hs1 H1 dx us (S.step g1) (g1.e _ _ hx) (rf.mono g1.s) _ fun vs Hs2 H2 g2 r2 => q _ Hs2 H2 (g1.trans g2) (.cons (r1.mono g2.s) r2)
theorem evo_tup {x1 : Nat} (h : EvAO X x C fs Γ es ds) (hl : ds.length ≤ 100000) : EvO X x C fs Γ (.Tuple es x1 pos) (.tup ds) := evo_of (pe_tup pa_r) fun B σ Hs H dx us S hx rf Q q => h B σ Hs H dx us S hx rf _ fun vs Hs1 H1 g1 r1 =>
  ⟨Evl.sz_of (by rw [r1.length]; exact hl), fun p hp => q _ (upd Hs1 p (.tup vs)) _ (g1.trans (Gr.new g1.i hp)) (.tup (Evl.st_of upd_same) (r1.mono (Gr.new (o := .tup vs) g1.i hp).s))⟩
theorem evo_callB {id : String} {r : List V → Hp → VK → Prop} (hc : CallR X (.builtin id) r) (hm : X.mg n = none) (hv : bootBuiltins n = some (.builtin id)) (ha : EvAO X x C fs Γ (e :: es) ds) (hr : CaV X.K r ds z) (hg : Gl X n := by rfl) (hn : n ≠ "__name__" := by decide) (hdb : (n == ("__debug__" : Str)) = false := by decide)
    (he : starEach (e :: es) X.env = (false, eval e X.env) :: starEach es X.env := by rfl) (hpl : (backTo pos (starEach es X.env)).any (·.1) = false := by rfl) : EvO X x C fs Γ (.Call (.Name n p) (e :: es) [] pos) z := evo_of (pe_callB hc hg hm hv pa_r hn hdb he hpl) fun B σ Hs H dx us S hx rf Q q =>
  ha B σ Hs H dx us S hx rf _ fun us Hs1 H1 g1 r1 => hr Hs1 H1 us g1.i r1 Q fun w Hs2 H2 g2 r2 => q w Hs2 H2 (g1.trans g2) r2
theorem cv_max2 {i j : Int} {X : Cx} : CaV X.K (fun xs H Q => ∃ i j, xs = [.int i, .int j] ∧ Q (.int (if j > i then j else i)) H) [.int i, .int j] (.int (if j > i then j else i)) := fun Hs H us e r Q q => by
  cases r with
  | cons r1 r2 =>
    cases r2 with
    | cons r3 r4 =>
      cases r4
      cases r1
      cases r3
      exact ⟨i, j, rfl, q _ Hs H (Gr.refl e) (.int _)⟩
theorem evo_max2 {i j : Int} (T : Bt X.mg) (hc : X.calm = true) (h : EvO X x C fs Γ a (.int i)) (h' : EvO X x C fs Γ b (.int j)) (hg : Gl X "max" := by rfl) (hs : starEach [a, b] X.env = (false, eval a X.env) :: starEach [b] X.env := by rfl) (hs2 : starEach [b] X.env = (false, eval b X.env) :: starEach [] X.env := by rfl) (hpl : (backTo pos (starEach [b] X.env)).any (·.1) = false := by rfl) : EvO X x C fs Γ (.Call (.Name "max" p) [a, b] [] pos) (.int (if j > i then j else i)) :=
  evo_callB (call_max2 hc) T.max (by decide +kernel) (eao_cons h (eao_cons h' eao_nil hs2) hs) cv_max2 hg (by decide) (by decide) hs hpl
/-! the statements -/
theorem ib_nil (R : Rnr X Rn) (h : fs = fsE) : IB X Rn x C Γ fs [] fsE := fun B σ Hs H dx us S hL hx hn r => R.nil _ _ _ ⟨Γ, Hs, us, S, hx, hn, h ▸ r⟩
theorem ib_stm (R : Rnr X Rn) (h : Stm X Γ st { nx := fun Γ' => IB X Rn x C Γ' fs ss fsE, rt := fun _ _ => False }) : IB X Rn x C Γ fs (st :: ss) fsE := fun B σ Hs H dx us S hL hx hn r => by
  refine R.cons _ _ _ _ _ (RunS.mono (h _ σ Hs H S.rebase) (fun σ' H' ⟨Γ', Hs', S', q⟩ => ?_) (fun _ _ q => ?_) (fun _ _ ⟨_, _, _, z⟩ => z.elim) (fun _ _ ⟨_, _, _, z⟩ => z.elim))
  · have nL : ¬ (rebase B.M Γ σ Hs H).L x := fun ⟨i, m, ds, h1, h2⟩ => by
      obtain ⟨l, xs, k1, k2, _⟩ := S.own i m ds h1
      rw [h2] at k1
      cases k1
      rw [hx] at k2
      cases k2
    refine q B σ' Hs' H' dx us (S.unbase S') hL (S'.e0 x _ nL hx) ?_ (r.mono S'.s0)
    cases z : Hs' x with
    | none => rfl
    | some u =>
      rcases S'.n0 x u z hn with k | k
      · have k' : H x = none := k
        rw [hx] at k'
        cases k'
      · exact (nL k).elim
  · rcases q with ⟨_, _, _, _, _, _, z⟩ | ⟨_, _, _, _, _, _, _, _, _, _, z⟩
    · exact z.elim
    · exact z.elim
theorem ib_drop (i : Nat) (h : IB X Rn x C (Γ.set i none) fs ss fsE) : IB X Rn x C Γ fs ss fsE := fun B σ Hs H dx us S => h B σ Hs H dx us (S.drop i)
theorem ib_attr (i : Nat) {pn pa : Pos} (R : Rnr X Rn) (hg : Γ[i]? = some (some (.dat (.cls x)))) (h : EvO X x C fs Γ e d) (hC : Cls X.K C) (hn : NoAttr X.K C f) (hl : fs.length < 1000) (k : IB X Rn x C Γ (putD f d fs) ss fsE) (hN : X.N[i]? = some n := by rfl)
    (hv : Vis X.env.scope n := by first | exact Or.inl rfl | exact Or.inr (Or.inl rfl) | exact Or.inr (Or.inr rfl)) (hd : (n == ("__debug__" : Str)) = false := by decide) (hcd : (n == ("__classdict__" : Str)) = false := by decide)
    (hs : swapsWith e (some (.Attribute (.Name n pn) f pa)) pos.line X.env = pure false := by rfl) : IB X Rn x C Γ fs (.Assign [.Attribute (.Name n pn) f pa] e pos :: ss) fsE := fun B σ Hs H dx us S hL hx hn0 r => by
  refine R.cons _ _ _ _ _ fun pins s I => (ps_fld (pe_var (X := X) hN hv hd hcd) pe_r hs).run pins s σ H _ I (h B σ Hs H dx us S hx r _ fun v Hs1 H1 g1 r1 => ?_)
  obtain ⟨w, h1, h2⟩ := S.dat i _ hg
  cases h2
  have hx1 := g1.e _ _ hx
  have hn1 : Hs1 x = none := by
    cases z : Hs1 x with
    | none => rfl
    | some u =>
      have q := g1.n x u z hn0
      rw [hx] at q
      cases q
  refine ⟨.ref x, h1, x, C, dx, us, rfl, hx1, hC, hn, by rw [r.length]; exact hl, ?_⟩
  exact k B σ Hs1 _ dx _ ((S.step g1).objset hx1 hn1 hL) hL upd_same hn1 ((r.mono g1.s).put r1)
theorem ib_setO (i : Nat) {pn : Pos} (R : Rnr X Rn) (hNd : X.N.Nodup) (h : EvO X x C fs Γ e d) (k : IB X Rn x C (Γ.set i (some (.dat d))) fs ss fsE) (hi : X.N[i]? = some n := by rfl) (hx : Loc X.env.scope n := by first | exact Or.inl rfl | exact Or.inr rfl) (hs : swapsWith e (some (.Name n pn)) pos.line X.env = pure false := by rfl)
    (hf : X.fn n = true ∨ X.env.scope.names.lookup n = some .local := by first | exact .inl rfl | exact .inr rfl) : IB X Rn x C Γ fs (.Assign [.Name n pn] e pos :: ss) fsE := fun B σ Hs H dx us S hL hx0 hn0 r => by
  refine R.cons _ _ _ _ _ fun pins s I => (ps_set hNd hi hx pe_r hs hf).run pins s σ H _ I (h B σ Hs H dx us S hx0 r _ fun v Hs1 H1 g1 r1 => ?_)
  have hn1 : Hs1 x = none := by
    cases z : Hs1 x with
    | none => rfl
    | some u =>
      have q := g1.n x u z hn0
      rw [hx0] at q
      cases q
  exact k B _ Hs1 _ dx _ ((S.step g1).put r1) hL (g1.e _ _ hx0) hn1 (r.mono g1.s)
end
/-- an __init__: fs the fields that are there, ds the arguments, fs' the fields behind it -/
def spI (K : PySem.W.Frag) (R : Addr → List (Str × Dt) → List Dt → List (Str × Dt) → Prop) : Sp := fun vs H Q _ => ∃ (Hs : Hp) (x C dx : Addr) (us : List (Str × V)) (fs : List (Str × Dt)) (ws : List V) (ds : List Dt) (fs' : List (Str × Dt)), vs = .ref x :: ws ∧ Ex Hs H ∧ H x = some (.ins C dx us) ∧ Hs x = none ∧ RpF K Hs us fs ∧ RpA K Hs ws ds ∧ R C fs ds fs' ∧
  ∀ Hs' H' us', GrL x Hs H Hs' H' → H' x = some (.ins C dx us') → Hs' x = none → RpF K Hs' us' fs' → Q .non H'
theorem spI_len {K : PySem.W.Frag} {R : Addr → List (Str × Dt) → List Dt → List (Str × Dt) → Prop} {n : Nat} (len : ∀ C fs ds fs', R C fs ds fs' → ds.length + 1 = n) : ∀ vs H Q E, spI K R vs H Q E → vs.length = n := fun vs H Q E h => by
  obtain ⟨Hs, x, C, dx, us, fs, ws, ds, fs', rfl, _, _, _, _, r, h, _⟩ := h
  rw [List.length_cons, r.length]
  exact len C fs ds fs' h
theorem sat_startI {K : PySem.W.Frag} {N : List Str} {x : Addr} {ws : List V} {ds : List Dt} {Hs H : Hp} (i : Ex Hs H) (r : RpA K Hs ws ds) : Sat K ⟨Hs, H, fun a => a = x, fun _ => False⟩ (startG N (.cls x :: ds)) (L2.start N (.ref x :: ws)) Hs H :=
  (sat_start i (.cons (.cls x) r)).lend fun a z => z.elim
theorem endO_fin {K : PySem.W.Frag} {Hs H : Hp} {x C dx : Addr} {fs' : List (Str × Dt)} {Q : VK} (q : ∀ Hs' H' us', GrL x Hs H Hs' H' → H' x = some (.ins C dx us') → Hs' x = none → RpF K Hs' us' fs' → Q .non H') : ∀ σ' H', (endO K ⟨Hs, H, fun a => a = x, fun _ => False⟩ x C dx fs').nx σ' H' → Q .non H' := fun σ' H' ⟨Γ', Hs', us', S', h1, h2, h3⟩ => by
  refine q Hs' H' us' ⟨S'.s0, S'.i, fun a o n h => S'.e0 a o n h, S'.t0, fun a o h n => ?_⟩ h1 h2 h3
  rcases S'.n0 a o h n with z | z
  · exact z
  · have z' : a = x := z
    rw [z', h2] at h
    cases h
section
variable {P : Program} {w : World} {K : PySem.W.Frag} {mg : Str → Option Value} {base : Heap} {R : Addr → List (Str × Dt) → List Dt → List (Str × Dt) → Prop} {k : Nat} {x qual : Str} {params : Arguments} {body : List Stmt} {scope : Scope} {f : Addr} {fd : FuncData} {N ps : List Str}
/-- an __init__ without super -/
theorem fn_init (F : FunD K x qual params body scope [] [] f fd) (S : FnScope N ps scope) (len : ∀ C fs ds fs', R C fs ds fs' → ds.length + 1 = ps.length)
    (hbody : ∀ (q : Value × Around × List Env × Shared × Hp × XK) (C : Addr) (fs : List (Str × Dt)) (ds : List Dt) (fs' : List (Str × Dt)) (y : Addr), Room k (cxF P w K mg base N qual scope f q).A → R C fs ds fs' → IB (cxF P w K mg base N qual scope f q) (RunB (cxF P w K mg base N qual scope f q)) y C (startG N (.cls y :: ds)) fs body fs') :
    FnOk P w K mg base (L2.CX P w) (k + 1) f fd ps (spI K R) := F.ok S (spI_len len) fun cdv A outer s H vs Q E hr h => by
  obtain ⟨Hs, y, C, dx, us, fs, ws, ds, fs', rfl, i, hx, hn, rf, r, hR, q⟩ := h
  have B := hbody (cdv, A, outer, s, H, E) C fs ds fs' y hr hR ⟨Hs, H, fun a => a = y, fun _ => False⟩ (L2.start N (.ref y :: ws)) Hs H dx us (sat_startI i r) rfl hx hn rf
  exact ⟨_, pss_r, RunB.mono B (endO_fin q) (fun _ _ z => z.elim) (fun _ _ z => z) (fun _ _ z => z)⟩
/-- an __init__ with super -/
abbrev cxC (P : Program) (w : World) (K : PySem.W.Frag) (mg : Str → Option Value) (base : Heap) (N : List Str) (nf : NdefX.NF) (f : Addr) (q : Around × List Env × Shared × Hp × XK) : Cx := NdefX.ncx (L2.CX P w) P w K mg base N nf f q.1 q.2.1 q.2.2.1 q.2.2.2.1 q.2.2.2.2
theorem fn_initC {D cc c : Addr} {kws : List (Str × V)} (F : FunC P K x qual params body scope kws D f fd cc c) (S : NdefX.NScope N ps ["__class__"] scope) (len : ∀ C fs ds fs', R C fs ds fs' → ds.length + 1 = ps.length)
    (hbody : ∀ (q : Around × List Env × Shared × Hp × XK) (C : Addr) (fs : List (Str × Dt)) (ds : List Dt) (fs' : List (Str × Dt)) (y : Addr), Room k (cxC P w K mg base N (nfC x qual params body scope cc c) f q).A → R C fs ds fs' →
      IB (cxC P w K mg base N (nfC x qual params body scope cc c) f q) (RunBA (cxC P w K mg base N (nfC x qual params body scope cc c) f q) (.func body (cxC P w K mg base N (nfC x qual params body scope cc c) f q).env)) y C (startG N (.cls y :: ds)) fs body fs') :
    FnOk P w K mg base (L2.CX P w) (k + 1) f fd ps (spI K R) := fn_C F S (spI_len len) fun A outer s H vs Q E hr h => by
  obtain ⟨Hs, y, C, dx, us, fs, ws, ds, fs', rfl, i, hx, hn, rf, r, hR, q⟩ := h
  have B := hbody (A, outer, s, H, E) C fs ds fs' y hr hR ⟨Hs, H, fun a => a = y, fun _ => False⟩ (L2.start N (.ref y :: ws)) Hs H dx us (sat_startI i r) rfl hx hn rf
  intro pins s' I
  refine PySem.ks_wpAt_mono (B pins s' I) (fun fl s'' hs => sp_mono (endO_fin q) (fun _ _ z => z.elim) (fun _ _ z => z) (fun _ _ z => z) hs) fun _ _ z => z
/-- a method that changes nothing: f its address -/
structure FnM (P : Program) (w : World) (K : PySem.W.Frag) (mg : Str → Option Value) (base : Heap) (k : Nat) (f : Addr) (R : List Dt → Dt → Prop) : Prop where
  ex : ∃ fd ps, FnOk P w K mg base (L2.CX P w) k f fd ps (spF K R) ∧ Binds K fd ps []
theorem fn_meth {R : List Dt → Dt → Prop} (F : FunD K x qual params body scope [] [] f fd) (S : FnScope N ps scope)
    (hb : ∀ (kV doc pm : Value) (an : Option Addr) (cdv ct : Value) (us : List Value), us.length = ps.length → bindArgs (PySem.W.fnOf x qual params body scope .none kV doc pm an cdv ct) ⟨us, []⟩ = pure (ps.zip us))
    (len : ∀ ds d, R ds d → ds.length = ps.length)
    (hbody : ∀ (q : Value × Around × List Env × Shared × Hp × XK) (ds : List Dt) (d : Dt), Room k (cxF P w K mg base N qual scope f q).A → R ds d →
      Blk (cxF P w K mg base N qual scope f q) (startG N ds) body { nx := fun _ => d = .non, rt := fun d' _ => d' = d }) : FnM P w K mg base (k + 1) f R := by
  refine ⟨fd, ps, F.ok S (fun vs H Q E h => ?_) (fun cdv A outer s H vs Q E hr h => ?_), F.bindsN hb⟩
  · obtain ⟨Hs, ds, d, _, r, h, _⟩ := h
    rw [r.length]
    exact len ds d h
  · obtain ⟨Hs, ds, d, i, r, hR, q⟩ := h
    have B := hbody (cdv, A, outer, s, H, E) ds d hr hR
    refine ⟨_, pss_r, RunB.mono (B ⟨Hs, H, fun _ => False, fun _ => False⟩ (L2.start N vs) Hs H (sat_start i r)) (fun σ' H' ⟨Γ', Hs', S', e⟩ => ?_) (fun v H' z => ?_) (fun _ _ ⟨_, _, _, z⟩ => z.elim) (fun _ _ ⟨_, _, _, z⟩ => z.elim)⟩
    · refine q _ Hs' H' ⟨S'.s0, S'.i, fun a o h => S'.e0 a o (fun z => z) h, fun a o h n => ?_⟩ (by rw [e]; exact .non)
      rcases S'.n0 a o h n with z | z
      · exact z
      · exact z.elim
    · rcases z with ⟨d', Γ', σ', Hs', S', rv, e⟩ | ⟨_, _, _, _, _, _, _, _, _, _, z⟩
      · have e' : d' = d := e
        subst e'
        refine q v Hs' H' ⟨S'.s0, S'.i, fun a o h => S'.e0 a o (fun z => z) h, fun a o h n => ?_⟩ rv
        rcases S'.n0 a o h n with z | z
        · exact z
        · exact z.elim
      · exact z.elim
end
section
variable {X : Cx} {Γ : Gam} {e fe o : Expr} {es : List Expr} {d : Dt} {ds ks' : List Dt} {pos p apos : Pos} {C f : Addr} {k j : Nat}
theorem FnM.fnR {P : Program} {w : World} {K : PySem.W.Frag} {mg : Str → Option Value} {base : Heap} {R : List Dt → Dt → Prop} (F : FnM P w K mg base k f R) : FnR P w K mg base (L2.CX P w) k f (spF K R) := by
  obtain ⟨fd, ps, F, b⟩ := F.ex
  exact (F.raw b .nil).imp fun vs H Q E h => by rw [List.append_nil]; exact h
/-- the instance called -/
theorem ev_callO {g : Addr} {R : List Dt → Dt → Prop} {gs : List (Str × Dt)} (c : StX.CallO X.K C g) (F : FnM X.prog X.w X.K X.mg X.base k g R) (hr : Room j X.A) (hk : k ≤ j) (hf : Ev X Γ fe (.obj C gs)) (ha : EvA X Γ (e :: es) ds) (h : R (.obj C gs :: ds) d)
    (ht : eval (.Call fe (e :: es) [] pos) X.env = (do callWith pos (← eval fe X.env) [] (backTo pos (starEach (e :: es) X.env)) (backToKw pos (keywordEach [] X.env))) := by rfl)
    (he : starEach (e :: es) X.env = (false, eval e X.env) :: starEach es X.env := by rfl) (hpl : (backTo pos (starEach es X.env)).any (·.1) = false := by rfl) : Ev X Γ (.Call fe (e :: es) [] pos) d :=
  ev_of (StX.pe_callO pe_r c F.fnR (hr.mono hk) passL pa_r ht he hpl) fun B σ Hs H S Q q => hf B σ Hs H S _ fun v Hs1 H1 g1 r1 => by
    cases r1 with
    | @obj a _ dx fs _ h1 h2 =>
      refine ⟨a, rfl, ha B σ Hs1 H1 (S.step g1) _ fun vs Hs2 H2 g2 r2 => ?_⟩
      exact ⟨.inr ⟨dx, fs, g2.e _ _ (g1.i _ _ h1)⟩, Hs2, .obj C gs :: ds, d, g2.i, .cons (.obj (g2.s _ _ h1) (h2.mono g2.s)) r2, h, fun v Hs3 H3 g3 r3 => q v Hs3 H3 (g1.trans (g2.trans g3)) r3⟩
/-- keywords -/
def RunK (X : Cx) (kws : List Keyword) : TA := fun σ H Q => ∀ pos pins s, Inv X pins σ H s → wpAny (model X.prog X.w) X.A (evalAll ((backToKw pos (keywordEach kws X.env)).map (·.2))) (AP X pins σ Q) X.xe s
theorem pk_r {kws : List Keyword} : PK X kws (RunK X kws) := ⟨fun pos pins s _ _ _ I h => h pos pins s I⟩
def EvK (X : Cx) (Γ : Gam) (kws : List Keyword) (ds : List Dt) : Prop := EvAR X.K (RunK X kws) Γ ds
theorem ek_nil : EvK X Γ [] [] := fun B σ Hs H S Q q pos pins s I => pk_nil.run pos pins s σ H Q I (q [] Hs H (Gr.refl S.i) .nil)
theorem ek_cons {kws : List Keyword} {nm : Option Str} {kpos : Pos} (ha : Ev X Γ e d) (hr : EvK X Γ kws ds) : EvK X Γ (⟨nm, e, kpos⟩ :: kws) (d :: ds) := fun B σ Hs H S Q q pos pins s I =>
  (pk_cons (pe_r (X := X)) (pk_r (X := X))).run pos pins s σ H Q I (ha B σ Hs H S _ fun v Hs1 H1 g1 r1 => hr B σ Hs1 H1 (S.step g1) _ fun vs Hs2 H2 g2 r2 => q _ Hs2 H2 (g1.trans g2) (.cons (r1.mono g2.s) r2))
/-- a new object, made -/
theorem made {K : PySem.W.Frag} {R : Addr → List (Str × Dt) → List Dt → List (Str × Dt) → Prop} {Hs H : Hp} {ws : List V} {gs : List (Str × Dt)} {Q : VK} {E : XK} (i : Ex Hs H) (r : RpA K Hs ws ds) (hR : R C [] ds gs) (q : ∀ v Hs' H', Gr Hs H Hs' H' → Rp K Hs' v (.obj C gs) → Q v H') (x dx : Addr) (hx : H x = none) (hdx : H dx = none) (hne : dx ≠ x) :
    spI K R (.ref x :: ws) (upd (upd H dx (.own x)) x (.ins C dx [])) (fun v H3 => v = .non ∧ Q (.ref x) H3) E := by
  have e1 : Ex H (upd H dx (.own x)) := Ex.new hdx
  have hx1 : upd H dx (.own x) x = none := by rw [upd_ne (Ne.symm hne)]; exact hx
  have e2 : Ex (upd H dx (.own x)) (upd (upd H dx (.own x)) x (.ins C dx [])) := Ex.new hx1
  refine ⟨Hs, x, C, dx, [], [], ws, ds, gs, rfl, i.trans (e1.trans e2), upd_same, ex_none i hx, .nil, r, hR, fun Hs' H' us' g h1 h2 h3 => ⟨rfl, ?_⟩⟩
  refine q _ (upd Hs' x (.ins C dx us')) H' ⟨g.s.trans (Ex.new h2), fun a o z => ?_, fun a o z => ?_, fun a o z n => ?_⟩ (.obj upd_same (h3.mono (Ex.new h2)))
  · by_cases e : a = x
    · subst e
      rw [upd_same] at z
      rw [h1]
      exact z
    · rw [upd_ne e] at z
      exact g.i a o z
  · have na : a ≠ x := fun e => by
      rw [e, hx] at z
      cases z
    exact g.e a o na (e2 a o (e1 a o z))
  · by_cases e : a = x
    · rw [e]
      exact hx
    · rw [upd_ne e] at z
      exact ex_none (e1.trans e2) (g.n a o z n)
/-- C(e, .., k = v, ..) -/
theorem ev_makeK {fd : FuncData} {ps ks : List Str} {x : Str} {kws : List Keyword} {n : Nat} {g : List Value → List Value → List Value} {gV : List V → List V → List V} {gD : List Dt → List Dt → List Dt} {R : Addr → List (Str × Dt) → List Dt → List (Str × Dt) → Prop} {gs : List (Str × Dt)}
    (M : Mk X.K C f) (F : FnOk X.prog X.w X.K X.mg X.base (L2.CX X.prog X.w) k f fd ps (spI X.K R)) (hr : Room j X.A) (hk : k + 1 ≤ j) (hm : X.mg x = some (.ref C)) (hb : KBn X.K fd ps (n + 1) ks g gV) (ha : EvA X Γ (e :: es) ds) (hkw : EvK X Γ kws ks') (hn : ds.length = n) (hl : ks'.length = ks.length)
    (hgV : ∀ v vs zs, vs.length = n → zs.length = ks.length → ∃ ws, gV (v :: vs) zs = v :: ws ∧ ∀ H, RpA X.K H vs ds → RpA X.K H zs ks' → RpA X.K H ws (gD ds ks')) (hR : R C [] (gD ds ks') gs) (hg : Gl X x := by rfl)
    (hall : (backToKw pos (keywordEach kws X.env)).all (·.1.isSome) = true := by rfl) (hks : (backToKw pos (keywordEach kws X.env)).filterMap (·.1) = ks := by rfl) (hdb : (x == ("__debug__" : Str)) = false := by decide)
    (he : starEach (e :: es) X.env = (false, eval e X.env) :: starEach es X.env := by rfl) (hpl : ((backTo pos (starEach (e :: es) X.env)).any (·.1) || (backToKw pos (keywordEach kws X.env)).any (·.1.isNone)) = false := by rfl) :
    Ev X Γ (.Call (.Name x p) (e :: es) kws pos) (.obj C gs) :=
  ev_of (pe_makeK M F (hr.mono hk) hg hm hb passL pa_r pk_r hall hks hdb he hpl) fun B σ Hs H S Q q => ha B σ Hs H S _ fun vs Hs1 H1 g1 r1 => hkw B σ Hs1 H1 (S.step g1) _ fun zs Hs2 H2 g2 r2 => by
    have l1 : vs.length = n := r1.length.trans hn
    have l2 : zs.length = ks.length := r2.length.trans hl
    refine ⟨l1, l2, fun y dx hy hdx hne => ?_⟩
    obtain ⟨ws, e1, e2⟩ := hgV (.ref y) vs zs l1 l2
    rw [e1]
    exact made g2.i (e2 Hs2 (r1.mono g2.s) r2) hR (fun v Hs3 H3 g3 r3 => q v Hs3 H3 (g1.trans (g2.trans g3)) r3) y dx hy hdx hne
/-- C(e, ..), all by position -/
theorem ev_make {fd : FuncData} {ps : List Str} {x : Str} {R : Addr → List (Str × Dt) → List Dt → List (Str × Dt) → Prop} {gs : List (Str × Dt)}
    (M : Mk X.K C f) (F : FnOk X.prog X.w X.K X.mg X.base (L2.CX X.prog X.w) k f fd ps (spI X.K R)) (hr : Room j X.A) (hk : k + 1 ≤ j) (hm : X.mg x = some (.ref C)) (hb : Binds X.K fd ps []) (ha : EvA X Γ (e :: es) ds) (hR : R C [] ds gs) (hg : Gl X x := by rfl) (hdb : (x == ("__debug__" : Str)) = false := by decide)
    (he : starEach (e :: es) X.env = (false, eval e X.env) :: starEach es X.env := by rfl) (hpl : (backTo pos (starEach es X.env)).any (·.1) = false := by rfl) :
    Ev X Γ (.Call (.Name x p) (e :: es) [] pos) (.obj C gs) :=
  ev_of (pe_make M F (hr.mono hk) hg hm hb .nil passL pa_r hdb he hpl) fun B σ Hs H S Q q => ha B σ Hs H S _ fun vs Hs1 H1 g1 r1 => fun y dx hy hdx hne => by
    rw [List.append_nil]
    exact made g1.i r1 hR (fun v Hs3 H3 g3 r3 => q v Hs3 H3 (g1.trans g3) r3) y dx hy hdx hne
end
/-! super().m(..) at the end of an __init__ -/
section
variable {X : Cx} {k j : Nat} {f D C cc c g y : Addr} {x qual n : Str} {params : Arguments} {body : List Stmt} {scope : Scope} {kws : List (Str × V)} {fd : FuncData} {ar : Arg} {p0 p1 apos pos spos : Pos} {e : Expr} {es : List Expr} {m : Str} {fs fsE : List (Str × Dt)} {Γ : Gam} {ds : List Dt}
theorem ib_super {pl : Sem Bool} {fd2 : FuncData} {ps2 : List Str} {R : Addr → List (Str × Dt) → List Dt → List (Str × Dt) → Prop} (F : FunC X.prog X.K x qual params body scope kws D f fd cc c) (M : SupM X.K C D m g) (F2 : FnOk X.prog X.w X.K X.mg X.base (L2.CX X.prog X.w) k g fd2 ps2 (spI X.K R)) (b2 : Binds X.K fd2 ps2 []) (hr : Room j X.A) (hk : k ≤ j)
    (hfu : X.env.func = some f) (hco : X.env.code = .ref c) (hce : X.env.cells.lookup ("__class__" : Str) = some cc) (hks : X.env.kindOf "super" = some .globalImplicit) (hkc : X.env.kindOf "__class__" = some .free) (hsl : X.mg "super" = none)
    (hp : (params.posonlyargs ++ params.args).head? = some ar) (har : X.N[0]? = some ar.arg) (hka : X.env.kindOf ar.arg = some .local) (htop : (X.prog.main.scope.names.lookup ("super" : Str)).isSome = false) (hm : (m == ("__class__" : Str)) = false)
    (hg : Γ[0]? = some (some (.dat (.cls y)))) (ha : EvA X Γ (e :: es) ds) (hR : R C fs ds fsE)
    (hi : interactive X.env = false := by rfl) (hs : swapsWith (.Call (.Attribute (.Call (.Name "super" p0) [] [] p1) m apos) (e :: es) [] pos) none spos.line X.env = pure false := by rfl)
    (he : starEach (e :: es) X.env = (false, eval e X.env) :: starEach es X.env := by rfl) (hpl : (backTo pos (starEach es X.env)).any (·.1) = false := by rfl)
    (hev : eval (.Call (.Attribute (.Call (.Name "super" p0) [] [] p1) m apos) (e :: es) [] pos) X.env = (do
      let ov ← attributeBase (.Call (.Name "super" p0) [] [] p1) m X.env (eval (.Call (.Name "super" p0) [] [] p1) X.env)
      standAt apos.atName
      let (f, first) ← holding [ov] (getMethod ov m pl)
      callWith pos f first (backTo pos (starEach (e :: es) X.env)) []) := by rfl) :
    IB X (RunBA X (.func body X.env)) y C Γ fs [.Expr (.Call (.Attribute (.Call (.Name "super" p0) [] [] p1) m apos) (e :: es) [] pos) spos] fsE := fun B σ Hs H dx us S hL hx hn r => by
  refine rba_cons fun pins s I => ?_
  obtain ⟨v, h1, h2⟩ := S.dat 0 _ hg
  cases h2
  have GR : FnR X.prog X.w X.K X.mg X.base (L2.CX X.prog X.w) k g (spI X.K R) := (F2.raw b2 .nil).imp fun vs H Q E h => by rw [List.append_nil]; exact h
  refine PySem.ks_wpAt_Expr_any (PySem.ks_wpAt_mono (run_super (Q := fun _ H' => (endO X.K B y C dx fsE).nx σ H') F M GR (hr.mono hk) passL hfu hco hce hks hkc hsl hp har hka htop hm I h1 hx (fun q hq => ?_) he hpl hev) (fun u s' z => ?_) fun _ _ z => z) hi hs
  · have S1 := S.step (Gr.wide S.i (Ex.new (o := .met g y) hq))
    refine ha B σ Hs _ S1 _ fun vs Hs2 H2 g2 r2 => ⟨g2.e q _ upd_same, ?_⟩
    have hxq : y ≠ q := fun z => by
      rw [z, hq] at hx
      cases hx
    have hx1 : upd H q (.met g y) y = some (.ins C dx us) := by rw [upd_ne hxq]; exact hx
    have hx2 := g2.e _ _ hx1
    have hn2 : Hs2 y = none := by
      cases z : Hs2 y with
      | none => rfl
      | some u =>
        have w := g2.n y u z hn
        rw [hx1] at w
        cases w
    refine ⟨Hs2, y, C, dx, us, fs, vs, ds, fsE, rfl, g2.i, hx2, hn2, r.mono g2.s, r2, hR, fun Hs3 H3 us' g3 k1 k2 k3 => ?_⟩
    exact ⟨Γ, Hs3, us', (S1.step g2).objCall hx2 hL g3, k1, k2, k3⟩
  · obtain ⟨v, H', I', rv, q⟩ := z
    exact ⟨σ, H', I', rba_nil q⟩
end
end G

set_option Elab.async false
set_option linter.all false
set_option maxRecDepth 100000
set_option maxHeartbeats 2000000
namespace G
open PySem PySem.Spec PyProof.Rows L2
open Evl (Ex)
/-! ### slices -/
def cutDt (ds : List Dt) (lo hi : Option Int) : List Dt := (ds.drop (HT.sIx ds.length 0 lo)).take (HT.sIx ds.length ds.length hi - HT.sIx ds.length 0 lo)
theorem rp_cut {K : PySem.W.Frag} {H : Hp} {vs : List V} {ds : List Dt} (r : RpA K H vs ds) (lo hi : Option Int) : RpA K H (cutV vs lo hi) (cutDt ds lo hi) := by
  unfold cutV cutDt
  rw [r.length]
  exact (r.drop _).take _
section
variable {X : Cx} {Γ : Gam} {e a b c : Expr} {es : List Expr} {x y z d : Dt} {ds : List Dt} {pos p p2 : Pos} {i j : Int} {k : Bool}
/-- a[:b] of a list -/
theorem en_sl0 {lo : Expr} (ha : Ev X Γ a (.lst ds)) (hb : Ev X Γ b (.int j)) : EvN X Γ (.Subscript a (.Slice none (some b) none p2) pos) (cutDt ds none (some j)) := en_of (pe_slice sl_list pe_r po_none (po_some pe_r)) fun B σ Hs H S Q q => ha B σ Hs H S _ fun v Hs1 H1 g1 r1 => by
  show RunE X b σ H1 _
  refine hb B σ Hs1 H1 (S.step g1) _ fun w Hs2 H2 g2 r2 => ?_
  cases r2
  cases r1 with
  | @lst l xs _ h1 h2 =>
    refine ⟨j, rfl, l, xs, rfl, Evl.sq_of (g2.e _ _ (g1.i _ _ h1)), ?_⟩
    exact laid g2.i (rp_cut (h2.mono g2.s) none (some j)) fun p xs Hs3 H3 g3 k1 k2 k3 r3 => q p xs Hs3 H3 (g1.trans (g2.trans g3)) (ex_none (g1.trans g2).e k1) k2 k3 r3
theorem en_sl0S {ns : List Int} (ha : Ev X Γ a (.scr ns)) (hb : Ev X Γ b (.int j)) : EvN X Γ (.Subscript a (.Slice none (some b) none p2) pos) (cutDt (ns.map Dt.int) none (some j)) := en_of (pe_slice sl_list pe_r po_none (po_some pe_r)) fun B σ Hs H S Q q => ha B σ Hs H S _ fun v Hs1 H1 g1 r1 => by
  show RunE X b σ H1 _
  refine hb B σ Hs1 H1 (S.step g1) _ fun w Hs2 H2 g2 r2 => ?_
  cases r2
  cases r1 with
  | @scr l _ h1 =>
    refine ⟨j, rfl, l, _, rfl, Evl.ex_l (g1.i.trans g2.e) h1, ?_⟩
    exact laid g2.i (rp_cut (RpA.of_ints ns) none (some j)) fun p xs Hs3 H3 g3 k1 k2 k3 r3 => q p xs Hs3 H3 (g1.trans (g2.trans g3)) (ex_none (g1.trans g2).e k1) k2 k3 r3
/-- a[::-1] of a list -/
theorem en_rev {kk : Nat} {p1 p3 : Pos} (ha : Ev X Γ a (.lst ds)) : EvN X Γ (.Subscript a (.Slice none none (some (.UnaryOp .USub (.Constant (.int 1) kk p1) p2)) p3) pos) ds.reverse := en_of (pe_revL pe_r) fun B σ Hs H S Q q => ha B σ Hs H S _ fun v Hs1 H1 g1 r1 => by
  cases r1 with
  | @lst l xs _ h1 h2 =>
    refine ⟨l, xs, rfl, Evl.sq_of (g1.i _ _ h1), ?_⟩
    exact laid g1.i h2.reverse fun p xs Hs3 H3 g3 k1 k2 k3 r3 => q p xs Hs3 H3 (g1.trans g3) (ex_none g1.e k1) k2 k3 r3
/-- list(range(a)) -/
theorem en_listRg {p0 pos0 : Pos} {n : Int} (T : Bt X.mg) (hc : X.calm = true) (ha : Ev X Γ a (.int n)) (h0 : 0 ≤ n) (h1 : n ≤ 16777216) (hg : Gl X "list" := by rfl) (hgr : Gl X "range" := by rfl) (na : starEach [a] X.env = (false, eval a X.env) :: starEach [] X.env := by rfl)
    (na2 : starEach [.Call (.Name "range" p0) [a] [] pos0] X.env = (false, eval (.Call (.Name "range" p0) [a] [] pos0) X.env) :: starEach [] X.env := by rfl) : EvN X Γ (.Call (.Name "list" p) [.Call (.Name "range" p0) [a] [] pos0] [] pos) (rng 0 n.toNat) := en_of (pe_listRg hc hg T.list (prg_1 hgr T.range pe_r na) na2) fun B σ Hs H S Q q => ha B σ Hs H S _ fun v Hs1 H1 g1 r1 => by
  cases r1
  refine ⟨n, rfl, RgOk.of_le (by omega) h1 (by omega) h0, ?_⟩
  have er : RpA X.K Hs1 (rgV 0 n) (rng 0 n.toNat) := by
    have e : rgV 0 n = ((List.range n.toNat).map fun k => ((0 : Int) + (k : Nat))).map V.int := by
      unfold rgV
      rw [List.map_map]
      rw [show (n - 0) = n by omega]
      rfl
    have e2 : rng 0 n.toNat = ((List.range n.toNat).map fun k => ((0 : Int) + (k : Nat))).map Dt.int := by
      unfold rng
      rw [List.map_map]
      rfl
    rw [e, e2]
    exact RpA.of_ints _
  exact laid g1.i er fun p xs Hs3 H3 g3 k1 k2 k3 r3 => q p xs Hs3 H3 (g1.trans g3) (ex_none g1.e k1) k2 k3 r3
/-! // and * of great ints -/
theorem ev_fdivW (ha : Ev X Γ a (.int i)) (hb : Ev X Γ b (.int j)) (h : CDivW i j) : Ev X Γ (.BinOp a .FloorDiv b pos) (.int (i / j)) := ev_op op_fdivW ha hb (ov_I h fun _ => .int _)
theorem ev_mulW (ha : Ev X Γ a (.int i)) (hb : Ev X Γ b (.int j)) (h : CMulW i j) : Ev X Γ (.BinOp a .Mult b pos) (.int (i * j)) := ev_op op_mulW ha hb (ov_I h fun _ => .int _)
/-! in: texts in a tuple of texts -/
theorem RpA.strs {K : PySem.W.Frag} {H : Hp} : ∀ {vs : List V} {ss : List Str}, RpA K H vs (ss.map Dt.str) → vs = ss.map V.str
  | _, [], .nil => rfl
  | _, n :: ns, .cons h r => by
    cases h
    rw [RpA.strs r]
    rfl
theorem inV_strs (s : Str) : ∀ ss : List Str, inV (.str s) (ss.map V.str) = decide (s ∈ ss)
  | [] => rfl
  | t :: ss => by
    have h := inV_strs s ss
    unfold inV at h ⊢
    rw [List.map_cons, List.any_cons, h]
    show ((t == s) || decide (s ∈ ss)) = decide (s ∈ t :: ss)
    by_cases e : t = s
    · subst e
      simp
    · have e2 : (t == s) = false := by simpa using e
      have e3 : ¬ s = t := fun z => e z.symm
      rw [e2]
      simp [e3]
theorem flat_strs : ∀ ss : List Str, (ss.map V.str).all flatV = true
  | [] => rfl
  | _ :: ss => by
    rw [List.map_cons, List.all_cons, flat_strs ss]
    rfl
theorem ov_inTS {K : PySem.W.Frag} {s : Str} {ss : List Str} : OpV K (rIn K false) (.str s) (.tup (ss.map Dt.str)) (.bl (decide (s ∈ ss))) := fun Hs H u v e r1 r2 Q q => by
  cases r1
  cases r2 with
  | @tup p xs _ h1 h2 =>
    have e2 := h2.strs
    subst e2
    refine ⟨p, _, rfl, .inr (Evl.ex_t e h1), rfl, flat_strs ss, ?_⟩
    rw [if_neg Bool.false_ne_true, inV_strs]
    exact q _ Hs H (Gr.refl e) (.bl _)
theorem ev_inTS {s : Str} {ss : List Str} (ha : Ev X Γ a (.str s)) (hb : Ev X Γ b (.tup (ss.map Dt.str))) (hm : behindInMarks .In b = false := by first | rfl | with_unfolding_all rfl) : Ev X Γ (.Compare a [.In] [b] pos) (.bl (decide (s ∈ ss))) := ev_cmp op_in_seq ha hb ov_inTS hm
end
/-! ### == and != at any depth -/
mutual
def Dt.py : Dt → PyData
  | .non => .none
  | .bl b => .bool b
  | .int i => .int i
  | .str s => .str s
  | .tup ds => .tuple (pyL ds)
  | .lst ds => .list (pyL ds)
  | .scr ns => .list (ns.map PyData.int)
  | .ty _ => .none
  | .cls _ => .none
  | .obj _ _ => .none
def pyL : List Dt → List PyData
  | [] => []
  | d :: ds => d.py :: pyL ds
end
mutual
def Dt.pl : Dt → Bool
  | .non => true
  | .bl _ => true
  | .int _ => true
  | .str s => PyData.strOk s
  | .tup ds => plL ds
  | .lst ds => plL ds
  | .scr _ => false
  | .ty _ => false
  | .cls _ => false
  | .obj _ _ => false
def plL : List Dt → Bool
  | [] => true
  | d :: ds => d.pl && plL ds
end
mutual
theorem rp_dp {K : PySem.W.Frag} {Hs H : Hp} (e : Ex Hs H) : ∀ {v : V} {d : Dt}, Rp K Hs v d → d.pl = true → Dp K H v d.py
  | _, _, .non, _ => .non
  | _, _, .bl b, _ => .bl b
  | _, _, .int i, _ => .int i
  | _, _, .str x, _ => .str x
  | _, _, .ty _, h => by cases h
  | _, _, .cls _, h => by cases h
  | _, _, .scr _, h => by cases h
  | _, _, .lst (ds := ds) h r, q => .lst (Evl.sq_of (e _ _ h)) (rp_dpA e r q)
  | _, _, .tup (ds := ds) h r, q => .tup (Evl.ex_t e h) (rp_dpA e r q)
  | _, _, .obj _ _, h => by cases h
theorem rp_dpA {K : PySem.W.Frag} {Hs H : Hp} (e : Ex Hs H) : ∀ {vs : List V} {ds : List Dt}, RpA K Hs vs ds → plL ds = true → DpAll K H vs (pyL ds)
  | _, _, .nil, _ => .nil
  | _, _, .cons h r, q => by
    have q' := Bool.and_eq_true_iff.mp q
    exact .cons (rp_dp e h q'.1) (rp_dpA e r q'.2)
end
mutual
theorem pl_lay : ∀ d : Dt, d.pl = true → d.py.canLay0 = true
  | .non, _ => rfl
  | .bl _, _ => rfl
  | .int _, _ => rfl
  | .str _, h => h
  | .tup ds, h => pl_layA ds h
  | .lst ds, h => pl_layA ds h
  | .scr _, h => by cases h
  | .ty _, h => by cases h
  | .cls _, h => by cases h
  | .obj _ _, h => by cases h
theorem pl_layA : ∀ ds : List Dt, plL ds = true → PyData.canLayAll0 (pyL ds) = true
  | [], _ => rfl
  | d :: ds, h => by
    have q := Bool.and_eq_true_iff.mp h
    exact Bool.and_eq_true_iff.mpr ⟨pl_lay d q.1, pl_layA ds q.2⟩
end
theorem pl_shaped {d : Dt} (h : d.pl = true) (hd : d.py.depth ≤ 64) : SeqAt.shaped d.py = true := Bool.and_eq_true_iff.mpr ⟨pl_lay d h, decide_eq_true hd⟩
/-- == of data -/
def eqD (a b : Dt) : Bool := PyData.eqv a.py b.py
theorem pl_ints : ∀ ns : List Int, plL (ns.map Dt.int) = true
  | [] => rfl
  | n :: ns => by
    show (true && plL (ns.map Dt.int)) = true
    rw [pl_ints ns]
    rfl
theorem depth_ints : ∀ ns : List Int, PyData.depthAll (pyL (ns.map Dt.int)) ≤ 1
  | [] => by decide
  | n :: ns => by
    show max (PyData.depth (.int n)) (PyData.depthAll (pyL (ns.map Dt.int))) ≤ 1
    have := depth_ints ns
    have e : PyData.depth (.int n) ≤ 1 := by first | exact Nat.le_refl _ | exact Nat.zero_le _
    exact Nat.max_le.mpr ⟨e, this⟩
theorem eqv_ints : ∀ ns ms : List Int, PyData.eqvAll (pyL (ns.map Dt.int)) (pyL (ms.map Dt.int)) = decide (ns = ms)
  | [], [] => rfl
  | [], _ :: _ => rfl
  | _ :: _, [] => rfl
  | n :: ns, m :: ms => by
    show ((n == m) && PyData.eqvAll (pyL (ns.map Dt.int)) (pyL (ms.map Dt.int))) = decide (n :: ns = m :: ms)
    rw [eqv_ints ns ms]
    by_cases e : n = m
    · subst e
      simp
    · have e2 : (n == m) = false := by simpa using e
      rw [e2]
      simp [e]
section
variable {X : Cx} {Γ : Gam} {e a b c : Expr} {x y d : Dt} {pos p : Pos} {k : Bool} {ns ms : List Int}
theorem ov_eqD {K : PySem.W.Frag} (hx : x.pl = true) (hy : y.pl = true) (dx : x.py.depth ≤ 64) (dy : y.py.depth ≤ 64) : OpV K (rEqD K) x y (.bl (eqD x y)) := fun Hs H u v e r1 r2 Q q => ⟨_, _, rp_dp e r1 hx, rp_dp e r2 hy, pl_shaped hx dx, pl_shaped hy dy, q _ Hs H (Gr.refl e) (.bl _)⟩
theorem ov_neD {K : PySem.W.Frag} (hx : x.pl = true) (hy : y.pl = true) (dx : x.py.depth ≤ 64) (dy : y.py.depth ≤ 64) : OpV K (rNeD K) x y (.bl (!eqD x y)) := fun Hs H u v e r1 r2 Q q => ⟨_, _, rp_dp e r1 hx, rp_dp e r2 hy, pl_shaped hx dx, pl_shaped hy dy, q _ Hs H (Gr.refl e) (.bl _)⟩
theorem ev_eqD {j : Nat} (hr : Room j X.A) (ha : Ev X Γ a x) (hb : Ev X Γ b y) (hx : x.pl = true) (hy : y.pl = true) (dx : x.py.depth ≤ 64) (dy : y.py.depth ≤ 64) : Ev X Γ (.Compare a [.Eq] [b] pos) (.bl (eqD x y)) := ev_cmp (op_eqD hr.units) ha hb (ov_eqD hx hy dx dy) (nomark _)
theorem ev_neD {j : Nat} (hr : Room j X.A) (ha : Ev X Γ a x) (hb : Ev X Γ b y) (hx : x.pl = true) (hy : y.pl = true) (dx : x.py.depth ≤ 64) (dy : y.py.depth ≤ 64) : Ev X Γ (.Compare a [.NotEq] [b] pos) (.bl (!eqD x y)) := ev_cmp (op_neD hr.units) ha hb (ov_neD hx hy dx dy) (nomark _)
theorem et_eqD {j : Nat} (hr : Room j X.A) (ha : Ev X Γ a x) (hb : Ev X Γ b y) (hx : x.pl = true) (hy : y.pl = true) (dx : x.py.depth ≤ 64) (dy : y.py.depth ≤ 64) : EvT X Γ (.Compare a [.Eq] [b] pos) (eqD x y) := et_cmp (op_eqD hr.units) ha hb (ov_eqD hx hy dx dy) (nomark _)
theorem et_neD {j : Nat} (hr : Room j X.A) (ha : Ev X Γ a x) (hb : Ev X Γ b y) (hx : x.pl = true) (hy : y.pl = true) (dx : x.py.depth ≤ 64) (dy : y.py.depth ≤ 64) : EvT X Γ (.Compare a [.NotEq] [b] pos) (!eqD x y) := et_cmp (op_neD hr.units) ha hb (ov_neD hx hy dx dy) (nomark _)
theorem dp_lst : (Dt.lst (ns.map Dt.int)).py.depth ≤ 64 := by
  have := depth_ints ns
  show PyData.depthAll (pyL (ns.map Dt.int)) + 1 ≤ 64
  omega
end
end G

set_option Elab.async false
set_option linter.all false
set_option maxRecDepth 100000
set_option maxHeartbeats 2000000
namespace G
open PySem PySem.Spec PyProof.Rows L2
open Evl (Ex)
/-! ### one's own list read, something without lists comes out -/
inductive NoL : Dt → Prop
  | non : NoL .non
  | bl (b : Bool) : NoL (.bl b)
  | int (i : Int) : NoL (.int i)
  | str (s : Str) : NoL (.str s)
  | ty (n : String) : NoL (.ty n)
  | cls (C : Addr) : NoL (.cls C)
  | tup {ds : List Dt} : (∀ d ∈ ds, NoL d) → NoL (.tup ds)
  | obj {C : Addr} {fs : List (Str × Dt)} : (∀ q ∈ fs, NoL q.2) → NoL (.obj C fs)
theorem nol_ints {ns : List Int} : ∀ d ∈ ns.map Dt.int, NoL d := fun d h => by
  obtain ⟨n, _, e⟩ := List.mem_map.mp h
  rw [← e]
  exact .int n
def dl (H : Hp) (l : Addr) : Hp := fun a => if a = l then none else H a
theorem dl_ne {H : Hp} {l a : Addr} (h : a ≠ l) : dl H l a = H a := if_neg h
theorem dl_some {H : Hp} {l a : Addr} {o : HO} (h : dl H l a = some o) : a ≠ l ∧ H a = some o := by
  unfold dl at h
  by_cases e : a = l
  · rw [if_pos e] at h
    cases h
  · rw [if_neg e] at h
    exact ⟨e, h⟩
section
variable {K : PySem.W.Frag} {H : Hp} {l : Addr} {xs0 : List V}
theorem sqT_del (hl : H l = some (.lst xs0)) {a : Addr} {xs : List V} (h : SqT K H a xs) : SqT K (dl H l) a xs := by
  have ne : ∀ {o : HO}, H a = some o → (∀ ys, o ≠ .lst ys) → dl H l a = some o := fun {o} q z => by
    rw [dl_ne (fun e => by rw [e, hl] at q; cases q; exact z _ rfl)]
    exact q
  rcases h with (h | ⟨o, h⟩) | h
  · exact .inl (.inl (ne h fun _ z => by cases z))
  · exact .inl (.inr ⟨o, ne h fun _ z => by cases z⟩)
  · exact .inr h
mutual
theorem Rp.del (hl : H l = some (.lst xs0)) : ∀ {v : V} {d : Dt}, Rp K H v d → NoL d → Rp K (dl H l) v d
  | _, _, .non, _ => .non
  | _, _, .bl b, _ => .bl b
  | _, _, .int i, _ => .int i
  | _, _, .str x, _ => .str x
  | _, _, .ty n, _ => .ty n
  | _, _, .cls C, _ => .cls C
  | _, _, .scr h, q => by cases q
  | _, _, .lst h r, q => by cases q
  | _, _, .tup h r, q => by
    cases q with
    | tup q => exact .tup (sqT_del hl h) (RpA.del hl r q)
  | _, _, .obj (a := a) h r, q => by
    cases q with
    | obj q => exact .obj (by rw [dl_ne (fun e => by rw [e, hl] at h; cases h)]; exact h) (RpF.del hl r q)
theorem RpA.del (hl : H l = some (.lst xs0)) : ∀ {vs : List V} {ds : List Dt}, RpA K H vs ds → (∀ d ∈ ds, NoL d) → RpA K (dl H l) vs ds
  | _, _, .nil, _ => .nil
  | _, _, .cons h r, q => .cons (Rp.del hl h (q _ List.mem_cons_self)) (RpA.del hl r fun d hd => q d (List.mem_cons_of_mem _ hd))
theorem RpF.del (hl : H l = some (.lst xs0)) : ∀ {fs : List (Str × V)} {gs : List (Str × Dt)}, RpF K H fs gs → (∀ q ∈ gs, NoL q.2) → RpF K (dl H l) fs gs
  | _, _, .nil, _ => .nil
  | _, _, .cons h r, q => .cons (Rp.del hl h (q _ List.mem_cons_self)) (RpF.del hl r fun d hd => q d (List.mem_cons_of_mem _ hd))
end
end
section
variable {X : Cx} {Γ : Gam} {e : Expr} {d : Dt} {ds : List Dt}
theorem Gr.undel {Hs H Hs2 H2 : Hp} {l : Addr} {xs : List V} (hn : Hs l = none) (g : Gr (upd Hs l (.lst xs)) H Hs2 H2) : Gr Hs H (dl Hs2 l) H2 where
  s := fun a o h => by
    have na : a ≠ l := fun z => by rw [z, hn] at h; cases h
    rw [dl_ne na]
    exact g.s a o (by rw [upd_ne na]; exact h)
  i := fun a o h => g.i a o (dl_some h).2
  e := g.e
  n := fun a o h n => by
    obtain ⟨na, h⟩ := dl_some h
    exact g.n a o h (by rw [upd_ne na]; exact n)
theorem ev_borrowN (i : Nat) {m : Bool} (hi : Γ[i]? = some (some (.ow m ds))) (h : Ev X (Γ.set i (some (.dat (.lst ds)))) e d) (hf : NoL d) : Ev X Γ e d := fun B σ Hs H S Q q => by
  obtain ⟨l, xs, h1, h2, h3, S'⟩ := S.freezeX hi
  exact h B σ _ H S' Q fun v Hs2 H2 g2 r2 => q v (dl Hs2 l) H2 (g2.undel h3) (r2.del (g2.s _ _ upd_same) hf)
theorem en_borrowN (i : Nat) {m : Bool} {es : List Dt} (hi : Γ[i]? = some (some (.ow m ds))) (h : EvN X (Γ.set i (some (.dat (.lst ds)))) e es) (hf : ∀ d ∈ es, NoL d) : EvN X Γ e es := fun B σ Hs H S Q q => by
  obtain ⟨l, xs, h1, h2, h3, S'⟩ := S.freezeX hi
  exact h B σ _ H S' Q fun p ys Hs2 H2 g2 k1 k2 k3 r2 => q p ys (dl Hs2 l) H2 (g2.undel h3) k1 (by
    by_cases z : p = l
    · rw [z]
      exact if_pos rfl
    · rw [dl_ne z]
      exact k2) k3 (r2.del (g2.s _ _ upd_same) hf)
theorem flat_ints {ns : List Int} : ∀ d ∈ ns.map Dt.int, d.flat = true := fun d h => by
  obtain ⟨n, _, e⟩ := List.mem_map.mp h
  rw [← e]
  rfl
/-- an item of one's own list -/
theorem ev_ixO (i : Nat) {m : Bool} {n : Str} {j : Expr} {pn pos : Pos} {z : Int} (hg : Γ[i]? = some (some (.ow m ds))) (hj : Ev X Γ j (.int z)) (h : atI ds z = some d) (hi : X.N[i]? = some n := by rfl) (hv : Vis X.env.scope n := by first | exact Or.inl rfl | exact Or.inr (Or.inl rfl) | exact Or.inr (Or.inr rfl))
    (hd : (n == ("__debug__" : Str)) = false := by decide) (hcd : (n == ("__classdict__" : Str)) = false := by decide) (hs : PlainIx j := by intro _ _; rfl) : Ev X Γ (.Subscript (.Name n pn) j pos) d := ev_of (pe_ix ix_list (pe_var hi hv hd hcd) pe_r hs) fun B σ Hs H S Q q => by
  obtain ⟨l, xs, h1, h2, h3, h4, h5⟩ := S.own i _ ds hg
  refine ⟨.ref l, h1, hj B σ Hs H S _ fun w Hs1 H1 g1 r1 => ?_⟩
  cases r1
  obtain ⟨v, k1, k2⟩ := h4.at h
  exact ⟨_, _, z, v, rfl, rfl, Evl.sq_of (g1.e _ _ h2), k1, q v Hs1 H1 g1 (k2.mono g1.s)⟩
/-- len of one's own list -/
theorem ev_lenO (i : Nat) {m : Bool} {n : Str} {p pn pos : Pos} (T : Bt X.mg) (hg : Γ[i]? = some (some (.ow m ds))) (hi : X.N[i]? = some n := by rfl) (hv : Vis X.env.scope n := by first | exact Or.inl rfl | exact Or.inr (Or.inl rfl) | exact Or.inr (Or.inr rfl))
    (hd : (n == ("__debug__" : Str)) = false := by decide) (hcd : (n == ("__classdict__" : Str)) = false := by decide) (hgl : Gl X "len" := by rfl) (hs : starEach [.Name n pn] X.env = (false, eval (.Name n pn) X.env) :: starEach [] X.env := by rfl) : Ev X Γ (.Call (.Name "len" p) [.Name n pn] [] pos) (.int (ds.length : Int)) :=
  ev_of (pe_callB call_len_seq hgl T.len PySem.boot_len (pa_cons (pe_var hi hv hd hcd) pa_nil hs) (by decide) (by decide) hs) fun B σ Hs H S Q q => by
    obtain ⟨l, xs, h1, h2, h3, h4, h5⟩ := S.own i _ ds hg
    rw [← h4.length] at q
    exact ⟨.ref l, h1, _, _, rfl, .inl (Evl.sq_of h2), q _ Hs H (Gr.refl S.i) (.int _)⟩
/-- the truth of lists and tuples -/
theorem tru_lst {K : PySem.W.Frag} {Hs H : Hp} {v : V} (e : Ex Hs H) (r : Rp K Hs v (.lst ds)) : TruV K v H (!ds.isEmpty) := by
  cases r with
  | @lst a xs _ h1 h2 =>
    refine .inl ⟨xs, Evl.sq_of (e _ _ h1), ?_⟩
    have := h2.length
    cases xs <;> cases ds <;> first | rfl | cases this
theorem tru_tup {K : PySem.W.Frag} {Hs H : Hp} {v : V} (e : Ex Hs H) (r : Rp K Hs v (.tup ds)) : TruV K v H (!ds.isEmpty) := by
  cases r with
  | @tup a xs _ h1 h2 =>
    refine .inr (.inl ⟨xs, Evl.ex_t e h1, ?_⟩)
    have := h2.length
    cases xs <;> cases ds <;> first | rfl | cases this
end
end G

set_option Elab.async false
set_option linter.all false
set_option maxRecDepth 100000
set_option maxHeartbeats 2000000
namespace G
open PySem PySem.Spec PyProof.Rows L2
open Evl (Ex)
/-! ### comprehensions over ints -/
def iv (g : Int → Dt) : Dt → Dt
  | .int i => g i
  | _ => .non
def fi (f : Int → Bool) : Dt → Bool
  | .int i => f i
  | _ => false
theorem iv_map {g : Int → Dt} (ns : List Int) : (ns.map Dt.int).map (iv g) = ns.map g := by
  rw [List.map_map]
  rfl
theorem fi_map {f : Int → Bool} {g : Int → Dt} (ns : List Int) : ((ns.map Dt.int).filter (fi f)).map (iv g) = (ns.filter f).map g := by
  rw [List.filter_map, List.map_map]
  rfl
/-- lo, lo + 1, .. -/
def ran (lo : Int) (n : Nat) : List Int := (List.range n).map fun k => lo + (k : Nat)
theorem rng_ran (lo : Int) (n : Nat) : rng lo n = (ran lo n).map Dt.int := by
  unfold rng ran
  rw [List.map_map]
  rfl
theorem ran_len (lo : Int) (n : Nat) : (ran lo n).length = n := by
  unfold ran
  rw [List.length_map, List.length_range]
theorem ran_mem {lo : Int} {n : Nat} {i : Int} (h : i ∈ ran lo n) : lo ≤ i ∧ i < lo + (n : Nat) := by
  unfold ran at h
  obtain ⟨k, hk, e⟩ := List.mem_map.mp h
  have := List.mem_range.mp hk
  omega
theorem ix_ok {n : Nat} {i : Int} (h0 : 0 ≤ i) (h1 : i < (n : Int)) : ixN n i = some i.toNat := by
  unfold ixN
  rw [if_pos h0, if_pos h1]
theorem at_ok {α : Type} {ds : List α} {i : Int} {d : α} (h0 : 0 ≤ i) (h : ds[i.toNat]? = some d) : atI ds i = some d := by
  have hl : i.toNat < ds.length := by
    rcases Nat.lt_or_ge i.toNat ds.length with q | q
    · exact q
    · rw [List.getElem?_eq_none q] at h
      cases h
  unfold atI
  rw [ix_ok h0 (by omega)]
  exact h
theorem at_map {α β : Type} {f : α → β} {ds : List α} {i : Int} {d : α} (h : atI ds i = some d) : atI (ds.map f) i = some (f d) := by
  unfold atI at h ⊢
  rw [List.length_map]
  cases q : ixN ds.length i with
  | none =>
    rw [q] at h
    cases h
  | some j =>
    rw [q] at h
    have h' : ds[j]? = some d := h
    show (ds.map f)[j]? = some (f d)
    rw [List.getElem?_map, h']
    rfl
theorem getD_some {α : Type} {ds : List α} {j : Nat} {x : α} (h : j < ds.length) : ds[j]? = some (ds.getD j x) := by
  rw [List.getD_eq_getElem?_getD, List.getElem?_eq_getElem h]
  rfl
theorem at_int {ns : List Int} {i : Int} (h0 : 0 ≤ i) (h1 : i < (ns.length : Int)) : atI (ns.map Dt.int) i = some (.int (ns.getD i.toNat 0)) := at_map (at_ok h0 (getD_some (by omega)))
theorem at_last {α : Type} {ds : List α} {x : α} (h : 0 < ds.length) : atI ds (-1) = some (ds.getD (ds.length - 1) x) := by
  unfold atI ixN
  rw [if_neg (by omega), if_pos (by omega)]
  show ds[(-1 + (ds.length : Int)).toNat]? = _
  rw [show (-1 + (ds.length : Int)).toNat = ds.length - 1 by omega]
  exact getD_some (by omega)
theorem at_lastI {ns : List Int} (h : 0 < ns.length) : atI (ns.map Dt.int) (-1) = some (.int (ns.getD (ns.length - 1) 0)) := at_map (at_last h)
section
variable {X : Cx} {Γ : Gam} {ns : List Int} {pos : Pos} {D : DE}
theorem Cb_room {j : Nat} {scope : Scope} {q : Shared × Hp × Addr × List (Str × Addr) × List Addr} (h : Room j X.A) : Room j (Cb X scope q).A := h
theorem ev_lenLI {a : Expr} {p : Pos} (T : Bt X.mg) (h : Ev X Γ a (.lst (ns.map Dt.int))) (hg : Gl X "len" := by rfl) (hs : starEach [a] X.env = (false, eval a X.env) :: starEach [] X.env := by rfl) : Ev X Γ (.Call (.Name "len" p) [a] [] pos) (.int (ns.length : Int)) := ev_is (ev_lenL T h hg hs) (by rw [List.length_map])
theorem ev_lenTI {a : Expr} {p : Pos} (T : Bt X.mg) (h : Ev X Γ a (.tup (ns.map Dt.int))) (hg : Gl X "len" := by rfl) (hs : starEach [a] X.env = (false, eval a X.env) :: starEach [] X.env := by rfl) : Ev X Γ (.Call (.Name "len" p) [a] [] pos) (.int (ns.length : Int)) := ev_is (ev_lenT T h hg hs) (by rw [List.length_map])
theorem ev_lenOI (i : Nat) {m : Bool} {n : Str} {p pn pos : Pos} (T : Bt X.mg) (hg : Γ[i]? = some (some (.ow m (ns.map Dt.int)))) (hi : X.N[i]? = some n := by rfl) (hv : Vis X.env.scope n := by first | exact Or.inl rfl | exact Or.inr (Or.inl rfl) | exact Or.inr (Or.inr rfl))
    (hd : (n == ("__debug__" : Str)) = false := by decide) (hcd : (n == ("__classdict__" : Str)) = false := by decide) (hgl : Gl X "len" := by rfl) (hs : starEach [.Name n pn] X.env = (false, eval (.Name n pn) X.env) :: starEach [] X.env := by rfl) : Ev X Γ (.Call (.Name "len" p) [.Name n pn] [] pos) (.int (ns.length : Int)) := ev_is (ev_lenO i T hg hi hv hd hcd hgl hs) (by rw [List.length_map])
theorem ei_is {tg e : Expr} {ds ds' : List Dt} (h : EvI X Γ tg e ds) (q : ds = ds') : EvI X Γ tg e ds' := q ▸ h
theorem en_is {e : Expr} {ds ds' : List Dt} (h : EvN X Γ e ds) (q : ds = ds') : EvN X Γ e ds' := q ▸ h
theorem en_lcI {elt iter : Expr} {scope : Scope} {n : Str} {i : Nat} {pn : Pos} (g : Int → Dt) (hc : X.calm = true) (hN : X.N.Nodup) (hi : EvI X Γ (.Name n pn) iter (ns.map Dt.int)) (hl : ns.length < 100000) (ok : blkC X.N X.env.scope scope [(n, i)] = true)
    (he : ∀ d ∈ ns, ∀ q, Ev (Cb X scope q) ((wipeG Γ [i]).set i (some (.dat (.int d)))) elt (g d))
    (hni : X.N[i]? = some n := by rfl) (hx : ∀ q, Loc (Cb X scope q).env.scope n := by intro _; first | exact Or.inl rfl | exact Or.inr rfl) (hf : ∀ q, (Cb X scope q).fn n = true ∨ (Cb X scope q).env.scope.names.lookup n = some .local := by intro _; first | exact .inl rfl | exact .inr rfl) (hs : ∀ x, foldedSetIterable iter X.env x = pure x := by intro _; rfl) :
    EvN X Γ (.ListComp elt [⟨.Name n pn, iter, [], 0⟩] scope pos) (ns.map g) := by
  rw [← iv_map]
  refine en_lcM (iv g) hc hN hi (by rw [List.length_map]; exact hl) ok (fun d hd q => ?_) hni hx hf hs
  obtain ⟨m, hm, e⟩ := List.mem_map.mp hd
  subst e
  exact he m hm q
theorem en_lcIf {elt iter t : Expr} {scope : Scope} {n : Str} {i : Nat} {pn : Pos} (f : Int → Bool) (g : Int → Dt) (hc : X.calm = true) (hN : X.N.Nodup) (hi : EvI X Γ (.Name n pn) iter (ns.map Dt.int)) (hl : ns.length < 100000) (ok : blkC X.N X.env.scope scope [(n, i)] = true)
    (ht : ∀ d ∈ ns, ∀ q, EvT (Cb X scope q) ((wipeG Γ [i]).set i (some (.dat (.int d)))) t (f d)) (he : ∀ d ∈ ns, f d = true → ∀ q, Ev (Cb X scope q) ((wipeG Γ [i]).set i (some (.dat (.int d)))) elt (g d))
    (hni : X.N[i]? = some n := by rfl) (hx : ∀ q, Loc (Cb X scope q).env.scope n := by intro _; first | exact Or.inl rfl | exact Or.inr rfl) (hf : ∀ q, (Cb X scope q).fn n = true ∨ (Cb X scope q).env.scope.names.lookup n = some .local := by intro _; first | exact .inl rfl | exact .inr rfl) (hs : ∀ x, foldedSetIterable iter X.env x = pure x := by intro _; rfl) :
    EvN X Γ (.ListComp elt [⟨.Name n pn, iter, [t], 0⟩] scope pos) ((ns.filter f).map g) := by
  rw [← fi_map]
  refine en_lcF (fi f) (iv g) hc hN hi (by rw [List.length_map]; exact hl) ok (fun d hd q => ?_) (fun d hd h q => ?_) hni hx hf hs
  · obtain ⟨m, hm, e⟩ := List.mem_map.mp hd
    subst e
    exact ht m hm q
  · obtain ⟨m, hm, e⟩ := List.mem_map.mp hd
    subst e
    exact he m hm h q
theorem st_lcI {elt iter : Expr} {scope : Scope} {y n : Str} {i0 i : Nat} {py pn pc : Pos} (g : Int → Dt) (hc : X.calm = true) (hN : X.N.Nodup) (hi : EvI X Γ (.Name n pn) iter (ns.map Dt.int)) (hl : ns.length < 100000) (ok : blkC X.N X.env.scope scope [(n, i)] = true)
    (he : ∀ d ∈ ns, ∀ q, Ev (Cb X scope q) ((wipeG Γ [i]).set i (some (.dat (.int d)))) elt (g d)) (k : D.nx (Γ.set i0 (some (.own (ns.map g)))))
    (hy : X.N[i0]? = some y := by rfl) (hyl : X.env.scope.names.lookup y = some .local := by rfl) (hsw : swapsWith (.ListComp elt [⟨.Name n pn, iter, [], 0⟩] scope pc) (some (.Name y py)) pos.line X.env = pure true := by first | rfl | exact sw_true rfl rfl rfl (by decide +kernel))
    (hni : X.N[i]? = some n := by rfl) (hx : ∀ q, Loc (Cb X scope q).env.scope n := by intro _; first | exact Or.inl rfl | exact Or.inr rfl) (hf : ∀ q, (Cb X scope q).fn n = true ∨ (Cb X scope q).env.scope.names.lookup n = some .local := by intro _; first | exact .inl rfl | exact .inr rfl) (hs : ∀ x, foldedSetIterable iter X.env x = pure x := by intro _; rfl) :
    Stm X Γ (.Assign [.Name y py] (.ListComp elt [⟨.Name n pn, iter, [], 0⟩] scope pc) pos) D := by
  refine st_lcM (iv g) hc hN hi (by rw [List.length_map]; exact hl) ok (fun d hd q => ?_) (by rw [iv_map]; exact k) hy hyl hsw hni hx hf hs
  obtain ⟨m, hm, e⟩ := List.mem_map.mp hd
  subst e
  exact he m hm q
theorem st_lcIf {elt iter t : Expr} {scope : Scope} {y n : Str} {i0 i : Nat} {py pn pc : Pos} (f : Int → Bool) (g : Int → Dt) (hc : X.calm = true) (hN : X.N.Nodup) (hi : EvI X Γ (.Name n pn) iter (ns.map Dt.int)) (hl : ns.length < 100000) (ok : blkC X.N X.env.scope scope [(n, i)] = true)
    (ht : ∀ d ∈ ns, ∀ q, EvT (Cb X scope q) ((wipeG Γ [i]).set i (some (.dat (.int d)))) t (f d)) (he : ∀ d ∈ ns, f d = true → ∀ q, Ev (Cb X scope q) ((wipeG Γ [i]).set i (some (.dat (.int d)))) elt (g d)) (k : D.nx (Γ.set i0 (some (.own ((ns.filter f).map g)))))
    (hy : X.N[i0]? = some y := by rfl) (hyl : X.env.scope.names.lookup y = some .local := by rfl) (hsw : swapsWith (.ListComp elt [⟨.Name n pn, iter, [t], 0⟩] scope pc) (some (.Name y py)) pos.line X.env = pure true := by first | rfl | exact sw_true rfl rfl rfl (by decide +kernel))
    (hni : X.N[i]? = some n := by rfl) (hx : ∀ q, Loc (Cb X scope q).env.scope n := by intro _; first | exact Or.inl rfl | exact Or.inr rfl) (hf : ∀ q, (Cb X scope q).fn n = true ∨ (Cb X scope q).env.scope.names.lookup n = some .local := by intro _; first | exact .inl rfl | exact .inr rfl) (hs : ∀ x, foldedSetIterable iter X.env x = pure x := by intro _; rfl) :
    Stm X Γ (.Assign [.Name y py] (.ListComp elt [⟨.Name n pn, iter, [t], 0⟩] scope pc) pos) D := by
  refine st_lcFi (fi f) (iv g) hc hN hi (by rw [List.length_map]; exact hl) ok (fun d hd q => ?_) (fun d hd h q => ?_) (by rw [fi_map]; exact k) hy hyl hsw hni hx hf hs
  · obtain ⟨m, hm, e⟩ := List.mem_map.mp hd
    subst e
    exact ht m hm q
  · obtain ⟨m, hm, e⟩ := List.mem_map.mp hd
    subst e
    exact he m hm h q
/-- y = [elt for n, m in iter if t], the items pairs -/
theorem st_lcF2 {elt iter t : Expr} {scope : Scope} {y n m : Str} {i0 i j kk : Nat} {py pn pm pt pc : Pos} {ds : List Dt} (f : Dt → Bool) (v : Dt → Dt) (hc : X.calm = true) (hN : X.N.Nodup) (hij : i ≠ j) (hi : EvI X Γ (.Tuple [.Name n pn, .Name m pm] kk pt) iter ds) (hl : ds.length < 100000) (ok : blkC X.N X.env.scope scope [(n, i), (m, j)] = true)
    (hd : ∀ d ∈ ds, ∃ d1 d2, d = .tup [d1, d2] ∧ (∀ q, EvT (Cb X scope q) (((wipeG Γ [i, j]).set i (some (.dat d1))).set j (some (.dat d2))) t (f d)) ∧ (f d = true → ∀ q, Ev (Cb X scope q) (((wipeG Γ [i, j]).set i (some (.dat d1))).set j (some (.dat d2))) elt (v d))) (k : D.nx (Γ.set i0 (some (.own ((ds.filter f).map v)))))
    (hy : X.N[i0]? = some y := by rfl) (hyl : X.env.scope.names.lookup y = some .local := by rfl) (hsw : swapsWith (.ListComp elt [⟨.Tuple [.Name n pn, .Name m pm] kk pt, iter, [t], 0⟩] scope pc) (some (.Name y py)) pos.line X.env = pure true := by first | rfl | exact sw_true rfl rfl rfl (by decide +kernel))
    (hni : X.N[i]? = some n := by rfl) (hnj : X.N[j]? = some m := by rfl) (hx : ∀ q, Loc (Cb X scope q).env.scope n := by intro _; first | exact Or.inl rfl | exact Or.inr rfl) (hf : ∀ q, (Cb X scope q).fn n = true ∨ (Cb X scope q).env.scope.names.lookup n = some .local := by intro _; first | exact .inl rfl | exact .inr rfl)
    (hx2 : ∀ q, Loc (Cb X scope q).env.scope m := by intro _; first | exact Or.inl rfl | exact Or.inr rfl) (hf2 : ∀ q, (Cb X scope q).fn m = true ∨ (Cb X scope q).env.scope.names.lookup m = some .local := by intro _; first | exact .inl rfl | exact .inr rfl) (hs : ∀ x, foldedSetIterable iter X.env x = pure x := by intro _; rfl) :
    Stm X Γ (.Assign [.Name y py] (.ListComp elt [⟨.Tuple [.Name n pn, .Name m pm] kk pt, iter, [t], 0⟩] scope pc) pos) D := by
  have h0 := enr_lc (K := X.K) (Γ := Γ) (wi := RunI X (.Tuple [.Name n pn, .Name m pm] kk pt) iter) (g := gTup X.K 2 (gCons (gName i) (gCons (gName j) gNil))) (tt := RunTb X scope t) (te := RunEb X scope elt) (vs := [i, j]) (ds := ds) f v hi hl (fun d hd' => by
    obtain ⟨d1, d2, ed, ht, he⟩ := hd d hd'
    refine ⟨((wipeG Γ [i, j]).set i (some (.dat d1))).set j (some (.dat d2)), fun B σ Hs H x S r Q k => ?_, fun B σ Hs H S Q k q => ht q B σ Hs H S Q k, fun hf B σ Hs H S Q k q => he hf q B σ Hs H S Q k⟩
    subst ed
    cases r with
    | @tup p xs _ q1 q2 =>
      cases q2 with
      | cons r1 r2 =>
        cases r2 with
        | cons r3 r4 =>
          cases r4
          exact ⟨p, _, rfl, Evl.ex_t S.i q1, rfl, _, _, rfl, _, _, rfl, rfl, k _ ((S.put r1).put r3) (wipe2 σ i j _ _ hij)⟩)
  exact asg_en (ps_setLc (own := [(n, i), (m, j)]) hc hN hy hyl hsw pi_r (blkOk_by ok) (fun s H C cl fp => pg_tup (X := Cb X scope (s, H, C, cl, fp)) hc (pgs_cons (pg_name hN hni (hx (s, H, C, cl, fp)) (hf (s, H, C, cl, fp))) (pgs_cons (pg_name hN hnj (hx2 (s, H, C, cl, fp)) (hf2 (s, H, C, cl, fp))) pgs_nil))) (fun s H C cl fp => pts_one ⟨fun pins t σ' H' Q I h => h (s, H, C, cl, fp) pins t I⟩) (fun s H C cl fp => ⟨fun pins t σ' H' Q I h => h (s, H, C, cl, fp) pins t I⟩) hs) h0 k
end
section
variable {P : Program} {w : World} {K : PySem.W.Frag} {mg : Str → Option Value} {base : Heap}
/-- a def or method that changes nothing, its object named -/
theorem fn_ok {x qual : Str} {params : Arguments} {body : List Stmt} {scope : Scope} {f : Addr} {fd : FuncData} {N ps : List Str} {k : Nat} {R : List Dt → Dt → Prop} (F : FunD K x qual params body scope [] [] f fd) (S : FnScope N ps scope)
    (len : ∀ ds d, R ds d → ds.length = ps.length)
    (hbody : ∀ (q : Value × Around × List Env × Shared × Hp × XK) (ds : List Dt) (d : Dt), Room k (cxF P w K mg base N qual scope f q).A → R ds d →
      Blk (cxF P w K mg base N qual scope f q) (startG N ds) body { nx := fun _ => d = .non, rt := fun d' _ => d' = d }) : FnOk P w K mg base (L2.CX P w) (k + 1) f fd ps (spF K R) := by
  refine F.ok S (fun vs H Q E h => ?_) (fun cdv A outer s H vs Q E hr h => ?_)
  · obtain ⟨Hs, ds, d, _, r, h, _⟩ := h
    rw [r.length]
    exact len ds d h
  · obtain ⟨Hs, ds, d, i, r, hR, q⟩ := h
    have B := hbody (cdv, A, outer, s, H, E) ds d hr hR
    refine ⟨_, pss_r, RunB.mono (B ⟨Hs, H, fun _ => False, fun _ => False⟩ (L2.start N vs) Hs H (sat_start i r)) (fun σ' H' ⟨Γ', Hs', S', e⟩ => ?_) (fun v H' z => ?_) (fun _ _ ⟨_, _, _, z⟩ => z.elim) (fun _ _ ⟨_, _, _, z⟩ => z.elim)⟩
    · refine q _ Hs' H' ⟨S'.s0, S'.i, fun a o h => S'.e0 a o (fun z => z) h, fun a o h n => ?_⟩ (by rw [e]; exact .non)
      rcases S'.n0 a o h n with z | z
      · exact z
      · exact z.elim
    · rcases z with ⟨d', Γ', σ', Hs', S', rv, e⟩ | ⟨_, _, _, _, _, _, _, _, _, _, z⟩
      · have e' : d' = d := e
        subst e'
        refine q v Hs' H' ⟨S'.s0, S'.i, fun a o h => S'.e0 a o (fun z => z) h, fun a o h n => ?_⟩ rv
        rcases S'.n0 a o h n with z | z
        · exact z
        · exact z.elim
      · exact z.elim
end
end G

set_option Elab.async false
set_option linter.all false
set_option maxRecDepth 100000
set_option maxHeartbeats 2000000
/-! the head's facts: those of He, methods with a __class__ cell, one more Bool -/
namespace G
open PySem PySem.Spec PyProof.Rows L2
/-- a method with a __class__ cell: where it stands (class, name), its words, keyword-only defaults -/
structure ClD where
  cls : Str
  name : Str
  qual : Str
  params : Arguments
  body : List Stmt
  scope : Scope
  kwd : List (Str × He.Dv)
abbrev FnC : Type := Option (Str × Str × Arguments × FuncBody × Scope × Addr × Addr)
def fnC (K : PySem.W.Frag) (c x : Str) : FnC := match K.lookup (He.ma K (He.ga K c) x) with
  | some ⟨_, _, .func fd, _⟩ => some (fd.name, fd.qualname, fd.params, fd.body, fd.scope, fd.globals, fd.builtins)
  | _ => none
def ClD.val (d : ClD) : FnC := some (d.name, d.qual, d.params, .stmts d.body, d.scope, mainGlobals, builtinsNs)
def ClD.kws (K : PySem.W.Frag) (d : ClD) : List (Str × V) := d.kwd.map fun q => (q.1, q.2.v K)
def cellB (K : PySem.W.Frag) (cc D : Addr) : Bool := match K.lookup cc with
  | some ⟨_, _, .cell (some (.ref E)), _⟩ => decide (E = D)
  | _ => false
def fileV (P : Program) : Option Value → Bool
  | some (.str file _) => (P.main.file : Str) == file
  | _ => false
theorem fileV_ok {P : Program} : ∀ {v : Option Value}, fileV P v = true → ∃ file tf, v = some (.str file tf) ∧ ((P.main.file : Str) == file) = true
  | some (.str file tf), h => ⟨file, tf, rfl, h⟩
def fileB (P : Program) (K : PySem.W.Frag) (c : Addr) : Bool := match K.lookup c with
  | some ⟨_, _, .fields vs, _⟩ => fileV P vs[2]?
  | _ => false
def cloB (K : PySem.W.Frag) (D : Addr) : List (Str × Addr) → Bool
  | [(n, cc)] => decide (n = ("__class__" : Str)) && cellB K cc D
  | _ => false
theorem cloB_ok {K : PySem.W.Frag} {D : Addr} : ∀ {l : List (Str × Addr)}, cloB K D l = true → ∃ cc : Addr, l = [(("__class__" : Str), cc)] ∧ cellB K cc D = true
  | [], h => by cases h
  | [(n, cc)], h => by
    obtain ⟨m3, m4⟩ := He.ba h
    have en := of_decide_eq_true m3
    subst en
    exact ⟨cc, rfl, m4⟩
  | _ :: _ :: _, h => by cases h
def codB (P : Program) (K : PySem.W.Frag) (q : Str) : Value → Bool
  | .ref c => PySem.W.codeIn K (.ref c) q && fileB P K c
  | _ => false
theorem codB_ok {P : Program} {K : PySem.W.Frag} {q : Str} : ∀ {v : Value}, codB P K q v = true → ∃ c, v = .ref c ∧ PySem.W.codeIn K (.ref c) q = true ∧ fileB P K c = true
  | .ref c, h => ⟨c, rfl, (He.ba h).1, (He.ba h).2⟩
def noneB : Value → Bool
  | .none => true
  | _ => false
def ClD.ok (P : Program) (K : PySem.W.Frag) (d : ClD) : Bool := match K.lookup (He.ma K (He.ga K d.cls) d.name) with
  | some ⟨_, _, .func fd, _⟩ => noneB fd.defaults && (He.kwdB K fd.kwdefaults (d.kws K) && (cloB K (He.ga K d.cls) fd.closure && codB P K d.qual fd.code))
  | _ => false
theorem ClD.funC {P : Program} {K : PySem.W.Frag} {d : ClD} (e : fnC K d.cls d.name = d.val) (h : d.ok P K = true) : ∃ fd cc c, FunC P K d.name d.qual d.params d.body d.scope (d.kws K) (He.ga K d.cls) (He.ma K (He.ga K d.cls) d.name) fd cc c := by
  unfold fnC at e
  unfold ClD.ok at h
  cases q : K.lookup (He.ma K (He.ga K d.cls) d.name) with
  | none =>
    rw [q] at h
    cases h
  | some o =>
    obtain ⟨oc, od, dt, osl⟩ := o
    rw [q] at h e
    cases dt with
    | func fd =>
      obtain ⟨n1, n2, n3, n4, n5, n6, n7, n8, n9, n10, n11, n12, n13, n14, n15⟩ := fd
      have e2 : (some (n1, n2, n3, n4, n5, n6, n15) : FnC) = some (d.name, d.qual, d.params, .stmts d.body, d.scope, mainGlobals, builtinsNs) := e
      simp only [Option.some.injEq, Prod.mk.injEq] at e2
      obtain ⟨h1, h2, h3, h4, h5, h6, h7⟩ := e2
      subst h1 h2 h3 h4 h5 h6 h7
      obtain ⟨k1, k2⟩ := He.ba h
      obtain ⟨k3, k4⟩ := He.ba k2
      obtain ⟨k5, k6⟩ := He.ba k4
      have k1' : noneB n8 = true := k1
      have k3' : He.kwdB K n9 (d.kws K) = true := k3
      have k5' : cloB K (He.ga K d.cls) n7 = true := k5
      have k6' : codB P K d.qual n13 = true := k6
      obtain ⟨cc, e7, m4⟩ := cloB_ok k5'
      obtain ⟨c, e13, m1, m2⟩ := codB_ok k6'
      have e8 : n8 = .none := by
        cases n8 with
        | none => rfl
        | _ => cases k1'
      subst e7 e13 e8
      refine ⟨_, cc, c, ⟨oc, od, n9, n10, n11, n12, n14, osl, rfl, q, He.kwdB_ok k3'⟩, m1, ?_, ?_⟩
      · unfold cellB at m4
        split at m4
        · rename_i h0
          have := of_decide_eq_true m4
          subst this
          exact ⟨_, _, _, h0⟩
        · cases m4
      · unfold fileB at m2
        split at m2
        · rename_i h0
          obtain ⟨file, tf, e1, e2⟩ := fileV_ok m2
          exact ⟨_, _, _, _, file, tf, h0, e1, e2⟩
        · cases m2
    | _ => cases h
/-- super().m behind D in C's order: g -/
def supB (K : PySem.W.Frag) (C D : Addr) (m : Str) (g : Addr) : Bool := (PySem.W.clsIn K D).isSome && (decide (PySem.W.mroIn K C (.ref D) = some true) && (He.eqO (PySem.W.nsIn K cStatics "thirdparty.any") (some none) && (He.eqO (PySem.W.ks_superIn K C D m) (some (some (.ref g))) &&
  (decide (PySem.W.typeIn K (.ref g) = some (.type "function")) && PySem.W.fnIn K g))))
theorem supB_ok {K : PySem.W.Frag} {C D : Addr} {m : Str} {g : Addr} (h : supB K C D m g = true) : SupM K C D m g := by
  obtain ⟨h1, h⟩ := He.ba h
  obtain ⟨h2, h⟩ := He.ba h
  obtain ⟨h3, h⟩ := He.ba h
  obtain ⟨h4, h⟩ := He.ba h
  obtain ⟨h5, h6⟩ := He.ba h
  exact ⟨Option.isSome_iff_exists.mp h1, of_decide_eq_true h2, He.eqO_ok h3, He.eqO_ok h4, of_decide_eq_true h5, h6⟩
/-- the instance's __call__ -/
def calB (K : PySem.W.Frag) (C g : Addr) : Bool := He.eqO (PySem.W.findIn K (.ref C) "__call__") (some (some (.ref g))) && (PySem.W.isFn K (.ref g) && PySem.W.fnIn K g)
theorem calB_ok {K : PySem.W.Frag} {C g : Addr} (h : calB K C g = true) : StX.CallO K C g := by
  obtain ⟨h1, h⟩ := He.ba h
  obtain ⟨h2, h3⟩ := He.ba h
  exact ⟨He.eqO_ok h1, h2, h3⟩
/-! the Hook -/
abbrev AlS : Type := He.AlD × (Bool × List FnC)
def obsS (P : Program) (n : Nat) (fa : List He.Fa) (fn : List He.DefD) (fc : List ClD) (ex : PySem.W.Frag → Bool) (g : Addr → Option Obj) : AlS :=
  (He.obsD fa fn (He.frG g (cStatics :: He.asD g n)), (ex (He.frG g (cStatics :: He.asD g n)) && fc.all fun d => d.ok P (He.frG g (cStatics :: He.asD g n)), fc.map fun d => fnC (He.frG g (cStatics :: He.asD g n)) d.cls d.name))
def valS (fn : List He.DefD) (fc : List ClD) : AlS := (He.valD fn, (true, fc.map ClD.val))
structure SaysS (P : Program) (fa : List He.Fa) (fn : List He.DefD) (fc : List ClD) (ex : PySem.W.Frag → Bool) (K : PySem.W.Frag) : Prop where
  d : He.SaysD fa fn K
  ex : ex K = true
  c : ∀ d ∈ fc, ∃ fd cc c, FunC P K d.name d.qual d.params d.body d.scope (d.kws K) (He.ga K d.cls) (He.ma K (He.ga K d.cls) d.name) fd cc c
theorem saysS_of {P : Program} {n : Nat} {fa : List He.Fa} {fn : List He.DefD} {fc : List ClD} {ex : PySem.W.Frag → Bool} {g : Addr → Option Obj} (e : obsS P n fa fn fc ex g = valS fn fc) : SaysS P fa fn fc ex (He.frG g (cStatics :: He.asD g n)) := by
  have e1 : He.obsD fa fn (He.frG g (cStatics :: He.asD g n)) = He.valD fn := congrArg (fun z : AlS => z.1) e
  have e2 : (ex (He.frG g (cStatics :: He.asD g n)) && fc.all fun d => d.ok P (He.frG g (cStatics :: He.asD g n))) = true := congrArg (fun z : AlS => z.2.1) e
  have e3 : (fc.map fun d => fnC (He.frG g (cStatics :: He.asD g n)) d.cls d.name) = fc.map ClD.val := congrArg (fun z : AlS => z.2.2) e
  obtain ⟨h1, h2⟩ := He.ba e2
  refine ⟨e1, h1, fun d hd => ?_⟩
  obtain ⟨i, hi, ed⟩ := List.mem_iff_getElem.mp hd
  have e4 : (fc.map fun d => fnC (He.frG g (cStatics :: He.asD g n)) d.cls d.name)[i]? = (fc.map ClD.val)[i]? := by rw [e3]
  rw [List.getElem?_map, List.getElem?_map, List.getElem?_eq_getElem hi, ed] at e4
  exact ClD.funC (Option.some.inj e4) (List.all_eq_true.mp h2 d hd)
def hookS (P : Program) (n : Nat) (fa : List He.Fa) (fn : List He.DefD) (fc : List ClD) (ex : PySem.W.Frag → Bool) : PySem.W.Hook where
  α := AlS
  obs := fun s => obsS P n fa fn fc ex s.heap.get?
  val := fun _ => valS fn fc
  says := fun _ h => ∃ K : PySem.W.Frag, K.In h ∧ SaysS P fa fn fc ex K
  of := fun _ _ e => ⟨_, He.frG_in, saysS_of e⟩
  keeps := fun _ _ _ ⟨K, hK, c⟩ k => ⟨K, PySem.W.Frag.In.keeps hK k, c⟩
theorem obsS_eq {P : Program} {n : Nat} {fa : List He.Fa} {fn : List He.DefD} {fc : List ClD} {ex : PySem.W.Frag → Bool} {g : Addr → Option Obj} {s : Shared} (h : ∀ a, g a = s.heap.get? a) : obsS P n fa fn fc ex g = (hookS P n fa fn fc ex).obs s := by
  have e : g = s.heap.get? := funext h
  rw [e] <;> rfl
end G

set_option Elab.async false
set_option linter.all false
set_option maxRecDepth 100000
set_option maxHeartbeats 4000000
namespace LW
open PySem PySem.Spec PyProof.Rows L2 G
def topS (i : Nat) : Stmt := PySem.Challenge.pw_ranksweeps_k02_whole_one_sweep.main.body.getD i (.Pass ⟨0, 0, 0, 0⟩)
abbrev s_is_integer : Stmt := topS 9
abbrev P_is_integer : List Str := ["value"]
abbrev N_is_integer : List Str := ["value"]
theorem sc_is_integer : FnScope N_is_integer P_is_integer (defScope s_is_integer) := ⟨rfl, rfl, rfl, by decide +kernel, rfl, by decide +kernel, by decide +kernel⟩
def d_is_integer : He.DefD := ⟨("is_integer", none), "is_integer", "is_integer", defArgs s_is_integer, defBody s_is_integer, defScope s_is_integer, [], []⟩
abbrev s_has_cells : Stmt := topS 10
abbrev P_has_cells : List Str := ["value"]
abbrev N_has_cells : List Str := ["value"]
theorem sc_has_cells : FnScope N_has_cells P_has_cells (defScope s_has_cells) := ⟨rfl, rfl, rfl, by decide +kernel, rfl, by decide +kernel, by decide +kernel⟩
def d_has_cells : He.DefD := ⟨("has_cells", none), "has_cells", "has_cells", defArgs s_has_cells, defBody s_has_cells, defScope s_has_cells, [], []⟩
abbrev s_checked_row : Stmt := topS 11
abbrev P_checked_row : List Str := ["value"]
abbrev N_checked_row : List Str := ["value", "index", "cell"]
theorem sc_checked_row : FnScope N_checked_row P_checked_row (defScope s_checked_row) := ⟨rfl, rfl, rfl, by decide +kernel, rfl, by decide +kernel, by decide +kernel⟩
def d_checked_row : He.DefD := ⟨("checked_row", none), "checked_row", "checked_row", defArgs s_checked_row, defBody s_checked_row, defScope s_checked_row, [], []⟩
abbrev s_check_measures : Stmt := topS 18
abbrev P_check_measures : List Str := ["size", "depth", "reach", "written", "direction"]
abbrev N_check_measures : List Str := ["size", "depth", "reach", "written", "direction"]
theorem sc_check_measures : FnScope N_check_measures P_check_measures (defScope s_check_measures) := ⟨rfl, rfl, rfl, by decide +kernel, rfl, by decide +kernel, by decide +kernel⟩
def d_check_measures : He.DefD := ⟨("check_measures", none), "check_measures", "check_measures", defArgs s_check_measures, defBody s_check_measures, defScope s_check_measures, [], []⟩
abbrev s_picked : Stmt := topS 22
abbrev P_picked : List Str := ["sweep", "row", "made", "index"]
abbrev N_picked : List Str := ["sweep", "row", "made", "index", "values", "place", "weight", "at", "value"]
theorem sc_picked : FnScope N_picked P_picked (defScope s_picked) := ⟨rfl, rfl, rfl, by decide +kernel, rfl, by decide +kernel, by decide +kernel⟩
def d_picked : He.DefD := ⟨("picked", none), "picked", "picked", defArgs s_picked, defBody s_picked, defScope s_picked, [], []⟩
abbrev s_swept : Stmt := topS 23
abbrev P_swept : List Str := ["sweep", "row"]
abbrev N_swept : List Str := ["sweep", "row", "made", "order", "index"]
theorem sc_swept : FnScope N_swept P_swept (defScope s_swept) := ⟨rfl, rfl, rfl, by decide +kernel, rfl, by decide +kernel, by decide +kernel⟩
def d_swept : He.DefD := ⟨("swept", none), "swept", "swept", defArgs s_swept, defBody s_swept, defScope s_swept, [], []⟩
abbrev s_played : Stmt := topS 24
abbrev P_played : List Str := ["chain", "row"]
abbrev N_played : List Str := ["chain", "row", "k", "one", "other", "cell", "left", "right"]
theorem sc_played : FnScope N_played P_played (defScope s_played) := ⟨rfl, rfl, rfl, by decide +kernel, rfl, by decide +kernel, by decide +kernel⟩
def d_played : He.DefD := ⟨("played", none), "played", "played", defArgs s_played, defBody s_played, defScope s_played, [], []⟩
abbrev s_are_weights : Stmt := topS 31
abbrev P_are_weights : List Str := ["value"]
abbrev N_are_weights : List Str := ["value", "weight"]
theorem sc_are_weights : FnScope N_are_weights P_are_weights (defScope s_are_weights) := ⟨rfl, rfl, rfl, by decide +kernel, rfl, by decide +kernel, by decide +kernel⟩
def d_are_weights : He.DefD := ⟨("are_weights", none), "are_weights", "are_weights", defArgs s_are_weights, defBody s_are_weights, defScope s_are_weights, [], []⟩
abbrev s_is_word : Stmt := topS 32
abbrev P_is_word : List Str := ["value", "words"]
abbrev N_is_word : List Str := ["value", "words"]
theorem sc_is_word : FnScope N_is_word P_is_word (defScope s_is_word) := ⟨rfl, rfl, rfl, by decide +kernel, rfl, by decide +kernel, by decide +kernel⟩
def d_is_word : He.DefD := ⟨("is_word", none), "is_word", "is_word", defArgs s_is_word, defBody s_is_word, defScope s_is_word, [], []⟩
abbrev s_check_sweep : Stmt := topS 33
abbrev P_check_sweep : List Str := ["weights", "rank", "own", "ends", "way"]
abbrev N_check_sweep : List Str := ["weights", "rank", "own", "ends", "way"]
theorem sc_check_sweep : FnScope N_check_sweep P_check_sweep (defScope s_check_sweep) := ⟨rfl, rfl, rfl, by decide +kernel, rfl, by decide +kernel, by decide +kernel⟩
def d_check_sweep : He.DefD := ⟨("check_sweep", none), "check_sweep", "check_sweep", defArgs s_check_sweep, defBody s_check_sweep, defScope s_check_sweep, [], []⟩
abbrev s_Chain_init : Stmt := inClass (topS 27) 0
abbrev P_Chain_init : List Str := ["self", "kind", "parts", "times", "size", "depth", "reach", "written", "direction"]
abbrev N_Chain_init : List Str := ["self", "kind", "parts", "times", "size", "depth", "reach", "written", "direction"]
theorem sc_Chain_init : FnScope N_Chain_init P_Chain_init (defScope s_Chain_init) := ⟨rfl, rfl, rfl, by decide +kernel, rfl, by decide +kernel, by decide +kernel⟩
def d_Chain_init : He.DefD := ⟨("Chain", some "__init__"), "__init__", "Chain.__init__", defArgs s_Chain_init, defBody s_Chain_init, defScope s_Chain_init, [], []⟩
abbrev s_Chain_call : Stmt := inClass (topS 27) 1
abbrev P_Chain_call : List Str := ["self", "row"]
abbrev N_Chain_call : List Str := ["self", "row"]
theorem sc_Chain_call : FnScope N_Chain_call P_Chain_call (defScope s_Chain_call) := ⟨rfl, rfl, rfl, by decide +kernel, rfl, by decide +kernel, by decide +kernel⟩
def d_Chain_call : He.DefD := ⟨("Chain", some "__call__"), "__call__", "Chain.__call__", defArgs s_Chain_call, defBody s_Chain_call, defScope s_Chain_call, [], []⟩
abbrev s_Sweep_init : Stmt := inClass (topS 34) 0
abbrev P_Sweep_init : List Str := ["self", "weights", "rank", "own", "ends", "way"]
abbrev N_Sweep_init : List Str := ["self", "weights", "rank", "own", "ends", "way", "__class__", "used", "reach", "written", "place", "weight"]
theorem sc_Sweep_init : NdefX.NScope N_Sweep_init P_Sweep_init ["__class__"] (defScope s_Sweep_init) := NdefX.nscope_by (by decide +kernel)
def c_Sweep_init : ClD := ⟨"Sweep", "__init__", "Sweep.__init__", defArgs s_Sweep_init, defBody s_Sweep_init, defScope s_Sweep_init, [("own", .non), ("ends", .str "held"), ("way", .str "all")]⟩
abbrev s_l_mix : Stmt := topS 36
abbrev P_l_mix : List Str := ["_law_number_here", "_law_k"]
abbrev N_l_mix : List Str := ["_law_number_here", "_law_k"]
theorem sc_l_mix : FnScope N_l_mix P_l_mix (defScope s_l_mix) := ⟨rfl, rfl, rfl, by decide +kernel, rfl, by decide +kernel, by decide +kernel⟩
def d_l_mix : He.DefD := ⟨("_law_mix", none), "_law_mix", "_law_mix", defArgs s_l_mix, defBody s_l_mix, defScope s_l_mix, [], []⟩
abbrev s_l_pool : Stmt := topS 37
abbrev P_l_pool : List Str := ["_law_script"]
abbrev N_l_pool : List Str := ["_law_script", "_law_cell"]
theorem sc_l_pool : FnScope N_l_pool P_l_pool (defScope s_l_pool) := ⟨rfl, rfl, rfl, by decide +kernel, rfl, by decide +kernel, by decide +kernel⟩
def d_l_pool : He.DefD := ⟨("_law_pool", none), "_law_pool", "_law_pool", defArgs s_l_pool, defBody s_l_pool, defScope s_l_pool, [], []⟩
abbrev s_l_draw : Stmt := topS 38
abbrev P_l_draw : List Str := ["_law_pool_here", "_law_limit"]
abbrev N_l_draw : List Str := ["_law_pool_here", "_law_limit", "_law_cells", "_law_cell", "_law_digit"]
theorem sc_l_draw : FnScope N_l_draw P_l_draw (defScope s_l_draw) := ⟨rfl, rfl, rfl, by decide +kernel, rfl, by decide +kernel, by decide +kernel⟩
def d_l_draw : He.DefD := ⟨("_law_draw", none), "_law_draw", "_law_draw", defArgs s_l_draw, defBody s_l_draw, defScope s_l_draw, [], []⟩
abbrev s_l_number : Stmt := topS 39
abbrev P_l_number : List Str := ["_law_pool_here"]
abbrev N_l_number : List Str := ["_law_pool_here", "_law_kind"]
theorem sc_l_number : FnScope N_l_number P_l_number (defScope s_l_number) := ⟨rfl, rfl, rfl, by decide +kernel, rfl, by decide +kernel, by decide +kernel⟩
def d_l_number : He.DefD := ⟨("_law_number", none), "_law_number", "_law_number", defArgs s_l_number, defBody s_l_number, defScope s_l_number, [], []⟩
abbrev s_l_row : Stmt := topS 40
abbrev P_l_row : List Str := ["_law_pool_here", "_law_size"]
abbrev N_l_row : List Str := ["_law_pool_here", "_law_size", "_law_start", "_law_step", "_law_k"]
theorem sc_l_row : FnScope N_l_row P_l_row (defScope s_l_row) := ⟨rfl, rfl, rfl, by decide +kernel, rfl, by decide +kernel, by decide +kernel⟩
def d_l_row : He.DefD := ⟨("_law_row", none), "_law_row", "_law_row", defArgs s_l_row, defBody s_l_row, defScope s_l_row, [], []⟩
abbrev s_l_sweep : Stmt := topS 41
abbrev P_l_sweep : List Str := ["_law_pool_here", "_law_most", "_law_menu"]
abbrev N_l_sweep : List Str := ["_law_pool_here", "_law_most", "_law_menu", "_law_weights", "_law_place", "_law_mine", "_law_rank", "_law_bounds", "_law_bound", "_law_k"]
theorem sc_l_sweep : FnScope N_l_sweep P_l_sweep (defScope s_l_sweep) := ⟨rfl, rfl, rfl, by decide +kernel, rfl, by decide +kernel, by decide +kernel⟩
def d_l_sweep : He.DefD := ⟨("_law_sweep", none), "_law_sweep", "_law_sweep", defArgs s_l_sweep, defBody s_l_sweep, defScope s_l_sweep, [], []⟩
abbrev s_l_value : Stmt := topS 42
abbrev P_l_value : List Str := ["_law_tree", "_law_row_here", "_law_made", "_law_at", "_law_index"]
abbrev N_l_value : List Str := ["_law_tree", "_law_row_here", "_law_made", "_law_at", "_law_index"]
theorem sc_l_value : FnScope N_l_value P_l_value (defScope s_l_value) := ⟨rfl, rfl, rfl, by decide +kernel, rfl, by decide +kernel, by decide +kernel⟩
def d_l_value : He.DefD := ⟨("_law_value", none), "_law_value", "_law_value", defArgs s_l_value, defBody s_l_value, defScope s_l_value, [], []⟩
abbrev s_l_values : Stmt := topS 43
abbrev P_l_values : List Str := ["_law_tree", "_law_row_here", "_law_made", "_law_index"]
abbrev N_l_values : List Str := ["_law_tree", "_law_row_here", "_law_made", "_law_index", "_law_values_here", "_law_k", "_law_at"]
theorem sc_l_values : FnScope N_l_values P_l_values (defScope s_l_values) := ⟨rfl, rfl, rfl, by decide +kernel, rfl, by decide +kernel, by decide +kernel⟩
def d_l_values : He.DefD := ⟨("_law_values", none), "_law_values", "_law_values", defArgs s_l_values, defBody s_l_values, defScope s_l_values, [], []⟩
abbrev s_l_swept : Stmt := topS 44
abbrev P_l_swept : List Str := ["_law_tree", "_law_row_here", "_law_made"]
abbrev N_l_swept : List Str := ["_law_tree", "_law_row_here", "_law_made", "_law_index", "_law_cell", "_law_values_here", "_law_less", "_law_most", "_law_value_here"]
theorem sc_l_swept : FnScope N_l_swept P_l_swept (defScope s_l_swept) := ⟨rfl, rfl, rfl, by decide +kernel, rfl, by decide +kernel, by decide +kernel⟩
def d_l_swept : He.DefD := ⟨("_law_swept", none), "_law_swept", "_law_swept", defArgs s_l_swept, defBody s_l_swept, defScope s_l_swept, [], []⟩
abbrev s_law : Stmt := topS 45
abbrev P_law : List Str := ["_law_script"]
abbrev N_law : List Str := ["_law_script", "_law_pool_here", "_law_menu", "_law_tree", "_law_used", "_law_size", "_law_row_here", "_law_weights", "_law_sweep_here", "_law_handed", "_law_first", "_law_k"]
theorem sc_law : FnScope N_law P_law (defScope s_law) := ⟨rfl, rfl, rfl, by decide +kernel, rfl, by decide +kernel, by decide +kernel⟩
def d_law : He.DefD := ⟨("law", none), "law", "law", defArgs s_law, defBody s_law, defScope s_law, [], []⟩
def fn : List He.DefD := [d_is_integer, d_has_cells, d_checked_row, d_check_measures, d_picked, d_swept, d_played, d_are_weights, d_is_word, d_check_sweep, d_Chain_init, d_Chain_call, d_l_mix, d_l_pool, d_l_draw, d_l_number, d_l_row, d_l_sweep, d_l_value, d_l_values, d_l_swept, d_law]
def fc : List ClD := [c_Sweep_init]
def fa0 : List He.Fa := [.glo "is_integer", .glo "has_cells", .glo "checked_row", .glo "check_measures", .glo "picked", .glo "swept", .glo "played", .glo "are_weights", .glo "is_word", .glo "check_sweep", .glo "_law_mix", .glo "_law_pool", .glo "_law_draw", .glo "_law_number", .glo "_law_row", .glo "_law_sweep", .glo "_law_value", .glo "_law_values", .glo "_law_swept", .glo "law", .glo "Chain", .glo "Sweep"]
def fa1 : List He.Fa := [.free "len", .free "int", .free "abs", .free "min", .free "max", .free "sum", .free "sorted", .free "all", .free "any", .free "isinstance", .free "tuple", .free "list", .free "range", .free "enumerate", .free "zip", .free "reversed", .free "bool", .free "str", .free "dict", .free "super", .int "MOST_CELLS" 200, .int "MOST_SIZE" 8, .int "MOST_DEPTH" 20, .int "MOST_REACH" 6, .int "MOST_WRITTEN" 3, .int "MOST_WEIGHTS" 7, .int "MOST_WEIGHT" 3]
def fa2 : List He.Fa := [.cls "Chain", .cls "Sweep", .noat "Chain" "kind", .noat "Chain" "parts", .noat "Chain" "times", .noat "Chain" "size", .noat "Chain" "depth", .noat "Chain" "reach", .noat "Chain" "written", .noat "Chain" "direction", .noat "Sweep" "weights", .noat "Sweep" "rank", .noat "Sweep" "own", .noat "Sweep" "ends", .noat "Sweep" "way", .noat "Sweep" "kind", .noat "Sweep" "parts", .noat "Sweep" "times", .noat "Sweep" "size", .noat "Sweep" "depth", .noat "Sweep" "reach", .noat "Sweep" "written", .noat "Sweep" "direction", .mkr "Sweep"]
def fa : List He.Fa := fa0 ++ (fa1 ++ fa2)
def exL : List (PySem.W.Frag → Bool) := [fun K => supB K (He.ga K "Sweep") (He.ga K "Sweep") "__init__" (He.ma K (He.ga K "Chain") "__init__"), fun K => calB K (He.ga K "Sweep") (He.ma K (He.ga K "Chain") "__call__")]
def ex (K : PySem.W.Frag) : Bool := exL.all fun f => f K
/-- what the top has left -/
structure Tp (P : Program) (K : PySem.W.Frag) (mg : Str → Option Value) : Prop where
  s : SaysS P fa fn fc ex K
  x : ∃ h : Heap, K.In h ∧ h.Ns mainGlobals mg
section
variable {P : Program} {K : PySem.W.Frag} {mg : Str → Option Value}
theorem Tp.fact (T : Tp P K mg) {f : He.Fa} (h : f ∈ fa) : f.ok K = true := by
  obtain ⟨i, hi, e⟩ := List.mem_iff_getElem.mp h
  exact T.s.d.fact i (f := f) (by rw [List.getElem?_eq_getElem hi, e])
theorem mem0 {f : He.Fa} (i : Nat) (h : fa0[i]? = some f) : f ∈ fa := List.mem_append_left _ (List.mem_of_getElem? h)
theorem mem1 {f : He.Fa} (i : Nat) (h : fa1[i]? = some f) : f ∈ fa := List.mem_append_right _ (List.mem_append_left _ (List.mem_of_getElem? h))
theorem mem2 {f : He.Fa} (i : Nat) (h : fa2[i]? = some f) : f ∈ fa := List.mem_append_right _ (List.mem_append_right _ (List.mem_of_getElem? h))
theorem Tp.glo (T : Tp P K mg) {x : Str} (h : He.Fa.glo x ∈ fa) : mg x = some (.ref (He.ga K x)) := by
  obtain ⟨hp, X, G⟩ := T.x
  exact He.glo_ok X G (T.fact h)
theorem Tp.free (T : Tp P K mg) {x : Str} (h : He.Fa.free x ∈ fa) : mg x = none := by
  obtain ⟨hp, X, G⟩ := T.x
  exact He.free_ok X G (T.fact h)
theorem Tp.int (T : Tp P K mg) {x : Str} {i : Int} (h : He.Fa.int x i ∈ fa) : ∃ t, mg x = some (.int i t) := by
  obtain ⟨hp, X, G⟩ := T.x
  exact He.int_ok X G (T.fact h)
theorem Tp.exs (T : Tp P K mg) {f : PySem.W.Frag → Bool} (i : Nat) (h : exL[i]? = some f) : f K = true := List.all_eq_true.mp T.s.ex f (List.mem_of_getElem? h)
theorem Tp.bt (T : Tp P K mg) : Bt mg := ⟨T.free (mem1 0 rfl), T.free (mem1 1 rfl), T.free (mem1 2 rfl), T.free (mem1 3 rfl), T.free (mem1 4 rfl), T.free (mem1 5 rfl), T.free (mem1 6 rfl), T.free (mem1 7 rfl), T.free (mem1 8 rfl), T.free (mem1 9 rfl), T.free (mem1 10 rfl), T.free (mem1 11 rfl), T.free (mem1 12 rfl), T.free (mem1 13 rfl), T.free (mem1 14 rfl), T.free (mem1 15 rfl), T.free (mem1 16 rfl), T.free (mem1 17 rfl), T.free (mem1 18 rfl)⟩
theorem Tp.nosuper (T : Tp P K mg) : mg "super" = none := T.free (mem1 19 rfl)
theorem Tp.c_MOST_CELLS (T : Tp P K mg) : ∃ t, mg "MOST_CELLS" = some (.int 200 t) := T.int (mem1 20 rfl)
theorem Tp.c_MOST_SIZE (T : Tp P K mg) : ∃ t, mg "MOST_SIZE" = some (.int 8 t) := T.int (mem1 21 rfl)
theorem Tp.c_MOST_DEPTH (T : Tp P K mg) : ∃ t, mg "MOST_DEPTH" = some (.int 20 t) := T.int (mem1 22 rfl)
theorem Tp.c_MOST_REACH (T : Tp P K mg) : ∃ t, mg "MOST_REACH" = some (.int 6 t) := T.int (mem1 23 rfl)
theorem Tp.c_MOST_WRITTEN (T : Tp P K mg) : ∃ t, mg "MOST_WRITTEN" = some (.int 3 t) := T.int (mem1 24 rfl)
theorem Tp.c_MOST_WEIGHTS (T : Tp P K mg) : ∃ t, mg "MOST_WEIGHTS" = some (.int 7 t) := T.int (mem1 25 rfl)
theorem Tp.c_MOST_WEIGHT (T : Tp P K mg) : ∃ t, mg "MOST_WEIGHT" = some (.int 3 t) := T.int (mem1 26 rfl)
theorem Tp.k_Chain (T : Tp P K mg) : Cls K (He.ga K "Chain") := He.cls_ok (T.fact (mem2 0 rfl))
theorem Tp.k_Sweep (T : Tp P K mg) : Cls K (He.ga K "Sweep") := He.cls_ok (T.fact (mem2 1 rfl))
theorem Tp.na_Chain_kind (T : Tp P K mg) : NoAttr K (He.ga K "Chain") "kind" := He.noat_ok (T.fact (mem2 2 rfl))
theorem Tp.na_Chain_parts (T : Tp P K mg) : NoAttr K (He.ga K "Chain") "parts" := He.noat_ok (T.fact (mem2 3 rfl))
theorem Tp.na_Chain_times (T : Tp P K mg) : NoAttr K (He.ga K "Chain") "times" := He.noat_ok (T.fact (mem2 4 rfl))
theorem Tp.na_Chain_size (T : Tp P K mg) : NoAttr K (He.ga K "Chain") "size" := He.noat_ok (T.fact (mem2 5 rfl))
theorem Tp.na_Chain_depth (T : Tp P K mg) : NoAttr K (He.ga K "Chain") "depth" := He.noat_ok (T.fact (mem2 6 rfl))
theorem Tp.na_Chain_reach (T : Tp P K mg) : NoAttr K (He.ga K "Chain") "reach" := He.noat_ok (T.fact (mem2 7 rfl))
theorem Tp.na_Chain_written (T : Tp P K mg) : NoAttr K (He.ga K "Chain") "written" := He.noat_ok (T.fact (mem2 8 rfl))
theorem Tp.na_Chain_direction (T : Tp P K mg) : NoAttr K (He.ga K "Chain") "direction" := He.noat_ok (T.fact (mem2 9 rfl))
theorem Tp.na_Sweep_weights (T : Tp P K mg) : NoAttr K (He.ga K "Sweep") "weights" := He.noat_ok (T.fact (mem2 10 rfl))
theorem Tp.na_Sweep_rank (T : Tp P K mg) : NoAttr K (He.ga K "Sweep") "rank" := He.noat_ok (T.fact (mem2 11 rfl))
theorem Tp.na_Sweep_own (T : Tp P K mg) : NoAttr K (He.ga K "Sweep") "own" := He.noat_ok (T.fact (mem2 12 rfl))
theorem Tp.na_Sweep_ends (T : Tp P K mg) : NoAttr K (He.ga K "Sweep") "ends" := He.noat_ok (T.fact (mem2 13 rfl))
theorem Tp.na_Sweep_way (T : Tp P K mg) : NoAttr K (He.ga K "Sweep") "way" := He.noat_ok (T.fact (mem2 14 rfl))
theorem Tp.na_Sweep_kind (T : Tp P K mg) : NoAttr K (He.ga K "Sweep") "kind" := He.noat_ok (T.fact (mem2 15 rfl))
theorem Tp.na_Sweep_parts (T : Tp P K mg) : NoAttr K (He.ga K "Sweep") "parts" := He.noat_ok (T.fact (mem2 16 rfl))
theorem Tp.na_Sweep_times (T : Tp P K mg) : NoAttr K (He.ga K "Sweep") "times" := He.noat_ok (T.fact (mem2 17 rfl))
theorem Tp.na_Sweep_size (T : Tp P K mg) : NoAttr K (He.ga K "Sweep") "size" := He.noat_ok (T.fact (mem2 18 rfl))
theorem Tp.na_Sweep_depth (T : Tp P K mg) : NoAttr K (He.ga K "Sweep") "depth" := He.noat_ok (T.fact (mem2 19 rfl))
theorem Tp.na_Sweep_reach (T : Tp P K mg) : NoAttr K (He.ga K "Sweep") "reach" := He.noat_ok (T.fact (mem2 20 rfl))
theorem Tp.na_Sweep_written (T : Tp P K mg) : NoAttr K (He.ga K "Sweep") "written" := He.noat_ok (T.fact (mem2 21 rfl))
theorem Tp.na_Sweep_direction (T : Tp P K mg) : NoAttr K (He.ga K "Sweep") "direction" := He.noat_ok (T.fact (mem2 22 rfl))
theorem Tp.mk_Sweep (T : Tp P K mg) : Mk K (He.ga K "Sweep") (He.ma K (He.ga K "Sweep") "__init__") := He.mkr_ok (T.fact (mem2 23 rfl))
theorem Tp.sup_Sweep_init (T : Tp P K mg) : SupM K (He.ga K "Sweep") (He.ga K "Sweep") "__init__" (He.ma K (He.ga K "Chain") "__init__") := supB_ok (T.exs 0 rfl)
theorem Tp.cal_Sweep (T : Tp P K mg) : StX.CallO K (He.ga K "Sweep") (He.ma K (He.ga K "Chain") "__call__") := calB_ok (T.exs 1 rfl)
theorem Tp.at_is_integer (T : Tp P K mg) : ∃ fd, FunD K "is_integer" "is_integer" (defArgs s_is_integer) (defBody s_is_integer) (defScope s_is_integer) [] [] (He.ga K "is_integer") fd := T.s.d.def_ 0 (d := d_is_integer) rfl
theorem Tp.g_is_integer (T : Tp P K mg) : mg "is_integer" = some (.ref (He.ga K "is_integer")) := T.glo (mem0 0 rfl)
theorem b_is_integer : ∀ (kV doc pm : Value) (an : Option Addr) (cdv ct : Value) (us : List Value), us.length = P_is_integer.length → bindArgs (PySem.W.fnOf "is_integer" "is_integer" (defArgs s_is_integer) (defBody s_is_integer) (defScope s_is_integer) .none kV doc pm an cdv ct) ⟨us, []⟩ = pure (P_is_integer.zip us) := fun _ _ _ _ _ _ us hl => match us, hl with | [_], _ => rfl
theorem Tp.at_has_cells (T : Tp P K mg) : ∃ fd, FunD K "has_cells" "has_cells" (defArgs s_has_cells) (defBody s_has_cells) (defScope s_has_cells) [] [] (He.ga K "has_cells") fd := T.s.d.def_ 1 (d := d_has_cells) rfl
theorem Tp.g_has_cells (T : Tp P K mg) : mg "has_cells" = some (.ref (He.ga K "has_cells")) := T.glo (mem0 1 rfl)
theorem b_has_cells : ∀ (kV doc pm : Value) (an : Option Addr) (cdv ct : Value) (us : List Value), us.length = P_has_cells.length → bindArgs (PySem.W.fnOf "has_cells" "has_cells" (defArgs s_has_cells) (defBody s_has_cells) (defScope s_has_cells) .none kV doc pm an cdv ct) ⟨us, []⟩ = pure (P_has_cells.zip us) := fun _ _ _ _ _ _ us hl => match us, hl with | [_], _ => rfl
theorem Tp.at_checked_row (T : Tp P K mg) : ∃ fd, FunD K "checked_row" "checked_row" (defArgs s_checked_row) (defBody s_checked_row) (defScope s_checked_row) [] [] (He.ga K "checked_row") fd := T.s.d.def_ 2 (d := d_checked_row) rfl
theorem Tp.g_checked_row (T : Tp P K mg) : mg "checked_row" = some (.ref (He.ga K "checked_row")) := T.glo (mem0 2 rfl)
theorem b_checked_row : ∀ (kV doc pm : Value) (an : Option Addr) (cdv ct : Value) (us : List Value), us.length = P_checked_row.length → bindArgs (PySem.W.fnOf "checked_row" "checked_row" (defArgs s_checked_row) (defBody s_checked_row) (defScope s_checked_row) .none kV doc pm an cdv ct) ⟨us, []⟩ = pure (P_checked_row.zip us) := fun _ _ _ _ _ _ us hl => match us, hl with | [_], _ => rfl
theorem Tp.at_check_measures (T : Tp P K mg) : ∃ fd, FunD K "check_measures" "check_measures" (defArgs s_check_measures) (defBody s_check_measures) (defScope s_check_measures) [] [] (He.ga K "check_measures") fd := T.s.d.def_ 3 (d := d_check_measures) rfl
theorem Tp.g_check_measures (T : Tp P K mg) : mg "check_measures" = some (.ref (He.ga K "check_measures")) := T.glo (mem0 3 rfl)
theorem b_check_measures : ∀ (kV doc pm : Value) (an : Option Addr) (cdv ct : Value) (us : List Value), us.length = P_check_measures.length → bindArgs (PySem.W.fnOf "check_measures" "check_measures" (defArgs s_check_measures) (defBody s_check_measures) (defScope s_check_measures) .none kV doc pm an cdv ct) ⟨us, []⟩ = pure (P_check_measures.zip us) := fun _ _ _ _ _ _ us hl => match us, hl with | [_, _, _, _, _], _ => rfl
theorem Tp.at_picked (T : Tp P K mg) : ∃ fd, FunD K "picked" "picked" (defArgs s_picked) (defBody s_picked) (defScope s_picked) [] [] (He.ga K "picked") fd := T.s.d.def_ 4 (d := d_picked) rfl
theorem Tp.g_picked (T : Tp P K mg) : mg "picked" = some (.ref (He.ga K "picked")) := T.glo (mem0 4 rfl)
theorem b_picked : ∀ (kV doc pm : Value) (an : Option Addr) (cdv ct : Value) (us : List Value), us.length = P_picked.length → bindArgs (PySem.W.fnOf "picked" "picked" (defArgs s_picked) (defBody s_picked) (defScope s_picked) .none kV doc pm an cdv ct) ⟨us, []⟩ = pure (P_picked.zip us) := fun _ _ _ _ _ _ us hl => match us, hl with | [_, _, _, _], _ => rfl
theorem Tp.at_swept (T : Tp P K mg) : ∃ fd, FunD K "swept" "swept" (defArgs s_swept) (defBody s_swept) (defScope s_swept) [] [] (He.ga K "swept") fd := T.s.d.def_ 5 (d := d_swept) rfl
theorem Tp.g_swept (T : Tp P K mg) : mg "swept" = some (.ref (He.ga K "swept")) := T.glo (mem0 5 rfl)
theorem b_swept : ∀ (kV doc pm : Value) (an : Option Addr) (cdv ct : Value) (us : List Value), us.length = P_swept.length → bindArgs (PySem.W.fnOf "swept" "swept" (defArgs s_swept) (defBody s_swept) (defScope s_swept) .none kV doc pm an cdv ct) ⟨us, []⟩ = pure (P_swept.zip us) := fun _ _ _ _ _ _ us hl => match us, hl with | [_, _], _ => rfl
theorem Tp.at_played (T : Tp P K mg) : ∃ fd, FunD K "played" "played" (defArgs s_played) (defBody s_played) (defScope s_played) [] [] (He.ga K "played") fd := T.s.d.def_ 6 (d := d_played) rfl
theorem Tp.g_played (T : Tp P K mg) : mg "played" = some (.ref (He.ga K "played")) := T.glo (mem0 6 rfl)
theorem b_played : ∀ (kV doc pm : Value) (an : Option Addr) (cdv ct : Value) (us : List Value), us.length = P_played.length → bindArgs (PySem.W.fnOf "played" "played" (defArgs s_played) (defBody s_played) (defScope s_played) .none kV doc pm an cdv ct) ⟨us, []⟩ = pure (P_played.zip us) := fun _ _ _ _ _ _ us hl => match us, hl with | [_, _], _ => rfl
theorem Tp.at_are_weights (T : Tp P K mg) : ∃ fd, FunD K "are_weights" "are_weights" (defArgs s_are_weights) (defBody s_are_weights) (defScope s_are_weights) [] [] (He.ga K "are_weights") fd := T.s.d.def_ 7 (d := d_are_weights) rfl
theorem Tp.g_are_weights (T : Tp P K mg) : mg "are_weights" = some (.ref (He.ga K "are_weights")) := T.glo (mem0 7 rfl)
theorem b_are_weights : ∀ (kV doc pm : Value) (an : Option Addr) (cdv ct : Value) (us : List Value), us.length = P_are_weights.length → bindArgs (PySem.W.fnOf "are_weights" "are_weights" (defArgs s_are_weights) (defBody s_are_weights) (defScope s_are_weights) .none kV doc pm an cdv ct) ⟨us, []⟩ = pure (P_are_weights.zip us) := fun _ _ _ _ _ _ us hl => match us, hl with | [_], _ => rfl
theorem Tp.at_is_word (T : Tp P K mg) : ∃ fd, FunD K "is_word" "is_word" (defArgs s_is_word) (defBody s_is_word) (defScope s_is_word) [] [] (He.ga K "is_word") fd := T.s.d.def_ 8 (d := d_is_word) rfl
theorem Tp.g_is_word (T : Tp P K mg) : mg "is_word" = some (.ref (He.ga K "is_word")) := T.glo (mem0 8 rfl)
theorem b_is_word : ∀ (kV doc pm : Value) (an : Option Addr) (cdv ct : Value) (us : List Value), us.length = P_is_word.length → bindArgs (PySem.W.fnOf "is_word" "is_word" (defArgs s_is_word) (defBody s_is_word) (defScope s_is_word) .none kV doc pm an cdv ct) ⟨us, []⟩ = pure (P_is_word.zip us) := fun _ _ _ _ _ _ us hl => match us, hl with | [_, _], _ => rfl
theorem Tp.at_check_sweep (T : Tp P K mg) : ∃ fd, FunD K "check_sweep" "check_sweep" (defArgs s_check_sweep) (defBody s_check_sweep) (defScope s_check_sweep) [] [] (He.ga K "check_sweep") fd := T.s.d.def_ 9 (d := d_check_sweep) rfl
theorem Tp.g_check_sweep (T : Tp P K mg) : mg "check_sweep" = some (.ref (He.ga K "check_sweep")) := T.glo (mem0 9 rfl)
theorem b_check_sweep : ∀ (kV doc pm : Value) (an : Option Addr) (cdv ct : Value) (us : List Value), us.length = P_check_sweep.length → bindArgs (PySem.W.fnOf "check_sweep" "check_sweep" (defArgs s_check_sweep) (defBody s_check_sweep) (defScope s_check_sweep) .none kV doc pm an cdv ct) ⟨us, []⟩ = pure (P_check_sweep.zip us) := fun _ _ _ _ _ _ us hl => match us, hl with | [_, _, _, _, _], _ => rfl
theorem Tp.at_Chain_init (T : Tp P K mg) : ∃ fd, FunD K "__init__" "Chain.__init__" (defArgs s_Chain_init) (defBody s_Chain_init) (defScope s_Chain_init) [] [] (He.ma K (He.ga K "Chain") "__init__") fd := T.s.d.def_ 10 (d := d_Chain_init) rfl
theorem b_Chain_init : ∀ (kV doc pm : Value) (an : Option Addr) (cdv ct : Value) (us : List Value), us.length = P_Chain_init.length → bindArgs (PySem.W.fnOf "__init__" "Chain.__init__" (defArgs s_Chain_init) (defBody s_Chain_init) (defScope s_Chain_init) .none kV doc pm an cdv ct) ⟨us, []⟩ = pure (P_Chain_init.zip us) := fun _ _ _ _ _ _ us hl => match us, hl with | [_, _, _, _, _, _, _, _, _], _ => rfl
theorem Tp.at_Chain_call (T : Tp P K mg) : ∃ fd, FunD K "__call__" "Chain.__call__" (defArgs s_Chain_call) (defBody s_Chain_call) (defScope s_Chain_call) [] [] (He.ma K (He.ga K "Chain") "__call__") fd := T.s.d.def_ 11 (d := d_Chain_call) rfl
theorem b_Chain_call : ∀ (kV doc pm : Value) (an : Option Addr) (cdv ct : Value) (us : List Value), us.length = P_Chain_call.length → bindArgs (PySem.W.fnOf "__call__" "Chain.__call__" (defArgs s_Chain_call) (defBody s_Chain_call) (defScope s_Chain_call) .none kV doc pm an cdv ct) ⟨us, []⟩ = pure (P_Chain_call.zip us) := fun _ _ _ _ _ _ us hl => match us, hl with | [_, _], _ => rfl
theorem Tp.at_l_mix (T : Tp P K mg) : ∃ fd, FunD K "_law_mix" "_law_mix" (defArgs s_l_mix) (defBody s_l_mix) (defScope s_l_mix) [] [] (He.ga K "_law_mix") fd := T.s.d.def_ 12 (d := d_l_mix) rfl
theorem Tp.g_l_mix (T : Tp P K mg) : mg "_law_mix" = some (.ref (He.ga K "_law_mix")) := T.glo (mem0 10 rfl)
theorem b_l_mix : ∀ (kV doc pm : Value) (an : Option Addr) (cdv ct : Value) (us : List Value), us.length = P_l_mix.length → bindArgs (PySem.W.fnOf "_law_mix" "_law_mix" (defArgs s_l_mix) (defBody s_l_mix) (defScope s_l_mix) .none kV doc pm an cdv ct) ⟨us, []⟩ = pure (P_l_mix.zip us) := fun _ _ _ _ _ _ us hl => match us, hl with | [_, _], _ => rfl
theorem Tp.at_l_pool (T : Tp P K mg) : ∃ fd, FunD K "_law_pool" "_law_pool" (defArgs s_l_pool) (defBody s_l_pool) (defScope s_l_pool) [] [] (He.ga K "_law_pool") fd := T.s.d.def_ 13 (d := d_l_pool) rfl
theorem Tp.g_l_pool (T : Tp P K mg) : mg "_law_pool" = some (.ref (He.ga K "_law_pool")) := T.glo (mem0 11 rfl)
theorem b_l_pool : ∀ (kV doc pm : Value) (an : Option Addr) (cdv ct : Value) (us : List Value), us.length = P_l_pool.length → bindArgs (PySem.W.fnOf "_law_pool" "_law_pool" (defArgs s_l_pool) (defBody s_l_pool) (defScope s_l_pool) .none kV doc pm an cdv ct) ⟨us, []⟩ = pure (P_l_pool.zip us) := fun _ _ _ _ _ _ us hl => match us, hl with | [_], _ => rfl
theorem Tp.at_l_draw (T : Tp P K mg) : ∃ fd, FunD K "_law_draw" "_law_draw" (defArgs s_l_draw) (defBody s_l_draw) (defScope s_l_draw) [] [] (He.ga K "_law_draw") fd := T.s.d.def_ 14 (d := d_l_draw) rfl
theorem Tp.g_l_draw (T : Tp P K mg) : mg "_law_draw" = some (.ref (He.ga K "_law_draw")) := T.glo (mem0 12 rfl)
theorem b_l_draw : ∀ (kV doc pm : Value) (an : Option Addr) (cdv ct : Value) (us : List Value), us.length = P_l_draw.length → bindArgs (PySem.W.fnOf "_law_draw" "_law_draw" (defArgs s_l_draw) (defBody s_l_draw) (defScope s_l_draw) .none kV doc pm an cdv ct) ⟨us, []⟩ = pure (P_l_draw.zip us) := fun _ _ _ _ _ _ us hl => match us, hl with | [_, _], _ => rfl
theorem Tp.at_l_number (T : Tp P K mg) : ∃ fd, FunD K "_law_number" "_law_number" (defArgs s_l_number) (defBody s_l_number) (defScope s_l_number) [] [] (He.ga K "_law_number") fd := T.s.d.def_ 15 (d := d_l_number) rfl
theorem Tp.g_l_number (T : Tp P K mg) : mg "_law_number" = some (.ref (He.ga K "_law_number")) := T.glo (mem0 13 rfl)
theorem b_l_number : ∀ (kV doc pm : Value) (an : Option Addr) (cdv ct : Value) (us : List Value), us.length = P_l_number.length → bindArgs (PySem.W.fnOf "_law_number" "_law_number" (defArgs s_l_number) (defBody s_l_number) (defScope s_l_number) .none kV doc pm an cdv ct) ⟨us, []⟩ = pure (P_l_number.zip us) := fun _ _ _ _ _ _ us hl => match us, hl with | [_], _ => rfl
theorem Tp.at_l_row (T : Tp P K mg) : ∃ fd, FunD K "_law_row" "_law_row" (defArgs s_l_row) (defBody s_l_row) (defScope s_l_row) [] [] (He.ga K "_law_row") fd := T.s.d.def_ 16 (d := d_l_row) rfl
theorem Tp.g_l_row (T : Tp P K mg) : mg "_law_row" = some (.ref (He.ga K "_law_row")) := T.glo (mem0 14 rfl)
theorem b_l_row : ∀ (kV doc pm : Value) (an : Option Addr) (cdv ct : Value) (us : List Value), us.length = P_l_row.length → bindArgs (PySem.W.fnOf "_law_row" "_law_row" (defArgs s_l_row) (defBody s_l_row) (defScope s_l_row) .none kV doc pm an cdv ct) ⟨us, []⟩ = pure (P_l_row.zip us) := fun _ _ _ _ _ _ us hl => match us, hl with | [_, _], _ => rfl
theorem Tp.at_l_sweep (T : Tp P K mg) : ∃ fd, FunD K "_law_sweep" "_law_sweep" (defArgs s_l_sweep) (defBody s_l_sweep) (defScope s_l_sweep) [] [] (He.ga K "_law_sweep") fd := T.s.d.def_ 17 (d := d_l_sweep) rfl
theorem Tp.g_l_sweep (T : Tp P K mg) : mg "_law_sweep" = some (.ref (He.ga K "_law_sweep")) := T.glo (mem0 15 rfl)
theorem b_l_sweep : ∀ (kV doc pm : Value) (an : Option Addr) (cdv ct : Value) (us : List Value), us.length = P_l_sweep.length → bindArgs (PySem.W.fnOf "_law_sweep" "_law_sweep" (defArgs s_l_sweep) (defBody s_l_sweep) (defScope s_l_sweep) .none kV doc pm an cdv ct) ⟨us, []⟩ = pure (P_l_sweep.zip us) := fun _ _ _ _ _ _ us hl => match us, hl with | [_, _, _], _ => rfl
theorem Tp.at_l_value (T : Tp P K mg) : ∃ fd, FunD K "_law_value" "_law_value" (defArgs s_l_value) (defBody s_l_value) (defScope s_l_value) [] [] (He.ga K "_law_value") fd := T.s.d.def_ 18 (d := d_l_value) rfl
theorem Tp.g_l_value (T : Tp P K mg) : mg "_law_value" = some (.ref (He.ga K "_law_value")) := T.glo (mem0 16 rfl)
theorem b_l_value : ∀ (kV doc pm : Value) (an : Option Addr) (cdv ct : Value) (us : List Value), us.length = P_l_value.length → bindArgs (PySem.W.fnOf "_law_value" "_law_value" (defArgs s_l_value) (defBody s_l_value) (defScope s_l_value) .none kV doc pm an cdv ct) ⟨us, []⟩ = pure (P_l_value.zip us) := fun _ _ _ _ _ _ us hl => match us, hl with | [_, _, _, _, _], _ => rfl
theorem Tp.at_l_values (T : Tp P K mg) : ∃ fd, FunD K "_law_values" "_law_values" (defArgs s_l_values) (defBody s_l_values) (defScope s_l_values) [] [] (He.ga K "_law_values") fd := T.s.d.def_ 19 (d := d_l_values) rfl
theorem Tp.g_l_values (T : Tp P K mg) : mg "_law_values" = some (.ref (He.ga K "_law_values")) := T.glo (mem0 17 rfl)
theorem b_l_values : ∀ (kV doc pm : Value) (an : Option Addr) (cdv ct : Value) (us : List Value), us.length = P_l_values.length → bindArgs (PySem.W.fnOf "_law_values" "_law_values" (defArgs s_l_values) (defBody s_l_values) (defScope s_l_values) .none kV doc pm an cdv ct) ⟨us, []⟩ = pure (P_l_values.zip us) := fun _ _ _ _ _ _ us hl => match us, hl with | [_, _, _, _], _ => rfl
theorem Tp.at_l_swept (T : Tp P K mg) : ∃ fd, FunD K "_law_swept" "_law_swept" (defArgs s_l_swept) (defBody s_l_swept) (defScope s_l_swept) [] [] (He.ga K "_law_swept") fd := T.s.d.def_ 20 (d := d_l_swept) rfl
theorem Tp.g_l_swept (T : Tp P K mg) : mg "_law_swept" = some (.ref (He.ga K "_law_swept")) := T.glo (mem0 18 rfl)
theorem b_l_swept : ∀ (kV doc pm : Value) (an : Option Addr) (cdv ct : Value) (us : List Value), us.length = P_l_swept.length → bindArgs (PySem.W.fnOf "_law_swept" "_law_swept" (defArgs s_l_swept) (defBody s_l_swept) (defScope s_l_swept) .none kV doc pm an cdv ct) ⟨us, []⟩ = pure (P_l_swept.zip us) := fun _ _ _ _ _ _ us hl => match us, hl with | [_, _, _], _ => rfl
theorem Tp.at_law (T : Tp P K mg) : ∃ fd, FunD K "law" "law" (defArgs s_law) (defBody s_law) (defScope s_law) [] [] (He.ga K "law") fd := T.s.d.def_ 21 (d := d_law) rfl
theorem Tp.g_law (T : Tp P K mg) : mg "law" = some (.ref (He.ga K "law")) := T.glo (mem0 19 rfl)
theorem b_law : ∀ (kV doc pm : Value) (an : Option Addr) (cdv ct : Value) (us : List Value), us.length = P_law.length → bindArgs (PySem.W.fnOf "law" "law" (defArgs s_law) (defBody s_law) (defScope s_law) .none kV doc pm an cdv ct) ⟨us, []⟩ = pure (P_law.zip us) := fun _ _ _ _ _ _ us hl => match us, hl with | [_], _ => rfl
theorem Tp.at_Sweep_init (T : Tp P K mg) : ∃ fd cc c, FunC P K "__init__" "Sweep.__init__" (defArgs s_Sweep_init) (defBody s_Sweep_init) (defScope s_Sweep_init) [("own", .non), ("ends", .str "held"), ("way", .str "all")] (He.ga K "Sweep") (He.ma K (He.ga K "Sweep") "__init__") fd cc c := T.s.c c_Sweep_init (List.mem_of_getElem? (i := 0) rfl)
theorem Tp.g_Chain (T : Tp P K mg) : mg "Chain" = some (.ref (He.ga K "Chain")) := T.glo (mem0 20 rfl)
theorem Tp.g_Sweep (T : Tp P K mg) : mg "Sweep" = some (.ref (He.ga K "Sweep")) := T.glo (mem0 21 rfl)
end
end LW

set_option Elab.async false
set_option linter.all false
set_option maxRecDepth 100000
set_option maxHeartbeats 4000000

namespace LW
open PySem PySem.Spec PyProof.Rows L2 G
/-! ### the drawing functions -/
def mix1 (n k : Int) : Int := (n + 7919 * k + 1) * 48271 % 2147483647
def mix2 (n : Int) : Int := n * (n / 1009 + 69621) % 2147483647
def mix3 (n k : Int) : Int := n * (n / 2003 + 40692 + k) % 2147483399
def mix (n k : Int) : Int := mix3 (mix2 (mix1 n k)) k
theorem mix1_b (n k : Int) : 0 ≤ mix1 n k ∧ mix1 n k < 2147483647 := ⟨Int.emod_nonneg _ (by decide), Int.emod_lt_of_pos _ (by decide)⟩
theorem mix2_b (n : Int) : 0 ≤ mix2 n ∧ mix2 n < 2147483647 := ⟨Int.emod_nonneg _ (by decide), Int.emod_lt_of_pos _ (by decide)⟩
structure Pl where
  cells : List Int
  i : Int
  n : Int
  c : Int
def Pl.enc (s : Pl) : List Dt := [.lst (s.cells.map Dt.int), .int s.i, .int s.n, .int s.c]
def iabs (i : Int) : Int := if i < 0 then -i else i
def Pl.draw (s : Pl) (l : Int) : Pl × Int :=
  if s.n = 0 ∧ s.i < (s.cells.length : Int) then
    if iabs (s.cells.getD s.i.toNat 0) < 10 ^ 18 then (⟨s.cells, s.i + 1, s.n, s.c + 1⟩, mix (s.cells.getD s.i.toNat 0) (s.c + 1) % l)
    else (⟨s.cells, s.i + 1, (2 * iabs (s.cells.getD s.i.toNat 0) + (if s.cells.getD s.i.toNat 0 < 0 then 1 else 0)) / l, s.c + 1⟩, (2 * iabs (s.cells.getD s.i.toNat 0) + (if s.cells.getD s.i.toNat 0 < 0 then 1 else 0)) % l)
  else if 0 < s.n then (⟨s.cells, s.i, s.n / l, s.c + 1⟩, s.n % l)
  else if s.cells.length = 0 then (⟨s.cells, s.i, s.n, s.c + 1⟩, mix 4711 (s.c + 1) % l)
  else (⟨s.cells, s.i, s.n, s.c + 1⟩, mix (s.cells.getD ((s.c + 1) % (s.cells.length : Int)).toNat 0) (s.c + 1) % l)
structure Pl.Ok (s : Pl) : Prop where
  i : 0 ≤ s.i
  n : 0 ≤ s.n
  c : 0 ≤ s.c
  l : s.cells.length ≤ 63
theorem iabs_nn (i : Int) : 0 ≤ iabs i := by
  unfold iabs
  split <;> omega
theorem Pl.Ok.next {s : Pl} (h : s.Ok) {l : Int} (hl : 0 < l) : (s.draw l).1.Ok := by
  have h1 := h.i
  have h2 := h.n
  have h3 := h.c
  have h4 := h.l
  unfold Pl.draw
  split
  · split
    · exact ⟨by show 0 ≤ s.i + 1; omega, h2, by show 0 ≤ s.c + 1; omega, h4⟩
    · refine ⟨by show 0 ≤ s.i + 1; omega, Int.ediv_nonneg ?_ (by omega), by show 0 ≤ s.c + 1; omega, h4⟩
      have := iabs_nn (s.cells.getD s.i.toNat 0)
      split <;> omega
  · split
    · exact ⟨h1, Int.ediv_nonneg h2 (by omega), by show 0 ≤ s.c + 1; omega, h4⟩
    · split
      · exact ⟨h1, h2, by show 0 ≤ s.c + 1; omega, h4⟩
      · exact ⟨h1, h2, by show 0 ≤ s.c + 1; omega, h4⟩
theorem Pl.draw_b (s : Pl) {l : Int} (hl : 0 < l) : 0 ≤ (s.draw l).2 ∧ (s.draw l).2 < l := by
  unfold Pl.draw
  split
  · split
    · exact ⟨Int.emod_nonneg _ (by omega), Int.emod_lt_of_pos _ hl⟩
    · exact ⟨Int.emod_nonneg _ (by omega), Int.emod_lt_of_pos _ hl⟩
  · split
    · exact ⟨Int.emod_nonneg _ (by omega), Int.emod_lt_of_pos _ hl⟩
    · split
      · exact ⟨Int.emod_nonneg _ (by omega), Int.emod_lt_of_pos _ hl⟩
      · exact ⟨Int.emod_nonneg _ (by omega), Int.emod_lt_of_pos _ hl⟩
def MixR (ds : List Dt) (d : Dt) : Prop := ∃ n k, ds = [.int n, .int k] ∧ d = .int (mix n k)
def DrawR (ps ds ps' : List Dt) (d : Dt) : Prop := ∃ (s : Pl) (l : Int), s.Ok ∧ 0 < l ∧ l < 2 ^ 250 ∧ ps = s.enc ∧ ds = [.int l] ∧ ps' = (s.draw l).1.enc ∧ d = .int (s.draw l).2
def PoolR (ds es : List Dt) : Prop := ∃ ns : List Int, ds = [.scr ns] ∧ es = (Pl.mk (ns.take 63) 0 0 0).enc
section
variable {P : Program} {w : World} {K : PySem.W.Frag} {mg : Str → Option Value} {base : Heap}
theorem F_mix (T : Tp P K mg) : Fn P w K mg base 1 "_law_mix" MixR := by
  obtain ⟨fd, F⟩ := T.at_l_mix
  refine fn_pure (k := 0) F T.g_l_mix sc_l_mix b_l_mix (fun ds d ⟨n, k, e, _⟩ => by rw [e]; rfl) fun q ds d hr ⟨n, k, e1, e2⟩ => ?_
  subst e1 e2
  have nd := sc_l_mix.nd
  refine blk_cons (st_set 0 nd (d := .int (mix1 n k)) (ev_mod (ev_intI T.bt (ev_mul (ev_add (ev_add (ev_var 0) (ev_mul ev_int (ev_var 1) (by first | exact .inl ⟨by omega, by omega⟩ | exact .inr ⟨by omega, by omega⟩))) ev_int) ev_int (by first | exact .inl ⟨by omega, by omega⟩ | exact .inr ⟨by omega, by omega⟩))) ev_int (by omega)) ?_)
  have b1 := mix1_b n k
  refine blk_cons (st_set 0 nd (d := .int (mix2 (mix1 n k))) (ev_mod (ev_intI T.bt (ev_mul (ev_var 0) (ev_add (ev_fdiv (ev_var 0) ev_int ⟨by omega, by omega⟩) ev_int) (by first | exact .inl ⟨by omega, by omega⟩ | exact .inr ⟨by omega, by omega⟩))) ev_int (by omega)) ?_)
  have b2 := mix2_b (mix1 n k)
  exact blk_one (st_ret (ev_mod (ev_intI T.bt (ev_mul (ev_var 0) (ev_add (ev_add (ev_fdiv (ev_var 0) ev_int ⟨by omega, by omega⟩) ev_int) (ev_var 1)) (by first | exact .inl ⟨by omega, by omega⟩ | exact .inr ⟨by omega, by omega⟩))) ev_int (by omega)) rfl)
theorem cut63 (ns : List Int) : cutDt (ns.map Dt.int) none (some 63) = (ns.take 63).map Dt.int := by
  unfold cutDt
  show (List.drop 0 (ns.map Dt.int)).take (HT.sIx (ns.map Dt.int).length (ns.map Dt.int).length (some 63) - 0) = _
  rw [List.drop_zero, Nat.sub_zero]
  have e : HT.sIx (ns.map Dt.int).length (ns.map Dt.int).length (some 63) = min 63 ns.length := by
    have := HT.sIx_nat (ns.map Dt.int).length (ns.map Dt.int).length 63
    rw [List.length_map] at this ⊢
    exact this
  rw [e, ← List.map_take]
  congr 1
  by_cases q : 63 ≤ ns.length
  · rw [Nat.min_eq_left q]
  · rw [Nat.min_eq_right (by omega), List.take_of_length_le (Nat.le_refl _), List.take_of_length_le (by omega)]
theorem F_pool (T : Tp P K mg) : FnN P w K mg base 1 "_law_pool" PoolR := by
  obtain ⟨fd, F⟩ := T.at_l_pool
  refine fn_new (k := 0) F T.g_l_pool sc_l_pool b_l_pool (fun ds es ⟨ns, e, _⟩ => by rw [e]; rfl) fun q ds es hr ⟨ns, e1, e2⟩ => ?_
  subst e1 e2
  have nd := sc_l_pool.nd
  have hl : (ns.take 63).length < 100000 := by
    rw [List.length_take]
    omega
  exact blk_one (st_rn (en_lst (ea_cons (ev_new (en_lcI (i := 1) (fun i => .int i) rfl nd (ei_is (ei_lst (ev_new (en_sl0S (ev_var 0) ev_int))) (cut63 ns)) hl rfl (fun d _ q => ev_intI T.bt (ev_var 1)))) (ea_cons ev_int (ea_cons ev_int (ea_cons ev_int ea_nil)))) (Nat.le_of_ble_eq_true rfl)) rfl)
theorem wide_l {l : Int} (h : 0 < l) (h2 : l < 2 ^ 250) {i : Int} : CDivW i l := wide_div (b := 250) h (by
  have e : (l.natAbs : Int) < ((2 ^ 250 : Nat) : Int) := by
    rw [Int.natCast_pow]
    show (l.natAbs : Int) < 2 ^ 250
    omega
  exact Int.ofNat_lt.mp e) (by decide) (by decide)
theorem F_draw (T : Tp P K mg) : FnP P w K mg base 2 "_law_draw" DrawR := by
  obtain ⟨fd, F⟩ := T.at_l_draw
  refine fn_lent (k := 1) F T.g_l_draw sc_l_draw b_l_draw (fun qs ds qs' d ⟨_, _, _, _, _, _, e, _⟩ => by rw [e]; rfl) fun q qs ds qs' d hr ⟨s, l, ok, hl0, hl1, e1, e2, e3, e4⟩ => ?_
  subst e1 e2 e3 e4
  obtain ⟨cs, i, n, c⟩ := s
  have o1 : 0 ≤ i := ok.i
  have o2 : 0 ≤ n := ok.n
  have o3 : 0 ≤ c := ok.c
  have o4 : cs.length ≤ 63 := ok.l
  have nd := sc_l_draw.nd
  have dr := Pl.draw_b ⟨cs, i, n, c⟩ hl0
  refine blk_cons (st_item 0 rfl (ev_add (ev_ixO 0 rfl ev_int rfl) ev_int) ev_int (m := 3) rfl ?_)
  refine blk_cons (st_set 2 nd (ev_ixO 0 rfl ev_int rfl) ?_)
  refine blk_mid (fun Γ' => ∃ i' n' x y, Γ' = [some (.lnt [.lst (cs.map Dt.int), .int i', .int n', .int (c + 1)]), some (.dat (.int l)), some (.dat (.lst (cs.map Dt.int))), x, y] ∧ 0 ≤ n' ∧ ((i' = i ∧ n' = n ∧ ¬ (n = 0 ∧ i < (cs.length : Int))) ∨
    (n = 0 ∧ i < (cs.length : Int) ∧ ¬ iabs (cs.getD i.toNat 0) < 10 ^ 18 ∧ i' = i + 1 ∧ n' = 2 * iabs (cs.getD i.toNat 0) + (if cs.getD i.toNat 0 < 0 then 1 else 0)))) ?_ ?_
  · refine st_if (k := decide (n = 0) && decide (i < (cs.length : Int))) (et_w (ew_and (et_eqI (ev_ixO 0 rfl ev_int rfl) ev_int) (fun hc => (ew_and1 (et_lt (ev_ixO 0 rfl ev_int rfl) (ev_lenLI T.bt (ev_var 2))))))) (fun hk => ?_) (fun hk => ?_)
    · have hk1 := of_decide_eq_true (Bool.and_eq_true_iff.mp hk).1
      have hk2 := of_decide_eq_true (Bool.and_eq_true_iff.mp hk).2
      refine blk_cons (st_set 3 nd (ev_intI T.bt (ev_ixL (ev_var 2) (ev_ixO 0 rfl ev_int rfl) (at_int o1 hk2))) ?_)
      refine blk_cons (st_item 0 rfl (ev_add (ev_ixO 0 rfl ev_int rfl) ev_int) ev_int (m := 1) rfl ?_)
      refine blk_cons (st_if (k := decide (iabs (cs.getD i.toNat 0) < 10 ^ 18)) (et_lt (ev_abs T.bt (ev_var 3)) (ev_pow ev_int ev_int ⟨by decide, by decide, by decide⟩)) (fun hk => ?_) (fun hk => ?_))
      · have hk3 := of_decide_eq_true hk
        refine blk_one (st_ret (ev_mod (ev_intI T.bt (ev_call (F_mix T) hr (by decide) (ea_cons (ev_var 3) (ea_cons (ev_ixO 0 rfl ev_int rfl) ea_nil)) ⟨_, _, rfl, rfl⟩)) (ev_var 1) (by omega)) ⟨?_, ?_⟩)
        · unfold Pl.draw
          rw [if_pos ⟨hk1, hk2⟩, if_pos hk3]
        · unfold Pl.draw
          rw [if_pos ⟨hk1, hk2⟩, if_pos hk3]
          rfl
      · have hk3 := of_decide_eq_false hk
        refine blk_nil (blk_one (st_item 0 rfl (ev_add (ev_mul ev_int (ev_abs T.bt (ev_var 3)) (by first | exact .inl ⟨by omega, by omega⟩ | exact .inr ⟨by omega, by omega⟩)) (ev_intB T.bt (ev_lt (ev_var 3) ev_int))) ev_int (m := 2) rfl ?_))
        have q1 := iabs_nn (cs.getD i.toNat 0)
        refine ⟨_, _, _, _, rfl, ?_, .inr ⟨hk1, hk2, hk3, rfl, ?_⟩⟩
        · show 0 ≤ 2 * iabs (cs.getD i.toNat 0) + (if decide (cs.getD i.toNat 0 < 0) = true then 1 else 0)
          split <;> omega
        · show 2 * iabs (cs.getD i.toNat 0) + (if decide (cs.getD i.toNat 0 < 0) = true then 1 else 0) = _
          simp only [decide_eq_true_eq]
    · refine blk_nil ⟨_, _, _, _, rfl, o2, .inl ⟨rfl, rfl, fun z => ?_⟩⟩
      rw [decide_eq_true z.1, decide_eq_true z.2] at hk
      cases hk
  · rintro Γ' ⟨i', n', x, y, rfl, n0, hh⟩
    refine blk_cons (st_if (k := decide (0 < n')) (et_gt (ev_ixO 0 rfl ev_int rfl) ev_int) (fun hk => ?_) (fun hk => ?_))
    · have hk1 := of_decide_eq_true hk
      refine blk_cons (st_set 4 nd (ev_mod (ev_intI T.bt (ev_ixO 0 rfl ev_int rfl)) (ev_var 1) (by omega)) ?_)
      refine blk_cons (st_item 0 rfl (ev_fdivW (ev_intI T.bt (ev_ixO 0 rfl ev_int rfl)) (ev_var 1) (wide_l hl0 hl1)) ev_int (m := 2) rfl ?_)
      refine blk_one (st_ret (ev_var 4) ?_)
      rcases hh with ⟨rfl, rfl, nh⟩ | ⟨h1, h2, h3, rfl, rfl⟩
      · unfold Pl.draw
        rw [if_neg nh, if_pos hk1]
        exact ⟨rfl, rfl⟩
      · unfold Pl.draw
        rw [if_pos ⟨h1, h2⟩, if_neg h3]
        exact ⟨rfl, rfl⟩
    · have hk1 := of_decide_eq_false hk
      rcases hh with ⟨rfl, rfl, nh⟩ | ⟨h1, h2, h3, rfl, rfl⟩
      · refine blk_nil (blk_cons (st_if (k := decide ((cs.length : Int) = 0)) (et_eqI (ev_lenLI T.bt (ev_var 2)) ev_int) (fun hk => ?_) (fun hk => ?_)))
        · have hk2 := of_decide_eq_true hk
          refine blk_one (st_ret (ev_mod (ev_intI T.bt (ev_call (F_mix T) hr (by decide) (ea_cons ev_int (ea_cons (ev_ixO 0 rfl ev_int rfl) ea_nil)) ⟨_, _, rfl, rfl⟩)) (ev_var 1) (by omega)) ?_)
          unfold Pl.draw
          rw [if_neg nh, if_neg hk1, if_pos (show cs.length = 0 by omega)]
          exact ⟨rfl, rfl⟩
        · have hk2 := of_decide_eq_false hk
          have hp : 0 < (cs.length : Int) := by omega
          have m1 := Int.emod_nonneg (c + 1) (show (cs.length : Int) ≠ 0 by omega)
          have m2 := Int.emod_lt_of_pos (c + 1) hp
          refine blk_nil (blk_one (st_ret (d := .int (mix (cs.getD ((c + 1) % (cs.length : Int)).toNat 0) (c + 1) % l)) (ev_mod (ev_intI T.bt (ev_call (F_mix T) hr (by decide) (ea_cons (ev_intI T.bt (ev_ixL (ev_var 2) (ev_mod (ev_intI T.bt (ev_ixO 0 rfl ev_int rfl)) (ev_lenLI T.bt (ev_var 2)) (by omega)) (at_int m1 m2))) (ea_cons (ev_ixO 0 rfl ev_int rfl) ea_nil)) ⟨_, _, rfl, rfl⟩)) (ev_var 1) (by omega)) ?_))
          unfold Pl.draw
          rw [if_neg nh, if_neg hk1, if_neg (show ¬ cs.length = 0 by omega)]
          exact ⟨rfl, rfl⟩
      · exfalso
        have q1 := iabs_nn (cs.getD i.toNat 0)
        apply hk1
        have q2 : (10 : Int) ^ 18 = 1000000000000000000 := by decide
        split <;> omega

def Pl.number (s : Pl) : Pl × Int :=
  if (s.draw 6).2 = 0 then (((s.draw 6).1.draw (2 * 10 ^ 40 + 1)).1, ((s.draw 6).1.draw (2 * 10 ^ 40 + 1)).2 - 10 ^ 40)
  else if (s.draw 6).2 = 1 then (((s.draw 6).1.draw 3).1, 10 ^ 60 + ((s.draw 6).1.draw 3).2)
  else if (s.draw 6).2 = 2 then (((s.draw 6).1.draw 5).1, 0 - ((s.draw 6).1.draw 5).2)
  else (s.draw 6).1.draw 4
theorem Pl.Ok.number {s : Pl} (h : s.Ok) : s.number.1.Ok := by
  have h1 := h.next (l := 6) (by decide)
  unfold Pl.number
  split
  · exact h1.next (by decide)
  · split
    · exact h1.next (by decide)
    · split
      · exact h1.next (by decide)
      · exact h1.next (by decide)
def NumberR (ps ds ps' : List Dt) (d : Dt) : Prop := ∃ s : Pl, s.Ok ∧ ps = s.enc ∧ ds = [] ∧ ps' = s.number.1.enc ∧ d = .int s.number.2
theorem F_number (T : Tp P K mg) : FnP P w K mg base 3 "_law_number" NumberR := by
  obtain ⟨fd, F⟩ := T.at_l_number
  refine fn_lent (k := 2) F T.g_l_number sc_l_number b_l_number (fun qs ds qs' d ⟨_, _, _, e, _⟩ => by rw [e]; rfl) fun q qs ds qs' d hr ⟨s, ok, e1, e2, e3, e4⟩ => ?_
  subst e1 e2 e3 e4
  have nd := sc_l_number.nd
  have ok1 := ok.next (l := 6) (by decide)
  refine blk_cons (st_setF 1 nd (ef_callP (i := 0) (F_draw T) hr (by decide) (efa_cons (ef_ev ev_int) efa_nil) rfl ⟨_, _, rfl⟩ ⟨_, _, by assumption, by decide, by decide, rfl, rfl, rfl, rfl⟩) ?_)
  refine blk_cons (st_if (k := decide ((s.draw 6).2 = 0)) (et_eqI (ev_var 1) ev_int) (fun hk => ?_) (fun hk => ?_))
  · have hk1 := of_decide_eq_true hk
    refine blk_one (st_retF (ef_sub (ef_callP (i := 0) (F_draw T) hr (by decide) (efa_cons (ef_ev (ev_add (ev_mul ev_int (ev_pow ev_int ev_int ⟨by decide, by decide, by decide⟩) (by first | exact .inl ⟨by omega, by omega⟩ | exact .inr ⟨by omega, by omega⟩)) ev_int)) efa_nil) rfl ⟨_, _, rfl⟩ ⟨_, _, by assumption, by decide, by decide, rfl, rfl, rfl, rfl⟩) (ef_ev (ev_pow ev_int ev_int ⟨by decide, by decide, by decide⟩))) ?_)
    unfold Pl.number
    rw [if_pos hk1]
    exact ⟨rfl, rfl⟩
  have hk1 := of_decide_eq_false hk
  refine blk_nil (blk_cons (st_if (k := decide ((s.draw 6).2 = 1)) (et_eqI (ev_var 1) ev_int) (fun hk => ?_) (fun hk => ?_)))
  · have hk2 := of_decide_eq_true hk
    refine blk_one (st_retF (ef_add (ef_ev (ev_pow ev_int ev_int ⟨by decide, by decide, by decide⟩)) (ef_callP (i := 0) (F_draw T) hr (by decide) (efa_cons (ef_ev ev_int) efa_nil) rfl ⟨_, _, rfl⟩ ⟨_, _, by assumption, by decide, by decide, rfl, rfl, rfl, rfl⟩)) ?_)
    unfold Pl.number
    rw [if_neg hk1, if_pos hk2]
    exact ⟨rfl, rfl⟩
  have hk2 := of_decide_eq_false hk
  refine blk_nil (blk_cons (st_if (k := decide ((s.draw 6).2 = 2)) (et_eqI (ev_var 1) ev_int) (fun hk => ?_) (fun hk => ?_)))
  · have hk3 := of_decide_eq_true hk
    refine blk_one (st_retF (ef_sub (ef_ev ev_int) (ef_callP (i := 0) (F_draw T) hr (by decide) (efa_cons (ef_ev ev_int) efa_nil) rfl ⟨_, _, rfl⟩ ⟨_, _, by assumption, by decide, by decide, rfl, rfl, rfl, rfl⟩)) ?_)
    unfold Pl.number
    rw [if_neg hk1, if_neg hk2, if_pos hk3]
    exact ⟨rfl, rfl⟩
  have hk3 := of_decide_eq_false hk
  refine blk_nil (blk_one (st_retF (ef_callP (i := 0) (F_draw T) hr (by decide) (efa_cons (ef_ev ev_int) efa_nil) rfl ⟨_, _, rfl⟩ ⟨_, _, by assumption, by decide, by decide, rfl, rfl, rfl, rfl⟩) ?_))
  unfold Pl.number
  rw [if_neg hk1, if_neg hk2, if_neg hk3]
  exact ⟨rfl, rfl⟩
/-- the state behind k numbers -/
def Pl.nN (s : Pl) : Nat → Pl
  | 0 => s
  | k + 1 => (s.nN k).number.1
theorem Pl.Ok.nN {s : Pl} (h : s.Ok) : ∀ k, (s.nN k).Ok
  | 0 => h
  | k + 1 => (h.nN k).number
def rowF (start : List Int) (step : Int) (size : Nat) : List Int := (ran 0 size).map fun k => start.getD ((k + k * k / 7 * step) % (start.length : Int)).toNat 0
def Pl.rowS (s : Pl) : List Int := (List.range (1 + (s.draw 9).2).toNat).map fun k => ((s.draw 9).1.nN k).number.2
def Pl.rowP (s : Pl) : Pl := (s.draw 9).1.nN (1 + (s.draw 9).2).toNat
def Pl.row (s : Pl) (size : Int) : Pl × List Int := ((s.rowP.draw 6).1, rowF s.rowS (1 + (s.rowP.draw 6).2) size.toNat)
theorem Pl.Ok.rowP {s : Pl} (h : s.Ok) : s.rowP.Ok := (h.next (by decide)).nN _
theorem Pl.Ok.row {s : Pl} (h : s.Ok) (size : Int) : (s.row size).1.Ok := h.rowP.next (by decide)
theorem Pl.row_len (s : Pl) (size : Int) : (s.row size).2.length = size.toNat := by
  unfold Pl.row rowF
  rw [List.length_map, ran_len]
def RowR (ps ds ps' : List Dt) (d : Dt) : Prop := ∃ (s : Pl) (size : Int), s.Ok ∧ 0 ≤ size ∧ size ≤ 1000 ∧ ps = s.enc ∧ ds = [.int size] ∧ ps' = (s.row size).1.enc ∧ d = .lst ((s.row size).2.map Dt.int)
theorem F_row (T : Tp P K mg) : FnP P w K mg base 4 "_law_row" RowR := by
  obtain ⟨fd, F⟩ := T.at_l_row
  refine fn_lent (k := 3) F T.g_l_row sc_l_row b_l_row (fun qs ds qs' d ⟨_, _, _, _, _, _, e, _⟩ => by rw [e]; rfl) fun q qs ds qs' d hr ⟨s, size, ok, z0, z1, e1, e2, e3, e4⟩ => ?_
  subst e1 e2 e3 e4
  have nd := sc_l_row.nd
  have ok1 := ok.next (l := 9) (by decide)
  have db := Pl.draw_b s (l := 9) (by decide)
  have hlen : (rng 0 (1 + (s.draw 9).2).toNat).length < 100000 := by
    rw [rng_len]
    omega
  refine blk_cons (st_setFN 2 nd (efn_lc (i := 4) (fun k => [some (.lnt ((s.draw 9).1.nN k).enc), some (.dat (.int size)), none, none, none]) (fun k => .int ((s.draw 9).1.nN k).number.2) rfl nd
    (efi_range1 T.bt.range (efa_cons (ef_add (ef_ev ev_int) (ef_callP (i := 0) (F_draw T) hr (by decide) (efa_cons (ef_ev ev_int) efa_nil) rfl ⟨_, _, rfl⟩ ⟨_, _, by assumption, by decide, by decide, rfl, rfl, rfl, rfl⟩)) efa_nil) (by omega) (by omega)) hlen rfl (fun _ => rfl) (fun k en z => by cases z) (fun i j m qs z => by
      cases j with
      | zero => exact ⟨_, _, rfl⟩
      | succ j => rcases j with _ | _ | _ | _ | j <;> first | cases z | (rw [List.getElem?_eq_none (by simp)] at z; cases z)) (fun k d hd q => ?_)) ?_)
  · exact (ef_callP (i := 0) (F_number T) (Cb_room hr) (by decide) efa_nil rfl ⟨_, _, rfl⟩ ⟨_, ok1.nN k, rfl, rfl, rfl, rfl⟩)
  rw [rng_len]
  have okp := ok.rowP
  refine blk_freeze 2 rfl ?_
  refine blk_cons (st_setF 3 nd (ef_add (ef_ev ev_int) (ef_callP (i := 0) (F_draw T) hr (by decide) (efa_cons (ef_ev ev_int) efa_nil) rfl ⟨_, _, rfl⟩ ⟨_, _, okp, by decide, by decide, rfl, rfl, rfl, rfl⟩)) ?_)
  have hpos : 0 < (s.rowS.length : Int) := by
    unfold Pl.rowS
    rw [List.length_map, List.length_range]
    omega
  have sd := Pl.draw_b s.rowP (l := 6) (by decide)
  have es : (List.range (1 + (s.draw 9).2).toNat).map (fun k => Dt.int ((s.draw 9).1.nN k).number.2) = s.rowS.map Dt.int := by
    unfold Pl.rowS
    rw [List.map_map]
    rfl
  rw [es]
  refine blk_one (st_retF (ef_ev (ev_new (en_lcI (i := 4) (fun k => .int (s.rowS.getD ((k + k * k / 7 * (1 + (s.rowP.draw 6).2)) % (s.rowS.length : Int)).toNat 0)) rfl nd (ei_is (ei_range1 T.bt.range (ea_cons (ev_var 1) ea_nil) (by omega) (by omega)) (rng_ran _ _)) (by rw [ran_len]; omega) rfl (fun k hk q => ?_)))) ⟨?_, rfl⟩)
  · have hm := ran_mem hk
    have m1 := Int.emod_nonneg (k + k * k / 7 * (1 + (s.rowP.draw 6).2)) (show (s.rowS.length : Int) ≠ 0 by omega)
    have m2 := Int.emod_lt_of_pos (k + k * k / 7 * (1 + (s.rowP.draw 6).2)) hpos
    exact (ev_ixL (ev_var 2) (ev_mod (ev_intI T.bt (ev_add (ev_var 4) (ev_mul (ev_fdiv (ev_mul (ev_var 4) (ev_var 4) (by first | exact .inl ⟨by omega, by omega⟩ | exact .inr ⟨by omega, by omega⟩)) ev_int ⟨by omega, by omega⟩) (ev_var 3) (by first | exact .inl ⟨by omega, by omega⟩ | exact .inr ⟨by omega, by omega⟩)))) (ev_lenLI T.bt (ev_var 2)) (by omega)) (at_int m1 m2))
  · unfold Pl.row rowF
    rw [List.map_map]
    rfl
/-! ### a drawn sweep -/
structure Swp where
  w : List Int
  rank : Int
  mine : Int
  bound : Str
  way : Str
def Swp.enc (t : Swp) : Dt := .tup [.str "sweep", .tup (t.w.map Dt.int), .int t.rank, .int t.mine, .str t.bound, .str t.way]
def Pl.dN (s : Pl) (l : Int) : Nat → Pl
  | 0 => s
  | k + 1 => ((s.dN l k).draw l).1
theorem Pl.Ok.dN {s : Pl} {l : Int} (h : s.Ok) (hl : 0 < l) : ∀ k, (s.dN l k).Ok
  | 0 => h
  | k + 1 => (h.dN hl k).next hl
/-- the weights as drawn -/
def Pl.sw0 (s : Pl) (most : Int) : List Int := (List.range (1 + (s.draw most).2).toNat).map fun k => (((s.draw most).1.dN 4 k).draw 4).2
def Pl.sp0 (s : Pl) (most : Int) : Pl := (s.draw most).1.dN 4 (1 + (s.draw most).2).toNat
/-- .. mended -/
def Pl.sw1 (s : Pl) (most : Int) : Pl × List Int := if (s.sw0 most).sum = 0 then ((((s.sp0 most).draw ((s.sw0 most).length : Int)).1.draw 3).1, (s.sw0 most).set ((s.sp0 most).draw ((s.sw0 most).length : Int)).2.toNat (1 + (((s.sp0 most).draw ((s.sw0 most).length : Int)).1.draw 3).2)) else (s.sp0 most, s.sw0 most)
def Pl.swM (s : Pl) (most : Int) : Pl × Int := (s.sw1 most).1.draw ((s.sw1 most).2.length : Int)
def Pl.swR (s : Pl) (most : Int) : Pl × Int := (s.swM most).1.draw (s.sw1 most).2.sum
def Pl.swB (s : Pl) (most : Int) : Pl × Int := (s.swR most).1.draw 2
def Pl.swW (s : Pl) (most : Int) (menu : List Str) : Pl × Int := (s.swB most).1.draw (menu.length : Int)
def bnd (i : Int) : Str := (["held", "cut"] : List Str).getD i.toNat "held"
def Pl.swp (s : Pl) (most : Int) (menu : List Str) : Pl × Swp := ((s.swW most menu).1, ⟨(s.sw1 most).2, 1 + (s.swR most).2, (s.swM most).2, bnd (s.swB most).2, menu.getD (s.swW most menu).2.toNat "all"⟩)
theorem sum_nn : ∀ {l : List Int}, (∀ x ∈ l, 0 ≤ x) → 0 ≤ l.sum
  | [], _ => by decide
  | x :: l, h => by
    have h1 := h x List.mem_cons_self
    have h2 := sum_nn (l := l) fun y hy => h y (List.mem_cons_of_mem _ hy)
    rw [List.sum_cons]
    omega
theorem sum_le {b : Int} : ∀ {l : List Int}, (∀ x ∈ l, x ≤ b) → l.sum ≤ b * (l.length : Int)
  | [], _ => by simp
  | x :: l, h => by
    have h1 := h x List.mem_cons_self
    have h2 := sum_le (b := b) (l := l) fun y hy => h y (List.mem_cons_of_mem _ hy)
    rw [List.sum_cons, List.length_cons]
    have e : b * ((l.length + 1 : Nat) : Int) = b * (l.length : Int) + b := by
      rw [Int.natCast_add, Int.mul_add]
      simp
    omega
theorem sum_mem {x : Int} : ∀ {l : List Int}, (∀ x ∈ l, 0 ≤ x) → x ∈ l → x ≤ l.sum
  | y :: l, h, hx => by
    have h1 := h y List.mem_cons_self
    have h0 : ∀ z ∈ l, 0 ≤ z := fun z hz => h z (List.mem_cons_of_mem _ hz)
    have h2 := sum_nn h0
    rw [List.sum_cons]
    rcases List.mem_cons.mp hx with e | e
    · omega
    · have := sum_mem h0 e
      omega
structure WOk (most : Int) (w : List Int) : Prop where
  pos : 0 < w.length
  len : (w.length : Int) ≤ most
  lo : ∀ x ∈ w, 0 ≤ x
  hi : ∀ x ∈ w, x ≤ 3
theorem sw0_ok (s : Pl) {most : Int} (hm : 0 < most) : WOk most (s.sw0 most) := by
  have db := Pl.draw_b s hm
  have key : ∀ x ∈ s.sw0 most, 0 ≤ x ∧ x ≤ 3 := fun x hx => by
    obtain ⟨k, _, e⟩ := List.mem_map.mp hx
    have := Pl.draw_b ((s.draw most).1.dN 4 k) (l := 4) (by decide)
    omega
  refine ⟨?_, ?_, fun x hx => (key x hx).1, fun x hx => (key x hx).2⟩
  · unfold Pl.sw0
    rw [List.length_map, List.length_range]
    omega
  · unfold Pl.sw0
    rw [List.length_map, List.length_range]
    omega
theorem mem_set_or {α : Type} {l : List α} {i : Nat} {v x : α} (h : x ∈ l.set i v) : x = v ∨ x ∈ l := by
  obtain ⟨j, hj⟩ := List.mem_iff_getElem?.mp h
  rw [List.getElem?_set] at hj
  split at hj
  · split at hj
    · exact .inl (Option.some.inj hj).symm
    · cases hj
  · exact .inr (List.mem_of_getElem? hj)
theorem sw1_ok (s : Pl) {most : Int} (hm : 0 < most) : WOk most (s.sw1 most).2 ∧ 0 < (s.sw1 most).2.sum := by
  have h0 := sw0_ok s hm
  unfold Pl.sw1
  split
  · have dv := Pl.draw_b ((s.sp0 most).draw ((s.sw0 most).length : Int)).1 (l := 3) (by decide)
    have h1 := h0.pos
    have dp := Pl.draw_b (s.sp0 most) (l := ((s.sw0 most).length : Int)) (by omega)
    have hw : WOk most ((s.sw0 most).set ((s.sp0 most).draw ((s.sw0 most).length : Int)).2.toNat (1 + (((s.sp0 most).draw ((s.sw0 most).length : Int)).1.draw 3).2)) := by
      refine ⟨by rw [List.length_set]; exact h0.pos, by rw [List.length_set]; exact h0.len, fun x hx => ?_, fun x hx => ?_⟩
      · rcases mem_set_or hx with e | e
        · omega
        · exact h0.lo x e
      · rcases mem_set_or hx with e | e
        · omega
        · exact h0.hi x e
    refine ⟨hw, ?_⟩
    have hm : (1 + (((s.sp0 most).draw ((s.sw0 most).length : Int)).1.draw 3).2) ∈ (s.sw0 most).set ((s.sp0 most).draw ((s.sw0 most).length : Int)).2.toNat (1 + (((s.sp0 most).draw ((s.sw0 most).length : Int)).1.draw 3).2) :=
      List.mem_iff_getElem?.mpr ⟨_, List.getElem?_set_self (by omega)⟩
    have := sum_mem hw.lo hm
    show 0 < ((s.sw0 most).set _ _).sum
    omega
  · rename_i hz
    have := sum_nn h0.lo
    exact ⟨h0, by show 0 < (s.sw0 most).sum; omega⟩
theorem Pl.Ok.sp0 {s : Pl} (h : s.Ok) {most : Int} (hm : 0 < most) : (s.sp0 most).Ok := (h.next hm).dN (by decide) _
theorem Pl.Ok.sw1 {s : Pl} (h : s.Ok) {most : Int} (hm : 0 < most) : (s.sw1 most).1.Ok := by
  have h1 := (sw0_ok s hm).pos
  unfold Pl.sw1
  split
  · exact ((h.sp0 hm).next (by omega)).next (by decide)
  · exact h.sp0 hm
structure Swp.Ok (t : Swp) (most : Int) (menu : List Str) : Prop where
  w : WOk most t.w
  sum : 0 < t.w.sum
  r0 : 1 ≤ t.rank
  r1 : t.rank ≤ t.w.sum
  m0 : 0 ≤ t.mine
  m1 : t.mine < (t.w.length : Int)
  b : t.bound ∈ (["held", "cut"] : List Str)
  way : t.way ∈ menu
theorem bnd_mem {i : Int} (h0 : 0 ≤ i) (h1 : i < 2) : bnd i ∈ (["held", "cut"] : List Str) := by
  have : i = 0 ∨ i = 1 := by omega
  rcases this with rfl | rfl
  · exact List.mem_cons_self
  · exact List.mem_cons_of_mem _ List.mem_cons_self
theorem getD_mem' {α : Type} {l : List α} {i : Nat} {x : α} (h : i < l.length) : l.getD i x ∈ l := List.mem_of_getElem? (getD_some h)
theorem swp_ok (s : Pl) {most : Int} {menu : List Str} (hm : 0 < most) (hn : 0 < menu.length) : (s.swp most menu).2.Ok most menu := by
  obtain ⟨h1, h2⟩ := sw1_ok s hm
  have p1 := h1.pos
  have d1 := Pl.draw_b (s.sw1 most).1 (l := ((s.sw1 most).2.length : Int)) (by omega)
  have d2 := Pl.draw_b (s.swM most).1 h2
  have d3 := Pl.draw_b (s.swR most).1 (l := 2) (by decide)
  have d4 := Pl.draw_b (s.swB most).1 (l := (menu.length : Int)) (by omega)
  refine ⟨h1, h2, ?_, ?_, d1.1, d1.2, bnd_mem d3.1 d3.2, getD_mem' (i := (s.swW most menu).2.toNat) ?_⟩
  · show 1 ≤ 1 + ((s.swM most).1.draw (s.sw1 most).2.sum).2
    omega
  · show 1 + ((s.swM most).1.draw (s.sw1 most).2.sum).2 ≤ (s.sw1 most).2.sum
    omega
  · show ((s.swB most).1.draw (menu.length : Int)).2.toNat < menu.length
    omega
def SweepR (ps ds ps' : List Dt) (d : Dt) : Prop := ∃ (s : Pl) (most : Int) (menu : List Str), s.Ok ∧ 0 < most ∧ most ≤ 1000 ∧ 0 < menu.length ∧ menu.length ≤ 1000 ∧ ps = s.enc ∧ ds = [.int most, .tup (menu.map Dt.str)] ∧ ps' = (s.swp most menu).1.enc ∧ d = (s.swp most menu).2.enc
theorem Pl.Ok.swp {s : Pl} (h : s.Ok) {most : Int} {menu : List Str} (hm : 0 < most) (hn : 0 < menu.length) : (s.swp most menu).1.Ok := by
  obtain ⟨h1, h2⟩ := sw1_ok s hm
  have p1 := h1.pos
  exact ((((h.sw1 hm).next (by omega)).next h2).next (by decide)).next (by omega)
theorem map_set {α β : Type} (f : α → β) (v : α) : ∀ (l : List α) (i : Nat), (l.map f).set i (f v) = (l.set i v).map f
  | [], _ => rfl
  | _ :: _, 0 => rfl
  | x :: l, i + 1 => congrArg (f x :: ·) (map_set f v l i)
theorem w250 {i : Int} (h : i ≤ 1000000) : i < 2 ^ 250 := by
  have : (1000000 : Int) < 2 ^ 250 := by decide
  omega
theorem F_sweep (T : Tp P K mg) : FnP P w K mg base 3 "_law_sweep" SweepR := by
  obtain ⟨fd, F⟩ := T.at_l_sweep
  refine fn_lent (k := 2) F T.g_l_sweep sc_l_sweep b_l_sweep (fun qs ds qs' d ⟨_, _, _, _, _, _, _, _, _, e, _⟩ => by rw [e]; rfl) fun q qs ds qs' d hr ⟨s, most, menu, ok, hm0, hm1, hn0, hn1, e1, e2, e3, e4⟩ => ?_
  subst e1 e2 e3 e4
  have nd := sc_l_sweep.nd
  have ok1 := ok.next hm0
  have db := Pl.draw_b s hm0
  have hlen : (rng 0 (1 + (s.draw most).2).toNat).length < 100000 := by
    rw [rng_len]
    omega
  have W0 := sw0_ok s hm0
  have p0 := W0.pos
  have l0 := W0.len
  obtain ⟨W1, sp1⟩ := sw1_ok s hm0
  have p1 := W1.pos
  have l1 := W1.len
  have sl1 := sum_le W1.hi
  have ok2 := ok.sp0 hm0
  have ok3 := ok.sw1 hm0
  have es : (List.range (1 + (s.draw most).2).toNat).map (fun k => Dt.int (((s.draw most).1.dN 4 k).draw 4).2) = (s.sw0 most).map Dt.int := by
    unfold Pl.sw0
    rw [List.map_map]
    rfl
  refine blk_cons (st_lcF (i0 := 3) (i := 9) (fun k => [some (.lnt ((s.draw most).1.dN 4 k).enc), some (.dat (.int most)), some (.dat (.tup (menu.map Dt.str))), none, none, none, none, none, none, none]) (fun k => .int (((s.draw most).1.dN 4 k).draw 4).2) rfl nd
    (efi_range1 T.bt.range (efa_cons (ef_add (ef_ev ev_int) (ef_callP (i := 0) (F_draw T) hr (by decide) (efa_cons (ef_ev (ev_var 1)) efa_nil) rfl ⟨_, _, rfl⟩ ⟨_, _, ok, hm0, by exact w250 (by omega), rfl, rfl, rfl, rfl⟩)) efa_nil) (by omega) (by omega)) hlen rfl (fun _ => rfl) (fun k en z => by cases z) (fun i j m qs z => by
      cases j with
      | zero => exact ⟨_, _, rfl⟩
      | succ j => rcases j with _ | _ | _ | _ | _ | _ | _ | _ | _ | j <;> first | cases z | (rw [List.getElem?_eq_none (by simp)] at z; cases z)) (fun k d hd q => ?_) ?_)
  · exact (ef_callP (i := 0) (F_draw T) (Cb_room hr) (by decide) (efa_cons (ef_ev ev_int) efa_nil) rfl ⟨_, _, rfl⟩ ⟨_, _, ok1.dN (by decide) k, by decide, by decide, rfl, rfl, rfl, rfl⟩)
  rw [rng_len, es]
  refine blk_mid (fun Γ' => ∃ x, Γ' = [some (.lnt (s.sw1 most).1.enc), some (.dat (.int most)), some (.dat (.tup (menu.map Dt.str))), some (.own ((s.sw1 most).2.map Dt.int)), x, none, none, none, none, none]) ?_ ?_
  · refine st_if (k := decide ((s.sw0 most).sum = 0)) (et_borrow 3 rfl (et_eqI (ev_sumL T.bt rfl (ev_var 3)) ev_int)) (fun hk => ?_) (fun hk => ?_)
    · have hk1 := of_decide_eq_true hk
      have dp := Pl.draw_b (s.sp0 most) (l := ((s.sw0 most).length : Int)) (by omega)
      refine blk_cons (st_setF 4 nd (ef_callP (i := 0) (F_draw T) hr (by decide) (efa_cons (ef_ev (ev_lenOI 3 T.bt rfl)) efa_nil) rfl ⟨_, _, rfl⟩ ⟨_, _, ok2, by omega, by exact w250 (by omega), rfl, rfl, rfl, rfl⟩) ?_)
      refine blk_one (st_itemF 3 rfl (ef_add (ef_ev ev_int) (ef_callP (i := 0) (F_draw T) hr (by decide) (efa_cons (ef_ev ev_int) efa_nil) rfl ⟨_, _, rfl⟩ ⟨_, _, ok2.next (by omega), by decide, by decide, rfl, rfl, rfl, rfl⟩)) (ev_var 4) (ix_ok dp.1 (by rw [List.length_map]; exact dp.2)) ?_)
      refine ⟨some (.dat (.int ((s.sp0 most).draw ((s.sw0 most).length : Int)).2)), ?_⟩
      rw [show (s.sw1 most) = _ from if_pos hk1, ← map_set]
      rfl
    · have hk1 := of_decide_eq_false hk
      refine blk_nil ⟨none, ?_⟩
      rw [show (s.sw1 most) = _ from if_neg hk1]
      rfl
  · rintro Γ' ⟨x, rfl⟩
    have okM : (s.swM most).1.Ok := ok3.next (by omega)
    have okR : (s.swR most).1.Ok := okM.next sp1
    have okB : (s.swB most).1.Ok := okR.next (by decide)
    have dB := Pl.draw_b (s.swR most).1 (l := 2) (by decide)
    have dW := Pl.draw_b (s.swB most).1 (l := (menu.length : Int)) (by omega)
    refine blk_cons (st_setF 5 nd (ef_callP (i := 0) (F_draw T) hr (by decide) (efa_cons (ef_ev (ev_lenOI 3 T.bt rfl)) efa_nil) rfl ⟨_, _, rfl⟩ ⟨_, _, ok3, by omega, by exact w250 (by omega), rfl, rfl, rfl, rfl⟩) ?_)
    refine blk_cons (st_setF 6 nd (ef_add (ef_ev ev_int) (ef_callP (i := 0) (F_draw T) hr (by decide) (efa_cons (ef_ev (ev_borrow 3 rfl (ev_sumL T.bt rfl (ev_var 3)) rfl)) efa_nil) rfl ⟨_, _, rfl⟩ ⟨_, _, okM, sp1, w250 (by omega), rfl, rfl, rfl, rfl⟩)) ?_)
    refine blk_freeze 3 rfl ?_
    refine blk_cons (st_set 7 nd (ev_tup (ea_cons ev_str (ea_cons ev_str ea_nil)) (Nat.le_of_ble_eq_true rfl)) ?_)
    refine blk_cons (st_setF 8 nd (d := .str (bnd (s.swB most).2)) (ef_ixT (ef_ev (ev_var 7)) (ef_callP (i := 0) (F_draw T) hr (by decide) (efa_cons (ef_ev ev_int) efa_nil) rfl ⟨_, _, rfl⟩ ⟨_, _, okR, by decide, by decide, rfl, rfl, rfl, rfl⟩) ?_) ?_)
    · have h : ((s.swR most).1.draw 2).2 = 0 ∨ ((s.swR most).1.draw 2).2 = 1 := by omega
      unfold Pl.swB
      rcases h with h | h <;> rw [h] <;> rfl
    refine blk_one (st_retF (ef_tup (efa_cons (ef_ev ev_str) (efa_cons (ef_ev (ev_tupleL T.bt.tuple (ea_cons (ev_var 3) ea_nil))) (efa_cons (ef_ev (ev_var 6)) (efa_cons (ef_ev (ev_var 5)) (efa_cons (ef_ev (ev_var 8)) (efa_cons (d := .str (menu.getD (s.swW most menu).2.toNat "all")) (ef_ixT (ef_ev (ev_var 2)) (ef_callP (i := 0) (F_draw T) hr (by decide) (efa_cons (ef_ev (ev_is (d' := .int (menu.length : Int)) (ev_lenT T.bt (ev_var 2)) (by rw [List.length_map]))) efa_nil) rfl ⟨_, _, rfl⟩ ⟨_, _, okB, by omega, w250 (by omega), rfl, rfl, rfl, rfl⟩) ?_) efa_nil)))))) (Nat.le_of_ble_eq_true rfl)) ⟨rfl, rfl⟩)
    exact at_map (at_ok dW.1 (getD_some (by show ((s.swB most).1.draw (menu.length : Int)).2.toNat < menu.length; omega)))

end
end LW
set_option Elab.async false
set_option linter.all false
set_option maxRecDepth 100000
set_option maxHeartbeats 4000000

namespace LW
open PySem PySem.Spec PyProof.Rows L2 G
/-! ### rows -/
def isI : Dt → Bool
  | .int _ => true
  | _ => false
def isIB : Dt → Bool
  | .int _ => true
  | .bl _ => true
  | _ => false
def isB : Dt → Bool
  | .bl _ => true
  | _ => false
theorem kit_int {d : Dt} (h : d.plain = true) : kitB d.tyn "int" = some (isIB d) :=
  match d, h with
  | .non, _ => (by decide +kernel : kitB "NoneType" "int" = some false)
  | .bl b, _ => (by decide +kernel : kitB "bool" "int" = some true)
  | .int i, _ => (by decide +kernel : kitB "int" "int" = some true)
  | .str s, _ => (by decide +kernel : kitB "str" "int" = some false)
  | .tup ds, _ => (by decide +kernel : kitB "tuple" "int" = some false)
  | .lst ds, _ => (by decide +kernel : kitB "list" "int" = some false)
  | .scr ns, _ => (by decide +kernel : kitB "list" "int" = some false)
theorem kit_bool {d : Dt} (h : d.plain = true) : kitB d.tyn "bool" = some (isB d) :=
  match d, h with
  | .non, _ => (by decide +kernel : kitB "NoneType" "bool" = some false)
  | .bl b, _ => (by decide +kernel : kitB "bool" "bool" = some true)
  | .int i, _ => (by decide +kernel : kitB "int" "bool" = some false)
  | .str s, _ => (by decide +kernel : kitB "str" "bool" = some false)
  | .tup ds, _ => (by decide +kernel : kitB "tuple" "bool" = some false)
  | .lst ds, _ => (by decide +kernel : kitB "list" "bool" = some false)
  | .scr ns, _ => (by decide +kernel : kitB "list" "bool" = some false)
def isLT : Dt → Bool
  | .lst _ => true
  | .tup _ => true
  | .scr _ => true
  | _ => false
theorem kit_lt {K : PySem.W.Frag} {d : Dt} (h : d.plain = true) : PySem.W.kitAny K (.type d.tyn) [.type "list", .type "tuple"] = some (isLT d) :=
  match d, h with
  | .non, _ => by first | rfl | with_unfolding_all rfl
  | .bl b, _ => by first | rfl | with_unfolding_all rfl
  | .int i, _ => by first | rfl | with_unfolding_all rfl
  | .str s, _ => by first | rfl | with_unfolding_all rfl
  | .tup ds, _ => by first | rfl | with_unfolding_all rfl
  | .lst ds, _ => by first | rfl | with_unfolding_all rfl
  | .scr ns, _ => by first | rfl | with_unfolding_all rfl
def IntR (ds : List Dt) (d : Dt) : Prop := ∃ x : Dt, x.plain = true ∧ ds = [x] ∧ d = .bl (isI x)
def hasC : Dt → Bool
  | .lst ds => decide ((1 : Int) ≤ (ds.length : Int)) && decide ((ds.length : Int) ≤ 200)
  | .tup ds => decide ((1 : Int) ≤ (ds.length : Int)) && decide ((ds.length : Int) ≤ 200)
  | _ => false
def noScr : Dt → Bool
  | .scr _ => false
  | _ => true
def HasR (ds : List Dt) (d : Dt) : Prop := ∃ x : Dt, x.plain = true ∧ noScr x = true ∧ ds = [x] ∧ d = .bl (hasC x)
/-- a list or a tuple -/
def sq (b : Bool) (ds : List Dt) : Dt := bif b then .lst ds else .tup ds
def CheckedR (ds : List Dt) (d : Dt) : Prop := ∃ (b : Bool) (ns : List Int), 1 ≤ ns.length ∧ ns.length ≤ 200 ∧ ds = [sq b (ns.map Dt.int)] ∧ d = .tup (ns.map Dt.int)
section
variable {P : Program} {w : World} {K : PySem.W.Frag} {mg : Str → Option Value} {base : Heap}
theorem F_is_integer (T : Tp P K mg) : Fn P w K mg base 1 "is_integer" IntR := by
  obtain ⟨fd, F⟩ := T.at_is_integer
  refine fn_pure (k := 0) F T.g_is_integer sc_is_integer b_is_integer (fun ds d ⟨x, _, e, _⟩ => by rw [e]; rfl) fun q ds d hr ⟨x, hp, e1, e2⟩ => ?_
  subst e1 e2
  have e : isI x = (isIB x && !isB x) := by cases x <;> rfl
  rw [e]
  exact blk_one (st_ret (ev_and (ev_isi T.bt (ev_var 0) hp T.bt.int (by decide +kernel) (kit_int hp)) (fun hc => ev_one (ev_not (ev_isi T.bt (ev_var 0) hp T.bt.bool (by decide +kernel) (kit_bool hp))))) rfl)
theorem F_has_cells (T : Tp P K mg) : Fn P w K mg base 1 "has_cells" HasR := by
  obtain ⟨fd, F⟩ := T.at_has_cells
  refine fn_pure (k := 0) F T.g_has_cells sc_has_cells b_has_cells (fun ds d ⟨x, _, _, e, _⟩ => by rw [e]; rfl) fun q ds d hr ⟨x, hp, hs, e1, e2⟩ => ?_
  subst e1 e2
  cases x with
  | lst ds => exact blk_one (st_ret (ev_and (ev_isiLT T.bt (ev_var 0) hp (kit_lt hp)) (fun hc => ev_one (ev_lele ev_int (ev_lenL T.bt (ev_var 0)) (ev_gint T.c_MOST_CELLS)))) rfl)
  | tup ds => exact blk_one (st_ret (ev_and (ev_isiLT T.bt (ev_var 0) hp (kit_lt hp)) (fun hc => ev_one (ev_lele ev_int (ev_lenT T.bt (ev_var 0)) (ev_gint T.c_MOST_CELLS)))) rfl)
  | scr ns => cases hs
  | ty n => cases hp
  | cls C => cases hp
  | obj C fs => cases hp
  | non => exact blk_one (st_ret (ev_and (k' := false) (ev_isiLT T.bt (ev_var 0) hp (kit_lt hp)) (fun hc => by cases hc)) rfl)
  | bl b => exact blk_one (st_ret (ev_and (k' := false) (ev_isiLT T.bt (ev_var 0) hp (kit_lt hp)) (fun hc => by cases hc)) rfl)
  | int i => exact blk_one (st_ret (ev_and (k' := false) (ev_isiLT T.bt (ev_var 0) hp (kit_lt hp)) (fun hc => by cases hc)) rfl)
  | str s => exact blk_one (st_ret (ev_and (k' := false) (ev_isiLT T.bt (ev_var 0) hp (kit_lt hp)) (fun hc => by cases hc)) rfl)
theorem ints_get {ns : List Int} {i : Nat} {d : Dt} (h : (ns.map Dt.int)[i]? = some d) : ∃ n, ns[i]? = some n ∧ d = .int n := by
  rw [List.getElem?_map] at h
  cases q : ns[i]? with
  | none =>
    rw [q] at h
    cases h
  | some n =>
    rw [q] at h
    exact ⟨n, rfl, (Option.some.inj h).symm⟩
theorem F_checked_row (T : Tp P K mg) : Fn P w K mg base 2 "checked_row" CheckedR := by
  obtain ⟨fd, F⟩ := T.at_checked_row
  refine fn_pure (k := 1) F T.g_checked_row sc_checked_row b_checked_row (fun ds d ⟨b, ns, _, _, e, _⟩ => by rw [e]; rfl) fun q ds d hr ⟨b, ns, h1, h2, e1, e2⟩ => ?_
  subst e1 e2
  have nd := sc_checked_row.nd
  have hp : (sq b (ns.map Dt.int)).plain = true := by cases b <;> rfl
  have hs : noScr (sq b (ns.map Dt.int)) = true := by cases b <;> rfl
  have hc : hasC (sq b (ns.map Dt.int)) = true := by
    have e : hasC (sq b (ns.map Dt.int)) = (decide ((1 : Int) ≤ ((ns.map Dt.int).length : Int)) && decide (((ns.map Dt.int).length : Int) ≤ 200)) := by cases b <;> rfl
    rw [e, List.length_map, decide_eq_true (by omega), decide_eq_true (by omega)]
    rfl
  refine blk_cons (st_if (k := false) (et_is (et_not (et_val (ev_call (F_has_cells T) hr (by decide) (ea_cons (ev_var 0) ea_nil) ⟨_, hp, hs, rfl, rfl⟩))) (by rw [hc]; rfl)) (fun z => by cases z) (fun _ => ?_))
  refine blk_nil ?_
  refine blk_cons (st_for (ds := enm (ns.map Dt.int)) passesF rfl ?_ (fun _ Γ' => ∃ x y, Γ' = [some (.dat (sq b (ns.map Dt.int))), x, y]) ⟨_, _, rfl⟩ (fun i d Γ' hd hI => ?_) (fun Γ' hI => ?_))
  · cases b
    · exact ei_enumT T.bt.enumerate (ea_cons (ev_var 0) ea_nil)
    · exact ei_enumL T.bt.enumerate (ea_cons (ev_var 0) ea_nil)
  · obtain ⟨x, y, rfl⟩ := hI
    obtain ⟨d', h1, rfl⟩ := enm_get hd
    obtain ⟨n, h2, rfl⟩ := ints_get h1
    refine ⟨_, tg_tup2 rfl (tg_name 1 nd) (tg_name 2 nd), ?_⟩
    refine blk_one (st_if (k := false) (et_not (et_val (ev_call (F_is_integer T) hr (by decide) (ea_cons (ev_var 2) ea_nil) ⟨.int n, rfl, rfl, rfl⟩))) (fun z => by cases z) (fun _ => ?_))
    exact blk_nil ⟨_, _, rfl⟩
  · obtain ⟨x, y, rfl⟩ := hI
    cases b
    · exact blk_one (st_ret (ev_tupleT T.bt.tuple (ea_cons (ev_var 0) ea_nil)) rfl)
    · exact blk_one (st_ret (ev_tupleL T.bt.tuple (ea_cons (ev_var 0) ea_nil)) rfl)
/-! ### measures -/
def MeasR (ds : List Dt) (d : Dt) : Prop := ∃ (size depth l r wr : Int) (dir : Str), size ≤ 8 ∧ depth ≤ 20 ∧ l + r ≤ 6 ∧ wr ≤ 3 ∧ dir ≠ "both" ∧ ds = [.int size, .int depth, .tup [.int l, .int r], .int wr, .str dir] ∧ d = .non
theorem F_check_measures (T : Tp P K mg) : Fn P w K mg base 1 "check_measures" MeasR := by
  obtain ⟨fd, F⟩ := T.at_check_measures
  refine fn_pure (k := 0) F T.g_check_measures sc_check_measures b_check_measures (fun ds d ⟨_, _, _, _, _, _, _, _, _, _, _, e, _⟩ => by rw [e]; rfl) fun q ds d hr ⟨size, depth, l, r, wr, dir, h1, h2, h3, h4, h5, e1, e2⟩ => ?_
  subst e1 e2
  refine blk_cons (st_if (k := false) (et_is (et_gt (ev_var 0) (ev_gint T.c_MOST_SIZE)) (decide_eq_false (by omega))) (fun z => by cases z) fun _ => blk_nil ?_)
  refine blk_cons (st_if (k := false) (et_is (et_gt (ev_var 1) (ev_gint T.c_MOST_DEPTH)) (decide_eq_false (by omega))) (fun z => by cases z) fun _ => blk_nil ?_)
  refine blk_cons (st_if (k := false) (et_is (et_gt (ev_add (ev_ixT (ev_var 2) ev_int rfl) (ev_ixT (ev_var 2) ev_int rfl)) (ev_gint T.c_MOST_REACH)) (decide_eq_false (by omega))) (fun z => by cases z) fun _ => blk_nil ?_)
  refine blk_cons (st_if (k := false) (et_is (et_gt (ev_var 3) (ev_gint T.c_MOST_WRITTEN)) (decide_eq_false (by omega))) (fun z => by cases z) fun _ => blk_nil ?_)
  exact blk_one (st_if (k := false) (et_is (et_eqS (ev_var 4) ev_str) (decide_eq_false h5)) (fun z => by cases z) fun _ => blk_nil rfl)
/-! ### one sweep -/
structure Swo where
  w : List Int
  rank : Int
  own : Int
  ends : Str
  way : Str
  l : Int
  r : Int
  wr : Int
def Swo.fs (t : Swo) : List (Str × Dt) := [("weights", .tup (t.w.map Dt.int)), ("rank", .int t.rank), ("own", .int t.own), ("ends", .str t.ends), ("way", .str t.way), ("kind", .str "sweep"), ("parts", .tup []), ("times", .int 1), ("size", .int 1), ("depth", .int 1), ("reach", .tup [.int t.l, .int t.r]), ("written", .int t.wr), ("direction", .str t.way)]
def Swo.obj (K : PySem.W.Frag) (t : Swo) : Dt := .obj (He.ga K "Sweep") t.fs
structure Swo.Ok (t : Swo) : Prop where
  w : WOk 7 t.w
  r0 : 1 ≤ t.rank
  m0 : 0 ≤ t.own
  m1 : t.own < (t.w.length : Int)
section
variable (t : Swo) (row made : List Int) (index : Int)
/-- what place k brings -/
def ctr (k : Nat) : List Int :=
  if 0 ≤ index + (k : Int) - t.own ∧ index + (k : Int) - t.own < (row.length : Int) then List.replicate (t.w.getD k 0).toNat (if t.way = "all" then row.getD (index + (k : Int) - t.own).toNat 0 else made.getD (index + (k : Int) - t.own).toNat 0)
  else if t.ends = "held" then List.replicate (t.w.getD k 0).toNat (if index + (k : Int) - t.own < 0 then row.getD 0 0 else row.getD (row.length - 1) 0) else []
def valsN : Nat → List Int
  | 0 => []
  | k + 1 => valsN k ++ ctr t row made index k
def pick : Int := if (valsN t row made index t.w.length).isEmpty then row.getD index.toNat 0 else
  (srt (valsN t row made index t.w.length)).getD ((if ((srt (valsN t row made index t.w.length)).length : Int) < t.rank then ((srt (valsN t row made index t.w.length)).length : Int) else t.rank) - 1).toNat 0
end
theorem ctr_len {t : Swo} (h : WOk 7 t.w) (row made : List Int) (index : Int) (k : Nat) : (ctr t row made index k).length ≤ 3 := by
  have hw : (t.w.getD k 0).toNat ≤ 3 := by
    rcases Nat.lt_or_ge k t.w.length with q | q
    · have := h.hi _ (getD_mem' (x := 0) q)
      omega
    · rw [List.getD_eq_getElem?_getD, List.getElem?_eq_none q]
      decide
  unfold ctr
  split
  · rw [List.length_replicate]
    exact hw
  · split
    · rw [List.length_replicate]
      exact hw
    · decide
theorem valsN_len {t : Swo} (h : WOk 7 t.w) (row made : List Int) (index : Int) : ∀ k, (valsN t row made index k).length ≤ 3 * k
  | 0 => Nat.le_refl 0
  | k + 1 => by
    have h1 := valsN_len h row made index k
    have h2 := ctr_len h row made index k
    show (valsN t row made index k ++ ctr t row made index k).length ≤ _
    rw [List.length_append]
    omega
def PickR (K : PySem.W.Frag) (ds : List Dt) (d : Dt) : Prop := ∃ (t : Swo) (row made : List Int) (index : Int), t.Ok ∧ made.length = row.length ∧ row.length ≤ 100000 ∧ 0 ≤ index ∧ index < (row.length : Int) ∧ ds = [t.obj K, .tup (row.map Dt.int), .lst (made.map Dt.int), .int index] ∧ d = .int (pick t row made index)
theorem rep1 (n : Nat) (x : Int) : (List.replicate n [Dt.int x]).flatten = (List.replicate n x).map Dt.int := by
  induction n with
  | zero => rfl
  | succ n ih =>
    rw [List.replicate_succ, List.flatten_cons, ih, List.replicate_succ, List.map_cons]
    rfl
theorem F_picked (T : Tp P K mg) : Fn P w K mg base 1 "picked" (PickR K) := by
  obtain ⟨fd, F⟩ := T.at_picked
  refine fn_pure (k := 0) F T.g_picked sc_picked b_picked (fun ds d ⟨_, _, _, _, _, _, _, _, _, e, _⟩ => by rw [e]; rfl) fun q ds d hr ⟨t, row, made, index, ok, hl, hz, i0, i1, e1, e2⟩ => ?_
  subst e1 e2
  have nd := sc_picked.nd
  have fW : t.fs.lookup ("weights" : Str) = some (.tup (t.w.map Dt.int)) := rfl
  have fO : t.fs.lookup ("own" : Str) = some (.int t.own) := rfl
  have fY : t.fs.lookup ("way" : Str) = some (.str t.way) := rfl
  have fE : t.fs.lookup ("ends" : Str) = some (.str t.ends) := rfl
  have fR : t.fs.lookup ("rank" : Str) = some (.int t.rank) := rfl
  have wl := ok.w.len
  refine blk_cons (st_setN 4 nd (en_lst ea_nil (Nat.le_of_ble_eq_true rfl)) ?_)
  refine blk_mid (fun Γ' => ∃ a b c, Γ' = [some (.dat (t.obj K)), some (.dat (.tup (row.map Dt.int))), some (.dat (.lst (made.map Dt.int))), some (.dat (.int index)), some (.own ((valsN t row made index t.w.length).map Dt.int)), a, b, c, none]) ?_ ?_
  · refine st_for passesF rfl (ei_enumT T.bt.enumerate (ea_cons (ev_fld (ev_var 0) T.k_Sweep T.na_Sweep_weights fW) ea_nil)) (fun i Γ' => ∃ a b c, Γ' = [some (.dat (t.obj K)), some (.dat (.tup (row.map Dt.int))), some (.dat (.lst (made.map Dt.int))), some (.dat (.int index)), some (.own ((valsN t row made index i).map Dt.int)), a, b, c, none]) ⟨_, _, _, rfl⟩ (fun i d Γ' hd hI => ?_) (fun Γ' hI => ?_)
    · obtain ⟨a, b, c, rfl⟩ := hI
      obtain ⟨d', h1, rfl⟩ := enm_get hd
      obtain ⟨n, h2, rfl⟩ := ints_get h1
      have hil : i < t.w.length := by
        rcases Nat.lt_or_ge i t.w.length with q | q
        · exact q
        · rw [List.getElem?_eq_none q] at h2
          cases h2
      have en : t.w.getD i 0 = n := by
        rw [List.getD_eq_getElem?_getD, h2]
        rfl
      have nm : n ∈ t.w := List.mem_of_getElem? h2
      have n0 := ok.w.lo n nm
      have n3 := ok.w.hi n nm
      have vl := valsN_len ok.w row made index i
      refine ⟨_, tg_tup2 rfl (tg_name 5 nd) (tg_name 6 nd), ?_⟩
      refine blk_cons (st_set 7 nd (ev_sub (ev_add (ev_var 3) (ev_var 5)) (ev_fld (ev_var 0) T.k_Sweep T.na_Sweep_own fO)) ?_)
      refine blk_one (st_if (et_lelt ev_int (ev_var 7) (ev_lenTI T.bt (ev_var 1))) (fun hk => ?_) (fun hk => ?_))
      · have hk1 := of_decide_eq_true (Bool.and_eq_true_iff.mp hk).1
        have hk2 := of_decide_eq_true (Bool.and_eq_true_iff.mp hk).2
        refine blk_one (st_if (et_eqS (ev_fld (ev_var 0) T.k_Sweep T.na_Sweep_way fY) ev_str) (fun hw => ?_) (fun hw => ?_))
        · have hw1 := of_decide_eq_true hw
          refine blk_one (st_ext 4 rfl (ev_new (en_is (en_rep (ev_new (en_lst (ea_cons (ev_ixT (ev_var 1) (ev_var 7) (at_int hk1 hk2)) ea_nil) (Nat.le_of_ble_eq_true rfl))) (ev_var 6) (by omega) (by omega) (by show 1 * n.toNat ≤ 100000; omega)) (rep1 _ _))) (by rw [List.length_map, List.length_map, List.length_replicate]; omega) ?_)
          refine ⟨some (.dat (.int (i : Int))), some (.dat (.int n)), some (.dat (.int (index + (i : Int) - t.own))), ?_⟩
          show _ = _
          rw [show valsN t row made index (i + 1) = valsN t row made index i ++ ctr t row made index i from rfl, List.map_append]
          rw [show ctr t row made index i = List.replicate n.toNat (row.getD (index + (i : Int) - t.own).toNat 0) by unfold ctr; rw [if_pos ⟨hk1, hk2⟩, if_pos hw1, en]]
          rfl
        · have hw1 := of_decide_eq_false hw
          refine blk_one (st_ext 4 rfl (ev_new (en_is (en_rep (ev_new (en_lst (ea_cons (ev_ixL (ev_var 2) (ev_var 7) (at_int hk1 (by rw [hl]; exact hk2))) ea_nil) (Nat.le_of_ble_eq_true rfl))) (ev_var 6) (by omega) (by omega) (by show 1 * n.toNat ≤ 100000; omega)) (rep1 _ _))) (by rw [List.length_map, List.length_map, List.length_replicate]; omega) ?_)
          refine ⟨some (.dat (.int (i : Int))), some (.dat (.int n)), some (.dat (.int (index + (i : Int) - t.own))), ?_⟩
          show _ = _
          rw [show valsN t row made index (i + 1) = valsN t row made index i ++ ctr t row made index i from rfl, List.map_append]
          rw [show ctr t row made index i = List.replicate n.toNat (made.getD (index + (i : Int) - t.own).toNat 0) by unfold ctr; rw [if_pos ⟨hk1, hk2⟩, if_neg hw1, en]]
          rfl
      · have nk : ¬ (0 ≤ index + (i : Int) - t.own ∧ index + (i : Int) - t.own < (row.length : Int)) := fun z => by
          rw [decide_eq_true z.1, decide_eq_true z.2] at hk
          cases hk
        refine blk_one (st_if (et_eqS (ev_fld (ev_var 0) T.k_Sweep T.na_Sweep_ends fE) ev_str) (fun hw => ?_) (fun hw => ?_))
        · have hw1 := of_decide_eq_true hw
          have hr0 : 0 < row.length := by omega
          refine blk_one (st_ext 4 rfl (ev_new (en_is (en_rep (ev_new (en_lst (ea_cons (ev_ifexp (d := .int (if index + (i : Int) - t.own < 0 then row.getD 0 0 else row.getD (row.length - 1) 0)) (et_lt (ev_var 7) ev_int) (fun hc => ev_is (ev_ixT (ev_var 1) ev_int (at_int (by decide) (by omega))) (by rw [if_pos (of_decide_eq_true hc)]; rfl)) (fun hc => ev_is (ev_ixT (ev_var 1) (ev_neg ev_int) (at_lastI hr0)) (by rw [if_neg (of_decide_eq_false hc)]))) ea_nil) (Nat.le_of_ble_eq_true rfl))) (ev_var 6) (by omega) (by omega) (by show 1 * n.toNat ≤ 100000; omega)) (rep1 _ _))) (by rw [List.length_map, List.length_map, List.length_replicate]; omega) ?_)
          refine ⟨some (.dat (.int (i : Int))), some (.dat (.int n)), some (.dat (.int (index + (i : Int) - t.own))), ?_⟩
          show _ = _
          rw [show valsN t row made index (i + 1) = valsN t row made index i ++ ctr t row made index i from rfl, List.map_append]
          rw [show ctr t row made index i = List.replicate n.toNat (if index + (i : Int) - t.own < 0 then row.getD 0 0 else row.getD (row.length - 1) 0) by unfold ctr; rw [if_neg nk, if_pos hw1, en]]
          rfl
        · have hw1 := of_decide_eq_false hw
          refine blk_nil ⟨some (.dat (.int (i : Int))), some (.dat (.int n)), some (.dat (.int (index + (i : Int) - t.own))), ?_⟩
          show _ = _
          rw [show valsN t row made index (i + 1) = valsN t row made index i ++ ctr t row made index i from rfl]
          rw [show ctr t row made index i = [] by unfold ctr; rw [if_neg nk, if_neg hw1], List.append_nil]
          rfl
    · rw [enm_len, List.length_map] at hI
      exact hI
  · rintro Γ' ⟨a, b, c, rfl⟩
    have vl := valsN_len ok.w row made index t.w.length
    have eE : ((valsN t row made index t.w.length).map Dt.int).isEmpty = (valsN t row made index t.w.length).isEmpty := by cases valsN t row made index t.w.length <;> rfl
    refine blk_cons (st_if (k := (valsN t row made index t.w.length).isEmpty) (et_is (et_not (et_borrow 4 rfl (et_truth (ev_var 4) (fun Hs H v e r => tru_lst e r)))) (by rw [Bool.not_not, eE])) (fun hk => ?_) (fun hk => ?_))
    · refine blk_one (st_ret (ev_ixT (ev_var 1) (ev_var 3) (at_int i0 i1)) ?_)
      show _ = Dt.int (pick t row made index)
      unfold pick
      rw [if_pos hk]
    · refine blk_nil ?_
      have hne : 0 < (srt (valsN t row made index t.w.length)).length := by
        rw [srt_length]
        cases h : valsN t row made index t.w.length with
        | nil =>
          rw [h] at hk
          cases hk
        | cons x l => exact Nat.succ_pos _
      have r0 := ok.r0
      refine blk_cons (st_setN 4 nd (en_borrow 4 rfl (en_sorted T.bt.sorted (ea_cons (ev_new (en_lcI (i := 8) (fun i => .int i) rfl nd (ei_lst (ev_var 4)) (by omega) rfl (fun d _ q => ev_intI T.bt (ev_var 8)))) ea_nil)) flat_ints) ?_)
      refine blk_one (st_ret (ev_ixO 4 rfl (ev_sub (ev_min2 T.bt rfl (ev_fld (ev_var 0) T.k_Sweep T.na_Sweep_rank fR) (ev_lenOI 4 T.bt rfl)) ev_int) (at_int ?_ ?_)) ?_)
      · split <;> omega
      · split <;> omega
      · show _ = Dt.int (pick t row made index)
        have hn : ¬ ((valsN t row made index t.w.length).isEmpty = true) := by
          rw [hk]
          exact Bool.false_ne_true
        unfold pick
        rw [if_neg hn]
/-! ### a row swept -/
def ordr (t : Swo) (n : Nat) : List Int := if t.way = "back" then (ran 0 n).reverse else ran 0 n
def swN (t : Swo) (row : List Int) (k : Nat) : List Int := ((ordr t row.length).take k).foldl (fun m i => m.set i.toNat (pick t row m i)) row
def swL (t : Swo) (row : List Int) : List Int := swN t row row.length
theorem fold_len {t : Swo} {row : List Int} : ∀ (l m : List Int), (l.foldl (fun m i => m.set i.toNat (pick t row m i)) m).length = m.length
  | [], m => rfl
  | i :: l, m => by
    rw [List.foldl_cons, fold_len l, List.length_set]
theorem swN_len (t : Swo) (row : List Int) (k : Nat) : (swN t row k).length = row.length := fold_len _ _
theorem ordr_len (t : Swo) (n : Nat) : (ordr t n).length = n := by
  unfold ordr
  split
  · rw [List.length_reverse, ran_len]
  · rw [ran_len]
theorem ordr_mem {t : Swo} {n : Nat} {i : Int} (h : i ∈ ordr t n) : 0 ≤ i ∧ i < (n : Int) := by
  have : i ∈ ran 0 n := by
    unfold ordr at h
    split at h
    · exact List.mem_reverse.mp h
    · exact h
  have := ran_mem this
  omega
theorem swN_succ {t : Swo} {row : List Int} {k : Nat} {i : Int} (h : (ordr t row.length)[k]? = some i) : swN t row (k + 1) = (swN t row k).set i.toNat (pick t row (swN t row k) i) := by
  unfold swN
  rw [List.take_add_one, h]
  show List.foldl _ row (List.take k _ ++ [i]) = _
  rw [List.foldl_append]
  rfl
def SweptR (K : PySem.W.Frag) (ds : List Dt) (d : Dt) : Prop := ∃ (t : Swo) (row : List Int), t.Ok ∧ row.length ≤ 100000 ∧ ds = [t.obj K, .tup (row.map Dt.int)] ∧ d = .tup ((swL t row).map Dt.int)
theorem F_swept (T : Tp P K mg) : Fn P w K mg base 2 "swept" (SweptR K) := by
  obtain ⟨fd, F⟩ := T.at_swept
  refine fn_pure (k := 1) F T.g_swept sc_swept b_swept (fun ds d ⟨_, _, _, _, e, _⟩ => by rw [e]; rfl) fun q ds d hr ⟨t, row, ok, hz, e1, e2⟩ => ?_
  subst e1 e2
  have nd := sc_swept.nd
  have fY : t.fs.lookup ("way" : Str) = some (.str t.way) := rfl
  refine blk_cons (st_setN 2 nd (en_listT T.bt.list (ea_cons (ev_var 1) ea_nil)) ?_)
  refine blk_cons (st_setN 3 nd (en_is (ds' := (ran 0 row.length).map Dt.int) (en_listRg T.bt rfl (ev_lenTI T.bt (ev_var 1)) (by omega) (by omega)) (rng_ran _ _)) ?_)
  refine blk_mid (fun Γ' => Γ' = [some (.dat (t.obj K)), some (.dat (.tup (row.map Dt.int))), some (.own (row.map Dt.int)), some (.own ((ordr t row.length).map Dt.int)), none]) ?_ ?_
  · refine st_if (et_eqS (ev_fld (ev_var 0) T.k_Sweep T.na_Sweep_way fY) ev_str) (fun hk => ?_) (fun hk => ?_)
    · have hk1 := of_decide_eq_true hk
      refine blk_one (st_setN 3 nd (en_borrow 3 rfl (en_rev (ev_var 3)) (fun d hd => flat_ints d (List.mem_reverse.mp hd))) ?_)
      show _ = _
      rw [show ordr t row.length = (ran 0 row.length).reverse from if_pos hk1, List.map_reverse]
      rfl
    · have hk1 := of_decide_eq_false hk
      refine blk_nil ?_
      show _ = _
      rw [show ordr t row.length = ran 0 row.length from if_neg hk1]
      rfl
  · rintro Γ' rfl
    refine blk_freeze 3 rfl ?_
    refine blk_mid (fun Γ' => ∃ x, Γ' = [some (.dat (t.obj K)), some (.dat (.tup (row.map Dt.int))), some (.own ((swL t row).map Dt.int)), some (.dat (.lst ((ordr t row.length).map Dt.int))), x]) ?_ ?_
    · refine st_for passesF rfl (ei_lst (ev_var 3)) (fun k Γ' => ∃ x, Γ' = [some (.dat (t.obj K)), some (.dat (.tup (row.map Dt.int))), some (.own ((swN t row k).map Dt.int)), some (.dat (.lst ((ordr t row.length).map Dt.int))), x]) ⟨none, rfl⟩ (fun k d Γ' hd hI => ?_) (fun Γ' hI => ?_)
      · obtain ⟨x, rfl⟩ := hI
        obtain ⟨i, h2, rfl⟩ := ints_get hd
        have hm := ordr_mem (List.mem_of_getElem? h2)
        have sl := swN_len t row k
        refine ⟨_, tg_name 4 nd, ?_⟩
        refine blk_one (st_item 2 rfl (ev_borrow 2 rfl (ev_call (F_picked T) hr (by decide) (ea_cons (ev_var 0) (ea_cons (ev_var 1) (ea_cons (ev_var 2) (ea_cons (ev_var 4) ea_nil)))) ⟨t, row, swN t row k, i, ok, sl, hz, hm.1, hm.2, rfl, rfl⟩) rfl) (ev_var 4) (ix_ok hm.1 (by rw [List.length_map, sl]; exact hm.2)) ?_)
        refine ⟨some (.dat (.int i)), ?_⟩
        rw [swN_succ h2, ← map_set]
        rfl
      · rw [List.length_map, ordr_len] at hI
        exact hI
    · rintro Γ' ⟨x, rfl⟩
      exact blk_one (st_ret (ev_borrowN 2 rfl (ev_tupleL T.bt.tuple (ea_cons (ev_var 2) ea_nil)) (.tup nol_ints)) rfl)
theorem F_played (T : Tp P K mg) : Fn P w K mg base 3 "played" (SweptR K) := by
  obtain ⟨fd, F⟩ := T.at_played
  refine fn_pure (k := 2) F T.g_played sc_played b_played (fun ds d ⟨_, _, _, _, e, _⟩ => by rw [e]; rfl) fun q ds d hr ⟨t, row, ok, hz, e1, e2⟩ => ?_
  subst e1 e2
  have fK : t.fs.lookup ("kind" : Str) = some (.str "sweep") := rfl
  refine blk_cons (st_if (k := true) (et_is (et_eqS (ev_fld (ev_var 0) T.k_Sweep T.na_Sweep_kind fK) ev_str) (by decide +kernel)) (fun _ => ?_) (fun z => by cases z))
  exact blk_one (st_ret (ev_call (F_swept T) hr (by decide) (ea_cons (ev_var 0) (ea_cons (ev_var 1) ea_nil)) ⟨t, row, ok, hz, rfl, rfl⟩) rfl)
def CallR (K : PySem.W.Frag) (ds : List Dt) (d : Dt) : Prop := ∃ (t : Swo) (b : Bool) (row : List Int), t.Ok ∧ 1 ≤ row.length ∧ row.length ≤ 200 ∧ ds = [t.obj K, sq b (row.map Dt.int)] ∧ d = .tup ((swL t row).map Dt.int)
theorem F_call (T : Tp P K mg) : FnM P w K mg base 4 (He.ma K (He.ga K "Chain") "__call__") (CallR K) := by
  obtain ⟨fd, F⟩ := T.at_Chain_call
  refine fn_meth (k := 3) F sc_Chain_call b_Chain_call (fun ds d ⟨_, _, _, _, _, _, e, _⟩ => by rw [e]; rfl) fun q ds d hr ⟨t, b, row, ok, h1, h2, e1, e2⟩ => ?_
  subst e1 e2
  exact blk_one (st_ret (ev_call (F_played T) hr (by decide) (ea_cons (ev_var 0) (ea_cons (ev_call (F_checked_row T) hr (by decide) (ea_cons (ev_var 1) ea_nil) ⟨b, row, h1, h2, rfl, rfl⟩) ea_nil)) ⟨t, row, ok, by omega, rfl, rfl⟩) rfl)
end
end LW
set_option Elab.async false
set_option linter.all false
set_option maxRecDepth 100000
set_option maxHeartbeats 4000000

namespace LW
open PySem PySem.Spec PyProof.Rows L2 G
section
variable {P : Program} {w : World} {K : PySem.W.Frag} {mg : Str → Option Value} {base : Heap}
def WtR (ds : List Dt) (d : Dt) : Prop := ∃ ws : List Int, WOk 7 ws ∧ 0 < ws.sum ∧ ds = [.lst (ws.map Dt.int)] ∧ d = .bl true
theorem pos_of_sum {l : List Int} (h : 0 < l.sum) (h0 : ∀ x ∈ l, 0 ≤ x) : ∃ x ∈ l, 0 < x := by
  induction l with
  | nil => exact absurd h (by decide)
  | cons x l ih =>
    by_cases q : 0 < x
    · exact ⟨x, List.mem_cons_self, q⟩
    · rw [List.sum_cons] at h
      have := h0 x List.mem_cons_self
      obtain ⟨y, h1, h2⟩ := ih (by omega) fun y hy => h0 y (List.mem_cons_of_mem _ hy)
      exact ⟨y, List.mem_cons_of_mem _ h1, h2⟩
theorem bls_map {f : Int → Bool} (ws : List Int) : ws.map (fun i => Dt.bl (f i)) = (ws.map f).map Dt.bl := by
  rw [List.map_map]
  rfl
theorem F_are_weights (T : Tp P K mg) : Fn P w K mg base 2 "are_weights" WtR := by
  obtain ⟨fd, F⟩ := T.at_are_weights
  refine fn_pure (k := 1) F T.g_are_weights sc_are_weights b_are_weights (fun ds d ⟨_, _, _, e, _⟩ => by rw [e]; rfl) fun q ds d hr ⟨ws, ok, hs, e1, e2⟩ => ?_
  subst e1 e2
  have nd := sc_are_weights.nd
  have p0 := ok.pos
  have p1 := ok.len
  refine blk_cons (st_if (k := false) (et_is (et_w (ew_or (et_not (et_val (ev_isiLT T.bt (ev_var 0) rfl (kit_lt rfl)))) (fun hc => ew_or1 (et_not (et_lele ev_int (ev_lenLI T.bt (ev_var 0)) (ev_gint T.c_MOST_WEIGHTS)))))) (by rw [decide_eq_true (show (1 : Int) ≤ (ws.length : Int) by omega), decide_eq_true (show (ws.length : Int) ≤ 7 by omega)]; rfl)) (fun z => by cases z) fun _ => blk_nil ?_)
  refine blk_cons (st_if (k := false) (et_is (et_not (et_val (ev_all T.bt rfl (ev_new (en_is (en_lcI (i := 1) (fun i => .bl (isI (.int i) && (decide (0 ≤ i) && decide (i ≤ 3)))) rfl nd (ei_lst (ev_var 0)) (by omega) rfl (fun d _ q => ev_and (ev_call (F_is_integer T) (Cb_room hr) (by decide) (ea_cons (ev_var 1) ea_nil) ⟨.int d, rfl, rfl, rfl⟩) (fun hc => ev_one (ev_lele ev_int (ev_var 1) (ev_gint T.c_MOST_WEIGHT))))) (bls_map (f := fun i => isI (.int i) && (decide (0 ≤ i) && decide (i ≤ 3))) ws)))))) ?_) (fun z => by cases z) fun _ => blk_nil ?_)
  · rw [List.all_map]
    have : (ws.all (id ∘ fun i => isI (.int i) && (decide (0 ≤ i) && decide (i ≤ 3)))) = true := List.all_eq_true.mpr fun x hx => by
      show (true && (decide (0 ≤ x) && decide (x ≤ 3))) = true
      rw [decide_eq_true (ok.lo x hx), decide_eq_true (ok.hi x hx)]
      rfl
    rw [this]
    rfl
  refine blk_one (st_ret (ev_is (ev_any T.bt rfl (ev_new (en_is (en_lcI (i := 1) (fun i => .bl (decide (0 < i))) rfl nd (ei_lst (ev_var 0)) (by omega) rfl (fun d _ q => ev_gt (ev_var 1) ev_int)) (bls_map (f := fun i => decide (0 < i)) ws)))) (congrArg Dt.bl ?_)) rfl)
  rw [List.any_map]
  obtain ⟨x, h1, h2⟩ := pos_of_sum hs ok.lo
  exact List.any_eq_true.mpr ⟨x, h1, decide_eq_true h2⟩
def WordR (ds : List Dt) (d : Dt) : Prop := ∃ (s : Str) (ss : List Str), ds = [.str s, .tup (ss.map Dt.str)] ∧ d = .bl (decide (s ∈ ss))
theorem F_is_word (T : Tp P K mg) : Fn P w K mg base 1 "is_word" WordR := by
  obtain ⟨fd, F⟩ := T.at_is_word
  refine fn_pure (k := 0) F T.g_is_word sc_is_word b_is_word (fun ds d ⟨_, _, e, _⟩ => by rw [e]; rfl) fun q ds d hr ⟨s, ss, e1, e2⟩ => ?_
  subst e1 e2
  exact blk_one (st_ret (ev_and (k := true) (ev_isi (T' := "str") (d := .str s) T.bt (ev_var 0) rfl T.bt.str (by decide +kernel) (by decide +kernel : kitB "str" "str" = some true)) (fun hc => ev_one (ev_inTS (ev_var 0) (ev_var 1)))) rfl)
abbrev wEnds : List Str := ["held", "cut"]
abbrev wWays : List Str := ["all", "on", "back"]
def oInt : Option Int → Dt
  | none => .non
  | some i => .int i
def CkR (ds : List Dt) (d : Dt) : Prop := ∃ (ws : List Int) (rank : Int) (own : Option Int) (ends way : Str), WOk 7 ws ∧ 0 < ws.sum ∧ 1 ≤ rank ∧ rank ≤ ws.sum ∧ (∀ i, own = some i → 0 ≤ i ∧ i < (ws.length : Int)) ∧ ends ∈ wEnds ∧ way ∈ wWays ∧ ds = [.lst (ws.map Dt.int), .int rank, oInt own, .str ends, .str way] ∧ d = .non
theorem F_check_sweep (T : Tp P K mg) : Fn P w K mg base 3 "check_sweep" CkR := by
  obtain ⟨fd, F⟩ := T.at_check_sweep
  refine fn_pure (k := 2) F T.g_check_sweep sc_check_sweep b_check_sweep (fun ds d ⟨_, _, _, _, _, _, _, _, _, _, _, _, e, _⟩ => by rw [e]; rfl) fun q ds d hr ⟨ws, rank, own, ends, way, ok, hs, r0, r1, ho, he, hw, e1, e2⟩ => ?_
  subst e1 e2
  refine blk_cons (st_if (k := false) (et_not (et_val (ev_call (F_are_weights T) hr (by decide) (ea_cons (ev_var 0) ea_nil) ⟨ws, ok, hs, rfl, rfl⟩))) (fun z => by cases z) fun _ => blk_nil ?_)
  refine blk_cons (st_if (k := false) (et_is (et_w (ew_or (et_not (et_val (ev_call (F_is_integer T) hr (by decide) (ea_cons (ev_var 1) ea_nil) ⟨.int rank, rfl, rfl, rfl⟩))) (fun hc => ew_or1 (et_not (et_lele ev_int (ev_var 1) (ev_sumL T.bt rfl (ev_var 0))))))) (by rw [decide_eq_true r0, decide_eq_true r1]; rfl)) (fun z => by cases z) fun _ => blk_nil ?_)
  have rest : Blk (cxF P w K mg base N_check_sweep "check_sweep" (defScope s_check_sweep) (He.ga K "check_sweep") q) (startG N_check_sweep [.lst (ws.map Dt.int), .int rank, oInt own, .str ends, .str way]) ((defBody s_check_sweep).drop 3) { nx := fun _ => Dt.non = .non, rt := fun d' _ => d' = .non } := by
    refine blk_cons (st_if (k := false) (et_is (et_not (et_val (ev_call (F_is_word T) hr (by decide) (ea_cons (ev_var 3) (ea_cons (ev_tup (ea_cons ev_str (ea_cons ev_str ea_nil)) (Nat.le_of_ble_eq_true rfl)) ea_nil)) ⟨ends, wEnds, rfl, rfl⟩))) (by rw [decide_eq_true he]; rfl)) (fun z => by cases z) fun _ => blk_nil ?_)
    exact blk_one (st_if (k := false) (et_is (et_not (et_val (ev_call (F_is_word T) hr (by decide) (ea_cons (ev_var 4) (ea_cons (ev_tup (ea_cons ev_str (ea_cons ev_str (ea_cons ev_str ea_nil))) (Nat.le_of_ble_eq_true rfl)) ea_nil)) ⟨way, wWays, rfl, rfl⟩))) (by rw [decide_eq_true hw]; rfl)) (fun z => by cases z) fun _ => blk_nil rfl)
  cases own with
  | none => exact blk_cons (st_if (k := false) (et_w (ew_and (k := false) (k' := false) (et_is (et_notN (x := .non) (ev_var 2)) rfl) (fun hc => by cases hc))) (fun z => by cases z) fun _ => blk_nil rest)
  | some i =>
    obtain ⟨h0, h1⟩ := ho i rfl
    exact blk_cons (st_if (k := false) (et_is (et_w (ew_and (k := true) (et_is (et_notN (x := .int i) (ev_var 2)) rfl) (fun hc => ew_and1 (et_w (ew_or (et_not (et_val (ev_call (F_is_integer T) hr (by decide) (ea_cons (ev_var 2) ea_nil) ⟨.int i, rfl, rfl, rfl⟩))) (fun hc => ew_or1 (et_not (et_lelt ev_int (ev_var 2) (ev_lenLI T.bt (ev_var 0)))))))))) (by rw [decide_eq_true h0, decide_eq_true h1]; rfl)) (fun z => by cases z) fun _ => blk_nil rest)
/-! ### Chain.__init__ -/
def chNames : List Str := ["kind", "parts", "times", "size", "depth", "reach", "written", "direction"]
def chPut (kind : Str) (parts : Dt) (times size depth l r wr : Int) (dir : Str) (fs : List (Str × Dt)) : List (Str × Dt) :=
  putD "direction" (.str dir) (putD "written" (.int wr) (putD "reach" (.tup [.int l, .int r]) (putD "depth" (.int depth) (putD "size" (.int size) (putD "times" (.int times) (putD "parts" parts (putD "kind" (.str kind) fs)))))))
def ChInitR (K : PySem.W.Frag) (C : Addr) (fs : List (Str × Dt)) (ds : List Dt) (fs' : List (Str × Dt)) : Prop := Cls K C ∧ (∀ f ∈ chNames, NoAttr K C f) ∧ ∃ (kind : Str) (parts : Dt) (times size depth l r wr : Int) (dir : Str), size ≤ 8 ∧ depth ≤ 20 ∧ l + r ≤ 6 ∧ wr ≤ 3 ∧ dir ≠ "both" ∧ fs.length < 900 ∧
  ds = [.str kind, parts, .int times, .int size, .int depth, .tup [.int l, .int r], .int wr, .str dir] ∧ fs' = chPut kind parts times size depth l r wr dir fs
theorem putD_len (f : Str) (d : Dt) : ∀ fs : List (Str × Dt), (putD f d fs).length ≤ fs.length + 1
  | [] => Nat.le_refl _
  | (g, x) :: fs => by
    unfold putD
    split
    · exact Nat.le_succ _
    · exact Nat.succ_le_succ (putD_len f d fs)
theorem F_Chain_init (T : Tp P K mg) : ∃ fd, FnOk P w K mg base (L2.CX P w) 2 (He.ma K (He.ga K "Chain") "__init__") fd P_Chain_init (spI K (ChInitR K)) ∧ Binds K fd P_Chain_init [] := by
  obtain ⟨fd, F⟩ := T.at_Chain_init
  refine ⟨fd, fn_init (k := 1) F sc_Chain_init (fun C fs ds fs' ⟨_, _, _, _, _, _, _, _, _, _, _, _, _, _, _, _, _, e, _⟩ => by rw [e]; rfl) (fun q C fs ds fs' y hr ⟨hC, hN, kind, parts, times, size, depth, l, r, wr, dir, h1, h2, h3, h4, h5, h6, e1, e2⟩ => ?_), F.bindsN b_Chain_init⟩
  subst e1 e2
  have R := rnr_B (X := cxF P w K mg base N_Chain_init "Chain.__init__" (defScope s_Chain_init) (He.ma K (He.ga K "Chain") "__init__") q)
  refine ib_stm R (st_expr (ev_call (F_check_measures T) hr (by decide) (ea_cons (ev_var 4) (ea_cons (ev_var 5) (ea_cons (ev_var 6) (ea_cons (ev_var 7) (ea_cons (ev_var 8) ea_nil))))) ⟨size, depth, l, r, wr, dir, h1, h2, h3, h4, h5, rfl, rfl⟩) ?_)
  have l1 := putD_len "kind" (.str kind) fs
  have l2 := putD_len "parts" parts (putD "kind" (.str kind) fs)
  have l3 := putD_len "times" (.int times) (putD "parts" parts (putD "kind" (.str kind) fs))
  have l4 := putD_len "size" (.int size) (putD "times" (.int times) (putD "parts" parts (putD "kind" (.str kind) fs)))
  have l5 := putD_len "depth" (.int depth) (putD "size" (.int size) (putD "times" (.int times) (putD "parts" parts (putD "kind" (.str kind) fs))))
  have l6 := putD_len "reach" (.tup [.int l, .int r]) (putD "depth" (.int depth) (putD "size" (.int size) (putD "times" (.int times) (putD "parts" parts (putD "kind" (.str kind) fs)))))
  have l7 := putD_len "written" (.int wr) (putD "reach" (.tup [.int l, .int r]) (putD "depth" (.int depth) (putD "size" (.int size) (putD "times" (.int times) (putD "parts" parts (putD "kind" (.str kind) fs))))))
  refine ib_attr 0 R rfl (evo_ev (ev_var 1)) hC (hN _ (by decide)) (by omega) ?_
  refine ib_attr 0 R rfl (evo_ev (ev_var 2)) hC (hN _ (by decide)) (by omega) ?_
  refine ib_attr 0 R rfl (evo_ev (ev_var 3)) hC (hN _ (by decide)) (by omega) ?_
  refine ib_attr 0 R rfl (evo_ev (ev_var 4)) hC (hN _ (by decide)) (by omega) ?_
  refine ib_attr 0 R rfl (evo_ev (ev_var 5)) hC (hN _ (by decide)) (by omega) ?_
  refine ib_attr 0 R rfl (evo_ev (ev_var 6)) hC (hN _ (by decide)) (by omega) ?_
  refine ib_attr 0 R rfl (evo_ev (ev_var 7)) hC (hN _ (by decide)) (by omega) ?_
  refine ib_attr 0 R rfl (evo_ev (ev_var 8)) hC (hN _ (by decide)) (by omega) ?_
  exact ib_nil R rfl
end
end LW
set_option Elab.async false
set_option linter.all false
set_option maxRecDepth 100000
set_option maxHeartbeats 4000000

namespace LW
open PySem PySem.Spec PyProof.Rows L2 G
/-- the places with a weight -/
def usd (ws : List Int) : List Int := (ws.zipIdx.filter fun q => decide (0 < q.1)).map fun q => (q.2 : Int)
def uF : Dt → Bool
  | .tup [_, .int w] => decide (0 < w)
  | _ => false
def uV : Dt → Dt
  | .tup [i, _] => i
  | _ => .non
theorem usd_eq (ws : List Int) : ((enm (ws.map Dt.int)).filter uF).map uV = (usd ws).map Dt.int := by
  unfold enm usd
  rw [List.zipIdx_map, List.map_map, List.filter_map, List.map_map, List.map_map]
  rfl
theorem usd_pos {ws : List Int} (h : 0 < ws.sum) (h0 : ∀ x ∈ ws, 0 ≤ x) : 0 < (usd ws).length := by
  obtain ⟨x, h1, h2⟩ := pos_of_sum h h0
  obtain ⟨i, hi⟩ := List.mem_iff_getElem?.mp h1
  unfold usd
  rw [List.length_map]
  have : (x, i) ∈ ws.zipIdx.filter fun q => decide (0 < q.1) := List.mem_filter.mpr ⟨List.mem_iff_getElem?.mpr ⟨i, by rw [List.getElem?_zipIdx, hi]; simp⟩, decide_eq_true h2⟩
  exact List.length_pos_of_mem this
theorem usd_mem {ws : List Int} {u : Int} (h : u ∈ usd ws) : 0 ≤ u ∧ u < (ws.length : Int) := by
  obtain ⟨q, hq, e⟩ := List.mem_map.mp h
  obtain ⟨i, hi⟩ := List.mem_iff_getElem?.mp (List.mem_filter.mp hq).1
  rw [List.getElem?_zipIdx] at hi
  cases z : ws[i]? with
  | none =>
    rw [z] at hi
    cases hi
  | some y =>
    rw [z] at hi
    have e2 : (y, 0 + i) = q := Option.some.inj hi
    have hl : i < ws.length := by
      rcases Nat.lt_or_ge i ws.length with k | k
      · exact k
      · rw [List.getElem?_eq_none k] at z
        cases z
    rw [← e, ← e2]
    show (0 : Int) ≤ ((0 + i : Nat) : Int) ∧ ((0 + i : Nat) : Int) < (ws.length : Int)
    omega
def mx0 (i : Int) : Int := if i > 0 then i else 0
def rL (ws : List Int) (own : Int) : Int := mx0 (own - (usd ws).getD 0 0)
def rR (ws : List Int) (own : Int) : Int := mx0 ((usd ws).getD ((usd ws).length - 1) 0 - own)
def wrt (ws : List Int) (own : Int) (way : Str) : Int := if way = "on" then rL ws own else if way = "back" then rR ws own else 0
def mkS (ws : List Int) (rank own : Int) (ends way : Str) : Swo := ⟨ws, rank, own, ends, way, rL ws own, rR ws own, wrt ws own way⟩
structure ArgOk (ws : List Int) (rank own : Int) (ends way : Str) : Prop where
  w : WOk 7 ws
  sum : 0 < ws.sum
  r0 : 1 ≤ rank
  r1 : rank ≤ ws.sum
  m0 : 0 ≤ own
  m1 : own < (ws.length : Int)
  e : ends ∈ wEnds
  y : way ∈ wWays
  wr : wrt ws own way ≤ 3
def SwInitR (K : PySem.W.Frag) (C : Addr) (fs : List (Str × Dt)) (ds : List Dt) (fs' : List (Str × Dt)) : Prop := C = He.ga K "Sweep" ∧ fs = [] ∧ ∃ (ws : List Int) (rank own : Int) (ends way : Str), ArgOk ws rank own ends way ∧ ds = [.lst (ws.map Dt.int), .int rank, .int own, .str ends, .str way] ∧ fs' = (mkS ws rank own ends way).fs
section
variable {P : Program} {w : World} {K : PySem.W.Frag} {mg : Str → Option Value} {base : Heap}
theorem sw_noat (T : Tp P K mg) : ∀ f ∈ chNames, NoAttr K (He.ga K "Sweep") f := fun f hf => by
  unfold chNames at hf
  simp only [List.mem_cons, List.not_mem_nil, or_false] at hf
  rcases hf with rfl | rfl | rfl | rfl | rfl | rfl | rfl | rfl
  · exact T.na_Sweep_kind
  · exact T.na_Sweep_parts
  · exact T.na_Sweep_times
  · exact T.na_Sweep_size
  · exact T.na_Sweep_depth
  · exact T.na_Sweep_reach
  · exact T.na_Sweep_written
  · exact T.na_Sweep_direction
theorem reach_le {ws : List Int} {own : Int} (h : WOk 7 ws) (hs : 0 < ws.sum) (m0 : 0 ≤ own) (m1 : own < (ws.length : Int)) : rL ws own + rR ws own ≤ 6 := by
  have p := usd_pos hs h.lo
  have a1 := usd_mem (getD_mem' (x := 0) p)
  have a2 := usd_mem (getD_mem' (l := usd ws) (i := (usd ws).length - 1) (x := 0) (by omega))
  have hl := h.len
  unfold rL rR mx0
  have srt : (usd ws).getD 0 0 ≤ own ∨ own < (usd ws).getD 0 0 := by omega
  split <;> split <;> omega
theorem F_Sweep_init (T : Tp P K mg) (hP : (P.main.scope.names.lookup ("super" : Str)).isSome = false) : ∃ fd, FnOk P w K mg base (L2.CX P w) 5 (He.ma K (He.ga K "Sweep") "__init__") fd P_Sweep_init (spI K (SwInitR K)) ∧
    ∃ mv : List Value, KBn K fd P_Sweep_init 3 ["own", "ends", "way"] (fun us ws => us ++ ws) (fun vs zs => vs ++ zs) := by
  obtain ⟨fd, cc, c, F⟩ := T.at_Sweep_init
  obtain ⟨fd2, F2, b2⟩ := F_Chain_init (P := P) (w := w) (K := K) (mg := mg) (base := base) T
  refine ⟨fd, fn_initC (k := 4) F sc_Sweep_init (fun C fs ds fs' ⟨_, _, _, _, _, _, _, _, e, _⟩ => by rw [e]; rfl) (fun q C fs ds fs' y hr ⟨eC, ef, ws, rank, own, ends, way, ok, e1, e2⟩ => ?_), ?_⟩
  · subst eC ef e1 e2
    have R := rnr_A (X := cxC P w K mg base N_Sweep_init (nfC "__init__" "Sweep.__init__" (defArgs s_Sweep_init) (defBody s_Sweep_init) (defScope s_Sweep_init) cc c) (He.ma K (He.ga K "Sweep") "__init__") q) (c := .func (defBody s_Sweep_init) (cxC P w K mg base N_Sweep_init (nfC "__init__" "Sweep.__init__" (defArgs s_Sweep_init) (defBody s_Sweep_init) (defScope s_Sweep_init) cc c) (He.ma K (He.ga K "Sweep") "__init__") q).env)
    have nd := sc_Sweep_init.nd
    have p := usd_pos ok.sum ok.w.lo
    have wl := ok.w.len
    have wp := ok.w.pos
    have hre := reach_le ok.w ok.sum ok.m0 ok.m1
    have hne : (way : Str) ≠ "both" := fun z => by
      have := ok.y
      rw [z] at this
      exact absurd this (by decide)
    refine ib_stm R (st_expr (ev_call (F_check_sweep T) hr (by decide) (ea_cons (ev_var 1) (ea_cons (ev_var 2) (ea_cons (ev_var 3) (ea_cons (ev_var 4) (ea_cons (ev_var 5) ea_nil))))) ⟨ws, rank, some own, ends, way, ok.w, ok.sum, ok.r0, ok.r1, fun i e => by cases e; exact ⟨ok.m0, ok.m1⟩, ok.e, ok.y, rfl, rfl⟩) ?_)
    refine ib_attr 0 R rfl (evo_ev (ev_tupleL T.bt.tuple (ea_cons (ev_var 1) ea_nil))) T.k_Sweep T.na_Sweep_weights (by decide) ?_
    refine ib_attr 0 R rfl (evo_ev (ev_var 2)) T.k_Sweep T.na_Sweep_rank (Nat.lt_of_sub_pos (by exact Nat.succ_pos _)) ?_
    refine ib_attr 0 R rfl (evo_ev (ev_ifexp (k := false) (et_is (et_isN (x := .int own) (ev_var 3)) rfl) (fun z => by cases z) (fun _ => ev_var 3))) T.k_Sweep T.na_Sweep_own (Nat.lt_of_sub_pos (by exact Nat.succ_pos _)) ?_
    refine ib_attr 0 R rfl (evo_ev (ev_var 4)) T.k_Sweep T.na_Sweep_ends (Nat.lt_of_sub_pos (by exact Nat.succ_pos _)) ?_
    refine ib_attr 0 R rfl (evo_ev (ev_var 5)) T.k_Sweep T.na_Sweep_way (Nat.lt_of_sub_pos (by exact Nat.succ_pos _)) ?_
    refine ib_stm R (st_lcF2 (i0 := 7) (i := 10) (j := 11) uF uV rfl nd (by decide) (ei_enumL T.bt.enumerate (ea_cons (ev_var 1) ea_nil)) (by rw [enm_len, List.length_map]; omega) rfl (fun d hd => ?_) ?_)
    · obtain ⟨i, hi⟩ := List.mem_iff_getElem?.mp hd
      obtain ⟨d', h1, rfl⟩ := enm_get hi
      obtain ⟨n, h2, rfl⟩ := ints_get h1
      exact ⟨_, _, rfl, fun q => et_gt (ev_var 11) ev_int, fun _ q => ev_var 10⟩
    rw [usd_eq]
    refine ib_setO 8 R nd (d := .tup [.int (rL ws own), .int (rR ws own)]) (evo_tup (eao_cons (evo_max2 T.bt rfl (evo_ev ev_int) (evo_sub (evo_fld 0 rfl T.k_Sweep T.na_Sweep_own rfl) (evo_ev (ev_ixO 7 rfl ev_int (at_int (by decide) (by omega)))))) (eao_cons (evo_max2 T.bt rfl (evo_ev ev_int) (evo_sub (evo_ev (ev_ixO 7 rfl (ev_neg ev_int) (at_lastI p))) (evo_fld 0 rfl T.k_Sweep T.na_Sweep_own rfl))) eao_nil)) (Nat.le_of_ble_eq_true rfl)) ?_
    refine ib_stm R (st_set 9 nd ev_int ?_)
    have fin : ∀ Γ' : Gam, Γ' = [some (.dat (.cls y)), some (.dat (.lst (ws.map Dt.int))), some (.dat (.int rank)), some (.dat (.int own)), some (.dat (.str ends)), some (.dat (.str way)), none, some (.own ((usd ws).map Dt.int)), some (.dat (.tup [.int (rL ws own), .int (rR ws own)])), some (.dat (.int (wrt ws own way))), none, none] →
        IB (cxC P w K mg base N_Sweep_init (nfC "__init__" "Sweep.__init__" (defArgs s_Sweep_init) (defBody s_Sweep_init) (defScope s_Sweep_init) cc c) (He.ma K (He.ga K "Sweep") "__init__") q) (RunBA _ (.func (defBody s_Sweep_init) (cxC P w K mg base N_Sweep_init (nfC "__init__" "Sweep.__init__" (defArgs s_Sweep_init) (defBody s_Sweep_init) (defScope s_Sweep_init) cc c) (He.ma K (He.ga K "Sweep") "__init__") q).env)) y (He.ga K "Sweep") Γ' [("weights", .tup (ws.map Dt.int)), ("rank", .int rank), ("own", .int own), ("ends", .str ends), ("way", .str way)] ((defBody s_Sweep_init).drop 10) (mkS ws rank own ends way).fs := fun Γ' e => by
      subst e
      exact ib_super F T.sup_Sweep_init F2 b2 hr (by decide) rfl rfl rfl rfl rfl T.nosuper rfl rfl rfl hP rfl rfl (ea_cons ev_str (ea_cons (ev_tup ea_nil (Nat.le_of_ble_eq_true rfl)) (ea_cons ev_int (ea_cons ev_int (ea_cons ev_int (ea_cons (ev_var 8) (ea_cons (ev_var 9) (ea_cons (ev_var 5) ea_nil))))))))
        ⟨T.k_Sweep, sw_noat T, "sweep", .tup [], 1, 1, 1, rL ws own, rR ws own, wrt ws own way, way, by decide, by decide, hre, ok.wr, hne, Nat.lt_of_sub_pos (by exact Nat.succ_pos _), rfl, rfl⟩
    refine ib_stm R (st_if (et_eqS (ev_var 5) ev_str) (fun hk => ?_) (fun hk => ?_))
    · have hk1 := of_decide_eq_true hk
      refine blk_one (st_set 9 nd (ev_ixT (ev_var 8) ev_int rfl) (fin _ ?_))
      rw [show wrt ws own way = rL ws own from if_pos hk1]
      rfl
    · have hk1 := of_decide_eq_false hk
      refine blk_one (st_if (et_eqS (ev_var 5) ev_str) (fun hk => ?_) (fun hk => ?_))
      · have hk2 := of_decide_eq_true hk
        refine blk_one (st_set 9 nd (ev_ixT (ev_var 8) ev_int rfl) (fin _ ?_))
        rw [show wrt ws own way = rR ws own by unfold wrt; rw [if_neg hk1, if_pos hk2]]
        rfl
      · have hk2 := of_decide_eq_false hk
        refine blk_nil (fin _ ?_)
        rw [show wrt ws own way = 0 by unfold wrt; rw [if_neg hk1, if_neg hk2]]
        rfl
  · exact F.kbinds 3 ["own", "ends", "way"] [] (fun us mv ws => us ++ ws) (by decide) (fun q hq => by cases hq) (fun r1 r2 r3 => Vals.append r1 r3) (fun D doc pm an ct us mv ws h1 h2 h3 => match us, ws, h1, h3 with | [_, _, _], [_, _, _], _, _ => rfl)
end
end LW
set_option Elab.async false
set_option linter.all false
set_option maxRecDepth 100000
set_option maxHeartbeats 4000000

namespace LW
open PySem PySem.Spec PyProof.Rows L2 G
section
variable {X : Cx} {Γ : Gam} {e a b : Expr} {d : Dt} {ds : List Dt} {pos p : Pos}
theorem ev_ixQ {i : Int} (bb : Bool) (ha : Ev X Γ a (sq bb ds)) (hb : Ev X Γ b (.int i)) (h : atI ds i = some d) (hs : PlainIx b := by intro _ _; rfl) : Ev X Γ (.Subscript a b pos) d := by
  cases bb
  · exact ev_ixT ha hb h hs
  · exact ev_ixL ha hb h hs
theorem ev_lenQI {ns : List Int} (bb : Bool) (T : Bt X.mg) (h : Ev X Γ a (sq bb (ns.map Dt.int))) (hg : Gl X "len" := by rfl) (hs : starEach [a] X.env = (false, eval a X.env) :: starEach [] X.env := by rfl) : Ev X Γ (.Call (.Name "len" p) [a] [] pos) (.int (ns.length : Int)) := by
  cases bb
  · exact ev_lenTI T h hg hs
  · exact ev_lenLI T h hg hs
end
/-! ### the values that the law counts -/
section
variable (t : Swp) (row made : List Int) (index : Int)
def vl (at_ : Int) : Int := if (t.way = "on" ∧ at_ < index) ∨ (t.way = "back" ∧ index < at_) then made.getD at_.toNat 0 else row.getD at_.toNat 0
def ctl (k : Nat) : List Int :=
  if 0 ≤ index + (k : Int) - t.mine ∧ index + (k : Int) - t.mine < (row.length : Int) then List.replicate (t.w.getD k 0).toNat (vl t row made index (index + (k : Int) - t.mine))
  else if t.bound = "held" then List.replicate (t.w.getD k 0).toNat (if index + (k : Int) - t.mine < 0 then row.getD 0 0 else row.getD (row.length - 1) 0) else []
def lvN : Nat → List Int
  | 0 => []
  | k + 1 => lvN k ++ ctl t row made index k
end
def cLt (x : Int) (vs : List Int) : Int := (vs.map fun v => if decide (v < x) = true then (1 : Int) else 0).sum
def cLe (x : Int) (vs : List Int) : Int := (vs.map fun v => if decide (v ≤ x) = true then (1 : Int) else 0).sum
/-- what the law asks of an answer -/
structure Good (t : Swp) (row made : List Int) : Prop where
  len : made.length = row.length
  no : ∀ i : Nat, i < row.length → lvN t row made i t.w.length = [] → made.getD i 0 = row.getD i 0
  yes : ∀ i : Nat, i < row.length → lvN t row made i t.w.length ≠ [] → cLt (made.getD i 0) (lvN t row made i t.w.length) < (if ((lvN t row made i t.w.length).length : Int) < t.rank then ((lvN t row made i t.w.length).length : Int) else t.rank) ∧
    (if ((lvN t row made i t.w.length).length : Int) < t.rank then ((lvN t row made i t.w.length).length : Int) else t.rank) ≤ cLe (made.getD i 0) (lvN t row made i t.w.length)
theorem ctl_len {t : Swp} (h : WOk 7 t.w) (row made : List Int) (index : Int) (k : Nat) : (ctl t row made index k).length ≤ 3 := by
  have hw : (t.w.getD k 0).toNat ≤ 3 := by
    rcases Nat.lt_or_ge k t.w.length with q | q
    · have := h.hi _ (getD_mem' (x := 0) q)
      omega
    · rw [List.getD_eq_getElem?_getD, List.getElem?_eq_none q]
      decide
  unfold ctl
  split
  · rw [List.length_replicate]
    exact hw
  · split
    · rw [List.length_replicate]
      exact hw
    · exact Nat.zero_le _
theorem lvN_len {t : Swp} (h : WOk 7 t.w) (row made : List Int) (index : Int) : ∀ k, (lvN t row made index k).length ≤ 3 * k
  | 0 => Nat.le_refl 0
  | k + 1 => by
    have h1 := lvN_len h row made index k
    have h2 := ctl_len h row made index k
    show (lvN t row made index k ++ ctl t row made index k).length ≤ _
    rw [List.length_append]
    omega
section
variable {P : Program} {w : World} {K : PySem.W.Frag} {mg : Str → Option Value} {base : Heap}
def ValueR (ds : List Dt) (d : Dt) : Prop := ∃ (t : Swp) (b : Bool) (row made : List Int) (at_ index : Int), made.length = row.length ∧ 0 ≤ at_ ∧ at_ < (row.length : Int) ∧ ds = [t.enc, sq b (row.map Dt.int), .tup (made.map Dt.int), .int at_, .int index] ∧ d = .int (vl t row made index at_)
theorem F_value (T : Tp P K mg) : Fn P w K mg base 1 "_law_value" ValueR := by
  obtain ⟨fd, F⟩ := T.at_l_value
  refine fn_pure (k := 0) F T.g_l_value sc_l_value b_l_value (fun ds d ⟨_, _, _, _, _, _, _, _, _, e, _⟩ => by rw [e]; rfl) fun q ds d hr ⟨t, b, row, made, at_, index, hl, a0, a1, e1, e2⟩ => ?_
  subst e1 e2
  refine blk_cons (st_if (k := decide ((t.way = "on" ∧ at_ < index) ∨ (t.way = "back" ∧ index < at_))) (et_is (et_w (ew_or (et_w (ew_and (et_eqS (ev_ixT (ev_var 0) ev_int rfl) ev_str) (fun hc => ew_and1 (et_lt (ev_var 3) (ev_var 4))))) (fun hc => ew_or1 (et_w (ew_and (et_eqS (ev_ixT (ev_var 0) ev_int rfl) ev_str) (fun hc => ew_and1 (et_gt (ev_var 3) (ev_var 4)))))))) (by simp only [Bool.decide_or, Bool.decide_and])) (fun hk => ?_) (fun hk => ?_))
  · refine blk_one (st_ret (ev_ixT (ev_var 2) (ev_var 3) (at_int a0 (by omega))) ?_)
    show _ = Dt.int (vl t row made index at_)
    unfold vl
    rw [if_pos (of_decide_eq_true hk)]
  · refine blk_nil (blk_one (st_ret (ev_ixQ b (ev_var 1) (ev_var 3) (at_int a0 a1)) ?_))
    show _ = Dt.int (vl t row made index at_)
    unfold vl
    rw [if_neg (of_decide_eq_false hk)]
def ValuesR (ds es : List Dt) : Prop := ∃ (t : Swp) (b : Bool) (row made : List Int) (index : Int), WOk 7 t.w ∧ made.length = row.length ∧ 0 ≤ index ∧ index < (row.length : Int) ∧ row.length ≤ 1000 ∧ ds = [t.enc, sq b (row.map Dt.int), .tup (made.map Dt.int), .int index] ∧ es = (lvN t row made index t.w.length).map Dt.int
theorem at_natI {ns : List Int} {k : Nat} (h : k < ns.length) : atI (ns.map Dt.int) (k : Int) = some (.int (ns.getD k 0)) := at_map (at_ok (by omega) (by rw [Int.toNat_natCast]; exact getD_some h))
theorem ran_get {n k : Nat} {d : Dt} (h : (rng 0 n)[k]? = some d) : d = .int (k : Int) ∧ k < n := by
  obtain ⟨h1, h2⟩ := rng_get h
  exact ⟨by rw [h2, Int.zero_add], h1⟩
theorem F_values (T : Tp P K mg) : FnN P w K mg base 2 "_law_values" ValuesR := by
  obtain ⟨fd, F⟩ := T.at_l_values
  refine fn_new (k := 1) F T.g_l_values sc_l_values b_l_values (fun ds d ⟨_, _, _, _, _, _, _, _, _, _, e, _⟩ => by rw [e]; rfl) fun q ds d hr ⟨t, b, row, made, index, ok, hl, i0, i1, hz, e1, e2⟩ => ?_
  subst e1 e2
  have nd := sc_l_values.nd
  have wl := ok.len
  refine blk_cons (st_setN 4 nd (en_lst ea_nil (Nat.le_of_ble_eq_true rfl)) ?_)
  refine blk_mid (fun Γ' => ∃ x y, Γ' = [some (.dat t.enc), some (.dat (sq b (row.map Dt.int))), some (.dat (.tup (made.map Dt.int))), some (.dat (.int index)), some (.own ((lvN t row made index t.w.length).map Dt.int)), x, y]) ?_ ?_
  · refine st_for passesF rfl (ei_range1 T.bt.range (ea_cons (ev_lenTI T.bt (ev_ixT (ev_var 0) ev_int rfl)) ea_nil) (by omega) (by omega)) (fun k Γ' => ∃ x y, Γ' = [some (.dat t.enc), some (.dat (sq b (row.map Dt.int))), some (.dat (.tup (made.map Dt.int))), some (.dat (.int index)), some (.own ((lvN t row made index k).map Dt.int)), x, y]) ⟨none, none, rfl⟩ (fun k d Γ' hd hI => ?_) (fun Γ' hI => ?_)
    · obtain ⟨x, y, rfl⟩ := hI
      obtain ⟨rfl, hk⟩ := ran_get hd
      have hk' : k < t.w.length := by omega
      have n0 := ok.lo _ (getD_mem' (x := 0) hk')
      have n3 := ok.hi _ (getD_mem' (x := 0) hk')
      have vlen := lvN_len ok row made index k
      refine ⟨_, tg_name 5 nd, ?_⟩
      refine blk_cons (st_set 6 nd (ev_sub (ev_add (ev_var 3) (ev_var 5)) (ev_ixT (ev_var 0) ev_int rfl)) ?_)
      refine blk_one (st_if (et_lelt ev_int (ev_var 6) (ev_lenQI b T.bt (ev_var 1))) (fun hh => ?_) (fun hh => ?_))
      · have hk1 := of_decide_eq_true (Bool.and_eq_true_iff.mp hh).1
        have hk2 := of_decide_eq_true (Bool.and_eq_true_iff.mp hh).2
        refine blk_one (st_setN 4 nd (en_borrow 4 rfl (en_cat (ev_var 4) (ev_new (en_is (en_rep (ev_new (en_lst (ea_cons (ev_call (F_value T) hr (by decide) (ea_cons (ev_var 0) (ea_cons (ev_var 1) (ea_cons (ev_var 2) (ea_cons (ev_var 6) (ea_cons (ev_var 3) ea_nil))))) ⟨t, b, row, made, _, index, hl, hk1, hk2, rfl, rfl⟩) ea_nil) (Nat.le_of_ble_eq_true rfl))) (ev_intI T.bt (ev_ixT (ev_ixT (ev_var 0) ev_int rfl) (ev_var 5) (at_natI hk'))) (by omega) (by omega) (by show 1 * _ ≤ 100000; omega)) (rep1 _ _))) (by rw [List.length_map, List.length_map, List.length_replicate]; omega)) ?_) ?_)
        · rw [← List.map_append]
          exact flat_ints
        · refine ⟨some (.dat (.int (k : Int))), some (.dat (.int (index + (k : Int) - t.mine))), ?_⟩
          rw [show lvN t row made index (k + 1) = lvN t row made index k ++ ctl t row made index k from rfl, List.map_append]
          rw [show ctl t row made index k = List.replicate (t.w.getD k 0).toNat (vl t row made index (index + (k : Int) - t.mine)) from if_pos ⟨hk1, hk2⟩]
          rfl
      · have nk : ¬ (0 ≤ index + (k : Int) - t.mine ∧ index + (k : Int) - t.mine < (row.length : Int)) := fun z => by
          rw [decide_eq_true z.1, decide_eq_true z.2] at hh
          cases hh
        refine blk_one (st_if (et_eqS (ev_ixT (ev_var 0) ev_int rfl) ev_str) (fun hw => ?_) (fun hw => ?_))
        · have hw1 := of_decide_eq_true hw
          have hr0 : 0 < row.length := by omega
          refine blk_one (st_setN 4 nd (en_borrow 4 rfl (en_cat (ev_var 4) (ev_new (en_is (en_rep (ev_new (en_lst (ea_cons (ev_ifexp (d := .int (if index + (k : Int) - t.mine < 0 then row.getD 0 0 else row.getD (row.length - 1) 0)) (et_lt (ev_var 6) ev_int) (fun hc => ev_is (ev_ixQ b (ev_var 1) ev_int (at_int (by decide) (by omega))) (by rw [if_pos (of_decide_eq_true hc)]; rfl)) (fun hc => ev_is (ev_ixQ b (ev_var 1) (ev_neg ev_int) (at_lastI hr0)) (by rw [if_neg (of_decide_eq_false hc)]))) ea_nil) (Nat.le_of_ble_eq_true rfl))) (ev_intI T.bt (ev_ixT (ev_ixT (ev_var 0) ev_int rfl) (ev_var 5) (at_natI hk'))) (by omega) (by omega) (by show 1 * _ ≤ 100000; omega)) (rep1 _ _))) (by rw [List.length_map, List.length_map, List.length_replicate]; omega)) ?_) ?_)
          · rw [← List.map_append]
            exact flat_ints
          · refine ⟨some (.dat (.int (k : Int))), some (.dat (.int (index + (k : Int) - t.mine))), ?_⟩
            rw [show lvN t row made index (k + 1) = lvN t row made index k ++ ctl t row made index k from rfl, List.map_append]
            rw [show ctl t row made index k = List.replicate (t.w.getD k 0).toNat (if index + (k : Int) - t.mine < 0 then row.getD 0 0 else row.getD (row.length - 1) 0) by unfold ctl; rw [if_neg nk, if_pos hw1]]
            rfl
        · have hw1 := of_decide_eq_false hw
          refine blk_nil ⟨some (.dat (.int (k : Int))), some (.dat (.int (index + (k : Int) - t.mine))), ?_⟩
          rw [show lvN t row made index (k + 1) = lvN t row made index k ++ ctl t row made index k from rfl]
          rw [show ctl t row made index k = [] by unfold ctl; rw [if_neg nk, if_neg hw1], List.append_nil]
          rfl
    · rw [rng_len, Int.toNat_natCast] at hI
      exact hI
  · rintro Γ' ⟨x, y, rfl⟩
    exact blk_one (st_rown 4 rfl rfl)
def LSweptR (ds : List Dt) (d : Dt) : Prop := ∃ (t : Swp) (b : Bool) (row made : List Int), WOk 7 t.w ∧ row.length ≤ 1000 ∧ Good t row made ∧ ds = [t.enc, sq b (row.map Dt.int), .tup (made.map Dt.int)] ∧ d = .bl true
theorem kit_tup {ds : List Dt} : kitB (Dt.tup ds).tyn "tuple" = some true := (by decide +kernel : kitB "tuple" "tuple" = some true)
theorem map_ints {f : Int → Int} (vs : List Int) : vs.map (fun v => Dt.int (f v)) = (vs.map f).map Dt.int := by
  rw [List.map_map]
  rfl
theorem F_lswept (T : Tp P K mg) : Fn P w K mg base 3 "_law_swept" LSweptR := by
  obtain ⟨fd, F⟩ := T.at_l_swept
  refine fn_pure (k := 2) F T.g_l_swept sc_l_swept b_l_swept (fun ds d ⟨_, _, _, _, _, _, _, e, _⟩ => by rw [e]; rfl) fun q ds d hr ⟨t, b, row, made, ok, hz, gd, e1, e2⟩ => ?_
  subst e1 e2
  have nd := sc_l_swept.nd
  have wl := ok.len
  have hl := gd.len
  refine blk_cons (st_if (k := false) (et_is (et_w (ew_or (et_not (et_val (ev_isi (T' := "tuple") T.bt (ev_var 2) rfl T.bt.tuple (by decide +kernel) kit_tup))) (fun hc => ew_or1 (et_neI (ev_lenTI T.bt (ev_var 2)) (ev_lenQI b T.bt (ev_var 1)))))) (by rw [decide_eq_true (show (made.length : Int) = (row.length : Int) by omega)]; rfl)) (fun z => by cases z) fun _ => blk_nil ?_)
  refine blk_mid (fun Γ' => ∃ x y, Γ' = [some (.dat t.enc), some (.dat (sq b (row.map Dt.int))), some (.dat (.tup (made.map Dt.int))), x, y, none, none, none, none]) ?_ ?_
  · refine st_for passesF rfl (ei_range1 T.bt.range (ea_cons (ev_lenQI b T.bt (ev_var 1)) ea_nil) (by omega) (by omega)) (fun k Γ' => ∃ x y, Γ' = [some (.dat t.enc), some (.dat (sq b (row.map Dt.int))), some (.dat (.tup (made.map Dt.int))), x, y, none, none, none, none]) ⟨none, none, rfl⟩ (fun k d Γ' hd hI => ?_) (fun Γ' hI => hI)
    obtain ⟨x, y, rfl⟩ := hI
    obtain ⟨rfl, hk⟩ := ran_get hd
    refine ⟨_, tg_name 3 nd, ?_⟩
    refine blk_cons (st_set 4 nd (ev_ixT (ev_var 2) (ev_var 3) (at_natI (by omega))) ?_)
    exact blk_one (st_if (k := false) (et_is (et_w (ew_or (et_not (et_val (ev_isi (T' := "int") T.bt (ev_var 4) rfl T.bt.int (by decide +kernel) (kit_int rfl)))) (fun hc => ew_or1 (et_val (ev_isi (T' := "bool") T.bt (ev_var 4) rfl T.bt.bool (by decide +kernel) (kit_bool rfl)))))) rfl) (fun z => by cases z) fun _ => blk_nil ⟨_, _, rfl⟩)
  · rintro Γ' ⟨x, y, rfl⟩
    refine blk_mid (fun Γ' => ∃ x y z u v, Γ' = [some (.dat t.enc), some (.dat (sq b (row.map Dt.int))), some (.dat (.tup (made.map Dt.int))), x, y, z, u, v, none]) ?_ ?_
    · refine st_for passesF rfl (ei_range1 T.bt.range (ea_cons (ev_lenQI b T.bt (ev_var 1)) ea_nil) (by omega) (by omega)) (fun k Γ' => ∃ x y z u v, Γ' = [some (.dat t.enc), some (.dat (sq b (row.map Dt.int))), some (.dat (.tup (made.map Dt.int))), x, y, z, u, v, none]) ⟨_, _, _, _, _, rfl⟩ (fun k d Γ' hd hI => ?_) (fun Γ' hI => hI)
      obtain ⟨x, y, z, u, v, rfl⟩ := hI
      obtain ⟨rfl, hk⟩ := ran_get hd
      have hk' : k < row.length := by omega
      have hkm : k < made.length := by omega
      have vlen := lvN_len ok row made (k : Int) t.w.length
      refine ⟨_, tg_name 3 nd, ?_⟩
      refine blk_cons (st_setN 5 nd (en_call (F_values T) hr (by decide) (ea_cons (ev_var 0) (ea_cons (ev_var 1) (ea_cons (ev_var 2) (ea_cons (ev_var 3) ea_nil)))) ⟨t, b, row, made, (k : Int), ok, hl, by omega, by omega, hz, rfl, rfl⟩) ?_)
      refine blk_freeze 5 rfl ?_
      refine blk_cons (st_set 6 nd (d := .int (cLt (made.getD k 0) (lvN t row made (k : Int) t.w.length))) (ev_sumL T.bt rfl (ev_new (en_is (en_lcI (i := 8) (fun v => .int (if decide (v < made.getD k 0) = true then 1 else 0)) rfl nd (ei_lst (ev_var 5)) (by omega) rfl (fun d _ q => ev_intB T.bt (ev_lt (ev_var 8) (ev_ixT (ev_var 2) (ev_var 3) (at_natI hkm))))) (map_ints (f := fun v => if decide (v < made.getD k 0) = true then 1 else 0) _)))) ?_)
      refine blk_cons (st_set 7 nd (d := .int (cLe (made.getD k 0) (lvN t row made (k : Int) t.w.length))) (ev_sumL T.bt rfl (ev_new (en_is (en_lcI (i := 8) (fun v => .int (if decide (v ≤ made.getD k 0) = true then 1 else 0)) rfl nd (ei_lst (ev_var 5)) (by omega) rfl (fun d _ q => ev_intB T.bt (ev_le (ev_var 8) (ev_ixT (ev_var 2) (ev_var 3) (at_natI hkm))))) (map_ints (f := fun v => if decide (v ≤ made.getD k 0) = true then 1 else 0) _)))) ?_)
      refine blk_one (st_if (et_eqI (ev_lenLI T.bt (ev_var 5)) ev_int) (fun hh => ?_) (fun hh => ?_))
      · have h0 := of_decide_eq_true hh
        have he : lvN t row made (k : Int) t.w.length = [] := List.length_eq_zero_iff.mp (by omega)
        have hn := gd.no k hk' he
        refine blk_one (st_if (k := false) (et_is (et_neI (ev_ixT (ev_var 2) (ev_var 3) (at_natI hkm)) (ev_ixQ b (ev_var 1) (ev_var 3) (at_natI hk'))) (by rw [decide_eq_true hn]; rfl)) (fun z => by cases z) fun _ => blk_nil ⟨_, _, _, _, _, rfl⟩)
      · have h0 := of_decide_eq_false hh
        have he : lvN t row made (k : Int) t.w.length ≠ [] := fun z => h0 (by rw [z]; rfl)
        obtain ⟨y1, y2⟩ := gd.yes k hk' he
        refine blk_one (st_if (k := false) (et_is (et_not (et_ltle (ev_var 6) (ev_min2 T.bt rfl (ev_intI T.bt (ev_ixT (ev_var 0) ev_int rfl)) (ev_lenLI T.bt (ev_var 5))) (ev_var 7))) (by rw [decide_eq_true y1, decide_eq_true y2]; rfl)) (fun z => by cases z) fun _ => blk_nil ⟨_, _, _, _, _, rfl⟩)
    · rintro Γ' ⟨x, y, z, u, v, rfl⟩
      exact blk_one (st_ret ev_bl rfl)
end
end LW
set_option Elab.async false
set_option linter.all false
set_option maxRecDepth 100000
set_option maxHeartbeats 4000000
namespace LW
open PySem PySem.Spec PyProof.Rows L2 G
/-! ### what a sweep makes answers as the law asks -/
/-- when cell j is written -/
def posn (t : Swo) (n j : Nat) : Nat := if t.way = "back" then n - 1 - j else j
theorem ran_getI {n p : Nat} (h : p < n) : (ran 0 n)[p]? = some (p : Int) := by
  unfold ran
  rw [List.getElem?_map, List.getElem?_range h]
  show some ((0 : Int) + (p : Nat)) = _
  rw [Int.zero_add]
theorem ordr_get {t : Swo} {n p : Nat} (h : p < n) : ∃ j, j < n ∧ (ordr t n)[p]? = some (j : Int) ∧ posn t n j = p := by
  unfold ordr posn
  split
  · refine ⟨n - 1 - p, by omega, ?_, by omega⟩
    rw [List.getElem?_reverse (by rw [ran_len]; exact h), ran_len]
    exact ran_getI (by omega)
  · exact ⟨p, h, ran_getI h, rfl⟩
theorem posn_inj {t : Swo} {n i j : Nat} (hi : i < n) (hj : j < n) (h : posn t n i = posn t n j) : i = j := by
  unfold posn at h
  split at h <;> omega
theorem posn_lt {t : Swo} {n j : Nat} (hj : j < n) : posn t n j < n := by
  unfold posn
  split <;> omega
theorem getD_set_self {l : List Int} {i : Nat} {v : Int} (h : i < l.length) : (l.set i v).getD i 0 = v := by
  rw [List.getD_eq_getElem?_getD, List.getElem?_set_self h]
  rfl
theorem getD_set_ne {l : List Int} {i j : Nat} {v : Int} (h : i ≠ j) : (l.set i v).getD j 0 = l.getD j 0 := by
  rw [List.getD_eq_getElem?_getD, List.getElem?_set_ne h, List.getD_eq_getElem?_getD]
theorem swN_get (t : Swo) (row : List Int) (j : Nat) (hj : j < row.length) : ∀ k, k ≤ row.length → (swN t row k).getD j 0 = if posn t row.length j < k then pick t row (swN t row (posn t row.length j)) (j : Int) else row.getD j 0
  | 0, _ => by
    rw [if_neg (Nat.not_lt_zero _)]
    rfl
  | k + 1, hk => by
    have ih := swN_get t row j hj k (by omega)
    obtain ⟨i, hi, ho, hp⟩ := ordr_get (t := t) (show k < row.length by omega)
    rw [swN_succ ho, Int.toNat_natCast]
    by_cases e : i = j
    · subst e
      rw [getD_set_self (by rw [swN_len]; exact hi), hp, if_pos (Nat.lt_succ_self _)]
    · rw [getD_set_ne e, ih]
      have : posn t row.length j ≠ k := fun z => e (posn_inj hi hj (hp.trans z.symm))
      by_cases q : posn t row.length j < k
      · rw [if_pos q, if_pos (by omega)]
      · rw [if_neg q, if_neg (by omega)]
theorem swL_get (t : Swo) (row : List Int) (j : Nat) (hj : j < row.length) : (swL t row).getD j 0 = pick t row (swN t row (posn t row.length j)) (j : Int) := by
  unfold swL
  rw [swN_get t row j hj row.length (Nat.le_refl _), if_pos (posn_lt hj)]
theorem swN_fin (t : Swo) (row : List Int) (j : Nat) (hj : j < row.length) (k : Nat) (hk : k ≤ row.length) : (swN t row k).getD j 0 = if posn t row.length j < k then (swL t row).getD j 0 else row.getD j 0 := by
  rw [swN_get t row j hj k hk, swL_get t row j hj]
section
variable {t : Swp} (h : t.Ok 7 wWays) (row : List Int)
abbrev sO (t : Swp) : Swo := mkS t.w t.rank t.mine t.bound t.way
theorem cell_eq (h : t.Ok 7 wWays) {i : Nat} (hi : i < row.length) {a : Int} (a0 : 0 ≤ a) (a1 : a < (row.length : Int)) : (if (sO t).way = "all" then row.getD a.toNat 0 else (swN (sO t) row (posn (sO t) row.length i)).getD a.toNat 0) = vl t row (swL (sO t) row) (i : Int) a := by
  have hw : t.way = "all" ∨ t.way = "on" ∨ t.way = "back" := by
    have := h.way
    simp only [List.mem_cons, List.not_mem_nil, or_false] at this
    exact this
  have ew : (sO t).way = t.way := rfl
  have hj : a.toNat < row.length := by omega
  have fin := swN_fin (sO t) row a.toNat hj (posn (sO t) row.length i) (Nat.le_of_lt (posn_lt hi))
  rw [ew]
  unfold vl
  rcases hw with e | e | e
  · rw [if_pos e, if_neg]
    rw [e]
    rintro (⟨z, _⟩ | ⟨z, _⟩) <;> exact absurd z (by decide)
  · have n1 : ¬ t.way = "all" := by rw [e]; decide
    have n2 : ¬ t.way = "back" := by rw [e]; decide
    rw [if_neg n1, fin]
    have p1 : posn (sO t) row.length a.toNat = a.toNat := if_neg n2
    have p2 : posn (sO t) row.length i = i := if_neg n2
    rw [p1, p2]
    by_cases q : a.toNat < i
    · rw [if_pos q, if_pos (.inl ⟨e, by omega⟩)]
    · rw [if_neg q, if_neg]
      rintro (⟨_, z⟩ | ⟨z, _⟩)
      · omega
      · exact n2 z
  · have n1 : ¬ t.way = "all" := by rw [e]; decide
    have n2 : ¬ t.way = "on" := by rw [e]; decide
    rw [if_neg n1, fin]
    have p1 : posn (sO t) row.length a.toNat = row.length - 1 - a.toNat := if_pos e
    have p2 : posn (sO t) row.length i = row.length - 1 - i := if_pos e
    rw [p1, p2]
    by_cases q : (i : Int) < a
    · rw [if_pos (by omega), if_pos (.inr ⟨e, q⟩)]
    · rw [if_neg (by omega), if_neg]
      rintro (⟨z, _⟩ | ⟨_, z⟩)
      · exact n2 z
      · exact q z
theorem ctr_eq (h : t.Ok 7 wWays) {i : Nat} (hi : i < row.length) (k : Nat) : ctr (sO t) row (swN (sO t) row (posn (sO t) row.length i)) (i : Int) k = ctl t row (swL (sO t) row) (i : Int) k := by
  unfold ctr ctl
  have e1 : (sO t).own = t.mine := rfl
  have e2 : (sO t).ends = t.bound := rfl
  have e3 : (sO t).w = t.w := rfl
  rw [e1, e2, e3]
  by_cases q : 0 ≤ (i : Int) + (k : Int) - t.mine ∧ (i : Int) + (k : Int) - t.mine < (row.length : Int)
  · rw [if_pos q, if_pos q, cell_eq row h hi q.1 q.2]
  · rw [if_neg q, if_neg q]
theorem vals_eq (h : t.Ok 7 wWays) {i : Nat} (hi : i < row.length) : ∀ k, valsN (sO t) row (swN (sO t) row (posn (sO t) row.length i)) (i : Int) k = lvN t row (swL (sO t) row) (i : Int) k
  | 0 => rfl
  | k + 1 => by
    show valsN (sO t) row (swN (sO t) row (posn (sO t) row.length i)) (i : Int) k ++ ctr (sO t) row (swN (sO t) row (posn (sO t) row.length i)) (i : Int) k = _
    rw [vals_eq h hi k, ctr_eq row h hi k]
    rfl
end
/-! counting -/
theorem perm_sum {f : Int → Int} {l m : List Int} (h : l.Perm m) : (l.map f).sum = (m.map f).sum := by
  induction h with
  | nil => rfl
  | cons x _ ih =>
    rw [List.map_cons, List.map_cons, List.sum_cons, List.sum_cons, ih]
  | swap x y l =>
    rw [List.map_cons, List.map_cons, List.map_cons, List.map_cons, List.sum_cons, List.sum_cons, List.sum_cons, List.sum_cons]
    omega
  | trans _ _ h1 h2 => rw [h1, h2]
theorem cLt_cons (x y : Int) (l : List Int) : cLt x (y :: l) = (if y < x then 1 else 0) + cLt x l := by
  unfold cLt
  rw [List.map_cons, List.sum_cons]
  simp only [decide_eq_true_eq]
theorem cLe_cons (x y : Int) (l : List Int) : cLe x (y :: l) = (if y ≤ x then 1 else 0) + cLe x l := by
  unfold cLe
  rw [List.map_cons, List.sum_cons]
  simp only [decide_eq_true_eq]
theorem cLe_nn (x : Int) : ∀ l : List Int, 0 ≤ cLe x l
  | [] => Int.le_refl 0
  | y :: l => by
    rw [cLe_cons]
    have := cLe_nn x l
    split <;> omega
theorem cLt_zero {x : Int} : ∀ {l : List Int}, (∀ v ∈ l, x ≤ v) → cLt x l = 0
  | [], _ => rfl
  | y :: l, h => by
    have h1 := h y List.mem_cons_self
    rw [cLt_cons, cLt_zero fun v hv => h v (List.mem_cons_of_mem _ hv), if_neg (by omega)]
    rfl
theorem rank_sorted : ∀ (s : List Int) (q : Nat), s.Pairwise (· ≤ ·) → q < s.length → cLt (s.getD q 0) s ≤ (q : Int) ∧ (q : Int) + 1 ≤ cLe (s.getD q 0) s
  | [], q, _, h => absurd h (Nat.not_lt_zero _)
  | y :: r, 0, hp, _ => by
    have hp' := List.pairwise_cons.mp hp
    show cLt y (y :: r) ≤ 0 ∧ (0 : Int) + 1 ≤ cLe y (y :: r)
    rw [cLt_cons, cLe_cons, cLt_zero hp'.1, if_neg (by omega), if_pos (Int.le_refl _)]
    have := cLe_nn y r
    omega
  | y :: r, q + 1, hp, h => by
    have hp' := List.pairwise_cons.mp hp
    have hq : q < r.length := by
      rw [List.length_cons] at h
      omega
    have ih := rank_sorted r q hp'.2 hq
    have e : (y :: r).getD (q + 1) 0 = r.getD q 0 := rfl
    rw [e, cLt_cons, cLe_cons]
    have hy := hp'.1 _ (getD_mem' (x := 0) hq)
    rw [if_pos hy]
    constructor
    · split <;> omega
    · omega
theorem good_swL {t : Swp} (h : t.Ok 7 wWays) (row : List Int) : Good t row (swL (mkS t.w t.rank t.mine t.bound t.way) row) := by
  have key : ∀ i : Nat, i < row.length → (swL (sO t) row).getD i 0 = if (lvN t row (swL (sO t) row) (i : Int) t.w.length).isEmpty then row.getD i 0 else
      (srt (lvN t row (swL (sO t) row) (i : Int) t.w.length)).getD ((if ((srt (lvN t row (swL (sO t) row) (i : Int) t.w.length)).length : Int) < t.rank then ((srt (lvN t row (swL (sO t) row) (i : Int) t.w.length)).length : Int) else t.rank) - 1).toNat 0 := fun i hi => by
    have e := vals_eq row h hi t.w.length
    rw [swL_get (sO t) row i hi]
    unfold pick
    rw [show (sO t).w.length = t.w.length from rfl, e, Int.toNat_natCast]
    rfl
  refine ⟨swN_len _ _ _, fun i hi he => ?_, fun i hi he => ?_⟩
  · have k := key i hi
    rw [he] at k
    exact k
  · have k := key i hi
    have hn : ¬ ((lvN t row (swL (sO t) row) (i : Int) t.w.length).isEmpty = true) := fun z => he (List.isEmpty_iff.mp z)
    rw [if_neg hn, srt_length] at k
    have hp : 0 < (lvN t row (swL (sO t) row) (i : Int) t.w.length).length := List.length_pos_iff.mpr he
    have r0 := h.r0
    show cLt ((swL (sO t) row).getD i 0) _ < _ ∧ _ ≤ cLe ((swL (sO t) row).getD i 0) _
    generalize hv : lvN t row (swL (sO t) row) (i : Int) t.w.length = vs at k hp
    have hm : ∃ m : Nat, (if ((vs.length : Nat) : Int) < t.rank then ((vs.length : Nat) : Int) else t.rank) = (m : Int) + 1 ∧ m < vs.length := by
      split
      · exact ⟨vs.length - 1, by omega, by omega⟩
      · exact ⟨(t.rank - 1).toNat, by omega, by omega⟩
    obtain ⟨m, e1, e2⟩ := hm
    rw [e1] at k ⊢
    rw [show ((m : Int) + 1 - 1).toNat = m by omega] at k
    rw [k]
    have rs := rank_sorted (srt vs) m (srt_sorted vs) (by rw [srt_length]; exact e2)
    have p1 : cLt ((srt vs).getD m 0) vs = cLt ((srt vs).getD m 0) (srt vs) := perm_sum (srt_perm vs).symm
    have p2 : cLe ((srt vs).getD m 0) vs = cLe ((srt vs).getD m 0) (srt vs) := perm_sum (srt_perm vs).symm
    rw [p1, p2]
    omega
end LW

set_option Elab.async false
set_option linter.all false
set_option maxRecDepth 100000
set_option maxHeartbeats 4000000

namespace LW
open PySem PySem.Spec PyProof.Rows L2 G
/-- the tree that the law asks of -/
def mend (t : Swp) : Swp := if (t.way = "on" ∧ t.mine - (usd t.w).getD 0 0 > 3) ∨ (t.way = "back" ∧ (usd t.w).getD ((usd t.w).length - 1) 0 - t.mine > 3) then ⟨t.w, t.rank, t.mine, t.bound, "all"⟩ else t
theorem mend_ok {t : Swp} (h : t.Ok 7 wWays) : (mend t).Ok 7 wWays ∧ ArgOk (mend t).w (mend t).rank (mend t).mine (mend t).bound (mend t).way := by
  unfold mend
  split
  · refine ⟨⟨h.w, h.sum, h.r0, h.r1, h.m0, h.m1, h.b, List.mem_cons_self⟩, ⟨h.w, h.sum, h.r0, h.r1, h.m0, h.m1, h.b, List.mem_cons_self, ?_⟩⟩
    show wrt t.w t.mine "all" ≤ 3
    unfold wrt
    rw [if_neg (by decide), if_neg (by decide)]
    decide
  · rename_i hn
    refine ⟨h, ⟨h.w, h.sum, h.r0, h.r1, h.m0, h.m1, h.b, h.way, ?_⟩⟩
    unfold wrt
    split
    · rename_i h1
      have : ¬ t.mine - (usd t.w).getD 0 0 > 3 := fun z => hn (.inl ⟨h1, z⟩)
      unfold rL mx0
      split <;> omega
    · split
      · rename_i h1
        have : ¬ (usd t.w).getD ((usd t.w).length - 1) 0 - t.mine > 3 := fun z => hn (.inr ⟨h1, z⟩)
        unfold rR mx0
        split <;> omega
      · decide
theorem usd_ran (ws : List Int) : (ran 0 ws.length).filter (fun k => decide (0 < ws.getD k.toNat 0)) = usd ws := by
  have e : ws.zipIdx = (List.range ws.length).map fun i => (ws.getD i 0, i) := by
    apply List.ext_getElem?
    intro i
    rw [List.getElem?_zipIdx, List.getElem?_map]
    rcases Nat.lt_or_ge i ws.length with q | q
    · rw [List.getElem?_eq_getElem q, List.getElem?_range q]
      simp [List.getD_eq_getElem?_getD, List.getElem?_eq_getElem q]
    · rw [List.getElem?_eq_none q, List.getElem?_eq_none (by rw [List.length_range]; exact q)]
      rfl
  unfold usd ran
  rw [e, List.filter_map, List.filter_map, List.map_map]
  have e2 : ((fun k : Int => decide (0 < ws.getD k.toNat 0)) ∘ fun k : Nat => (0 : Int) + (k : Nat)) = ((fun q : Int × Nat => decide (0 < q.1)) ∘ fun i : Nat => (ws.getD i 0, i)) := by
    funext k
    show decide (0 < ws.getD ((0 : Int) + (k : Nat)).toNat 0) = decide (0 < ws.getD k 0)
    rw [show ((0 : Int) + (k : Nat)).toNat = k by omega]
  rw [e2]
  apply List.map_congr_left
  intro k _
  show (0 : Int) + (k : Nat) = ((k : Nat) : Int)
  omega
section
variable {P : Program} {w : World} {K : PySem.W.Frag} {mg : Str → Option Value} {base : Heap}
def LawR (ds : List Dt) (d : Dt) : Prop := ∃ ns : List Int, ds = [.scr ns] ∧ d = .bl true
theorem eqD_tup (ns : List Int) : eqD (.tup (ns.map Dt.int)) (.tup (ns.map Dt.int)) = true := by
  show PyData.eqvAll (pyL (ns.map Dt.int)) (pyL (ns.map Dt.int)) = true
  rw [eqv_ints]
  exact decide_eq_true rfl
theorem eqD_lst (ns : List Int) : eqD (.lst (ns.map Dt.int)) (.lst (ns.map Dt.int)) = true := by
  show PyData.eqvAll (pyL (ns.map Dt.int)) (pyL (ns.map Dt.int)) = true
  rw [eqv_ints]
  exact decide_eq_true rfl
theorem pl_l (ns : List Int) : (Dt.lst (ns.map Dt.int)).pl = true := pl_ints ns
theorem pl_t (ns : List Int) : (Dt.tup (ns.map Dt.int)).pl = true := pl_ints ns
theorem dp_tup {ns : List Int} : (Dt.tup (ns.map Dt.int)).py.depth ≤ 64 := by
  have := depth_ints ns
  show PyData.depthAll (pyL (ns.map Dt.int)) + 1 ≤ 64
  omega
theorem swo_nol (t : Swo) : NoL (t.obj K) := by
  refine .obj fun q hq => ?_
  unfold Swo.fs at hq
  simp only [List.mem_cons, List.not_mem_nil, or_false] at hq
  rcases hq with rfl | rfl | rfl | rfl | rfl | rfl | rfl | rfl | rfl | rfl | rfl | rfl | rfl
  · exact .tup nol_ints
  · exact .int _
  · exact .int _
  · exact .str _
  · exact .str _
  · exact .str _
  · exact .tup fun d hd => by cases hd
  · exact .int _
  · exact .int _
  · exact .int _
  · refine .tup fun d hd => ?_
    simp only [List.mem_cons, List.not_mem_nil, or_false] at hd
    rcases hd with rfl | rfl
    · exact .int _
    · exact .int _
  · exact .int _
  · exact .str _
theorem lawR_ok {ns : List Int} (h : ns.length ≤ 63) : LawR [.scr ns] (.bl true) := ⟨ns, rfl, rfl⟩
theorem F_law (T : Tp P K mg) (hP : (P.main.scope.names.lookup ("super" : Str)).isSome = false) {fd : FuncData} (F : FunD K "law" "law" (defArgs s_law) (defBody s_law) (defScope s_law) [] [] (He.ga K "law") fd) : FnOk P w K mg base (L2.CX P w) 7 (He.ga K "law") fd P_law (spF K LawR) := by
  refine fn_ok (k := 6) F sc_law (fun ds d ⟨_, e, _⟩ => by rw [e]; rfl) fun q ds d hr ⟨ns, e1, e2⟩ => ?_
  subst e1 e2
  have nd := sc_law.nd
  obtain ⟨fdS, FS, mvS, bS⟩ := F_Sweep_init (w := w) (base := base) T hP
  have ok0 : (Pl.mk (ns.take 63) 0 0 0).Ok := ⟨Int.le_refl 0, Int.le_refl 0, Int.le_refl 0, by show (ns.take 63).length ≤ 63; rw [List.length_take]; omega⟩
  generalize hs0 : Pl.mk (ns.take 63) 0 0 0 = s0 at ok0
  have m3 : (0 : Nat) < wWays.length := by decide
  have ok1 := ok0.swp (most := 7) (menu := wWays) (by decide) m3
  have tk0 := swp_ok s0 (most := 7) (menu := wWays) (by decide) m3
  refine blk_cons (st_setN 1 nd (en_call (F_pool T) hr (by decide) (ea_cons (ev_var 0) ea_nil) ⟨ns, rfl, rfl⟩) ?_)
  rw [hs0]
  refine blk_cons (st_set 2 nd (ev_tup (ea_cons ev_str (ea_cons ev_str (ea_cons ev_str ea_nil))) (Nat.le_of_ble_eq_true rfl)) ?_)
  refine blk_cons (st_setF 3 nd (ef_callP (i := 1) (F_sweep T) hr (by decide) (efa_cons (ef_ev ev_int) (efa_cons (ef_ev (ev_var 2)) efa_nil)) rfl ⟨_, _, rfl⟩ ⟨s0, 7, wWays, ok0, by decide, by decide, by decide, by decide, rfl, rfl, rfl, rfl⟩) ?_)
  generalize ht0 : (s0.swp 7 wWays).2 = t0 at tk0
  generalize hs1 : (s0.swp 7 wWays).1 = s1 at ok1
  have wl := tk0.w.len
  have wp := tk0.w.pos
  have up := usd_pos tk0.sum tk0.w.lo
  refine blk_cons (st_lcIf (i0 := 4) (i := 11) (fun k => decide (0 < t0.w.getD k.toNat 0)) (fun k => .int k) rfl nd (ei_is (ei_range1 T.bt.range (ea_cons (ev_lenTI T.bt (ev_ixT (ev_var 3) ev_int rfl)) ea_nil) (by omega) (by omega)) (rng_ran _ _)) (by rw [ran_len]; omega) rfl (fun k hk q => ?_) (fun k hk _ q => ev_var 11) ?_)
  · have := ran_mem hk
    exact et_gt (ev_ixT (ev_ixT (ev_var 3) ev_int rfl) (ev_var 11) (at_int (by omega) (by omega))) ev_int
  rw [Int.toNat_natCast, usd_ran]
  obtain ⟨tk, ak⟩ := mend_ok tk0
  refine blk_mid (fun Γ' => Γ' = [some (.dat (.scr ns)), some (.own s1.enc), some (.dat (.tup (wWays.map Dt.str))), some (.dat (mend t0).enc), some (.own ((usd t0.w).map Dt.int)), none, none, none, none, none, none, none]) ?_ ?_
  · refine st_if (k := decide ((t0.way = "on" ∧ t0.mine - (usd t0.w).getD 0 0 > 3) ∨ (t0.way = "back" ∧ (usd t0.w).getD ((usd t0.w).length - 1) 0 - t0.mine > 3))) (et_is (et_w (ew_or (et_w (ew_and (et_eqS (ev_ixT (ev_var 3) ev_int rfl) ev_str) (fun hc => ew_and1 (et_gt (ev_sub (ev_ixT (ev_var 3) ev_int rfl) (ev_ixO 4 rfl ev_int (at_int (by decide) (by omega)))) ev_int)))) (fun hc => ew_or1 (et_w (ew_and (et_eqS (ev_ixT (ev_var 3) ev_int rfl) ev_str) (fun hc => ew_and1 (et_gt (ev_sub (ev_ixO 4 rfl (ev_neg ev_int) (at_lastI up)) (ev_ixT (ev_var 3) ev_int rfl)) ev_int))))))) ?_) (fun hk => ?_) (fun hk => ?_)
    · simp only [Bool.decide_or, Bool.decide_and, gt_iff_lt]
      rfl
    · refine blk_one (st_set 3 nd (ev_tup (ea_cons ev_str (ea_cons (ev_ixT (ev_var 3) ev_int rfl) (ea_cons (ev_ixT (ev_var 3) ev_int rfl) (ea_cons (ev_ixT (ev_var 3) ev_int rfl) (ea_cons (ev_ixT (ev_var 3) ev_int rfl) (ea_cons ev_str ea_nil)))))) (Nat.le_of_ble_eq_true rfl)) ?_)
      rw [show mend t0 = _ from if_pos (of_decide_eq_true hk)]
      rfl
    · refine blk_nil ?_
      rw [show mend t0 = _ from if_neg (of_decide_eq_false hk)]
      rfl
  rintro Γ' rfl
  generalize mend t0 = t at tk ak
  have d30 := Pl.draw_b s1 (l := 30) (by decide)
  have ok2 := ok1.next (l := 30) (by decide)
  have ok3 := ok2.next (l := 8) (by decide)
  have d51 := Pl.draw_b ((s1.draw 30).1.draw 8).1 (l := 51) (by decide)
  have ok4 := ok3.next (l := 51) (by decide)
  refine blk_drop 4 ?_
  refine blk_cons (st_setF 5 nd (ef_add (ef_ev ev_int) (ef_callP (i := 1) (F_draw T) hr (by decide) (efa_cons (ef_ev ev_int) efa_nil) rfl ⟨_, _, rfl⟩ ⟨s1, 30, ok1, by decide, by decide, rfl, rfl, rfl, rfl⟩)) ?_)
  refine blk_mid (fun Γ' => ∃ (s2 : Pl) (size : Int), s2.Ok ∧ 1 ≤ size ∧ size ≤ 200 ∧ Γ' = [some (.dat (.scr ns)), some (.own s2.enc), some (.dat (.tup (wWays.map Dt.str))), some (.dat t.enc), none, some (.dat (.int size)), none, none, none, none, none, none]) ?_ ?_
  · refine st_ifF (k := decide (((s1.draw 30).1.draw 8).2 = 3)) (eft_eqI (ef_callP (i := 1) (F_draw T) hr (by decide) (efa_cons (ef_ev ev_int) efa_nil) rfl ⟨_, _, rfl⟩ ⟨(s1.draw 30).1, 8, ok2, by decide, by decide, rfl, rfl, rfl, rfl⟩) (ef_ev ev_int)) (fun hk => ?_) (fun hk => ?_)
    · refine blk_one (st_setF 5 nd (ef_add (ef_ev ev_int) (ef_callP (i := 1) (F_draw T) hr (by decide) (efa_cons (ef_ev ev_int) efa_nil) rfl ⟨_, _, rfl⟩ ⟨((s1.draw 30).1.draw 8).1, 51, ok3, by decide, by decide, rfl, rfl, rfl, rfl⟩)) ?_)
      exact ⟨_, _, ok4, by omega, by omega, rfl⟩
    · exact blk_nil ⟨_, _, ok3, by omega, by omega, rfl⟩
  rintro Γ' ⟨s2, size, ok5, z1, z2, rfl⟩
  refine blk_cons (st_setF 6 nd (ef_callP (i := 1) (F_row T) hr (by decide) (efa_cons (ef_ev (ev_var 5)) efa_nil) rfl ⟨_, _, rfl⟩ ⟨s2, size, ok5, by omega, by omega, rfl, rfl, rfl, rfl⟩) ?_)
  have rl := Pl.row_len s2 size
  generalize hrow : (s2.row size).2 = row at rl
  have rl1 : 1 ≤ row.length := by omega
  have rl2 : row.length ≤ 200 := by omega
  have twl := tk.w.len
  have twp := tk.w.pos
  refine blk_cons (st_setN 7 nd (en_listT T.bt.list (ea_cons (ev_ixT (ev_var 3) ev_int rfl) ea_nil)) ?_)
  have aok : (mkS t.w t.rank t.mine t.bound t.way).Ok := ⟨ak.w, ak.r0, ak.m0, ak.m1⟩
  refine blk_cons (st_set 8 nd (d := (mkS t.w t.rank t.mine t.bound t.way).obj K) (ev_borrowN 7 rfl (ev_makeK (n := 2) (gD := fun ds ks => ds ++ ks) T.mk_Sweep FS hr (by decide) T.g_Sweep bS (ea_cons (ev_var 7) (ea_cons (ev_ixT (ev_var 3) ev_int rfl) ea_nil)) (ek_cons (ev_ixT (ev_var 3) ev_int rfl) (ek_cons (ev_ixT (ev_var 3) ev_int rfl) (ek_cons (ev_ixT (ev_var 3) ev_int rfl) ek_nil))) rfl rfl
    (fun v vs zs _ _ => ⟨vs ++ zs, rfl, fun H r1 r2 => r1.append r2⟩) ⟨rfl, rfl, t.w, t.rank, t.mine, t.bound, t.way, ak, rfl, rfl⟩) (swo_nol _)) ?_)
  refine blk_cons (st_item 7 rfl ev_int ev_int (m := 0) (ix_ok (by decide) (by rw [List.length_map]; omega)) ?_)
  refine blk_cons (st_app 7 rfl ev_int (by rw [List.length_set, List.length_map]; omega) ?_)
  refine blk_drop 7 ?_
  refine blk_cons (st_setN 9 nd (en_listL T.bt.list (ea_cons (ev_var 6) ea_nil)) ?_)
  refine blk_cons (st_set 10 nd (ev_borrowN 9 rfl (ev_callO T.cal_Sweep (F_call T) hr (by decide) (ev_var 8) (ea_cons (ev_var 9) ea_nil) ⟨_, true, row, aok, rl1, rl2, rfl, rfl⟩) (.tup nol_ints)) ?_)
  have gd := good_swL tk row
  have fl : (swL (mkS t.w t.rank t.mine t.bound t.way) row).length = row.length := swN_len _ _ _
  generalize hfirst : swL (mkS t.w t.rank t.mine t.bound t.way) row = first at gd fl
  have gd2 := good_swL tk first
  refine blk_cons (st_if (k := false) (et_is (et_borrow 9 rfl (et_w (ew_or (et_not (et_val (ev_call (F_lswept T) hr (by decide) (ea_cons (ev_var 3) (ea_cons (ev_var 6) (ea_cons (ev_var 10) ea_nil))) ⟨t, true, row, first, tk.w, by omega, gd, rfl, rfl⟩))) (fun hc => ew_or1 (et_neD hr (ev_var 9) (ev_var 6) (pl_l row) (pl_l row) dp_lst dp_lst))))) (by rw [eqD_lst]; rfl)) (fun z => by cases z) fun _ => blk_nil ?_)
  refine blk_cons (st_item 9 rfl (ev_pow ev_int ev_int ⟨by decide, by decide, by decide⟩) ev_int (m := 0) (ix_ok (by decide) (by rw [List.length_map]; omega)) ?_)
  refine blk_one (st_ret (ev_and (k := true) (ev_is (ev_eqD hr (ev_callO T.cal_Sweep (F_call T) hr (by decide) (ev_var 8) (ea_cons (ev_tupleL T.bt.tuple (ea_cons (ev_var 6) ea_nil)) ea_nil) ⟨_, false, row, aok, rl1, rl2, rfl, rfl⟩) (ev_var 10) (pl_t _) (pl_t _) dp_tup dp_tup) (by rw [hfirst, eqD_tup])) (fun _ => ev_and (k := true) (ev_call (F_lswept T) hr (by decide) (ea_cons (ev_var 3) (ea_cons (ev_var 10) (ea_cons (ev_callO T.cal_Sweep (F_call T) hr (by decide) (ev_var 8) (ea_cons (ev_var 10) ea_nil) ⟨_, false, first, aok, by omega, by omega, rfl, rfl⟩) ea_nil))) ⟨t, false, first, _, tk.w, by omega, gd2, rfl, rfl⟩)
    (fun _ => ev_one (ev_is (ev_eqD hr (ev_callO T.cal_Sweep (F_call T) hr (by decide) (ev_var 8) (ea_cons (ev_new (en_listL T.bt.list (ea_cons (ev_var 6) ea_nil))) ea_nil) ⟨_, true, row, aok, rl1, rl2, rfl, rfl⟩) (ev_var 10) (pl_t _) (pl_t _) dp_tup dp_tup) (by rw [hfirst, eqD_tup]))))) rfl)
end
end LW
set_option Elab.async false
set_option linter.all false
set_option maxRecDepth 100000
set_option maxHeartbeats 0
namespace LW
open PySem PySem.Spec PyProof.Rows L2 G
abbrev R : PySem.W.OpenRow := PySem.W.OpenLaw.row PySem.Challenge.rw_ranksweeps_k02_whole_one_sweep
abbrev hk : PySem.W.Hook := hookS R.prog 5 fa fn fc ex
def ob (s : PySem.W.SharedT) : AlS := obsS R.prog 5 fa fn fc ex (HandSHeadRun.getT s)
theorem ob_eq (s : PySem.W.SharedT) : ob s = hk.obs s.abs := obsS_eq (HandSHeadRun.getT_eq s)
def names0 : List PySem.Str := ["_wall", "__name__", "SweepError", "NoRow", "NoSweep", "NoNumber", "TooLarge", "MOST_CELLS", "is_integer", "has_cells", "checked_row", "MOST_SIZE", "MOST_DEPTH", "MOST_REACH", "MOST_WRITTEN", "mixed", "check_measures", "turned_way", "same_sweep", "same_chain", "picked", "swept", "played", "together", "repeated_chain", "Chain", "MOST_WEIGHTS", "MOST_WEIGHT", "are_weights", "is_word"]
def names1 : List PySem.Str := ["check_sweep", "Sweep", "_law_mix", "_law_pool", "_law_draw", "_law_number", "_law_row", "_law_sweep", "_law_value", "_law_values", "_law_swept"]
def names : List PySem.Str := names0 ++ names1
theorem run (w : World) : HandSHeadRun.RunEq R (PySem.W.view R.prog [45]) hk ob 6000 names w := by
  intro os
  kernel_rfl
end LW

set_option Elab.async false
set_option linter.all false
set_option maxRecDepth 100000
set_option maxHeartbeats 0
namespace LW
open PySem PySem.Spec PyProof.Rows L2 G
theorem to0 {P : Program} {w : World} {K : PySem.W.Frag} {mg : Str → Option Value} {base : Heap} {k : Nat} {f : Addr} {fd : FuncData} {ps : List Str} {sp : Sp} (F : FnOk P w K mg base (L2.CX P w) k f fd ps sp) : FnOk P w K mg base CX0 k f fd ps (fun vs H Q E => sp vs H Q E ∧ ∀ x y z, ¬ E x y z) :=
  ⟨fun vs H Q E h => F.len vs H Q E h.1, fun A outer s H args us vs Q E hr e0 hb hv h => codeAny_mono (F.run A outer s H args us vs Q E hr e0 hb hv h.1) fun r s' hq => by
    cases r with
    | ok fl => cases fl <;> exact hq
    | error e =>
      obtain ⟨_, _, _, _, _, _, _, _, _, _, _, _, z⟩ := hq
      exact (h.2 _ _ _ z).elim⟩
theorem lawFacts {w : World} {K : PySem.W.Frag} {h : Heap} {mg : Str → Option Value} {f : Addr} (X : K.In h) (G : h.Ns mainGlobals mg) (hfa : mg ("law" : Str) = some (.ref f)) (c : SaysS R.prog fa fn fc ex K) :
    ∃ (fd : FuncData) (sp : Sp), (∀ (s : Shared) (v : Value), BindsTo s fd ⟨[v], []⟩ [("_law_script", v)]) ∧ (∀ (H : Hp) (a : Addr) (ns : List Int), ns.length ≤ 63 → Only H → SqL K H a (ns.map V.int) → sp [.ref a] H (fun v _ => v = .bl true) fun _ _ _ => False) ∧
      ∀ base : Heap, K.In base → base.Ns mainGlobals mg → FnOk R.prog w K mg base CX0 7 f fd ["_law_script"] sp := by
  have T : Tp R.prog K mg := ⟨c, h, X, G⟩
  have e := hfa.symm.trans T.g_law
  cases e
  obtain ⟨fd, F⟩ := T.at_law
  have b := FunD.bindsA (ps := ["_law_script"]) F fun _ _ _ _ _ _ us hl => match us, hl with | [_], _ => rfl
  refine ⟨fd, fun vs H Q E => spF K LawR vs H Q E ∧ ∀ x y z, ¬ E x y z, fun s v => b s [v] rfl, fun H a ns hl _ hS => ⟨⟨H, [.scr ns], .bl true, Evl.Ex.refl _, .cons (.scr hS) .nil, lawR_ok hl, fun v Hs' H' _ r => by cases r; rfl⟩, fun _ _ _ z => z⟩, fun base _ _ => ?_⟩
  exact to0 (F_law T (by kernel_rfl) F)
end LW
open PySem PySem.W PySem.Calls PyProof.Rows
theorem PySem.Challenge.cw_ranksweeps_k02_whole_one_sweep_holds : PySem.Challenge.rw_ranksweeps_k02_whole_one_sweep.Holds := by
  w_on; o_law
  refine HandSHeadRun.head_any (r := OpenLaw.row PySem.Challenge.rw_ranksweeps_k02_whole_one_sweep) (q := view (OpenLaw.row PySem.Challenge.rw_ranksweeps_k02_whole_one_sweep).prog [45]) (H := LW.hk) (ob := LW.ob) (M := 6000) (loose := LW.names) (d := HandSHeadRun.topDef (OpenLaw.row PySem.Challenge.rw_ranksweeps_k02_whole_one_sweep).prog 45) (kwd := []) LW.ob_eq
    (by kernel_rfl) (fun s => by kernel_rfl) LW.run (by kernel_rfl) (by kernel_rfl) (by kernel_rfl) (by rfl) (by first | assumption | decide +kernel) (by decide +kernel) ⟨rfl, rfl, rfl, rfl, rfl, by decide +kernel⟩ ?hw ?hc
  case hw => w_witness2
  case hc =>
    refine L2.walk_ofE (l := PySem.Challenge.rw_ranksweeps_k02_whole_one_sweep) (n := 63) (k := 7) (x := "_law_script") (CX := L2.CX0) rfl (by decide) (by kernel_rfl) ⟨rfl, by decide, by decide⟩ ?F (fun _ _ _ _ z => z)
    intro w mg fa h Y G hmg0
    obtain ⟨K, KX, c⟩ := Y
    have hmg : mg ("law" : PySem.Str) = some (.ref fa) := by
      have e : (HandSHeadRun.topDef (OpenLaw.row PySem.Challenge.rw_ranksweeps_k02_whole_one_sweep).prog 45).name = ("law" : PySem.Str) := by kernel_rfl
      rw [← e]
      exact hmg0
    obtain ⟨fd, sp, hb, hs, hF⟩ := LW.lawFacts (w := w) KX G hmg c
    exact ⟨K, fd, sp, KX, hb, hs, hF⟩

