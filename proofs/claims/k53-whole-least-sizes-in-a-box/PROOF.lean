import PyProof.Rows.All
import Wide.All
import OpenK.AllK
import Wide.FinOn
import HandS.ClsMeth
import HandS.Defaults
import HandS.DictComp
import HandS.Exc
import HandS.ExcIs
import HandS.Flow
import HandS.ForExc
import HandS.ForMost
import HandS.Head0
import HandS.Head1
import HandS.Head2
import HandS.HeadEnd
import HandS.HeadHook1
import HandS.HeadHook2
import HandS.HeadHook4
import HandS.HeadWalk
import HandS.IsInst
import HandS.Lambda
import HandS.ListItems
import HandS.OwnEq
import HandS.Set
import HandS.SetKeys
import HandS.Slots
import HandS.SlotsOwn
import HandS.Strs
import HandS.Style
import HandS.TupAny
import HandS.TupSets
import KE.GoesMore
import KE.KEqDict
import KE.KExcInit
import KE.KExcRaise
import KE.KExcSuper
import KE.KSuper
import PySem.Challenge.RW_howmanyeach_k53_whole_least_sizes_in_a_b
set_option Elab.async false
set_option linter.all false
section KA_
set_option maxRecDepth 100000
set_option maxHeartbeats 4000000
/-! KA: what holds of values and of the heap (Pv, Mo), states (St0, Sta), judgements (XE, XT, XA, XSs) and their first rules. -/
namespace K53
open PySem PySem.Spec PyProof.Rows L2
/-! ### heaps -/
def Dk (k : List (Key × V)) (o : HO) : Prop := o = .dK k ∨ ∃ ob, o = .frz ob (.dK k)
def Sm (o o' : HO) : Prop := o = o' ∨ ∃ k, Dk k o ∧ Dk k o'
theorem Dk.inj {k k' : List (Key × V)} {o : HO} (a : Dk k o) (b : Dk k' o) : k = k' := by
  rcases a with rfl | ⟨x, rfl⟩
  · rcases b with h | ⟨y, h⟩ <;> cases h; rfl
  · rcases b with h | ⟨y, h⟩ <;> cases h; rfl
theorem Sm.rfl' (o : HO) : Sm o o := .inl rfl
theorem Sm.symm {o o' : HO} (a : Sm o o') : Sm o' o := a.elim (fun e => .inl e.symm) fun ⟨k, x, y⟩ => .inr ⟨k, y, x⟩
theorem Sm.trans {a b c : HO} (x : Sm a b) (y : Sm b c) : Sm a c := by
  rcases x with rfl | ⟨k, x1, x2⟩
  · exact y
  · rcases y with rfl | ⟨k', y1, y2⟩
    · exact .inr ⟨k, x1, x2⟩
    · obtain rfl := x2.inj y1
      exact .inr ⟨k, x1, y2⟩
/-- no code object's table -/
def Nt (o : HO) : Prop := ∀ ps, o ≠ .tbl ps
theorem Dk.nt {k : List (Key × V)} {o : HO} (d : Dk k o) : Nt o := fun ps z => by subst z; rcases d with h | ⟨_, h⟩ <;> cases h
theorem Sm.nt {o o' : HO} (s : Sm o o') (n : Nt o) : Nt o' := by
  rcases s with rfl | ⟨k, _, y⟩
  · exact n
  · exact y.nt
/-- tables may change -/
def Le (H H' : Hp) : Prop := ∀ a o, H a = some o → Nt o → ∃ o', H' a = some o' ∧ Sm o o'
theorem Le.refl (H : Hp) : Le H H := fun _ o e _ => ⟨o, e, .inl rfl⟩
theorem Le.trans {H H1 H2 : Hp} (a : Le H H1) (b : Le H1 H2) : Le H H2 := fun c o e n => by
  obtain ⟨o1, e1, s1⟩ := a c o e n
  obtain ⟨o2, e2, s2⟩ := b c o1 e1 (s1.nt n)
  exact ⟨o2, e2, s1.trans s2⟩
theorem le_same {H H' : Hp} (s : Same H H') : Le H H' := fun a o e _ => ⟨o, s a o e, .inl rfl⟩
/-- what is no dict stands as it stood -/
theorem Le.at {H H' : Hp} (l : Le H H') {a : Addr} {o : HO} (e : H a = some o) (n : ∀ k, ¬ Dk k o) (nt : Nt o := by intro _ h; cases h) : H' a = some o := by
  obtain ⟨o', e', s⟩ := l a o e nt
  rcases s with rfl | ⟨k, x, _⟩
  · exact e'
  · exact absurd x (n k)
theorem nDk_lst {xs : List V} (k) : ¬ Dk k (.lst xs) := by rintro (h | ⟨_, h⟩) <;> cases h
theorem nDk_tup {xs : List V} (k) : ¬ Dk k (.tup xs) := by rintro (h | ⟨_, h⟩) <;> cases h
theorem nDk_ins {C dx fs} (k) : ¬ Dk k (.ins C dx fs) := by rintro (h | ⟨_, h⟩) <;> cases h
theorem nDk_ext {f} (k) : ¬ Dk k (.ext f) := by rintro (h | ⟨_, h⟩) <;> cases h
theorem nDk_xd {f} (k) : ¬ Dk k (.xd f) := by rintro (h | ⟨_, h⟩) <;> cases h
theorem nDk_own {f} (k) : ¬ Dk k (.own f) := by rintro (h | ⟨_, h⟩) <;> cases h
theorem nDk_dT {f} (k) : ¬ Dk k (.dT f) := by rintro (h | ⟨_, h⟩) <;> cases h
theorem nDk_frzl {o xs} (k) : ¬ Dk k (.frz o (.lst xs)) := by rintro (h | ⟨_, h⟩) <;> cases h
theorem nDk_frzt {o xs} (k) : ¬ Dk k (.frz o (.tup xs)) := by rintro (h | ⟨_, h⟩) <;> cases h
theorem Le.sqL {K : PySem.W.Frag} {H H' : Hp} (l : Le H H') {a : Addr} {xs : List V} (h : SqL K H a xs) : SqL K H' a xs := by
  rcases h with (h | ⟨o, h⟩) | h
  · exact .inl (.inl (l.at h nDk_lst))
  · exact .inl (.inr ⟨o, l.at h nDk_frzl⟩)
  · exact .inr h
theorem Le.sqT {K : PySem.W.Frag} {H H' : Hp} (l : Le H H') {a : Addr} {xs : List V} (h : SqT K H a xs) : SqT K H' a xs := by
  rcases h with (h | ⟨o, h⟩) | h
  · exact .inl (.inl (l.at h nDk_tup))
  · exact .inl (.inr ⟨o, l.at h nDk_frzt⟩)
  · exact .inr h
theorem Le.dk {H H' : Hp} (l : Le H H') {a : Addr} {kvs : List (Key × V)} (h : Rd H a (.dK kvs)) : Rd H' a (.dK kvs) := by
  have d : ∃ o, H a = some o ∧ Dk kvs o := by
    rcases h with h | ⟨o, h⟩
    · exact ⟨_, h, .inl rfl⟩
    · exact ⟨_, h, .inr ⟨o, rfl⟩⟩
  obtain ⟨o, e, d⟩ := d
  obtain ⟨o', e', s⟩ := l a o e d.nt
  have d' : Dk kvs o' := by
    rcases s with rfl | ⟨k, x, y⟩
    · exact d
    · obtain rfl := d.inj x
      exact y
  rcases d' with rfl | ⟨ob, rfl⟩
  · exact .inl e'
  · exact .inr ⟨ob, e'⟩
theorem same_new {H : Hp} {p : Addr} {o : HO} (h : H p = none) : Same H (upd H p o) := fun b u e => by
  rw [upd_ne (ne_of_none e h)]; exact e
theorem le_lock {H : Hp} {d : Addr} {ob : Obj} {kvs : List (Key × V)} (h : H d = some (.dK kvs)) : Le H (upd H d (.frz ob (.dK kvs))) := fun a o e _ => by
  by_cases q : a = d
  · subst q
    rw [h] at e; cases e
    exact ⟨_, upd_same, .inr ⟨kvs, .inl rfl, .inr ⟨ob, rfl⟩⟩⟩
  · exact ⟨o, by rw [upd_ne q]; exact e, .inl rfl⟩
theorem le_unlock {H : Hp} {d : Addr} {ob : Obj} {kvs : List (Key × V)} (h : H d = some (.frz ob (.dK kvs))) : Le H (upd H d (.dK kvs)) := fun a o e _ => by
  by_cases q : a = d
  · subst q
    rw [h] at e; cases e
    exact ⟨_, upd_same, .inr ⟨kvs, .inr ⟨ob, rfl⟩, .inl rfl⟩⟩
  · exact ⟨o, by rw [upd_ne q]; exact e, .inl rfl⟩
/-! ### steps: G what stays as it is, H all that is tracked -/
structure Stp (G H G' H' : Hp) : Prop where
  g : Same G G'
  h : Same H H'
  i : Same G' H'
  n : ∀ b o, G' b = some o → G b = none → H b = none
theorem Stp.refl {G H : Hp} (i : Same G H) : Stp G H G H := ⟨.refl _, .refl _, i, fun b o e n => by rw [e] at n; cases n⟩
theorem Stp.trans {G H G1 H1 G2 H2 : Hp} (a : Stp G H G1 H1) (b : Stp G1 H1 G2 H2) : Stp G H G2 H2 :=
  ⟨a.g.trans b.g, a.h.trans b.h, b.i, fun c o e n => by
    cases e1 : G1 c with
    | none => exact a.h.free (b.n c o e e1)
    | some u => exact a.n c u e1 n⟩
/-- a new object that stays -/
theorem Stp.new {G H : Hp} (i : Same G H) {p : Addr} {o : HO} (h : H p = none) : Stp G H (upd G p o) (upd H p o) :=
  ⟨same_new (i.free h), same_new h, fun b u e => by
    by_cases q : b = p
    · subst q; rw [upd_same] at e ⊢; exact e
    · rw [upd_ne q] at e ⊢; exact i _ _ e, fun b u e n => by
    by_cases q : b = p
    · subst q; exact h
    · rw [upd_ne q] at e; rw [n] at e; cases e⟩
/-- a new object that may change -/
theorem Stp.tmp {G H : Hp} (i : Same G H) {p : Addr} {o : HO} (h : H p = none) : Stp G H G (upd H p o) :=
  ⟨.refl _, same_new h, i.trans (same_new h), fun b u e n => by rw [n] at e; cases e⟩
/-! ### what holds of a value -/
structure Pv where
  r : Hp → V → Prop
  mono : ∀ {G G' : Hp} {v : V}, Le G G' → r G v → r G' v
inductive AlA (G : Hp) : List V → List Pv → Prop where
  | nil : AlA G [] []
  | cons {v : V} {p : Pv} {vs : List V} {ps : List Pv} (h : p.r G v) (t : AlA G vs ps) : AlA G (v :: vs) (p :: ps)
theorem AlA.mono {G G' : Hp} (l : Le G G') : ∀ {vs : List V} {ps : List Pv}, AlA G vs ps → AlA G' vs ps
  | _, _, .nil => .nil
  | _, _, .cons h t => .cons (Pv.mono _ l h) (t.mono l)
theorem AlA.len {G : Hp} : ∀ {vs : List V} {ps : List Pv}, AlA G vs ps → vs.length = ps.length
  | _, _, .nil => rfl
  | _, _, .cons _ t => by rw [List.length_cons, List.length_cons, t.len]
theorem AlA.get {G : Hp} : ∀ {vs : List V} {ps : List Pv} {i : Nat} {p : Pv}, AlA G vs ps → ps[i]? = some p → ∃ v, vs[i]? = some v ∧ p.r G v
  | _, _, 0, p, .cons h _, e => by simp at e; subst e; exact ⟨_, rfl, h⟩
  | _, _, i + 1, p, .cons _ t, e => by
    obtain ⟨v, h1, h2⟩ := t.get (i := i) (p := p) (by simpa using e)
    exact ⟨v, by simpa using h1, h2⟩
  | _, _, i, p, .nil, e => by simp at e
theorem AlA.getV {G : Hp} : ∀ {vs : List V} {ps : List Pv} {i : Nat} {v : V}, AlA G vs ps → vs[i]? = some v → ∃ p, ps[i]? = some p ∧ p.r G v
  | _, _, 0, p, .cons h _, e => by simp at e; subst e; exact ⟨_, rfl, h⟩
  | _, _, i + 1, p, .cons _ t, e => by
    obtain ⟨v, h1, h2⟩ := t.getV (i := i) (v := p) (by simpa using e)
    exact ⟨v, by simpa using h1, h2⟩
  | _, _, i, p, .nil, e => by simp at e
theorem AlA.app {G : Hp} : ∀ {vs ws : List V} {ps qs : List Pv}, AlA G vs ps → AlA G ws qs → AlA G (vs ++ ws) (ps ++ qs)
  | _, _, _, _, .nil, b => b
  | _, _, _, _, .cons h t, b => .cons h (t.app b)
theorem AlA.take {G : Hp} : ∀ {vs : List V} {ps : List Pv} (n : Nat), AlA G vs ps → AlA G (vs.take n) (ps.take n)
  | _, _, 0, _ => .nil
  | _, _, n + 1, .nil => .nil
  | _, _, n + 1, .cons h t => .cons h (t.take n)
theorem AlA.drop {G : Hp} : ∀ {vs : List V} {ps : List Pv} (n : Nat), AlA G vs ps → AlA G (vs.drop n) (ps.drop n)
  | _, _, 0, h => h
  | _, _, n + 1, .nil => .nil
  | _, _, n + 1, .cons h t => t.drop n
def vVal (x : V) : Pv := ⟨fun _ v => v = x, fun _ h => h⟩
abbrev vInt (i : Int) : Pv := vVal (.int i)
abbrev vStr (s : Str) : Pv := vVal (.str s)
abbrev vBl (b : Bool) : Pv := vVal (.bl b)
abbrev vNon : Pv := vVal .non
theorem AlA.vals {G : Hp} {α : Type} {g : α → V} : ∀ {vs : List V} {ds : List α}, AlA G vs (ds.map fun d => vVal (g d)) → vs = ds.map g
  | _, [], .nil => rfl
  | _, d :: ds, .cons h t => by
    have e := t.vals
    have h' : _ = g d := h
    rw [e, h']; rfl
theorem alA_vals {G : Hp} {α : Type} {g : α → V} : ∀ {ds : List α}, AlA G (ds.map g) (ds.map fun d => vVal (g d))
  | [] => .nil
  | _ :: _ => .cons rfl alA_vals
def vTup (ps : List Pv) : Pv := ⟨fun G v => ∃ a xs, v = .ref a ∧ G a = some (.tup xs) ∧ AlA G xs ps, fun l ⟨a, xs, e, h, q⟩ => ⟨a, xs, e, l.at h nDk_tup, q.mono l⟩⟩
def vLst (ps : List Pv) : Pv := ⟨fun G v => ∃ a xs, v = .ref a ∧ G a = some (.lst xs) ∧ AlA G xs ps, fun l ⟨a, xs, e, h, q⟩ => ⟨a, xs, e, l.at h nDk_lst, q.mono l⟩⟩
/-- pairs by text keys -/
inductive AlD (G : Hp) : List (Key × V) → List (Str × Pv) → Prop where
  | nil : AlD G [] []
  | cons {k : Str} {v : V} {p : Pv} {vs : List (Key × V)} {ps : List (Str × Pv)} (h : p.r G v) (t : AlD G vs ps) : AlD G ((.inr k, v) :: vs) ((k, p) :: ps)
theorem AlD.mono {G G' : Hp} (l : Le G G') : ∀ {vs : List (Key × V)} {ps : List (Str × Pv)}, AlD G vs ps → AlD G' vs ps
  | _, _, .nil => .nil
  | _, _, .cons h t => .cons (Pv.mono _ l h) (t.mono l)
theorem AlD.len {G : Hp} : ∀ {vs : List (Key × V)} {ps : List (Str × Pv)}, AlD G vs ps → vs.length = ps.length
  | _, _, .nil => rfl
  | _, _, .cons _ t => by rw [List.length_cons, List.length_cons, t.len]
def vDicAt (d : Addr) (ps : List (Str × Pv)) : Pv := ⟨fun G v => v = .ref d ∧ ∃ kv, Rd G d (.dK kv) ∧ AlD G kv ps, fun l ⟨e, kv, h, q⟩ => ⟨e, kv, l.dk h, q.mono l⟩⟩
def vDic (ps : List (Str × Pv)) : Pv := ⟨fun G v => ∃ d, (vDicAt d ps).r G v, fun l ⟨d, h⟩ => ⟨d, Pv.mono _ l h⟩⟩
/-- attributes by name -/
inductive AlF (G : Hp) : List (Str × V) → List (Str × Pv) → Prop where
  | nil : AlF G [] []
  | cons {k : Str} {v : V} {p : Pv} {vs : List (Str × V)} {ps : List (Str × Pv)} (h : p.r G v) (t : AlF G vs ps) : AlF G ((k, v) :: vs) ((k, p) :: ps)
theorem AlF.mono {G G' : Hp} (l : Le G G') : ∀ {vs : List (Str × V)} {ps : List (Str × Pv)}, AlF G vs ps → AlF G' vs ps
  | _, _, .nil => .nil
  | _, _, .cons h t => .cons (Pv.mono _ l h) (t.mono l)
theorem AlF.look {G : Hp} {f : Str} : ∀ {vs : List (Str × V)} {ps : List (Str × Pv)} {p : Pv}, AlF G vs ps → ps.lookup f = some p → ∃ v, vs.lookup f = some v ∧ p.r G v
  | _, _, p, .nil, e => by simp at e
  | _, _, p, .cons (k := k) h t, e => by
    rw [List.lookup_cons] at e ⊢
    cases q : f == k with
    | true => rw [q] at e; cases e; exact ⟨_, rfl, h⟩
    | false => rw [q] at e; exact t.look e
theorem AlF.none {G : Hp} {f : Str} : ∀ {vs : List (Str × V)} {ps : List (Str × Pv)}, AlF G vs ps → ps.lookup f = Option.none → vs.lookup f = Option.none
  | _, _, .nil, e => rfl
  | _, _, .cons (k := k) h t, e => by
    rw [List.lookup_cons] at e ⊢
    cases q : f == k with
    | true => rw [q] at e; cases e
    | false => rw [q] at e; exact t.none e
def vIns (C : Addr) (fs : List (Str × Pv)) : Pv := ⟨fun G v => ∃ a dx fv, v = .ref a ∧ G a = some (.ins C dx fv) ∧ AlF G fv fs, fun l ⟨a, dx, fv, e, h, q⟩ => ⟨a, dx, fv, e, l.at h nDk_ins, q.mono l⟩⟩
theorem Le.slt {H H' : Hp} (l : Le H H') {a C dx : Addr} {vs : List (Option V)} (h : SlX.Slt H a C dx vs) : SlX.Slt H' a C dx vs := by
  rcases h with ⟨h, e⟩ | ⟨h, e⟩
  · exact .inl ⟨l.at h nDk_ins, e⟩
  · exact .inr ⟨l.at h nDk_ext, l.at e nDk_xd⟩
def vSlt (C : Addr) (ps : List Pv) : Pv := ⟨fun G v => ∃ a dx xs, v = .ref a ∧ SlX.Slt G a C dx (xs.map some) ∧ AlA G xs ps, fun {G G' v} l h => by
  obtain ⟨a, dx, xs, e, h, q⟩ := h
  exact ⟨a, dx, xs, e, Le.slt l h, q.mono l⟩⟩
/-! ### objects that may change -/
structure Mo where
  r : Hp → HO → Prop
  mono : ∀ {G G' : Hp} {o : HO}, Le G G' → r G o → r G' o
def mLst (ps : List Pv) : Mo := ⟨fun G o => ∃ xs, o = .lst xs ∧ AlA G xs ps, fun l ⟨xs, e, q⟩ => ⟨xs, e, q.mono l⟩⟩
def mDic (ps : List (Str × Pv)) : Mo := ⟨fun G o => ∃ kv, o = .dK kv ∧ AlD G kv ps, fun l ⟨xs, e, q⟩ => ⟨xs, e, q.mono l⟩⟩
def mRaw (o : HO) : Mo := ⟨fun _ u => u = o, fun _ h => h⟩
abbrev En := List (Option Pv)
abbrev Mu := List (Addr × Mo)
def Al (G : Hp) (σ : L2.St) (Γ : En) : Prop := σ.length = Γ.length ∧ ∀ (i : Nat) (p : Pv), Γ[i]? = some (some p) → ∃ v, σ[i]? = some (some v) ∧ p.r G v
theorem Al.mono {G G' : Hp} {σ : L2.St} {Γ : En} (l : Le G G') (a : Al G σ Γ) : Al G' σ Γ := ⟨a.1, fun i p e => by
  obtain ⟨v, h1, h2⟩ := a.2 i p e
  exact ⟨v, h1, Pv.mono _ l h2⟩⟩
theorem Al.set {G : Hp} {σ : L2.St} {Γ : En} (a : Al G σ Γ) {i : Nat} {p : Pv} {v : V} (h : p.r G v) : Al G (σ.set i (some v)) (Γ.set i (some p)) :=
  ⟨by rw [List.length_set, List.length_set, a.1], fun j q e => by
    by_cases hj : j = i
    · subst hj
      have hl : j < Γ.length := by
        have := (List.getElem?_eq_some_iff.mp e).1
        rwa [List.length_set] at this
      rw [List.getElem?_set_self hl] at e
      cases e
      exact ⟨v, List.getElem?_set_self (by rw [a.1]; exact hl), h⟩
    · rw [List.getElem?_set_ne (Ne.symm hj)] at e ⊢
      exact a.2 j q e⟩
/-- what is forgotten -/
def Fg (Γ' Γ : En) : Prop := Γ'.length = Γ.length ∧ ∀ (i : Nat) (p : Pv), Γ'[i]? = some (some p) → Γ[i]? = some (some p)
theorem Al.fg {G : Hp} {σ : L2.St} {Γ Γ' : En} (a : Al G σ Γ) (f : Fg Γ' Γ) : Al G σ Γ' := ⟨by rw [a.1, f.1], fun i p e => a.2 i p (f.2 i p e)⟩
structure St0 (G H : Hp) (σ : L2.St) (Γ : En) (M : Mu) : Prop where
  i : Same G H
  a : Al G σ Γ
  nd : (M.map (·.1)).Nodup
  m : ∀ q ∈ M, G q.1 = none ∧ ∃ ob, H q.1 = some ob ∧ q.2.r G ob
theorem St0.stp {G H G' H' : Hp} {σ : L2.St} {Γ : En} {M : Mu} (s : St0 G H σ Γ M) (t : Stp G H G' H') : St0 G' H' σ Γ M :=
  ⟨t.i, s.a.mono (le_same t.g), s.nd, fun q hq => by
    obtain ⟨h1, ob, h2, h3⟩ := s.m q hq
    refine ⟨?_, ob, t.h _ _ h2, Mo.mono _ (le_same t.g) h3⟩
    cases e : G' q.1 with
    | none => rfl
    | some u =>
      have := t.n _ _ e h1
      rw [h2] at this; cases this⟩
theorem St0.sub {G H : Hp} {σ : L2.St} {Γ : En} {M M' : Mu} (s : St0 G H σ Γ M) (h : M'.Sublist M) : St0 G H σ Γ M' :=
  ⟨s.i, s.a, List.Nodup.sublist (h.map _) s.nd, fun q hq => s.m q (h.subset hq)⟩
theorem St0.set {G H : Hp} {σ : L2.St} {Γ : En} {M : Mu} (s : St0 G H σ Γ M) {i : Nat} {p : Pv} {v : V} (h : p.r G v) : St0 G H (σ.set i (some v)) (Γ.set i (some p)) M := ⟨s.i, s.a.set h, s.nd, s.m⟩
theorem St0.fg {G H : Hp} {σ : L2.St} {Γ Γ' : En} {M : Mu} (s : St0 G H σ Γ M) (f : Fg Γ' Γ) : St0 G H σ Γ' M := ⟨s.i, s.a.fg f, s.nd, s.m⟩
/-- a def's entry; B: what was there at the innermost loop's start -/
structure Eb where
  B : Hp
  G : Hp
  H : Hp
structure Sta (e0 : Eb) (G H : Hp) (σ : L2.St) (Γ : En) (M : Mu) : Prop where
  t : Stp e0.G e0.H G H
  b : Same e0.B G
  s : St0 G H σ Γ M
  f : ∀ q ∈ M, e0.H q.1 = none
theorem Sta.stp {e0 : Eb} {G H G' H' : Hp} {σ : L2.St} {Γ : En} {M : Mu} (s : Sta e0 G H σ Γ M) (t : Stp G H G' H') : Sta e0 G' H' σ Γ M := ⟨s.t.trans t, s.b.trans t.g, s.s.stp t, s.f⟩
theorem Sta.set {e0 : Eb} {G H : Hp} {σ : L2.St} {Γ : En} {M : Mu} (s : Sta e0 G H σ Γ M) {i : Nat} {p : Pv} {v : V} (h : p.r G v) : Sta e0 G H (σ.set i (some v)) (Γ.set i (some p)) M := ⟨s.t, s.b, s.s.set h, s.f⟩
theorem Sta.fg {e0 : Eb} {G H : Hp} {σ : L2.St} {Γ Γ' : En} {M : Mu} (s : Sta e0 G H σ Γ M) (f : Fg Γ' Γ) : Sta e0 G H σ Γ' M := ⟨s.t, s.b, s.s.fg f, s.f⟩
/-- an object that may change is written -/
theorem Sta.write {e0 : Eb} {G H : Hp} {σ : L2.St} {Γ : En} {M1 M2 : Mu} {p : Addr} {o o' : Mo} {ob : HO} (s : Sta e0 G H σ Γ (M1 ++ (p, o) :: M2)) (h : o'.r G ob) : Sta e0 G (upd H p ob) σ Γ (M1 ++ (p, o') :: M2) := by
  have hm := s.s.m (p, o) (by simp)
  have hf := s.f (p, o) (by simp)
  have hnd := s.s.nd
  have hG : G p = none := hm.1
  refine ⟨⟨s.t.g, fun b u e => ?_, fun b u e => ?_, s.t.n⟩, s.b, ⟨fun b u e => ?_, s.s.a, ?_, fun q hq => ?_⟩, fun q hq => ?_⟩
  · have : b ≠ p := fun z => by subst z; rw [hf] at e; cases e
    rw [upd_ne this]; exact s.t.h _ _ e
  · have : b ≠ p := fun z => by subst z; rw [hG] at e; cases e
    rw [upd_ne this]; exact s.t.i _ _ e
  · have : b ≠ p := fun z => by subst z; rw [hG] at e; cases e
    rw [upd_ne this]; exact s.s.i _ _ e
  · simpa using hnd
  · rcases List.mem_append.mp hq with hq | hq
    · have hq' : q ∈ M1 ++ (p, o) :: M2 := List.mem_append_left _ hq
      obtain ⟨a, ob', b, c⟩ := s.s.m q hq'
      have : q.1 ≠ p := fun z => by
        rw [List.map_append, List.map_cons] at hnd
        have := (List.nodup_append.mp hnd).2.2 q.1 (List.mem_map_of_mem hq) p (by simp)
        exact this z
      exact ⟨a, ob', by rw [upd_ne this]; exact b, c⟩
    · rcases List.mem_cons.mp hq with rfl | hq
      · exact ⟨hG, ob, upd_same, h⟩
      · have hq' : q ∈ M1 ++ (p, o) :: M2 := List.mem_append_right _ (List.mem_cons_of_mem _ hq)
        obtain ⟨a, ob', b, c⟩ := s.s.m q hq'
        have : q.1 ≠ p := fun z => by
          rw [List.map_append, List.map_cons] at hnd
          have h2 := (List.nodup_append.mp hnd).2.1
          rw [List.nodup_cons] at h2
          exact h2.1 (z ▸ List.mem_map_of_mem (f := (·.1)) hq)
        exact ⟨a, ob', by rw [upd_ne this]; exact b, c⟩
  · rcases List.mem_append.mp hq with hq | hq
    · exact s.f q (List.mem_append_left _ hq)
    · rcases List.mem_cons.mp hq with rfl | hq
      · exact hf
      · exact s.f q (List.mem_append_right _ (List.mem_cons_of_mem _ hq))
/-- an object that may change stays from here on -/
theorem Sta.pub {e0 : Eb} {G H : Hp} {σ : L2.St} {Γ : En} {M1 M2 : Mu} {p : Addr} {o : Mo} (s : Sta e0 G H σ Γ (M1 ++ (p, o) :: M2)) : ∃ ob, o.r G ob ∧ H p = some ob ∧ G p = none ∧ Sta e0 (upd G p ob) H σ Γ (M1 ++ M2) := by
  obtain ⟨hG, ob, hH, hr⟩ := s.s.m (p, o) (by simp)
  have hf := s.f (p, o) (by simp)
  have hnd := s.s.nd
  have sg : Same G (upd G p ob) := same_new hG
  have hi : Same (upd G p ob) H := fun b u e => by
    by_cases q : b = p
    · subst q; rw [upd_same] at e; cases e; exact hH
    · rw [upd_ne q] at e; exact s.s.i _ _ e
  have sl : (M1 ++ M2).Sublist (M1 ++ (p, o) :: M2) := List.Sublist.append (List.Sublist.refl _) (List.sublist_cons_self _ _)
  refine ⟨ob, hr, hH, hG, ⟨s.t.g.trans sg, s.t.h, hi, fun b u e n => ?_⟩, s.b.trans sg, ⟨hi, s.s.a.mono (le_same sg), List.Nodup.sublist (sl.map _) hnd, fun q hq => ?_⟩, fun q hq => s.f q (sl.subset hq)⟩
  · by_cases q : b = p
    · subst q; exact hf
    · rw [upd_ne q] at e; exact s.t.n b u e n
  · obtain ⟨a, ob', b, c⟩ := s.s.m q (sl.subset hq)
    have : q.1 ≠ p := fun z => by
      rw [List.map_append, List.map_cons] at hnd
      obtain ⟨n1, n2, n3⟩ := List.nodup_append.mp hnd
      rw [List.nodup_cons] at n2
      rcases List.mem_append.mp hq with hq | hq
      · exact n3 q.1 (List.mem_map_of_mem hq) p (by simp) z
      · exact n2.1 (z ▸ List.mem_map_of_mem (f := (·.1)) hq)
    exact ⟨by rw [upd_ne this]; exact a, ob', b, Mo.mono _ (le_same sg) c⟩
/-- a new one that may change -/
theorem Sta.add {e0 : Eb} {G H G' H' : Hp} {σ : L2.St} {Γ : En} {M : Mu} {p : Addr} {o : Mo} {ob : HO} (s : Sta e0 G H σ Γ M) (t : Stp G H G' H') (hp : H p = none) (hg : G' p = none) (hh : H' p = some ob) (hr : o.r G' ob) : Sta e0 G' H' σ Γ ((p, o) :: M) := by
  have s' := s.stp t
  refine ⟨s'.t, s'.b, ⟨s'.s.i, s'.s.a, ?_, fun q hq => ?_⟩, fun q hq => ?_⟩
  · rw [List.map_cons, List.nodup_cons]
    refine ⟨fun hm => ?_, s.s.nd⟩
    obtain ⟨q, hq, e⟩ := List.mem_map.mp hm
    obtain ⟨_, ob', h2, _⟩ := s.s.m q hq
    rw [e, hp] at h2; cases h2
  · rcases List.mem_cons.mp hq with rfl | hq
    · exact ⟨hg, ob, hh, hr⟩
    · exact s'.s.m q hq
  · rcases List.mem_cons.mp hq with rfl | hq
    · exact s.t.h.free hp
    · exact s.f q hq
theorem Stp.wr {G1 H1 G H : Hp} (t : Stp G1 H1 G H) {p : Addr} {ob : HO} (h1 : H1 p = none) (hg : G p = none) : Stp G1 H1 G (upd H p ob) :=
  ⟨t.g, fun b u e => by rw [upd_ne (fun z => by subst z; rw [h1] at e; cases e)]; exact t.h _ _ e, fun b u e => by rw [upd_ne (fun z => by subst z; rw [hg] at e; cases e)]; exact t.i _ _ e, t.n⟩
theorem St0.add {G H G' H' : Hp} {σ : L2.St} {Γ : En} {M : Mu} {p : Addr} {o : Mo} {ob : HO} (s : St0 G H σ Γ M) (t : Stp G H G' H') (hp : H p = none) (hg : G' p = none) (hh : H' p = some ob) (hr : o.r G' ob) : St0 G' H' σ Γ ((p, o) :: M) := by
  have s' := s.stp t
  refine ⟨s'.i, s'.a, ?_, fun q hq => ?_⟩
  · rw [List.map_cons, List.nodup_cons]
    refine ⟨fun hm => ?_, s.nd⟩
    obtain ⟨q, hq, e⟩ := List.mem_map.mp hm
    obtain ⟨_, ob', h2, _⟩ := s.m q hq
    rw [e, hp] at h2; cases h2
  · rcases List.mem_cons.mp hq with rfl | hq
    · exact ⟨hg, ob, hh, hr⟩
    · exact s'.m q hq
theorem St0.write {G H : Hp} {σ : L2.St} {Γ : En} {M : Mu} {p : Addr} {o o' : Mo} {ob : HO} (s : St0 G H σ Γ ((p, o) :: M)) (h : o'.r G ob) : St0 G (upd H p ob) σ Γ ((p, o') :: M) := by
  have hm := s.m (p, o) (by simp)
  have hnd := s.nd
  have hG : G p = none := hm.1
  refine ⟨fun b u e => ?_, s.a, hnd, fun q hq => ?_⟩
  · have : b ≠ p := fun z => by subst z; rw [hG] at e; cases e
    rw [upd_ne this]; exact s.i _ _ e
  · rcases List.mem_cons.mp hq with rfl | hq
    · exact ⟨hG, ob, upd_same, h⟩
    · obtain ⟨a, ob', b, c⟩ := s.m q (List.mem_cons_of_mem _ hq)
      have : q.1 ≠ p := fun z => by
        rw [List.map_cons, List.nodup_cons] at hnd
        exact hnd.1 (z ▸ List.mem_map_of_mem (f := (·.1)) hq)
      exact ⟨a, ob', by rw [upd_ne this]; exact b, c⟩
/-- slots that a comprehension's names take -/
def wipeE (Γ : En) : List Nat → En
  | [] => Γ
  | v :: vs => (wipeE Γ vs).set v none
theorem Al.wipe {G : Hp} {σ : L2.St} {Γ : En} (a : Al G σ Γ) : ∀ vs : List Nat, Al G (L2.wipe σ vs) (wipeE Γ vs)
  | [] => a
  | v :: vs => by
    have ih := a.wipe vs
    refine ⟨by unfold L2.wipe wipeE; rw [List.length_set, List.length_set, ih.1], fun i p e => ?_⟩
    unfold wipeE at e
    unfold L2.wipe
    by_cases q : i = v
    · subst q
      rw [List.getElem?_set] at e
      simp at e
    · rw [List.getElem?_set_ne (Ne.symm q)] at e ⊢
      exact ih.2 i p e
theorem St0.wipe {G H : Hp} {σ : L2.St} {Γ : En} {M : Mu} (s : St0 G H σ Γ M) (vs : List Nat) : St0 G H (L2.wipe σ vs) (wipeE Γ vs) M := ⟨s.i, s.a.wipe vs, s.nd, s.m⟩
theorem wipe_ext {vs : List Nat} : ∀ {σ σ' : L2.St}, σ'.length = σ.length → (∀ j, j ∉ vs → σ'[j]? = σ[j]?) → L2.wipe σ' vs = L2.wipe σ vs := by
  intro σ σ' hl h
  refine List.ext_getElem? fun j => ?_
  have key : ∀ (vs : List Nat) (τ : L2.St), (L2.wipe τ vs)[j]? = if j ∈ vs then (if j < τ.length then some none else none) else τ[j]? := by
    intro vs τ
    induction vs with
    | nil => simp [L2.wipe]
    | cons v vs ih =>
      unfold L2.wipe
      by_cases q : j = v
      · subst q
        rw [List.getElem?_set, L2.wipe_length]
        simp
      · rw [List.getElem?_set_ne (Ne.symm q), ih]
        have : (j ∈ v :: vs) ↔ j ∈ vs := by simp [q]
        simp only [this]
  rw [key, key, hl]
  by_cases q : j ∈ vs
  · simp [q]
  · simp [q, h j q]
theorem wipe_wipe {vs : List Nat} (σ : L2.St) : L2.wipe (L2.wipe σ vs) vs = L2.wipe σ vs := by
  refine wipe_ext (L2.wipe_length _ _) fun j hj => ?_
  induction vs with
  | nil => rfl
  | cons v vs ih =>
    unfold L2.wipe
    rw [List.getElem?_set_ne (fun z => hj (by simp [z]))]
    exact ih fun z => hj (List.mem_cons_of_mem _ z)
end K53
end KA_
section KB_
set_option maxRecDepth 100000
set_option maxHeartbeats 4000000
/-! KB: judgements, rules for expressions, tests, arguments, statements. -/
namespace K53
open PySem PySem.Spec PyProof.Rows L2
/-! ### the weakest readings -/
def wE (X : Cx) (e : Expr) : TE := fun σ H Q => ∃ t, PE X e t ∧ t σ H Q
def wT (X : Cx) (e : Expr) : TT := fun σ H Q => ∃ t, PT X e t ∧ t σ H Q
def wA (X : Cx) (es : List Expr) : TA := fun σ H Q => ∃ t, PA X es t ∧ t σ H Q
def wS (X : Cx) (st : Stmt) : TS := fun D σ H => ∃ t, PS X st t ∧ t D σ H
def wSs (X : Cx) (sts : List Stmt) : TS := fun D σ H => ∃ t, PSs X sts t ∧ t D σ H
def wG (X : Cx) (tg : Expr) : TG := fun v σ H Q => ∃ t, PG X tg t ∧ t v σ H Q
def wI (X : Cx) (tg it : Expr) : TI := fun σ H R => ∃ t, PI X tg it t ∧ t σ H R
theorem pe_w {X : Cx} {e : Expr} : PE X e (wE X e) := ⟨fun pins s σ H Q I ⟨t, h, q⟩ => h.run pins s σ H Q I q⟩
theorem pt_w {X : Cx} {e : Expr} : PT X e (wT X e) := ⟨fun pins s σ H Q I ⟨t, h, q⟩ => h.run pins s σ H Q I q⟩
theorem pa_w {X : Cx} {e : List Expr} : PA X e (wA X e) := ⟨fun pos pins s σ H Q I ⟨t, h, q⟩ => h.run pos pins s σ H Q I q⟩
theorem ps_w {X : Cx} {e : Stmt} : PS X e (wS X e) := ⟨fun pins s σ H Q I ⟨t, h, q⟩ => h.run pins s σ H Q I q⟩
theorem pss_w {X : Cx} {e : List Stmt} : PSs X e (wSs X e) := ⟨fun pins s σ H Q I ⟨t, h, q⟩ => h.run pins s σ H Q I q⟩
theorem pg_w {X : Cx} {e : Expr} : PG X e (wG X e) := ⟨fun pins s σ H v u Q I r ⟨t, h, q⟩ => h.run pins s σ H v u Q I r q⟩
theorem pi_w {X : Cx} {tg e : Expr} : PI X tg e (wI X tg e) := ⟨fun pins s σ H Q I ⟨t, h, q⟩ => h.run pins s σ H Q I q⟩
/-! ### judgements -/
def XE (X : Cx) (e : Expr) (Γ : En) (M : Mu) (p : Pv) : Prop := ∀ G H σ, St0 G H σ Γ M → ∀ Q : VK, (∀ v G' H', Stp G H G' H' → p.r G' v → Q v H') → wE X e σ H Q
def XT (X : Cx) (e : Expr) (Γ : En) (M : Mu) (b : Bool) : Prop := ∀ G H σ, St0 G H σ Γ M → ∀ Q : Bool → Hp → Prop, (∀ G' H', Stp G H G' H' → Q b H') → wT X e σ H Q
def XA (X : Cx) (es : List Expr) (Γ : En) (M : Mu) (ps : List Pv) : Prop := ∀ G H σ, St0 G H σ Γ M → ∀ Q : List V → Hp → Prop, (∀ vs G' H', Stp G H G' H' → AlA G' vs ps → Q vs H') → wA X es σ H Q
/-- a new object that may change -/
def XN (X : Cx) (e : Expr) (Γ : En) (M : Mu) (o : Mo) : Prop := ∀ G H σ, St0 G H σ Γ M → ∀ Q : VK, (∀ p ob G' H', Stp G H G' H' → H p = none → G' p = none → H' p = some ob → o.r G' ob → Q (.ref p) H') → wE X e σ H Q
/-- what follows a statement -/
structure Pst where
  nx : Hp → Hp → L2.St → Prop
  rt : V → Hp → Hp → Prop
  bk : Hp → Hp → L2.St → Prop
  ct : Hp → Hp → L2.St → Prop
structure Fit (P : Pst) (D : Ends) : Prop where
  nx : ∀ G H σ, P.nx G H σ → D.nx σ H
  rt : ∀ v G H, P.rt v G H → D.rt v H
  bk : ∀ G H σ, P.bk G H σ → D.bk σ H
  ct : ∀ G H σ, P.ct G H σ → D.ct σ H
def XS (X : Cx) (e0 : Eb) (st : Stmt) (Γ : En) (M : Mu) (P : Pst) : Prop := ∀ G H σ, Sta e0 G H σ Γ M → ∀ D, Fit P D → wS X st D σ H
def XSs (X : Cx) (e0 : Eb) (sts : List Stmt) (Γ : En) (M : Mu) (P : Pst) : Prop := ∀ G H σ, Sta e0 G H σ Γ M → ∀ D, Fit P D → wSs X sts D σ H
section
variable {X : Cx} {e a b c : Expr} {es : List Expr} {Γ : En} {M : Mu} {p q z : Pv} {ps : List Pv} {x y : V} {pos : Pos} {e0 : Eb} {P : Pst}
/-! ### general -/
theorem XE.weak (h : XE X e Γ M p) (w : ∀ G v, p.r G v → q.r G v) : XE X e Γ M q := fun G H σ s Q k => h G H σ s Q fun v G' H' t r => k v G' H' t (w _ _ r)
theorem XE.is (h : XE X e Γ M p) (w : p = q) : XE X e Γ M q := w ▸ h
theorem XT.is {u w : Bool} (h : XT X e Γ M u) (k : u = w) : XT X e Γ M w := k ▸ h
theorem XA.is {ps qs : List Pv} (h : XA X es Γ M ps) (w : ps = qs) : XA X es Γ M qs := w ▸ h
theorem XE.more {M' : Mu} (h : XE X e Γ M p) (l : M.Sublist M') : XE X e Γ M' p := fun G H σ s Q k => h G H σ (s.sub l) Q k
theorem XT.more {M' : Mu} {u : Bool} (h : XT X e Γ M u) (l : M.Sublist M') : XT X e Γ M' u := fun G H σ s Q k => h G H σ (s.sub l) Q k
theorem XE.fg {Γ' : En} (h : XE X e Γ' M p) (f : Fg Γ' Γ) : XE X e Γ M p := fun G H σ s Q k => h G H σ (s.fg f) Q k
theorem XN.xe {o : Mo} (h : XN X e Γ M o) (w : ∀ G v u, o.r G u → G v = some u → p.r G (.ref v)) : XE X e Γ M p := fun G H σ s Q k => h G H σ s Q fun a ob G' H' t ha hg hh r => by
  refine k (.ref a) (upd G' a ob) H' ⟨t.g.trans (same_new hg), t.h, fun b u e => ?_, fun b u e n => ?_⟩ (w _ a ob (Mo.mono _ (le_same (same_new hg)) r) upd_same)
  · by_cases z : b = a
    · subst z; rw [upd_same] at e; cases e; exact hh
    · rw [upd_ne z] at e; exact t.i _ _ e
  · by_cases z : b = a
    · subst z; exact ha
    · rw [upd_ne z] at e; exact t.n _ _ e n
/-! ### names, constants -/
theorem xe_var {i : Nat} {n : Str} (hi : Γ[i]? = some (some p)) (h : PE X e (tVar i)) : XE X e Γ M p := fun G H σ s Q k => by
  obtain ⟨v, h1, h2⟩ := s.a.2 i p hi
  exact ⟨_, h, v, h1, k v G H (.refl s.i) h2⟩
theorem xv (i : Nat) {n : Str} (hi : Γ[i]? = some (some p) := by rfl) (hN : X.N[i]? = some n := by rfl) (hv : Vis X.env.scope n := by first | exact Or.inl rfl | exact Or.inr (Or.inl rfl) | exact Or.inr (Or.inr rfl)) (hd : (n == ("__debug__" : Str)) = false := by decide)
    (hcd : (n == ("__classdict__" : Str)) = false := by decide) : XE X (.Name n pos) Γ M p := xe_var (n := n) hi (pe_var hN hv hd hcd)
theorem xe_c (h : PE X e (tC x)) : XE X e Γ M (vVal x) := fun G H σ s Q k => ⟨_, h, k x G H (.refl s.i) rfl⟩
theorem xe_int {i : Int} {j : Nat} : XE X (.Constant (.int i) j pos) Γ M (vInt i) := xe_c pe_int
theorem xe_bl {i : Bool} {j : Nat} : XE X (.Constant (.bool i) j pos) Γ M (vBl i) := xe_c pe_bl
theorem xe_non {j : Nat} : XE X (.Constant .none j pos) Γ M vNon := xe_c pe_non
theorem xe_str {i : Str} {j : Nat} : XE X (.Constant (.str i) j pos) Γ M (vStr i) := xe_c pe_str
/-- a name of the module that holds an object of the written part -/
theorem xe_gl {n : Str} {u : Value} (hm : X.mg n = some u) (r : RelV x u) (hg : Gl X n := by rfl) (hd : (n == ("__debug__" : Str)) = false := by decide) : XE X (.Name n pos) Γ M (vVal x) := xe_c (pe_glob hg hm r hd)
theorem xe_bt {n : Str} {u : Value} (hm : X.mg n = none) (hv : bootBuiltins n = some u) (r : RelV x u) (hg : Gl X n := by rfl) (hn : n ≠ "__name__" := by decide) (hd : (n == ("__debug__" : Str)) = false := by decide) : XE X (.Name n pos) Γ M (vVal x) := xe_c (pe_bltn hg hm hv r hn hd)
/-! ### two in a row -/
theorem x2 (ha : XE X a Γ M p) (hb : XE X b Γ M q) {G H : Hp} {σ : L2.St} (s : St0 G H σ Γ M) {R : V → V → Hp → Prop} (h : ∀ v w G' H', Stp G H G' H' → p.r G' v → q.r G' w → R v w H') : wE X a σ H fun v H1 => wE X b σ H1 fun w H2 => R v w H2 :=
  ha G H σ s _ fun v G1 H1 t1 r1 => hb G1 H1 σ (s.stp t1) _ fun w G2 H2 t2 r2 => h v w G2 H2 (t1.trans t2) (Pv.mono _ (le_same t2.g) r1) r2
theorem xe_opG {op : Operator} {r : R2} (ho : OpR X (binaryOp op) r) (ha : XE X a Γ M p) (hb : XE X b Γ M q)
    (hr : ∀ G H v w, Same G H → p.r G v → q.r G w → ∀ Q : VK, (∀ u G' H', Stp G H G' H' → z.r G' u → Q u H') → r v w H Q) : XE X (.BinOp a op b pos) Γ M z := fun G H σ s Q k =>
  ⟨_, pe_op ho pe_w pe_w, x2 ha hb s fun v w G' H' t rv rw => hr G' H' v w t.i rv rw Q fun u G2 H2 t2 ru => k u G2 H2 (t.trans t2) ru⟩
theorem xe_cmpG {op : CmpOp} {r : R2} (ho : OpR X (compareOp op) r) (ha : XE X a Γ M p) (hb : XE X b Γ M q)
    (hr : ∀ G H v w, Same G H → p.r G v → q.r G w → ∀ Q : VK, (∀ u G' H', Stp G H G' H' → z.r G' u → Q u H') → r v w H Q) (hm : behindInMarks op b = false := by first | exact nobehind _ (by decide) (by decide) | rfl) : XE X (.Compare a [op] [b] pos) Γ M z := fun G H σ s Q k =>
  ⟨_, pe_cmpR ho pe_w pe_w hm, x2 ha hb s fun v w G' H' t rv rw => hr G' H' v w t.i rv rw Q fun u G2 H2 t2 ru => k u G2 H2 (t.trans t2) ru⟩
theorem xt_cmpG {op : CmpOp} {r : R2} {u : Bool} (ho : OpR X (compareOp op) r) (ha : XE X a Γ M p) (hb : XE X b Γ M q)
    (hr : ∀ G H v w, Same G H → p.r G v → q.r G w → ∀ Q : VK, (∀ G' H', Stp G H G' H' → Q (.bl u) H') → r v w H Q) (hm : behindInMarks op b = false := by first | exact nobehind _ (by decide) (by decide) | rfl) : XT X (.Compare a [op] [b] pos) Γ M u := fun G H σ s Q k =>
  ⟨_, pt_cmpR ho pe_w pe_w hm, x2 ha hb s fun v w G' H' t rv rw => hr G' H' v w t.i rv rw _ fun G2 H2 t2 => ⟨u, rfl, k G2 H2 (t.trans t2)⟩⟩
/-- scalars -/
theorem xe_op {op : Operator} {r : R2} {w : V} (ho : OpR X (binaryOp op) r) (ha : XE X a Γ M (vVal x)) (hb : XE X b Γ M (vVal y)) (hr : ∀ H (Q : VK), Q w H → r x y H Q) : XE X (.BinOp a op b pos) Γ M (vVal w) :=
  xe_opG ho ha hb fun G H v u i rv ru Q k => by cases rv; cases ru; exact hr H Q (k w G H (.refl i) rfl)
theorem xe_cmp {op : CmpOp} {r : R2} {w : V} (ho : OpR X (compareOp op) r) (ha : XE X a Γ M (vVal x)) (hb : XE X b Γ M (vVal y)) (hr : ∀ H (Q : VK), Q w H → r x y H Q) (hm : behindInMarks op b = false := by first | exact nobehind _ (by decide) (by decide) | rfl) : XE X (.Compare a [op] [b] pos) Γ M (vVal w) :=
  xe_cmpG ho ha hb (fun G H v u i rv ru Q k => by cases rv; cases ru; exact hr H Q (k w G H (.refl i) rfl)) hm
theorem xt_cmp {op : CmpOp} {r : R2} {w : Bool} (ho : OpR X (compareOp op) r) (ha : XE X a Γ M (vVal x)) (hb : XE X b Γ M (vVal y)) (hr : ∀ H (Q : VK), Q (.bl w) H → r x y H Q) (hm : behindInMarks op b = false := by first | exact nobehind _ (by decide) (by decide) | rfl) : XT X (.Compare a [op] [b] pos) Γ M w :=
  xt_cmpG ho ha hb (fun G H v u i rv ru Q k => by cases rv; cases ru; exact hr H Q (k G H (.refl i))) hm
theorem xe_add {i j : Int} (ha : XE X a Γ M (vInt i)) (hb : XE X b Γ M (vInt j)) : XE X (.BinOp a .Add b pos) Γ M (vInt (i + j)) := xe_op op_add ha hb fun H Q q => ⟨_, _, rfl, rfl, q⟩
theorem xe_sub {i j : Int} (ha : XE X a Γ M (vInt i)) (hb : XE X b Γ M (vInt j)) : XE X (.BinOp a .Sub b pos) Γ M (vInt (i - j)) := xe_op op_sub ha hb fun H Q q => ⟨_, _, rfl, rfl, q⟩
theorem xe_mul {i j : Int} (ha : XE X a Γ M (vInt i)) (hb : XE X b Γ M (vInt j)) (hc : CMul i j) : XE X (.BinOp a .Mult b pos) Γ M (vInt (i * j)) := xe_op op_mul ha hb fun H Q q => ⟨_, _, rfl, rfl, hc, q⟩
theorem xe_mod {i j : Int} (ha : XE X a Γ M (vInt i)) (hb : XE X b Γ M (vInt j)) (hc : 0 < j) : XE X (.BinOp a .Mod b pos) Γ M (vInt (i % j)) := xe_op op_mod ha hb fun H Q q => ⟨_, _, rfl, rfl, hc, q⟩
theorem xe_fdiv {i j : Int} (ha : XE X a Γ M (vInt i)) (hb : XE X b Γ M (vInt j)) (hc : CDiv i j) : XE X (.BinOp a .FloorDiv b pos) Γ M (vInt (i / j)) := xe_op op_fdiv ha hb fun H Q q => ⟨_, _, rfl, rfl, hc, q⟩
theorem xe_pow {i j : Int} (ha : XE X a Γ M (vInt i)) (hb : XE X b Γ M (vInt j)) (hc : CPow i j) : XE X (.BinOp a .Pow b pos) Γ M (vInt (i ^ j.toNat)) := xe_op op_pow ha hb fun H Q q => ⟨_, _, rfl, rfl, hc, q⟩
theorem xe_cat {i j : Str} (ha : XE X a Γ M (vStr i)) (hb : XE X b Γ M (vStr j)) (hc : i.length + j.length ≤ sizeLine) : XE X (.BinOp a .Add b pos) Γ M (vStr (i ++ j)) := xe_op op_add_str ha hb fun H Q q => ⟨_, _, rfl, rfl, hc, q⟩
theorem xe_lt {i j : Int} (ha : XE X a Γ M (vInt i)) (hb : XE X b Γ M (vInt j)) : XE X (.Compare a [.Lt] [b] pos) Γ M (vBl (decide (i < j))) := xe_cmp op_lt ha hb fun H Q q => ⟨_, _, rfl, rfl, q⟩
theorem xe_le {i j : Int} (ha : XE X a Γ M (vInt i)) (hb : XE X b Γ M (vInt j)) : XE X (.Compare a [.LtE] [b] pos) Γ M (vBl (decide (i ≤ j))) := xe_cmp op_le ha hb fun H Q q => ⟨_, _, rfl, rfl, q⟩
theorem xe_gt {i j : Int} (ha : XE X a Γ M (vInt i)) (hb : XE X b Γ M (vInt j)) : XE X (.Compare a [.Gt] [b] pos) Γ M (vBl (decide (j < i))) := xe_cmp op_gt ha hb fun H Q q => ⟨_, _, rfl, rfl, q⟩
theorem xe_ge {i j : Int} (ha : XE X a Γ M (vInt i)) (hb : XE X b Γ M (vInt j)) : XE X (.Compare a [.GtE] [b] pos) Γ M (vBl (decide (j ≤ i))) := xe_cmp op_ge ha hb fun H Q q => ⟨_, _, rfl, rfl, q⟩
theorem xe_eq (ha : XE X a Γ M (vVal x)) (hb : XE X b Γ M (vVal y)) (hs : scal x y = true := by rfl) : XE X (.Compare a [.Eq] [b] pos) Γ M (vBl (decide (x = y))) := xe_cmp op_eq ha hb fun H Q q => ⟨hs, q⟩
theorem xe_ne (ha : XE X a Γ M (vVal x)) (hb : XE X b Γ M (vVal y)) (hs : scal x y = true := by rfl) : XE X (.Compare a [.NotEq] [b] pos) Γ M (vBl (!decide (x = y))) := xe_cmp op_ne ha hb fun H Q q => ⟨hs, q⟩
theorem xt_lt {i j : Int} (ha : XE X a Γ M (vInt i)) (hb : XE X b Γ M (vInt j)) : XT X (.Compare a [.Lt] [b] pos) Γ M (decide (i < j)) := xt_cmp op_lt ha hb fun H Q q => ⟨_, _, rfl, rfl, q⟩
theorem xt_le {i j : Int} (ha : XE X a Γ M (vInt i)) (hb : XE X b Γ M (vInt j)) : XT X (.Compare a [.LtE] [b] pos) Γ M (decide (i ≤ j)) := xt_cmp op_le ha hb fun H Q q => ⟨_, _, rfl, rfl, q⟩
theorem xt_gt {i j : Int} (ha : XE X a Γ M (vInt i)) (hb : XE X b Γ M (vInt j)) : XT X (.Compare a [.Gt] [b] pos) Γ M (decide (j < i)) := xt_cmp op_gt ha hb fun H Q q => ⟨_, _, rfl, rfl, q⟩
theorem xt_ge {i j : Int} (ha : XE X a Γ M (vInt i)) (hb : XE X b Γ M (vInt j)) : XT X (.Compare a [.GtE] [b] pos) Γ M (decide (j ≤ i)) := xt_cmp op_ge ha hb fun H Q q => ⟨_, _, rfl, rfl, q⟩
theorem xt_eq (ha : XE X a Γ M (vVal x)) (hb : XE X b Γ M (vVal y)) (hs : scal x y = true := by rfl) : XT X (.Compare a [.Eq] [b] pos) Γ M (decide (x = y)) := xt_cmp op_eq ha hb fun H Q q => ⟨hs, q⟩
theorem xt_ne (ha : XE X a Γ M (vVal x)) (hb : XE X b Γ M (vVal y)) (hs : scal x y = true := by rfl) : XT X (.Compare a [.NotEq] [b] pos) Γ M (!decide (x = y)) := xt_cmp op_ne ha hb fun H Q q => ⟨hs, q⟩
/-- is None: of any value that is known to be None or not -/
def NonP (p : Pv) (u : Bool) : Prop := ∀ G v, p.r G v → decide (v = V.non) = u
theorem nonP_val : NonP (vVal x) (decide (x = V.non)) := fun G v h => by cases h; rfl
theorem nonP_tup {ps} : NonP (vTup ps) false := fun G v ⟨_, _, h, _⟩ => by subst h; rfl
theorem nonP_lst {ps} : NonP (vLst ps) false := fun G v ⟨_, _, h, _⟩ => by subst h; rfl
theorem nonP_slt {K ps} : NonP (vSlt K ps) false := fun G v ⟨_, _, _, h, _⟩ => by subst h; rfl
theorem nonP_ins {K ps} : NonP (vIns K ps) false := fun G v ⟨_, _, _, h, _⟩ => by subst h; rfl
theorem nonP_dic {ps} : NonP (vDic ps) false := fun G v ⟨_, h, _⟩ => by subst h; rfl
theorem xe_isN {u : Bool} {j : Nat} {pos' : Pos} (ha : XE X a Γ M p) (n : NonP p u) : XE X (.Compare a [.Is] [.Constant .none j pos'] pos) Γ M (vBl u) := xe_cmpG op_isN ha xe_non fun G H v w i rv rw Q k => ⟨rw, by rw [n _ _ rv]; exact k _ _ _ (.refl i) rfl⟩
theorem xe_notN {u : Bool} {j : Nat} {pos' : Pos} (ha : XE X a Γ M p) (n : NonP p u) : XE X (.Compare a [.IsNot] [.Constant .none j pos'] pos) Γ M (vBl (!u)) := xe_cmpG op_notN ha xe_non fun G H v w i rv rw Q k => ⟨rw, by rw [n _ _ rv]; exact k _ _ _ (.refl i) rfl⟩
theorem xt_isN {u : Bool} {j : Nat} {pos' : Pos} (ha : XE X a Γ M p) (n : NonP p u) : XT X (.Compare a [.Is] [.Constant .none j pos'] pos) Γ M u := xt_cmpG op_isN ha xe_non fun G H v w i rv rw Q k => ⟨rw, by rw [n _ _ rv]; exact k _ _ (.refl i)⟩
theorem xt_notN {u : Bool} {j : Nat} {pos' : Pos} (ha : XE X a Γ M p) (n : NonP p u) : XT X (.Compare a [.IsNot] [.Constant .none j pos'] pos) Γ M (!u) := xt_cmpG op_notN ha xe_non fun G H v w i rv rw Q k => ⟨rw, by rw [n _ _ rv]; exact k _ _ (.refl i)⟩
/-! ### and, or, not, if else -/
theorem xt_val {u : Bool} (h : XE X e Γ M (vBl u)) (he : ∀ whole, isTrue e X.env whole = (do let v ← whole; standAt e.pos; holding [v] (truthy v)) := by intro _; rfl) : XT X e Γ M u := fun G H σ s Q k =>
  ⟨_, pt_val pe_w he, h G H σ s _ fun v G' H' t r => ⟨u, r, k G' H' t⟩⟩
theorem xt_not {u : Bool} (h : XT X a Γ M u) : XT X (.UnaryOp .Not a pos) Γ M (!u) := fun G H σ s Q k => ⟨_, pt_not pt_w, h G H σ s _ fun G' H' t => k G' H' t⟩
theorem xe_not {u : Bool} (h : XE X a Γ M (vBl u)) : XE X (.UnaryOp .Not a pos) Γ M (vBl (!u)) := fun G H σ s Q k => ⟨_, pe_not pe_w, h G H σ s _ fun v G' H' t r => ⟨u, r, k _ G' H' t rfl⟩⟩
/-- the chain's own form -/
def XW (X : Cx) (e : Expr) (Γ : En) (M : Mu) (b : Bool) : Prop := ∀ G H σ, St0 G H σ Γ M → ∀ Q : Bool → Hp → Prop, (∀ G' H', Stp G H G' H' → Q b H') → ∃ t, PW X e t ∧ t σ H Q
def wW (X : Cx) (e : Expr) : TT := fun σ H Q => ∃ t, PW X e t ∧ t σ H Q
theorem pw_w : PW X e (wW X e) := ⟨fun wh pins s σ H Q I ⟨t, h, q⟩ => h.run wh pins s σ H Q I q⟩
theorem XW.pt {u : Bool} (h : XW X e Γ M u) : XT X e Γ M u := fun G H σ s Q k => by
  obtain ⟨t, h1, h2⟩ := h G H σ s Q k
  exact ⟨t, h1.pt, h2⟩
theorem xw_and1 {u : Bool} (h : XT X a Γ M u) : XW X (.BoolOp .And [a] pos) Γ M u := fun G H σ s Q k => ⟨_, pw_and1 pt_w, h G H σ s Q k⟩
theorem xw_or1 {u : Bool} (h : XT X a Γ M u) : XW X (.BoolOp .Or [a] pos) Γ M u := fun G H σ s Q k => ⟨_, pw_or1 pt_w, h G H σ s Q k⟩
theorem xw_and {u w : Bool} {r : List Expr} (h : XT X a Γ M u) (h2 : u = true → XW X (.BoolOp .And (b :: r) pos) Γ M w) : XW X (.BoolOp .And (a :: b :: r) pos) Γ M (u && w) := fun G H σ s Q k =>
  ⟨_, pw_and pt_w pw_w, h G H σ s _ fun G' H' t => by
    cases u with
    | false => exact k G' H' t
    | true => exact h2 rfl G' H' σ (s.stp t) Q fun G2 H2 t2 => k G2 H2 (t.trans t2)⟩
theorem xw_or {u w : Bool} {r : List Expr} (h : XT X a Γ M u) (h2 : u = false → XW X (.BoolOp .Or (b :: r) pos) Γ M w) : XW X (.BoolOp .Or (a :: b :: r) pos) Γ M (u || w) := fun G H σ s Q k =>
  ⟨_, pw_or pt_w pw_w, h G H σ s _ fun G' H' t => by
    cases u with
    | true => exact k G' H' t
    | false => exact h2 rfl G' H' σ (s.stp t) Q fun G2 H2 t2 => k G2 H2 (t.trans t2)⟩
theorem xe_one {op : BoolOp} (h : XE X a Γ M p) : XE X (.BoolOp op [a] pos) Γ M p := fun G H σ s Q k => ⟨_, pe_one pe_w, h G H σ s Q k⟩
theorem xe_and {u w : Bool} {r : List Expr} (h : XE X a Γ M (vBl u)) (h2 : u = true → XE X (.BoolOp .And (b :: r) pos) Γ M (vBl w)) : XE X (.BoolOp .And (a :: b :: r) pos) Γ M (vBl (u && w)) := fun G H σ s Q k =>
  ⟨_, pe_and pe_w pe_w, h G H σ s _ fun v G' H' t rv => by
    refine ⟨u, rv, ?_⟩
    cases u with
    | false => exact k _ G' H' t rfl
    | true => exact h2 rfl G' H' σ (s.stp t) Q fun v G2 H2 t2 r2 => k v G2 H2 (t.trans t2) r2⟩
theorem xe_or {u w : Bool} {r : List Expr} (h : XE X a Γ M (vBl u)) (h2 : u = false → XE X (.BoolOp .Or (b :: r) pos) Γ M (vBl w)) : XE X (.BoolOp .Or (a :: b :: r) pos) Γ M (vBl (u || w)) := fun G H σ s Q k =>
  ⟨_, pe_or pe_w pe_w, h G H σ s _ fun v G' H' t rv => by
    refine ⟨u, rv, ?_⟩
    cases u with
    | true => exact k _ G' H' t rfl
    | false => exact h2 rfl G' H' σ (s.stp t) Q fun v G2 H2 t2 r2 => k v G2 H2 (t.trans t2) r2⟩
theorem xe_if {u : Bool} (h : XT X c Γ M u) (h1 : u = true → XE X a Γ M p) (h2 : u = false → XE X b Γ M p) : XE X (.IfExp c a b pos) Γ M p := fun G H σ s Q k =>
  ⟨_, pe_ifExp pt_w pe_w pe_w, h G H σ s _ fun G' H' t => by
    cases u with
    | true => exact h1 rfl G' H' σ (s.stp t) Q fun v G2 H2 t2 r2 => k v G2 H2 (t.trans t2) r2
    | false => exact h2 rfl G' H' σ (s.stp t) Q fun v G2 H2 t2 r2 => k v G2 H2 (t.trans t2) r2⟩
/-- a <= b <= c of ints -/
theorem xe_chain {op op' : CmpOp} {r r' : R2} {w w' : V} {u u' : Bool} (ho : OpR X (compareOp op) r) (ho' : OpR X (compareOp op') r') (ha : XE X a Γ M (vVal x)) (hb : XE X b Γ M (vVal y)) (hc : XE X c Γ M (vVal w)) (hr : ∀ H (Q : VK), Q (.bl u) H → r x y H Q) (hr' : ∀ H (Q : VK), Q (.bl u') H → r' y w H Q)
    (hm : lastMarks [op, op'] [b, c] = false := by with_unfolding_all rfl) : XE X (.Compare a [op, op'] [b, c] pos) Γ M (vBl (u && u')) := fun G H σ s Q k =>
  ⟨_, pe_chain ho ho' pe_w pe_w pe_w hm, x2 ha hb s fun v v2 G' H' t rv rv2 => by
    cases rv; cases rv2
    refine hr H' _ ⟨u, rfl, ?_⟩
    cases u with
    | false => exact k _ G' H' t rfl
    | true => exact hc G' H' σ (s.stp t) _ fun v3 G2 H2 t2 r3 => by cases r3; exact hr' H2 Q (k _ G2 H2 (t.trans t2) rfl)⟩
theorem xt_chain {op op' : CmpOp} {r r' : R2} {w : V} {u u' : Bool} (ho : OpR X (compareOp op) r) (ho' : OpR X (compareOp op') r') (ha : XE X a Γ M (vVal x)) (hb : XE X b Γ M (vVal y)) (hc : XE X c Γ M (vVal w)) (hr : ∀ H (Q : VK), Q (.bl u) H → r x y H Q) (hr' : ∀ H (Q : VK), Q (.bl u') H → r' y w H Q)
    (hm : lastMarks [op, op'] [b, c] = false := by with_unfolding_all rfl) : XT X (.Compare a [op, op'] [b, c] pos) Γ M (u && u') := fun G H σ s Q k =>
  ⟨_, pt_chain ho ho' pe_w pe_w pe_w hm, x2 ha hb s fun v v2 G' H' t rv rv2 => by
    cases rv; cases rv2
    refine hr H' _ ⟨u, rfl, ?_⟩
    cases u with
    | false => exact ⟨_, rfl, k G' H' t⟩
    | true => exact hc G' H' σ (s.stp t) _ fun v3 G2 H2 t2 r3 => by cases r3; exact hr' H2 _ ⟨_, rfl, k G2 H2 (t.trans t2)⟩⟩
/-! ### arguments, displays -/
theorem xa_nil : XA X [] Γ M [] := fun G H σ s Q k => ⟨_, pa_nil, k [] G H (.refl s.i) .nil⟩
theorem xa_cons (h : XE X e Γ M p) (t : XA X es Γ M ps) (hs : starEach (e :: es) X.env = (false, eval e X.env) :: starEach es X.env := by rfl) : XA X (e :: es) Γ M (p :: ps) := fun G H σ s Q k =>
  ⟨_, pa_cons pe_w pa_w hs, h G H σ s _ fun v G1 H1 t1 r1 => t G1 H1 σ (s.stp t1) _ fun vs G2 H2 t2 r2 => k (v :: vs) G2 H2 (t1.trans t2) (.cons (Pv.mono _ (le_same t2.g) r1) r2)⟩
theorem xe_tup {j : Nat} (h : XA X es Γ M ps) (hl : ps.length ≤ sizeLine := by show _ ≤ sizeLine; rw [sizeLine_eq]; exact Nat.le_of_ble_eq_true rfl) : XE X (.Tuple es j pos) Γ M (vTup ps) := fun G H σ s Q k =>
  ⟨_, pe_tup pa_w, h G H σ s _ fun vs G1 H1 t1 r1 => ⟨by rw [r1.len]; exact hl, fun a ha => k (.ref a) _ _ (t1.trans (Stp.new t1.i ha)) ⟨a, vs, rfl, upd_same, r1.mono (le_same (same_new (t1.i.free ha)))⟩⟩⟩
theorem xn_lst (h : XA X es Γ M ps) (hl : ps.length ≤ sizeLine := by show _ ≤ sizeLine; rw [sizeLine_eq]; exact Nat.le_of_ble_eq_true rfl) : XN X (.List es pos) Γ M (mLst ps) := fun G H σ s Q k =>
  ⟨_, pe_lst pa_w, h G H σ s _ fun vs G1 H1 t1 r1 => ⟨by rw [r1.len]; exact hl, fun a ha => k a _ G1 _ (t1.trans (Stp.tmp t1.i ha)) (t1.h.free ha) (t1.i.free ha) upd_same ⟨vs, rfl, r1⟩⟩⟩
theorem mLst_lst {G : Hp} {v : Addr} {u : HO} (h : (mLst ps).r G u) (e : G v = some u) : (vLst ps).r G (.ref v) := by
  obtain ⟨xs, rfl, q⟩ := h
  exact ⟨v, xs, rfl, e, q⟩
theorem xe_lst (h : XA X es Γ M ps) (hl : ps.length ≤ sizeLine := by show _ ≤ sizeLine; rw [sizeLine_eq]; exact Nat.le_of_ble_eq_true rfl) : XE X (.List es pos) Γ M (vLst ps) := (xn_lst h hl).xe fun G v u r e => mLst_lst r e
theorem mDic_dic {kp : List (Str × Pv)} {G : Hp} {v : Addr} {u : HO} (h : (mDic kp).r G u) (e : G v = some u) : (vDic kp).r G (.ref v) := by
  obtain ⟨xs, rfl, q⟩ := h
  exact ⟨v, rfl, xs, .inl e, q⟩
theorem xn_dic : XN X (.Dict [] [] pos) Γ M (mDic []) := fun G H σ s Q k => ⟨_, pe_dnewK, fun a ha => k a _ G _ (Stp.tmp s.i ha) ha (s.i.free ha) upd_same ⟨[], rfl, .nil⟩⟩
/-! ### builtin calls -/
theorem xe_cb {n : Str} {idS : String} {r : List V → Hp → VK → Prop} {pp : Pos} (hc : CallR X (.builtin idS) r) (hm : X.mg n = none) (hv : bootBuiltins n = some (.builtin idS)) (ha : XA X (e :: es) Γ M ps)
    (hr : ∀ G H vs, Same G H → AlA G vs ps → ∀ Q : VK, (∀ u G' H', Stp G H G' H' → z.r G' u → Q u H') → r vs H Q) (hg : Gl X n := by rfl) (hn : n ≠ "__name__" := by decide) (hdb : (n == ("__debug__" : Str)) = false := by decide)
    (he : starEach (e :: es) X.env = (false, eval e X.env) :: starEach es X.env := by rfl) (hpl : (backTo pos (starEach es X.env)).any (·.1) = false := by rfl) : XE X (.Call (.Name n pp) (e :: es) [] pos) Γ M z := fun G H σ s Q k =>
  ⟨_, pe_callB hc hg hm hv pa_w hn hdb he hpl, ha G H σ s _ fun vs G1 H1 t1 r1 => hr G1 H1 vs t1.i r1 Q fun u G2 H2 t2 r2 => k u G2 H2 (t1.trans t2) r2⟩
theorem xe_cty {n : Str} {T : String} {r : List V → Hp → VK → Prop} {pp : Pos} (hc : CallR X (.type T) r) (hm : X.mg n = none) (hv : bootBuiltins n = some (.type T)) (ha : XA X (e :: es) Γ M ps)
    (hr : ∀ G H vs, Same G H → AlA G vs ps → ∀ Q : VK, (∀ u G' H', Stp G H G' H' → z.r G' u → Q u H') → r vs H Q) (hg : Gl X n := by rfl) (hn : n ≠ "__name__" := by decide) (hdb : (n == ("__debug__" : Str)) = false := by decide)
    (he : starEach (e :: es) X.env = (false, eval e X.env) :: starEach es X.env := by rfl) (hpl : (backTo pos (starEach es X.env)).any (·.1) = false := by rfl) : XE X (.Call (.Name n pp) (e :: es) [] pos) Γ M z := fun G H σ s Q k =>
  ⟨_, pe_callTy hc hg hm hv pa_w hn hdb he hpl, ha G H σ s _ fun vs G1 H1 t1 r1 => hr G1 H1 vs t1.i r1 Q fun u G2 H2 t2 r2 => k u G2 H2 (t1.trans t2) r2⟩
theorem alA1 {G : Hp} {vs : List V} (h : AlA G vs [p]) : ∃ v, vs = [v] ∧ p.r G v := by
  cases h with
  | cons h t => cases t; exact ⟨_, rfl, h⟩
theorem alA2 {G : Hp} {vs : List V} (h : AlA G vs [p, q]) : ∃ v w, vs = [v, w] ∧ p.r G v ∧ q.r G w := by
  cases h with
  | cons h t =>
    obtain ⟨w, rfl, h2⟩ := alA1 t
    exact ⟨_, _, rfl, h, h2⟩
/-! ### statements -/
theorem xss_nil (h : ∀ G H σ, Sta e0 G H σ Γ M → P.nx G H σ) : XSs X e0 [] Γ M P := fun G H σ s D f => ⟨_, pss_nil, f.nx G H σ (h G H σ s)⟩
theorem xss_one {st : Stmt} (h : XS X e0 st Γ M P) : XSs X e0 [st] Γ M P := fun G H σ s D f => ⟨_, pss_one ps_w, h G H σ s D f⟩
theorem xss_cons {st : Stmt} {rest : List Stmt} {Γ' : En} {M' : Mu} (h : XS X e0 st Γ M { P with nx := fun G H σ => Sta e0 G H σ Γ' M' }) (hr : XSs X e0 rest Γ' M' P) : XSs X e0 (st :: rest) Γ M P := fun G H σ s D f =>
  ⟨_, pss_cons ps_w pss_w, h G H σ s _ ⟨fun G1 H1 σ1 s1 => hr G1 H1 σ1 s1 D f, f.rt, f.bk, f.ct⟩⟩
/-- a statement behind which nothing comes -/
theorem xss_stop {st : Stmt} {rest : List Stmt} (h : XS X e0 st Γ M { P with nx := fun _ _ _ => False }) : XSs X e0 (st :: rest) Γ M P := fun G H σ s D f =>
  ⟨_, pss_cons ps_w pss_w, h G H σ s _ ⟨fun G1 H1 σ1 s1 => s1.elim, f.rt, f.bk, f.ct⟩⟩
theorem xs_asg {i : Nat} {n : Str} {pos' : Pos} (he : XE X e Γ M p) (k : ∀ G H σ, Sta e0 G H σ (Γ.set i (some p)) M → P.nx G H σ) (hN : X.N.Nodup) (hi : X.N[i]? = some n := by rfl) (hx : Loc X.env.scope n := by first | exact .inl rfl | exact .inr rfl) (hs : swapsWith e (some (.Name n pos')) pos.line X.env = pure false := by rfl)
    (hf : X.fn n = true ∨ X.env.scope.names.lookup n = some .local := by first | exact .inl rfl | exact .inr rfl) : XS X e0 (.Assign [.Name n pos'] e pos) Γ M P := fun G H σ s D f =>
  ⟨_, ps_set hN hi hx pe_w hs hf, he G H σ s.s _ fun v G1 H1 t1 r1 => f.nx G1 H1 _ (k G1 H1 _ ((s.stp t1).set r1))⟩
/-- name = e -/
theorem xss_set {i : Nat} {n : Str} {pos' : Pos} {rest : List Stmt} (he : XE X e Γ M p) (hN : X.N.Nodup) (k : XSs X e0 rest (Γ.set i (some p)) M P) (hi : X.N[i]? = some n := by rfl) (hx : Loc X.env.scope n := by first | exact .inl rfl | exact .inr rfl) (hs : swapsWith e (some (.Name n pos')) pos.line X.env = pure false := by rfl)
    (hf : X.fn n = true ∨ X.env.scope.names.lookup n = some .local := by first | exact .inl rfl | exact .inr rfl) : XSs X e0 (.Assign [.Name n pos'] e pos :: rest) Γ M P :=
  xss_cons (xs_asg he (fun _ _ _ s => s) hN hi hx hs hf) k
/-- name = a new object that may change -/
theorem xss_new {i : Nat} {n : Str} {pos' : Pos} {rest : List Stmt} {o : Mo} (he : XN X e Γ M o) (hN : X.N.Nodup) (k : ∀ a, XSs X e0 rest (Γ.set i (some (vVal (.ref a)))) ((a, o) :: M) P) (hi : X.N[i]? = some n := by rfl) (hx : Loc X.env.scope n := by first | exact .inl rfl | exact .inr rfl) (hs : swapsWith e (some (.Name n pos')) pos.line X.env = pure false := by rfl)
    (hf : X.fn n = true ∨ X.env.scope.names.lookup n = some .local := by first | exact .inl rfl | exact .inr rfl) : XSs X e0 (.Assign [.Name n pos'] e pos :: rest) Γ M P := fun G H σ s D f =>
  ⟨_, pss_cons (ps_set hN hi hx pe_w hs hf) pss_w, he G H σ s.s _ fun a ob G1 H1 t1 ha hg hh r1 => k a G1 H1 _ ((s.add t1 ha hg hh r1).set rfl) D f⟩
theorem xs_ret (he : XE X e Γ M p) (k : ∀ v G H, Stp e0.G e0.H G H → p.r G v → P.rt v G H) : XS X e0 (.Return (some e) pos) Γ M P := fun G H σ s D f =>
  ⟨_, ps_ret pe_w, he G H σ s.s _ fun v G1 H1 t1 r1 => f.rt v G1 H1 (k v G1 H1 (s.t.trans t1) r1)⟩
theorem xs_expr (he : XE X e Γ M p) (k : ∀ G H σ, Sta e0 G H σ Γ M → P.nx G H σ) (hs : swapsWith e none pos.line X.env = pure false := by rfl) : XS X e0 (.Expr e pos) Γ M P := fun G H σ s D f =>
  ⟨_, ps_expr pe_w hs, he G H σ s.s _ fun v G1 H1 t1 r1 => f.nx G1 H1 σ (k G1 H1 σ (s.stp t1))⟩
theorem xss_expr {rest : List Stmt} (he : XE X e Γ M p) (k : XSs X e0 rest Γ M P) (hs : swapsWith e none pos.line X.env = pure false := by rfl) : XSs X e0 (.Expr e pos :: rest) Γ M P := xss_cons (xs_expr he (fun _ _ _ s => s) hs) k
theorem xs_if {u : Bool} {th el : List Stmt} (hc : XT X c Γ M u) (h1 : u = true → XSs X e0 th Γ M P) (h2 : u = false → XSs X e0 el Γ M P) : XS X e0 (.If c th el pos) Γ M P := fun G H σ s D f =>
  ⟨_, ps_if pt_w pss_w pss_w, hc G H σ s.s _ fun G1 H1 t1 => by
    cases u with
    | true => exact h1 rfl G1 H1 σ (s.stp t1) D f
    | false => exact h2 rfl G1 H1 σ (s.stp t1) D f⟩
/-- if test: (leaves) -/
theorem xss_ift {th rest : List Stmt} (hc : XT X c Γ M true) (h1 : XSs X e0 th Γ M { P with nx := fun _ _ _ => False }) : XSs X e0 (.If c th [] pos :: rest) Γ M P :=
  xss_stop (xs_if hc (fun _ => h1) fun z => Bool.noConfusion z)
theorem xss_iff {th rest : List Stmt} (hc : XT X c Γ M false) (k : XSs X e0 rest Γ M P) : XSs X e0 (.If c th [] pos :: rest) Γ M P :=
  xss_cons (xs_if hc (fun z => Bool.noConfusion z) fun _ => xss_nil fun _ _ _ s => s) k
/-- an entry is opened -/
theorem xss_open {i : Nat} {ι : Type} {g : ι → Pv} {sts : List Stmt} (hi : Γ[i]? = some (some p)) (w : ∀ G v, p.r G v → ∃ x, (g x).r G v) (k : ∀ x, XSs X e0 sts (Γ.set i (some (g x))) M P) : XSs X e0 sts Γ M P := fun G H σ s D f => by
  obtain ⟨v, h1, h2⟩ := s.s.a.2 i p hi
  obtain ⟨x, hx⟩ := w G v h2
  have s' := s.set (i := i) hx
  have e : σ.set i (some v) = σ := by
    refine List.ext_getElem? fun j => ?_
    by_cases hj : j = i
    · subst hj
      rw [List.getElem?_set_self (List.getElem?_eq_some_iff.mp h1).1, h1]
    · rw [List.getElem?_set_ne (Ne.symm hj)]
  rw [e] at s'
  exact k x G H σ s' D f
/-- an object that may change stays from here on, its name says so -/
theorem xss_pub {i : Nat} {a : Addr} {o : Mo} {M1 M2 : Mu} {sts : List Stmt} (hi : Γ[i]? = some (some (vVal (.ref a)))) (w : ∀ G u, o.r G u → G a = some u → p.r G (.ref a)) (k : XSs X e0 sts (Γ.set i (some p)) (M1 ++ M2) P) : XSs X e0 sts Γ (M1 ++ (a, o) :: M2) P := fun G H σ s D f => by
  obtain ⟨ob, hr, hH, hG, s'⟩ := s.pub
  obtain ⟨v, h1, h2⟩ := s'.s.a.2 i _ hi
  obtain rfl : v = .ref a := h2
  have s2 := s'.set (i := i) (w _ ob (Mo.mono _ (le_same (same_new hG)) hr) upd_same)
  have e : σ.set i (some (V.ref a)) = σ := by
    refine List.ext_getElem? fun j => ?_
    by_cases hj : j = i
    · subst hj
      rw [List.getElem?_set_self (List.getElem?_eq_some_iff.mp h1).1, h1]
    · rw [List.getElem?_set_ne (Ne.symm hj)]
  rw [e] at s2
  exact k _ H σ s2 D f
end
/-! ### a def's promise -/
/-- arguments by d, what must hold of d, the answer by d -/
def spP {δ : Type} (args : δ → List Pv) (ok : δ → Prop) (res : δ → Pv) : Sp := fun vs H Q _ => ∃ d G, Same G H ∧ AlA G vs (args d) ∧ ok d ∧ ∀ v G' H', Stp G H G' H' → (res d).r G' v → Q v H'
def fP (e0 : Eb) (res : Pv) : Pst := ⟨fun G H _ => Stp e0.G e0.H G H ∧ res.r G .non, fun v G H => Stp e0.G e0.H G H ∧ res.r G v, fun _ _ _ => False, fun _ _ _ => False⟩
/-- a def of the module, by its name -/
structure Fd (P : Program) (w : World) (K : PySem.W.Frag) (mg : Str → Option Value) (base : Heap) (x : Str) (k : Nat) (ps : List Str) (dvs : List V) (sp : Sp) : Prop where
  ex : ∃ (f : Addr) (fd : FuncData) (ds : List Value), mg x = some (.ref f) ∧ PySem.W.keepIn K (.ref f) = true ∧ Vals dvs ds ∧ Binds K fd ps ds ∧ FnOk P w K mg base CX0 k f fd ps sp
theorem start_al {G : Hp} {N : List Str} {vs : List V} {ps : List Pv} (h : AlA G vs ps) (hl : vs.length ≤ N.length) : Al G (L2.start N vs) (ps.map some ++ List.replicate (N.length - ps.length) none) := by
  refine ⟨by unfold L2.start; rw [List.length_append, List.length_append, List.length_map, List.length_map, List.length_replicate, List.length_replicate, h.len], fun i p e => ?_⟩
  by_cases hi : i < ps.length
  · rw [List.getElem?_append_left (by simpa using hi), List.getElem?_map] at e
    cases q : ps[i]? with
    | none => rw [q] at e; cases e
    | some p' =>
      rw [q] at e
      cases e
      obtain ⟨v, h1, h2⟩ := h.get q
      refine ⟨v, ?_, h2⟩
      unfold L2.start
      rw [List.getElem?_append_left (by simpa [h.len] using hi), List.getElem?_map, h1]
      rfl
  · rw [List.getElem?_append_right (by simpa using Nat.le_of_not_lt hi), List.getElem?_replicate] at e
    split at e <;> cases e
/-- THE RULE for a def that raises nothing -/
theorem fd_of {P : Program} {w : World} {K : PySem.W.Frag} {mg : Str → Option Value} {base : Heap} {δ : Type} {args : δ → List Pv} {ok : δ → Prop} {res : δ → Pv} {x qual : Str} {params : Arguments} {body : List Stmt} {scope : Scope} {dvs : List V} {kws : List (Str × V)} {f : Addr} {fd : FuncData} {N ps : List Str} {k : Nat}
    (F : FunD K x qual params body scope dvs kws f fd) (S : FnScope N ps scope) (hl : ∀ d, (args d).length = ps.length) (hN : ps.length ≤ N.length)
    (h : ∀ (cdv : Value) (A : Around) (outer : List Env) (s : Shared) (H : Hp) (E : XK), Room k (A.deeper (envOfC qual scope s.heap.objs.size f cdv)) → ∀ d G, ok d → 
      XSs (cxOf CX0 P w K mg base N qual scope f cdv A outer s H E).nox ⟨G, G, H⟩ body ((args d).map some ++ List.replicate (N.length - (args d).length) none) [] (fP ⟨G, G, H⟩ (res d))) : FnOk P w K mg base CX0 (k + 1) f fd ps (spP args ok res) := by
  refine F.ok S (fun vs H Q E ⟨d, G, i, a, o, q⟩ => by rw [a.len, hl]) fun cdv A outer s H vs Q E hr ⟨d, G, i, a, o, q⟩ => ?_
  obtain ⟨t, h1, h2⟩ := h cdv A outer s H E hr d G o G H (L2.start N vs) ⟨.refl i, .refl _, ⟨i, start_al a (by rw [a.len, hl]; exact hN), List.nodup_nil, fun _ z => nomatch z⟩, fun _ z => nomatch z⟩ { nx := fun _ H' => Q .non H', rt := Q }
    ⟨fun G' H' _ ⟨t, r⟩ => q _ G' H' t r, fun v G' H' ⟨t, r⟩ => q v G' H' t r, fun _ _ _ z => z, fun _ _ _ z => z⟩
  exact ⟨t, h1.nox, h2⟩
section
variable {X : Cx} {e : Expr} {es : List Expr} {Γ : En} {M : Mu} {pos pp : Pos} {x : Str} {k j : Nat} {pn : List Str} {dvs : List V} {δ : Type} {args : δ → List Pv} {ok : δ → Prop} {res : δ → Pv}
/-- f(e, ..) -/
theorem xe_call (F : Fd X.prog X.w X.K X.mg X.base x k pn [] (spP args ok res)) (d : δ) (hr : Room j X.A) (ha : XA X (e :: es) Γ M (args d)) (ho : ok d) (hj : k ≤ j := by decide) (hg : Gl X x := by rfl) (hdb : (x == ("__debug__" : Str)) = false := by decide)
    (he : starEach (e :: es) X.env = (false, eval e X.env) :: starEach es X.env := by rfl) (hpl : (backTo pos (starEach es X.env)).any (·.1) = false := by rfl) : XE X (.Call (.Name x pp) (e :: es) [] pos) Γ M (res d) := fun G H σ s Q q => by
  obtain ⟨f, fd, ds, hm, hk, hd, hb, F⟩ := F.ex
  refine ⟨_, pe_call (E := E0) F (hr.mono hj) hg hm hk hb hd pass0 pa_w hdb he hpl, ha G H σ s _ fun vs G1 H1 t1 r1 => ⟨d, G1, t1.i, by rw [List.append_nil]; exact r1, ho, fun v G2 H2 t2 r2 => q v G2 H2 (t1.trans t2) r2⟩⟩
end
end K53
end KB_
section KC_
set_option maxRecDepth 100000
set_option maxHeartbeats 4000000
/-! KC: isinstance, views, subscripts, attributes, methods, walks, loops, comprehensions. -/
namespace K53
open PySem PySem.Spec PyProof.Rows L2
/-! ### isinstance -/
def IsiP (K : PySem.W.Frag) (p : Pv) (u : Value) (b : Bool) : Prop := ∀ H v, p.r H v → ∃ t, ((TyX K H v t ∧ PySem.W.kitOne K t u = some b) ∨ ∃ (a C dx : Addr) (vs : List (Option V)), v = .ref a ∧ SlX.Slt H a C dx vs ∧ SlX.SCls K C ∧ SlX.SIsi K C ∧ PySem.W.kitOne K (.ref C) u = some b)
/-- what isinstance asks of an own class -/
structure CIsi (K : PySem.W.Frag) (C : Addr) : Prop where
  ca : PySem.W.findIn K (.ref C) "__class__" = some (some (.builtin "object.__class__"))
  cn : PySem.W.specialIn K (.builtin "object.__class__") "__get__" = some (some (.builtin "getset_descriptor.__get__"))
  ct : PySem.W.takesIn K (.builtin "object.__class__") = some true
  cm : PySem.W.mroIn K C (.type "object") = some true
section
variable {X : Cx} {e c : Expr} {Γ : En} {M : Mu} {p : Pv} {pos pp : Pos} {b : Bool} {u : Value} {cv : V} {K : PySem.W.Frag}
theorem isi_int {i : Int} {n : String} (h : kitB "int" n = some b) : IsiP K (vInt i) (.type n) b := fun H v r => by cases r; exact ⟨_, .inl ⟨.base (.int i), kit_ty h⟩⟩
theorem isi_str {i : Str} {n : String} (h : kitB "str" n = some b) : IsiP K (vStr i) (.type n) b := fun H v r => by cases r; exact ⟨_, .inl ⟨.base (.str i), kit_ty h⟩⟩
theorem isi_bl {i : Bool} {n : String} (h : kitB "bool" n = some b) : IsiP K (vBl i) (.type n) b := fun H v r => by cases r; exact ⟨_, .inl ⟨.base (.bl i), kit_ty h⟩⟩
theorem isi_lst {ps : List Pv} {u : Value} (h : PySem.W.kitOne K (.type "list") u = some b) : IsiP K (vLst ps) u b := fun H v ⟨a, xs, e, h1, _⟩ => by subst e; exact ⟨_, .inl ⟨.base (.lst h1), h⟩⟩
theorem isi_tup {ps : List Pv} {u : Value} (h : PySem.W.kitOne K (.type "tuple") u = some b) : IsiP K (vTup ps) u b := fun H v ⟨a, xs, e, h1, _⟩ => by subst e; exact ⟨_, .inl ⟨.base (.tup h1), h⟩⟩
theorem isi_dicAt {d : Addr} {ps : List (Str × Pv)} {u : Value} (h : PySem.W.kitOne K (.type "dict") u = some b) : IsiP K (vDicAt d ps) u b := fun H v ⟨e, kv, h1, _⟩ => by
  subst e
  rcases h1 with h1 | ⟨o, h1⟩
  · exact ⟨_, .inl ⟨.base (.dK h1), h⟩⟩
  · exact ⟨_, .inl ⟨.fDict h1, h⟩⟩
theorem isi_dic {ps : List (Str × Pv)} {u : Value} (h : PySem.W.kitOne K (.type "dict") u = some b) : IsiP K (vDic ps) u b := fun H v ⟨d, h1⟩ => isi_dicAt h H v h1
theorem isi_ins {C : Addr} {fs : List (Str × Pv)} {u : Value} (cl : Cls K C) (ci : CIsi K C) (h : PySem.W.kitOne K (.ref C) u = some b) : IsiP K (vIns C fs) u b := fun H v ⟨a, dx, fv, e, h1, _⟩ => by
  subst e; exact ⟨_, .inl ⟨.base (.ins h1 cl ci.ca ci.cn ci.ct ci.cm), h⟩⟩
theorem isi_slt {C : Addr} {ps : List Pv} {u : Value} (cl : SlX.SCls K C) (ci : CIsi K C) (h : PySem.W.kitOne K (.ref C) u = some b) : IsiP K (vSlt C ps) u b := fun H v ⟨a, dx, fv, e, h1, _⟩ => by
  subst e; exact ⟨.none, .inr ⟨a, C, dx, _, rfl, h1, cl, ⟨ci.ca, ci.cn, ci.ct, ci.cm⟩, h⟩⟩
theorem xe_isi (hm : X.mg "isinstance" = none) (he : XE X e Γ M p) (hc : XE X c Γ M (vVal cv)) (hu : ClsV cv u) (h : IsiP X.K p u b) (hg : Gl X "isinstance" := by rfl)
    (h1 : starEach [e, c] X.env = (false, eval e X.env) :: starEach [c] X.env := by rfl) (h2 : starEach [c] X.env = (false, eval c X.env) :: starEach [] X.env := by rfl) (hpl : (backTo pos (starEach [c] X.env)).any (·.1) = false := by rfl) :
    XE X (.Call (.Name "isinstance" pp) [e, c] [] pos) Γ M (vBl b) :=
  xe_cb (CallR.or call_isi (SlX.call_isiSl u)) hm (by decide +kernel) (xa_cons he (xa_cons hc xa_nil h2) h1) (fun G H vs i av Q k => by
    obtain ⟨v, w, rfl, rv, rw⟩ := alA2 av
    cases rw
    have rv' := Pv.mono _ (le_same i) rv
    obtain ⟨t, q⟩ := h H v rv'
    rcases q with ⟨ty, q⟩ | ⟨a, C, dx, vs, rfl, sl, sc, si, q⟩
    · exact .inl ⟨v, cv, t, u, b, rfl, hu, ty, q, k _ G H (.refl i) rfl⟩
    · exact .inr ⟨a, C, dx, vs, cv, b, rfl, by cases hu <;> rfl, fun w r => hu.eq r, sl, sc, si, q, k _ G H (.refl i) rfl⟩) hg (by decide) (by decide) h1 hpl
end
/-! ### views: what is to be read of a value -/
def VwD (M : Mu) (p : Pv) (kp : List (Str × Pv)) : Prop := ∀ G H σ Γ, St0 G H σ Γ M → ∀ v, p.r G v → ∃ d kv, v = .ref d ∧ Rd H d (.dK kv) ∧ AlD G kv kp
def VwL (M : Mu) (p : Pv) (ps : List Pv) : Prop := ∀ G H σ Γ, St0 G H σ Γ M → ∀ v, p.r G v → ∃ a xs, v = .ref a ∧ H a = some (.lst xs) ∧ AlA G xs ps
def VwI (M : Mu) (p : Pv) (C : Addr) (fs : List (Str × Pv)) : Prop := ∀ G H σ Γ, St0 G H σ Γ M → ∀ v, p.r G v → ∃ a dx fv, v = .ref a ∧ H a = some (.ins C dx fv) ∧ AlF G fv fs
def mIns (C : Addr) (fs : List (Str × Pv)) : Mo := ⟨fun G o => ∃ dx fv, o = .ins C dx fv ∧ AlF G fv fs, fun l ⟨dx, fv, e, q⟩ => ⟨dx, fv, e, q.mono l⟩⟩
section
variable {M : Mu} {p : Pv} {kp : List (Str × Pv)} {ps : List Pv} {C a d : Addr} {fs : List (Str × Pv)}
theorem vwD_at : VwD M (vDicAt d kp) kp := fun G H σ Γ s v ⟨e, kv, h, q⟩ => ⟨d, kv, e, (le_same s.i).dk h, q⟩
theorem vwD : VwD M (vDic kp) kp := fun G H σ Γ s v ⟨d, h⟩ => vwD_at G H σ Γ s v h
theorem vwD_mu (h : (a, mDic kp) ∈ M) : VwD M (vVal (.ref a)) kp := fun G H σ Γ s v r => by
  obtain ⟨_, ob, h1, kv, rfl, q⟩ := s.m _ h
  exact ⟨a, kv, r, .inl h1, q⟩
theorem vwL : VwL M (vLst ps) ps := fun G H σ Γ s v ⟨a, xs, e, h, q⟩ => ⟨a, xs, e, s.i _ _ h, q⟩
theorem vwL_mu (h : (a, mLst ps) ∈ M) : VwL M (vVal (.ref a)) ps := fun G H σ Γ s v r => by
  obtain ⟨_, ob, h1, xs, rfl, q⟩ := s.m _ h
  exact ⟨a, xs, r, h1, q⟩
theorem vwI : VwI M (vIns C fs) C fs := fun G H σ Γ s v ⟨a, dx, fv, e, h, q⟩ => ⟨a, dx, fv, e, s.i _ _ h, q⟩
theorem vwI_mu (h : (a, mIns C fs) ∈ M) : VwI M (vVal (.ref a)) C fs := fun G H σ Γ s v r => by
  obtain ⟨_, ob, h1, dx, fv, rfl, q⟩ := s.m _ h
  exact ⟨a, dx, fv, r, h1, q⟩
end
theorem AlD.look {G : Hp} {s : Str} : ∀ {kv : List (Key × V)} {kp : List (Str × Pv)} {q : Pv}, AlD G kv kp → kp.lookup s = some q → ∃ v, valV kv (.inr s) = some v ∧ q.r G v
  | _, _, q, .nil, e => by simp at e
  | _, _, q, .cons (k := k) h t, e => by
    rw [List.lookup_cons] at e
    by_cases z : s = k
    · subst z
      rw [beq_self_eq_true] at e
      cases e
      exact ⟨_, valV_pos rfl, h⟩
    · rw [show (s == k) = false by simpa using z] at e
      obtain ⟨v, h1, h2⟩ := t.look e
      exact ⟨v, by rw [valV_neg (by intro y; cases y; exact z rfl)]; exact h1, h2⟩
theorem AlD.none {G : Hp} {s : Str} : ∀ {kv : List (Key × V)} {kp : List (Str × Pv)}, AlD G kv kp → kp.lookup s = Option.none → valV kv (.inr s) = Option.none
  | _, _, .nil, e => rfl
  | _, _, .cons (k := k) h t, e => by
    rw [List.lookup_cons] at e
    by_cases z : s = k
    · subst z
      rw [beq_self_eq_true] at e
      cases e
    · rw [show (s == k) = false by simpa using z] at e
      rw [valV_neg (by intro y; cases y; exact z rfl)]
      exact t.none e
theorem AlD.isSome {G : Hp} {s : Str} {kv : List (Key × V)} {kp : List (Str × Pv)} (h : AlD G kv kp) : (valV kv (.inr s)).isSome = (kp.lookup s).isSome := by
  cases e : kp.lookup s with
  | none => rw [h.none e]; rfl
  | some q => obtain ⟨v, h1, _⟩ := h.look e; rw [h1]; rfl
/-- d[k] = v on pairs -/
def putD (s : Str) (q : Pv) : List (Str × Pv) → List (Str × Pv)
  | [] => [(s, q)]
  | (k, p) :: r => if k = s then (k, q) :: r else (k, p) :: putD s q r
theorem putK_cons {k : Key} {x v : V} {kv : List (Key × V)} {j : Key} (h : j ≠ k) : putK ((j, x) :: kv) k v = (j, x) :: putK kv k v := by
  unfold putK
  rw [List.any_cons]
  have e : decide (((j, x) : Key × V).1 = k) = false := decide_eq_false h
  rw [e, Bool.false_or]
  split
  · rw [List.map_cons, if_neg h]
  · rfl
/-- keys once each -/
def KN (kv : List (Key × V)) : Prop := (kv.map (·.1)).Nodup
theorem AlD.keys {G : Hp} : ∀ {kv : List (Key × V)} {kp : List (Str × Pv)}, AlD G kv kp → kv.map (·.1) = kp.map (fun x => (Sum.inr x.1 : Key))
  | _, _, .nil => rfl
  | _, _, .cons h t => by rw [List.map_cons, List.map_cons, t.keys]
theorem AlD.put {G : Hp} {s : Str} {q : Pv} {v : V} (hv : q.r G v) : ∀ {kv : List (Key × V)} {kp : List (Str × Pv)}, AlD G kv kp → (kp.map (·.1)).Nodup → AlD G (putK kv (.inr s) v) (putD s q kp)
  | _, _, .nil, _ => .cons hv .nil
  | _, _, .cons (k := k) (v := x) (vs := kv) (ps := kp) h t, nd => by
    rw [List.map_cons, List.nodup_cons] at nd
    by_cases z : k = s
    · subst z
      have e : putK ((Sum.inr k, x) :: kv) (Sum.inr k : Key) v = (Sum.inr k, v) :: kv := by
        unfold putK
        rw [List.any_cons]
        have e1 : decide (((Sum.inr k, x) : Key × V).1 = Sum.inr k) = true := decide_eq_true rfl
        rw [e1, Bool.true_or, if_pos rfl, List.map_cons, if_pos rfl]
        congr 1
        have : ∀ y ∈ kv, (if y.1 = (Sum.inr k : Key) then (y.1, v) else y) = y := fun y hy => by
          rw [if_neg]
          intro e
          apply nd.1
          have : (Sum.inr k : Key) ∈ kv.map (·.1) := e ▸ List.mem_map_of_mem (f := (·.1)) hy
          rw [t.keys] at this
          obtain ⟨w, hw, ew⟩ := List.mem_map.mp this
          cases ew
          exact List.mem_map_of_mem (f := (·.1)) hw
        rw [List.map_congr_left this, List.map_id']
      rw [e]
      unfold putD
      rw [if_pos rfl]
      exact .cons hv t
    · rw [putK_cons (by intro y; cases y; exact z rfl)]
      unfold putD
      rw [if_neg z]
      exact .cons h (t.put hv nd.2)
theorem lookup_map {α : Type} {f : α → Pv} {s : Str} : ∀ {m : List (Str × α)}, (m.map fun x => (x.1, f x.2)).lookup s = (m.lookup s).map f
  | [] => rfl
  | (k, x) :: m => by
    rw [List.map_cons, List.lookup_cons, List.lookup_cons]
    cases s == k with
    | true => rfl
    | false => exact lookup_map
theorem AlA.atI {G : Hp} {vs : List V} {ps : List Pv} {i : Int} {p : Pv} (h : AlA G vs ps) (e : L2.atI ps i = some p) : ∃ v, L2.atI vs i = some v ∧ p.r G v := by
  unfold L2.atI at e ⊢
  rw [h.len]
  cases q : ixN ps.length i with
  | none => rw [q] at e; cases e
  | some j =>
    rw [q] at e
    exact h.get e
section
variable {X : Cx} {e a b c o k : Expr} {es : List Expr} {Γ : En} {M : Mu} {p q z : Pv} {ps : List Pv} {x y : V} {pos pp apos cpos : Pos} {e0 : Eb} {P : Pst} {kp fs : List (Str × Pv)} {s : Str}
/-- two in a row, the state told -/
theorem x2s (ha : XE X a Γ M p) (hb : XE X b Γ M q) {G H : Hp} {σ : L2.St} (s : St0 G H σ Γ M) {R : V → V → Hp → Prop} (h : ∀ v w G' H', St0 G' H' σ Γ M → Stp G H G' H' → p.r G' v → q.r G' w → R v w H') : wE X a σ H fun v H1 => wE X b σ H1 fun w H2 => R v w H2 :=
  x2 ha hb s fun v w G' H' t rv rw => h v w G' H' (s.stp t) t rv rw
/-! ### subscripts, in -/
theorem xe_dget (hu : X.A.units + 1 < cLine) (ho : XE X o Γ M p) (hk : XE X k Γ M (vStr s)) (vw : VwD M p kp) (hl : kp.lookup s = some q) (hs : NoSl k := by exact fun _ _ => rfl) : XE X (.Subscript o k pos) Γ M q := fun G H σ st Q w =>
  ⟨_, pe_dget hu pe_w pe_w hs, x2s ho hk st fun v u G' H' s' t rv ru => by
    obtain ⟨d, kv, rfl, rd, al⟩ := vw _ _ _ _ s' v rv
    cases ru
    obtain ⟨v, h1, h2⟩ := al.look hl
    exact ⟨d, v, rfl, .inl ⟨kv, .inr s, rd, rfl, h1.symm⟩, w v G' H' t h2⟩⟩
theorem xe_din (hu : X.A.units + 1 < cLine) (hk : XE X k Γ M (vStr s)) (ho : XE X o Γ M p) (vw : VwD M p kp) (hm : behindInMarks .In o = false := by rfl) : XE X (.Compare k [.In] [o] pos) Γ M (vBl (kp.lookup s).isSome) := fun G H σ st Q w =>
  ⟨_, pe_cmp (pc_din hu pe_w pe_w) hm, x2s hk ho st fun u v G' H' s' t ru rv => by
    obtain ⟨d, kv, rfl, rd, al⟩ := vw _ _ _ _ s' v rv
    cases ru
    exact ⟨d, _, rfl, .inl ⟨kv, .inr s, rd, rfl, rfl⟩, by rw [al.isSome]; exact w _ G' H' t rfl⟩⟩
theorem xt_din (hu : X.A.units + 1 < cLine) (hk : XE X k Γ M (vStr s)) (ho : XE X o Γ M p) (vw : VwD M p kp) (hm : behindInMarks .In o = false := by rfl) : XT X (.Compare k [.In] [o] pos) Γ M (kp.lookup s).isSome := fun G H σ st Q w =>
  ⟨_, pt_cmp (pc_din hu pe_w pe_w) hm, x2s hk ho st fun u v G' H' s' t ru rv => by
    obtain ⟨d, kv, rfl, rd, al⟩ := vw _ _ _ _ s' v rv
    cases ru
    exact ⟨d, _, rfl, .inl ⟨kv, .inr s, rd, rfl, rfl⟩, _, rfl, by rw [al.isSome]; exact w G' H' t⟩⟩
theorem xt_dnotin (hu : X.A.units + 1 < cLine) (hk : XE X k Γ M (vStr s)) (ho : XE X o Γ M p) (vw : VwD M p kp) (hm : behindInMarks .NotIn o = false := by rfl) : XT X (.Compare k [.NotIn] [o] pos) Γ M (!(kp.lookup s).isSome) := fun G H σ st Q w =>
  ⟨_, pt_cmp (pc_dnotin hu pe_w pe_w) hm, x2s hk ho st fun u v G' H' s' t ru rv => by
    obtain ⟨d, kv, rfl, rd, al⟩ := vw _ _ _ _ s' v rv
    cases ru
    exact ⟨d, _, rfl, .inl ⟨kv, .inr s, rd, rfl, rfl⟩, _, rfl, by rw [al.isSome]; exact w G' H' t⟩⟩
theorem xe_ixL {i : Int} (ho : XE X o Γ M p) (hk : XE X k Γ M (vInt i)) (vw : VwL M p ps) (hl : atI ps i = some q) (hs : PlainIx k := by exact fun _ _ => rfl) : XE X (.Subscript o k pos) Γ M q := fun G H σ st Q w =>
  ⟨_, pe_ix ix_list pe_w pe_w hs, x2s ho hk st fun v u G' H' s' t rv ru => by
    obtain ⟨d, xs, rfl, rd, al⟩ := vw _ _ _ _ s' v rv
    cases ru
    obtain ⟨v, h1, h2⟩ := al.atI hl
    exact ⟨d, xs, i, v, rfl, rfl, SqL.of rd, h1, w v G' H' t h2⟩⟩
theorem xe_ixT {i : Int} (ho : XE X o Γ M (vTup ps)) (hk : XE X k Γ M (vInt i)) (hl : atI ps i = some q) (hs : PlainIx k := by exact fun _ _ => rfl) : XE X (.Subscript o k pos) Γ M q := fun G H σ st Q w =>
  ⟨_, pe_ix ix_tup pe_w pe_w hs, x2s ho hk st fun v u G' H' s' t rv ru => by
    obtain ⟨d, xs, rfl, rd, al⟩ := rv
    cases ru
    obtain ⟨v, h1, h2⟩ := al.atI hl
    exact ⟨d, xs, i, v, rfl, rfl, SqT.of (t.i _ _ rd), h1, w v G' H' t h2⟩⟩
theorem xe_ixS {i : Int} {n : Nat} (ho : XE X o Γ M (vStr s)) (hk : XE X k Γ M (vInt i)) (hz : s.length ≤ sizeLine) (hl : atI s.cps.toList i = some n) (hs : PlainIx k := by exact fun _ _ => rfl) : XE X (.Subscript o k pos) Γ M (vStr ⟨#[n]⟩) := fun G H σ st Q w =>
  ⟨_, pe_ix ix_str pe_w pe_w hs, x2s ho hk st fun v u G' H' s' t rv ru => by
    cases rv; cases ru
    exact ⟨s, i, n, rfl, rfl, hz, hl, w _ G' H' t rfl⟩⟩
/-! ### attributes -/
theorem xe_fld {C : Addr} {f : Str} (ho : XE X o Γ M p) (vw : VwI M p C fs) (hl : fs.lookup f = some q) (cl : Cls X.K C) (na : NoAttr X.K C f) (hb : attributeBase o f X.env (eval o X.env) = eval o X.env := by rfl) : XE X (.Attribute o f pos) Γ M q := fun G H σ st Q w =>
  ⟨_, pe_fld pe_w hb, ho G H σ st _ fun v G' H' t rv => by
    obtain ⟨a, dx, fv, rfl, rd, al⟩ := vw _ _ _ _ (st.stp t) v rv
    obtain ⟨v, h1, h2⟩ := al.look hl
    exact ⟨a, C, dx, fv, v, rfl, rd, cl, na, h1, w v G' H' t h2⟩⟩
/-- a slot of an instance -/
theorem xe_slot {C pd : Addr} {f : Str} {i : Nat} (ho : XE X o Γ M (vSlt C ps)) (hl : ps[i]? = some q) (cl : SlX.SCls X.K C) (sl : SlX.Slot1 X.K C f pd i) (hb : attributeBase o f X.env (eval o X.env) = eval o X.env := by rfl) : XE X (.Attribute o f pos) Γ M q := fun G H σ st Q w =>
  ⟨_, SlX.pe_sl pe_w hb, ho G H σ st _ fun v G' H' t rv => by
    obtain ⟨a, dx, xs, rfl, h1, al⟩ := rv
    obtain ⟨v, h2, h3⟩ := al.get hl
    exact ⟨a, C, dx, pd, _, i, v, rfl, Le.slt (le_same t.i) h1, cl, sl, by rw [List.getElem?_map, h2]; rfl, w v G' H' t h3⟩⟩
/-! ### methods -/
end
/-- a method of an own class -/
structure Md (P : Program) (w : World) (K : PySem.W.Frag) (mg : Str → Option Value) (base : Heap) (C : Addr) (m : Str) (k : Nat) (ps : List Str) (sp : Sp) : Prop where
  ex : ∃ (f : Addr) (fd : FuncData), Meth K C m f ∧ Binds K fd ps [] ∧ FnOk P w K mg base CX0 k f fd ps sp
section
variable {X : Cx} {e a b c o : Expr} {es : List Expr} {Γ : En} {M : Mu} {p q z : Pv} {ps : List Pv} {x y : V} {pos pp apos cpos : Pos} {e0 : Eb} {P : Pst} {kp fs : List (Str × Pv)} {k j : Nat} {pn : List Str} {δ : Type} {args : δ → List Pv} {ok : δ → Prop} {res : δ → Pv} {C : Addr} {m : Str}
theorem xe_meth {pl : Sem Bool} (F : Md X.prog X.w X.K X.mg X.base C m k pn (spP args ok res)) (d : δ) (hr : Room j X.A) (cl : Cls X.K C) (ho : XE X o Γ M (vIns C fs)) (hm : fs.lookup m = none) (ha : XA X (e :: es) Γ M ps) (hd : args d = vIns C fs :: ps) (hok : ok d) (hj : k ≤ j := by decide)
    (hst : starEach (e :: es) X.env = (false, eval e X.env) :: starEach es X.env := by rfl) (hpl : (backTo pos (starEach es X.env)).any (·.1) = false := by rfl)
    (ht : eval (.Call (.Attribute o m apos) (e :: es) [] pos) X.env = (do
      let ov ← eval o X.env
      standAt apos.atName
      let (f, first) ← holding [ov] (getMethod ov m pl)
      callWith pos f first (backTo pos (starEach (e :: es) X.env)) (backToKw pos (keywordEach [] X.env))) := by rfl) :
    XE X (.Call (.Attribute o m apos) (e :: es) [] pos) Γ M (res d) := fun G H σ s Q w => by
  obtain ⟨f, fd, hm', hb, F⟩ := F.ex
  refine ⟨_, pe_meth (E := E0) pe_w cl hm' F (hr.mono hj) hb .nil pass0 pa_w hst hpl ht, ho G H σ s _ fun v G1 H1 t1 r1 => ?_⟩
  obtain ⟨ad, dx, fv, rfl, h1, al⟩ := r1
  refine ⟨ad, dx, fv, rfl, t1.i _ _ h1, al.none hm, ha G1 H1 σ (s.stp t1) _ fun vs G2 H2 t2 r2 => ⟨d, G2, t2.i, ?_, hok, fun v G3 H3 t3 r3 => w v G3 H3 ((t1.trans t2).trans t3) r3⟩⟩
  rw [hd, List.append_nil]
  exact .cons ⟨ad, dx, fv, rfl, t2.g _ _ h1, al.mono (le_same t2.g)⟩ r2
theorem xe_meth0 {pl : Sem Bool} (F : Md X.prog X.w X.K X.mg X.base C m k pn (spP args ok res)) (d : δ) (hr : Room j X.A) (cl : Cls X.K C) (ho : XE X o Γ M (vIns C fs)) (hm : fs.lookup m = none) (hd : args d = [vIns C fs]) (hok : ok d) (hj : k ≤ j := by decide)
    (ht : eval (.Call (.Attribute o m apos) [] [] pos) X.env = (do
      let ov ← eval o X.env
      standAt apos.atName
      let (f, first) ← holding [ov] (getMethod ov m pl)
      callWith pos f first (backTo pos (starEach [] X.env)) (backToKw pos (keywordEach [] X.env))) := by rfl) :
    XE X (.Call (.Attribute o m apos) [] [] pos) Γ M (res d) := fun G H σ s Q w => by
  obtain ⟨f, fd, hm', hb, F⟩ := F.ex
  refine ⟨_, pe_meth0 (E := E0) pe_w cl hm' F (hr.mono hj) hb .nil pass0 ht, ho G H σ s _ fun v G1 H1 t1 r1 => ?_⟩
  obtain ⟨ad, dx, fv, rfl, h1, al⟩ := r1
  refine ⟨ad, dx, fv, rfl, t1.i _ _ h1, al.none hm, ⟨d, G1, t1.i, ?_, hok, fun v G3 H3 t3 r3 => w v G3 H3 (t1.trans t3) r3⟩⟩
  rw [hd]
  exact .cons ⟨ad, dx, fv, rfl, h1, al⟩ .nil
/-- a property of a class with slots -/
structure Pd (P : Program) (w : World) (K : PySem.W.Frag) (mg : Str → Option Value) (base : Heap) (C : Addr) (f : Str) (k : Nat) (sp : Sp) : Prop where
  ex : ∃ (g pd : Addr) (fd : FuncData), PySem.W.findIn K (.ref C) f = some (some (.ref pd)) ∧ PySem.W.specialIn K (.ref pd) "__get__" = some (some (.builtin "property.__get__")) ∧ PySem.W.takesIn K (.ref pd) = some true ∧
    (∃ rest, PySem.W.recIn K pd "property" = some (.ref g :: rest)) ∧ Binds K fd ["self"] [] ∧ FnOk P w K mg base CX0 k g fd ["self"] sp
theorem xe_prop {f : Str} (F : Pd X.prog X.w X.K X.mg X.base C f k (spP args ok res)) (d : δ) (hr : Room j X.A) (cl : SlX.SCls X.K C) (ho : XE X o Γ M (vSlt C ps)) (hd : args d = [vSlt C ps]) (hok : ok d) (hj : k + 1 ≤ j := by decide) (hb : attributeBase o f X.env (eval o X.env) = eval o X.env := by rfl) :
    XE X (.Attribute o f pos) Γ M (res d) := fun G H σ s Q w => by
  obtain ⟨g, pd, fd, h1, h2, h3, h4, h5, F⟩ := F.ex
  refine ⟨_, SlX.pe_propSl (E := E0) pe_w cl h1 h2 h3 h4 (F.raw h5 .nil) (hr.mono hj) (fun _ _ _ _ z => z) hb, ho G H σ s _ fun v G1 H1 t1 r1 => ?_⟩
  obtain ⟨ad, dx, xs, rfl, e1, al⟩ := r1
  refine ⟨ad, dx, _, rfl, Le.slt (le_same t1.i) e1, d, G1, t1.i, ?_, hok, fun v G3 H3 t3 r3 => w v G3 H3 (t1.trans t3) r3⟩
  rw [hd]
  exact .cons ⟨ad, dx, xs, rfl, e1, al⟩ .nil
end
/-! ### targets -/
def XG (X : Cx) (tg : Expr) (p : Pv) (Γ Γ' : En) (vs : List Nat) : Prop := ∀ G H σ v, Al G σ Γ → Same G H → p.r G v → ∀ Q : L2.St → Hp → Prop, (∀ σ', Al G σ' Γ' → σ'.length = σ.length → (∀ j, j ∉ vs → σ'[j]? = σ[j]?) → Q σ' H) → wG X tg v σ H Q
def XGs (X : Cx) (tg : List Expr) (ps : List Pv) (Γ Γ' : En) (vs : List Nat) : Prop := ∀ G H σ xs, Al G σ Γ → Same G H → AlA G xs ps → ∀ Q : L2.St → Hp → Prop, (∀ σ', Al G σ' Γ' → σ'.length = σ.length → (∀ j, j ∉ vs → σ'[j]? = σ[j]?) → Q σ' H) → ∃ t, PGs X tg t ∧ t xs σ H Q
def wGs (X : Cx) (tg : List Expr) : TGs := fun v σ H Q => ∃ t, PGs X tg t ∧ t v σ H Q
theorem pgs_w {X : Cx} {e : List Expr} : PGs X e (wGs X e) := ⟨fun pins s σ H v u Q I r ⟨t, h, q⟩ => h.run pins s σ H v u Q I r q⟩
section
variable {X : Cx} {e a b c : Expr} {es : List Expr} {Γ Γ' Γ'' : En} {M : Mu} {p q z : Pv} {ps : List Pv} {pos : Pos} {vs ws : List Nat}
theorem xg_name (i : Nat) {n : Str} (hN : X.N.Nodup) (hi : X.N[i]? = some n := by rfl) (hx : Loc X.env.scope n := by first | exact .inl rfl | exact .inr rfl) (hf : X.fn n = true ∨ X.env.scope.names.lookup n = some .local := by first | exact .inl rfl | exact .inr rfl) : XG X (.Name n pos) p Γ (Γ.set i (some p)) [i] := fun G H σ v al _ r Q k =>
  ⟨_, pg_name hN hi hx hf, k _ (al.set r) (by simp) fun j hj => by rw [List.getElem?_set_ne (fun z => hj (by simp [z]))]⟩
theorem xgs_nil : XGs X [] [] Γ Γ [] := fun G H σ xs al _ r Q k => ⟨_, pgs_nil, by cases r; exact ⟨rfl, k σ al rfl fun _ _ => rfl⟩⟩
theorem xgs_cons (h : XG X e p Γ Γ' vs) (t : XGs X es ps Γ' Γ'' ws) (hs : (assignEach (e :: es) X.env).map (·.2) = assign e X.env :: (assignEach es X.env).map (·.2) := by rfl) : XGs X (e :: es) (p :: ps) Γ Γ'' (vs ++ ws) := fun G H σ xs al i r Q k => by
  cases r with
  | cons r1 r2 =>
    refine ⟨_, pgs_cons pg_w pgs_w hs, _, _, rfl, h G H σ _ al i r1 _ fun σ1 a1 l1 o1 => t G H σ1 _ a1 i r2 Q fun σ2 a2 l2 o2 => k σ2 a2 (l2.trans l1) fun j hj => ?_⟩
    rw [List.mem_append, not_or] at hj
    rw [o2 j hj.2, o1 j hj.1]
theorem xg_tup {n : Nat} (hc : X.calm = true) (h : XGs X es ps Γ Γ' vs) (hn : (assignEach es X.env).length = ps.length := by rfl) (hst : (assignEach es X.env).findIdx? (·.1) = none := by rfl) : XG X (.Tuple es n pos) (vTup ps) Γ Γ' vs := fun G H σ v al i r Q k => by
  obtain ⟨a, xs, rfl, h1, h2⟩ := r
  exact ⟨_, pg_tup hc pgs_w hn hst, a, xs, rfl, SqT.of (i _ _ h1), h2.len, h G H σ xs al i h2 Q k⟩
end
/-! ### what a loop walks -/
structure Wk {α : Type} (J : It) (G1 : Hp) (ds : List α) (f : α → Pv) : Prop where
  go : ∀ (i : Nat) G H d, Same G1 G → Same G H → ds[i]? = some d → J.go i H
  yl : ∀ (i : Nat) G H d x H', Same G1 G → Same G H → ds[i]? = some d → J.yld i H x H' → ∃ G', Stp G H G' H' ∧ (f d).r G' x
  st : ∀ G H, Same G1 G → Same G H → J.stop ds.length H
def XI (X : Cx) (tg it : Expr) (Γ : En) (M : Mu) {α : Type} (ds : List α) (f : α → Pv) : Prop := ∀ G H σ, St0 G H σ Γ M → ∀ R : It → Hp → Prop, (∀ J G' H', Stp G H G' H' → Wk J G' ds f → R J H') → wI X tg it σ H R
section
variable {X : Cx} {e a b c tg it : Expr} {es : List Expr} {Γ Γ' Γ'' : En} {M : Mu} {p q z : Pv} {ps : List Pv} {pos pp : Pos} {α : Type} {ds : List α} {f g : α → Pv} {e0 : Eb} {P : Pst}
theorem AlA.at' {G : Hp} {vs : List V} {i : Nat} {d : α} {v : V} (h : AlA G vs (ds.map f)) (e : ds[i]? = some d) (e' : vs[i]? = some v) : (f d).r G v := by
  obtain ⟨p, h1, h2⟩ := h.getV e'
  rw [List.getElem?_map, e] at h1
  cases h1
  exact h2
theorem xi_lst (h : XE X e Γ M (vLst (ds.map f))) : XI X tg e Γ M ds f := fun G H σ s R k =>
  ⟨_, pi_list pe_w, h G H σ s _ fun v G' H' t r => by
    obtain ⟨a, xs, rfl, h1, h2⟩ := r
    refine ⟨a, rfl, ⟨xs, SqL.of (t.i _ _ h1)⟩, k _ G' H' t ⟨fun i G H d sg si hd => ?_, fun i G H d x H2 sg si hd ⟨e1, e2⟩ => ?_, fun G H sg si => ⟨xs, SqL.of (si _ _ (sg _ _ h1)), by rw [h2.len, List.length_map]; exact Nat.le_refl _⟩⟩⟩
    · obtain ⟨v, e1, _⟩ := h2.get (i := i) (p := f d) (by rw [List.getElem?_map, hd]; rfl)
      exact ⟨xs, v, SqL.of (si _ _ (sg _ _ h1)), e1⟩
    · subst e1
      exact ⟨G, .refl si, (h2.mono (le_same sg)).at' hd (e2 xs (SqL.of (si _ _ (sg _ _ h1))))⟩⟩
theorem xi_tup (h : XE X e Γ M (vTup (ds.map f))) : XI X tg e Γ M ds f := fun G H σ s R k =>
  ⟨_, pi_tup pe_w, h G H σ s _ fun v G' H' t r => by
    obtain ⟨a, xs, rfl, h1, h2⟩ := r
    refine ⟨a, rfl, ⟨xs, SqT.of (t.i _ _ h1)⟩, k _ G' H' t ⟨fun i G H d sg si hd => ?_, fun i G H d x H2 sg si hd ⟨e1, e2⟩ => ?_, fun G H sg si => ⟨xs, SqT.of (si _ _ (sg _ _ h1)), by rw [h2.len, List.length_map]; exact Nat.le_refl _⟩⟩⟩
    · obtain ⟨v, e1, _⟩ := h2.get (i := i) (p := f d) (by rw [List.getElem?_map, hd]; rfl)
      exact ⟨xs, v, SqT.of (si _ _ (sg _ _ h1)), e1⟩
    · subst e1
      exact ⟨G, .refl si, (h2.mono (le_same sg)).at' hd (e2 xs (SqT.of (si _ _ (sg _ _ h1))))⟩⟩
theorem xi_range {n : Nat} (hm : X.mg "range" = none) (h : XE X e Γ M (vInt (n : Int))) (hn : (n : Int) < 2 ^ 62) (hg : Gl X "range" := by rfl) (hs : starEach [e] X.env = [(false, eval e X.env)] := by rfl) : XI X tg (.Call (.Name "range" pp) [e] [] pos) Γ M (List.range n) (fun i => vInt (i : Int)) := fun G H σ s R k =>
  ⟨_, pi_range1 hg hm (pa_cons pe_w pa_nil (by rw [hs]; rfl)) hs, h G H σ s _ fun v G' H' t r => by
    cases r
    refine ⟨(n : Int), rfl, by omega, hn, k _ G' H' t ⟨fun i G H d sg si hd => ?_, fun i G H d x H2 sg si hd ⟨e1, e2⟩ => ?_, fun G H sg si => ?_⟩⟩
    · have := (List.getElem?_eq_some_iff.mp hd).1
      rw [List.length_range] at this
      show i < (n : Int).toNat
      omega
    · subst e1
      obtain ⟨hi, e⟩ := List.getElem?_eq_some_iff.mp hd
      rw [List.getElem_range] at e
      subst e
      refine ⟨G, .refl si, ?_⟩
      show x = _
      rw [e2]; simp
    · show (n : Int).toNat ≤ (List.range n).length
      rw [List.length_range]; omega⟩
/-- sign by sign -/
theorem xi_str {s : Str} (h : XE X e Γ M (vStr s)) : XI X tg e Γ M s.cps.toList (fun c => vStr ⟨#[c]⟩) := fun G H σ st R k =>
  ⟨_, pi_str pe_w, h G H σ st _ fun v G' H' t r => by
    cases r
    refine ⟨s, rfl, k _ G' H' t ⟨fun i G H d sg si hd => ?_, fun i G H d x H2 sg si hd q => ?_, fun G H sg si => ?_⟩⟩
    · have := (List.getElem?_eq_some_iff.mp hd).1
      show i < s.cps.size
      simpa using this
    · obtain ⟨rfl, n, h1, rfl⟩ := q
      refine ⟨G, .refl si, ?_⟩
      rw [← Array.getElem?_toList, hd] at h1
      cases h1
      rfl
    · show s.cps.size ≤ s.cps.toList.length
      simp⟩
/-- a loop: I says, by the turns done, what stands (the names by x, the objects that may change by x) -/
def StaI (e0 : Eb) {ι : Type} (Γs : ι → En) (Ms : ι → Mu) (I : ι → Prop) (G H : Hp) (σ : L2.St) : Prop := ∃ x, I x ∧ Sta e0 G H σ (Γs x) (Ms x)
theorem for_core {ι : Type} {body : List Stmt} (Γs : ι → En) (Ms : ι → Mu) (I : Nat → ι → Prop) (hc : X.calm = true) {G H : Hp} {σ : L2.St} (s : Sta e0 G H σ Γ M) (hi : ∀ R : It → Hp → Prop, (∀ J G' H', Stp G H G' H' → Wk J G' ds f → R J H') → wI X tg it σ H R)
    (h0 : ∀ G H σ, Sta e0 G H σ Γ M → StaI e0 Γs Ms (I 0) G H σ)
    (hb : ∀ (i : Nat) d x B, ds[i]? = some d → I i x → ∃ Γ' vs, XG X tg (f d) (Γs x) Γ' vs ∧ XSs X { e0 with B := B } body Γ' (Ms x) { P with nx := StaI { e0 with B := B } Γs Ms (I (i + 1)), ct := StaI { e0 with B := B } Γs Ms (I (i + 1)), bk := P.nx })
    (hd : ∀ G H σ, StaI e0 Γs Ms (I ds.length) G H σ → P.nx G H σ) (hp : PassesOwn (model X.prog X.w) X.A X.env X.xe := by exact PassesOwn.never) (hs : ∀ x, foldedSetIterable it X.env x = pure x := by intro _; rfl) : ∀ D, Fit P D → wS X (.For tg it body [] pos) D σ H := fun D F => by
  refine ⟨_, ps_for hp hc pi_w pg_w pss_w hs, hi _ fun J G1 H1 t1 wk => ?_⟩
  have s1 := s.stp t1
  obtain ⟨x0, hx0, s0⟩ := h0 G1 H1 σ s1
  refine ⟨fun i m σ' H' => m = ds.length - i ∧ i ≤ ds.length ∧ ∃ G' x, Same G1 G' ∧ I i x ∧ Sta e0 G' H' σ' (Γs x) (Ms x), ⟨_, rfl, Nat.zero_le _, G1, x0, .refl _, hx0, s0⟩, ?_⟩
  rintro i m σ' H' ⟨rfl, hle, G', x, sg, hx, s'⟩
  rcases Nat.lt_or_ge i ds.length with hlt | hge
  · right
    have hd' : ds[i]? = some ds[i] := List.getElem?_eq_getElem hlt
    refine ⟨wk.go i G' H' _ sg s'.s.i hd', fun σ2 H2 => ∃ G2 x2, Same G1 G2 ∧ I (i + 1) x2 ∧ Sta e0 G2 H2 σ2 (Γs x2) (Ms x2), ?_, ?_⟩
    · rintro σ2 H2 ⟨G2, x2, sg2, hx2, s2⟩
      exact ⟨ds.length - (i + 1), by omega, rfl, hlt, G2, x2, sg2, hx2, s2⟩
    · intro v H2 hy
      obtain ⟨G2, t2, rv⟩ := wk.yl i G' H' _ v H2 sg s'.s.i hd' hy
      have s2 := s'.stp t2
      obtain ⟨Γ', vs, hg, hbd⟩ := hb i _ x G1 hd' hx
      refine hg G2 H2 σ' v s2.s.a s2.s.i rv _ fun σ3 a3 l3 o3 => ?_
      have s3 : Sta { e0 with B := G1 } G2 H2 σ3 Γ' (Ms x) := ⟨s2.t, sg.trans t2.g, ⟨s2.s.i, a3, s2.s.nd, s2.s.m⟩, s2.f⟩
      have hB : Same e0.B G1 := s1.b
      have back : ∀ G4 H4 σ4, StaI { e0 with B := G1 } Γs Ms (I (i + 1)) G4 H4 σ4 → ∃ G2 x2, Same G1 G2 ∧ I (i + 1) x2 ∧ Sta e0 G2 H4 σ4 (Γs x2) (Ms x2) := fun G4 H4 σ4 ⟨x4, hx4, s4⟩ => ⟨G4, x4, s4.b, hx4, s4.t, hB.trans s4.b, s4.s, s4.f⟩
      exact hbd G2 H2 σ3 s3 _ ⟨back, F.rt, fun G4 H4 σ4 q => F.nx G4 H4 σ4 q, back⟩
  · left
    have e : i = ds.length := Nat.le_antisymm hle hge
    subst e
    exact ⟨wk.st G' H' sg s'.s.i, F.nx G' H' σ' (hd G' H' σ' ⟨x, hx, s'⟩)⟩
theorem xs_for {ι : Type} {body : List Stmt} (Γs : ι → En) (Ms : ι → Mu) (I : Nat → ι → Prop) (hc : X.calm = true) (hi : XI X tg it Γ M ds f)
    (h0 : ∀ G H σ, Sta e0 G H σ Γ M → StaI e0 Γs Ms (I 0) G H σ)
    (hb : ∀ (i : Nat) d x B, ds[i]? = some d → I i x → ∃ Γ' vs, XG X tg (f d) (Γs x) Γ' vs ∧ XSs X { e0 with B := B } body Γ' (Ms x) { P with nx := StaI { e0 with B := B } Γs Ms (I (i + 1)), ct := StaI { e0 with B := B } Γs Ms (I (i + 1)), bk := P.nx })
    (hd : ∀ G H σ, StaI e0 Γs Ms (I ds.length) G H σ → P.nx G H σ) (hp : PassesOwn (model X.prog X.w) X.A X.env X.xe := by exact PassesOwn.never) (hs : ∀ x, foldedSetIterable it X.env x = pure x := by intro _; rfl) : XS X e0 (.For tg it body [] pos) Γ M P := fun G H σ s D F =>
  for_core Γs Ms I hc s (hi G H σ s.s) h0 hb hd hp hs D F
/-! ### list comprehensions -/
def XTs (X : Cx) (ifs : List Expr) (Γ : En) (M : Mu) (b : Bool) : Prop := ∀ G H σ, St0 G H σ Γ M → ∀ Q : Bool → Hp → Prop, (∀ G' H', Stp G H G' H' → Q b H') → ∃ t, PTs X ifs t ∧ t σ H Q
def wTs (X : Cx) (ifs : List Expr) : TT := fun σ H Q => ∃ t, PTs X ifs t ∧ t σ H Q
theorem pts_w {ifs : List Expr} : PTs X ifs (wTs X ifs) := ⟨fun pins s σ H Q I ⟨t, h, q⟩ => h.run pins s σ H Q I q⟩
theorem xts_nil : XTs X [] Γ M true := fun G H σ s Q k => ⟨_, pts_nil, k G H (.refl s.i)⟩
theorem xts_one {u : Bool} (h : XT X e Γ M u) : XTs X [e] Γ M u := fun G H σ s Q k => ⟨_, pts_one pt_w, h G H σ s Q k⟩
/-- a comprehension's block -/
abbrev Bk (X : Cx) (scope : Scope) (s : Shared) (H : Hp) (C : Addr) (cl : List (Str × Addr)) (fp : List Addr) : Cx := X.blk s H scope (compEnvC scope cl C X.env) fp
theorem take_succ_filter {β : Type} {b : α → Bool} {g : α → β} {i : Nat} {d : α} (h : ds[i]? = some d) : (((ds.take (i + 1)).filter b).map g) = ((ds.take i).filter b).map g ++ (if b d = true then [g d] else []) := by
  rw [List.take_add_one, h, Option.toList_some, List.filter_append, List.map_append]
  congr 1
  cases e : b d <;> simp [e]
theorem lc_core {elt : Expr} {ifs : List Expr} {scope : Scope} (own : List (Str × Nat)) {b : α → Bool} (Γ' : α → En) (hc : X.calm = true) (hN : X.N.Nodup) {G H : Hp} {σ : L2.St} (s : St0 G H σ Γ M) (hi : ∀ R : It → Hp → Prop, (∀ J G' H', Stp G H G' H' → Wk J G' ds f → R J H') → wI X tg it σ H R) (ok : BlkOk X.N X.env.scope scope own)
    (hg : ∀ s H C cl fp, ∀ d ∈ ds, XG (Bk X scope s H C cl fp) tg (f d) (wipeE Γ (own.map (·.2))) (Γ' d) (own.map (·.2))) (ht : ∀ s H C cl fp, ∀ d ∈ ds, XTs (Bk X scope s H C cl fp) ifs (Γ' d) M (b d))
    (he : ∀ s H C cl fp, ∀ d ∈ ds, b d = true → XE (Bk X scope s H C cl fp) elt (Γ' d) M (g d)) (hz : ds.length < sizeLine) (hs : ∀ x, foldedSetIterable it X.env x = pure x := by intro _; rfl) :
    ∀ Q : VK, (∀ p ob G' H', Stp G H G' H' → H p = none → G' p = none → H' p = some ob → (mLst ((ds.filter b).map g)).r G' ob → Q (.ref p) H') → wE X (.ListComp elt [⟨tg, it, ifs, 0⟩] scope pos) σ H Q := fun Q k => by
  refine ⟨_, pe_lc (g := fun v σ H Q => ∀ s H0 C cl fp, wG (Bk X scope s H0 C cl fp) tg v σ H Q) (tt := fun σ H Q => ∀ s H0 C cl fp, wTs (Bk X scope s H0 C cl fp) ifs σ H Q) (te := fun σ H Q => ∀ s H0 C cl fp, wE (Bk X scope s H0 C cl fp) elt σ H Q) hc hN pi_w ok
    (fun s H C cl fp => ⟨fun pins s1 σ1 H1 v u Q I r q => pg_w.run pins s1 σ1 H1 v u Q I r (q s H C cl fp)⟩) (fun s H C cl fp => ⟨fun pins s1 σ1 H1 Q I q => pts_w.run pins s1 σ1 H1 Q I (q s H C cl fp)⟩) (fun s H C cl fp => ⟨fun pins s1 σ1 H1 Q I q => pe_w.run pins s1 σ1 H1 Q I (q s H C cl fp)⟩) hs, ?_⟩
  refine hi _ fun J G1 H1 t1 wk D hD => ?_
  have s1 := s.stp t1
  have hg1 : G1 D = none := t1.i.free hD
  refine ⟨fun i m H' => m = ds.length - i ∧ i ≤ ds.length ∧ ∃ G', Stp G1 H1 G' H' ∧ St0 G' H' (L2.wipe σ (own.map (·.2))) (wipeE Γ (own.map (·.2))) ((D, mLst (((ds.take i).filter b).map g)) :: M),
    ⟨_, rfl, Nat.zero_le _, G1, Stp.tmp t1.i hD, (s1.wipe _).add (o := mLst (((ds.take 0).filter b).map g)) (Stp.tmp t1.i hD) hD hg1 upd_same ⟨[], rfl, .nil⟩⟩, ?_⟩
  rintro i m H' ⟨rfl, hle, G', t', s'⟩
  rcases Nat.lt_or_ge i ds.length with hlt | hge
  · right
    have hd' : ds[i]? = some ds[i] := List.getElem?_eq_getElem hlt
    have hmem : ds[i] ∈ ds := List.getElem_mem hlt
    have tk := take_succ_filter (b := b) (g := g) hd'
    refine ⟨wk.go i G' H' _ t'.g s'.i hd', fun H2 => ∃ G2, Stp G1 H1 G2 H2 ∧ St0 G2 H2 (L2.wipe σ (own.map (·.2))) (wipeE Γ (own.map (·.2))) ((D, mLst (((ds.take (i + 1)).filter b).map g)) :: M), ?_, ?_⟩
    · rintro H2 ⟨G2, t2, s2⟩
      exact ⟨ds.length - (i + 1), by omega, rfl, hlt, G2, t2, s2⟩
    · intro v H2 hy
      obtain ⟨G2, t2, rv⟩ := wk.yl i G' H' _ v H2 t'.g s'.i hd' hy
      have s2 := s'.stp t2
      intro cs cH cC ccl cfp
      refine hg cs cH cC ccl cfp _ hmem G2 H2 _ v s2.a s2.i rv _ fun σ3 a3 l3 o3 => ⟨(wipe_ext l3 o3).trans (wipe_wipe σ), ?_⟩
      have s3 : St0 G2 H2 σ3 (Γ' ds[i]) ((D, mLst (((ds.take i).filter b).map g)) :: M) := ⟨s2.i, a3, s2.nd, s2.m⟩
      intro cs cH cC ccl cfp
      refine ht cs cH cC ccl cfp _ hmem G2 H2 σ3 (s3.sub (List.sublist_cons_self _ _)) _ fun G4 H4 t4 => ?_
      cases hb : b ds[i] with
      | false =>
        rw [if_neg (by simp)]
        rw [hb, if_neg (by simp), List.append_nil] at tk
        exact ⟨G4, (t'.trans t2).trans t4, by rw [tk]; exact (s2.stp t4)⟩
      | true =>
        rw [if_pos rfl]
        rw [hb, if_pos rfl] at tk
        intro cs cH cC ccl cfp
        refine he cs cH cC ccl cfp _ hmem hb G4 H4 σ3 ((s3.stp t4).sub (List.sublist_cons_self _ _)) _ fun y G5 H5 t5 ry => ?_
        have s5 := (s2.stp t4).stp t5
        obtain ⟨hG5, ob, hH5, acc, rfl, al⟩ := s5.m (D, _) List.mem_cons_self
        refine ⟨acc, hH5, ?_, G5, (((t'.trans t2).trans t4).trans t5).wr hD hG5, ?_⟩
        · rw [al.len, List.length_map]
          exact Nat.lt_of_le_of_lt (Nat.le_trans (List.length_filter_le _ _) (by rw [List.length_take]; exact Nat.min_le_right _ _)) hz
        · refine s5.write ⟨_, rfl, ?_⟩
          rw [tk]
          exact al.app (.cons ry .nil)
  · left
    have e : i = ds.length := Nat.le_antisymm hle hge
    subst e
    obtain ⟨hG, ob, hH, r⟩ := s'.m (D, _) List.mem_cons_self
    rw [List.take_length] at r
    exact ⟨wk.st G' H' t'.g s'.i, k D ob G' H' (t1.trans t') (t1.h.free hD) hG hH r⟩
theorem xn_lc {elt : Expr} {ifs : List Expr} {scope : Scope} (own : List (Str × Nat)) {b : α → Bool} (Γ' : α → En) (hc : X.calm = true) (hN : X.N.Nodup) (hi : XI X tg it Γ M ds f) (ok : BlkOk X.N X.env.scope scope own)
    (hg : ∀ s H C cl fp, ∀ d ∈ ds, XG (Bk X scope s H C cl fp) tg (f d) (wipeE Γ (own.map (·.2))) (Γ' d) (own.map (·.2))) (ht : ∀ s H C cl fp, ∀ d ∈ ds, XTs (Bk X scope s H C cl fp) ifs (Γ' d) M (b d))
    (he : ∀ s H C cl fp, ∀ d ∈ ds, b d = true → XE (Bk X scope s H C cl fp) elt (Γ' d) M (g d)) (hz : ds.length < sizeLine) (hs : ∀ x, foldedSetIterable it X.env x = pure x := by intro _; rfl) :
    XN X (.ListComp elt [⟨tg, it, ifs, 0⟩] scope pos) Γ M (mLst ((ds.filter b).map g)) := fun G H σ s Q k => lc_core own Γ' hc hN s (hi G H σ s) ok hg ht he hz hs Q k
/-- no test -/
theorem xn_lc0 {elt : Expr} {scope : Scope} (own : List (Str × Nat)) (Γ' : α → En) (hc : X.calm = true) (hN : X.N.Nodup) (hi : XI X tg it Γ M ds f) (ok : BlkOk X.N X.env.scope scope own)
    (hg : ∀ s H C cl fp, ∀ d ∈ ds, XG (Bk X scope s H C cl fp) tg (f d) (wipeE Γ (own.map (·.2))) (Γ' d) (own.map (·.2)))
    (he : ∀ s H C cl fp, ∀ d ∈ ds, XE (Bk X scope s H C cl fp) elt (Γ' d) M (g d)) (hz : ds.length < sizeLine) (hs : ∀ x, foldedSetIterable it X.env x = pure x := by intro _; rfl) :
    XN X (.ListComp elt [⟨tg, it, [], 0⟩] scope pos) Γ M (mLst (ds.map g)) := by
  have := xn_lc (b := fun _ => true) (pos := pos) own Γ' hc hN hi ok hg (fun _ _ _ _ _ _ _ => xts_nil) (fun s H C cl fp d hd _ => he s H C cl fp d hd) hz hs
  rwa [List.filter_eq_self.mpr (fun _ _ => rfl)] at this
theorem xe_lc0 {elt : Expr} {scope : Scope} (own : List (Str × Nat)) (Γ' : α → En) (hc : X.calm = true) (hN : X.N.Nodup) (hi : XI X tg it Γ M ds f) (ok : BlkOk X.N X.env.scope scope own)
    (hg : ∀ s H C cl fp, ∀ d ∈ ds, XG (Bk X scope s H C cl fp) tg (f d) (wipeE Γ (own.map (·.2))) (Γ' d) (own.map (·.2)))
    (he : ∀ s H C cl fp, ∀ d ∈ ds, XE (Bk X scope s H C cl fp) elt (Γ' d) M (g d)) (hz : ds.length < sizeLine) (hs : ∀ x, foldedSetIterable it X.env x = pure x := by intro _; rfl) :
    XE X (.ListComp elt [⟨tg, it, [], 0⟩] scope pos) Γ M (vLst (ds.map g)) := (xn_lc0 own Γ' hc hN hi ok hg he hz hs).xe fun G v u r e => mLst_lst r e
theorem xe_lc {elt : Expr} {ifs : List Expr} {scope : Scope} (own : List (Str × Nat)) {b : α → Bool} (Γ' : α → En) (hc : X.calm = true) (hN : X.N.Nodup) (hi : XI X tg it Γ M ds f) (ok : BlkOk X.N X.env.scope scope own)
    (hg : ∀ s H C cl fp, ∀ d ∈ ds, XG (Bk X scope s H C cl fp) tg (f d) (wipeE Γ (own.map (·.2))) (Γ' d) (own.map (·.2))) (ht : ∀ s H C cl fp, ∀ d ∈ ds, XTs (Bk X scope s H C cl fp) ifs (Γ' d) M (b d))
    (he : ∀ s H C cl fp, ∀ d ∈ ds, b d = true → XE (Bk X scope s H C cl fp) elt (Γ' d) M (g d)) (hz : ds.length < sizeLine) (hs : ∀ x, foldedSetIterable it X.env x = pure x := by intro _; rfl) :
    XE X (.ListComp elt [⟨tg, it, ifs, 0⟩] scope pos) Γ M (vLst ((ds.filter b).map g)) := (xn_lc own Γ' hc hN hi ok hg ht he hz hs).xe fun G v u r e => mLst_lst r e
end
end K53
end KC_
section KT_
set_option maxRecDepth 100000
set_option maxHeartbeats 4000000
/-! KT: the text by places (printed by gen_text.py). -/
namespace K53
open PySem PySem.Spec PyProof.Rows L2
def top (i : Nat) : Stmt := PySem.Challenge.pw_howmanyeach_k53_whole_least_sizes_in_a_b.main.body.getD i (.Pass ⟨0, 0, 0, 0⟩)
abbrev s_is_integer : Stmt := top 28
abbrev s_is_count : Stmt := top 29
abbrev s_is_name : Stmt := top 30
abbrev s_is_end : Stmt := top 31
abbrev s_other_end : Stmt := top 32
abbrev s_want_count : Stmt := top 33
abbrev s_is_end_many : Stmt := top 49
abbrev s_are_ends : Stmt := top 50
abbrev s_want_kinds : Stmt := top 51
abbrev s_want_links : Stmt := top 52
abbrev s_want_few : Stmt := top 53
abbrev s_want_model : Stmt := top 54
abbrev s_want_kind : Stmt := top 55
abbrev s_want_link : Stmt := top 56
abbrev s_want_end : Stmt := top 57
abbrev s_common_divisor : Stmt := top 60
abbrev s_is_ratio : Stmt := top 61
abbrev s_as_ratio : Stmt := top 62
abbrev s_is_step : Stmt := top 65
abbrev s_is_broken_end : Stmt := top 66
abbrev s_steps_of : Stmt := top 67
abbrev s_factor_of : Stmt := top 68
abbrev s_is_known_step : Stmt := top 69
abbrev s_behind_step : Stmt := top 70
abbrev s_way_goal : Stmt := top 71
abbrev s_way_product : Stmt := top 72
abbrev s_is_ring : Stmt := top 73
abbrev s_best_of : Stmt := top 75
abbrev s_is_empty_paper : Stmt := top 77
abbrev s_want_full : Stmt := top 78
abbrev s_are_counts : Stmt := top 80
abbrev s_counts_like : Stmt := top 81
abbrev s_checked_counts : Stmt := top 83
abbrev s_lines_of : Stmt := top 87
abbrev s_want_full_where_told : Stmt := top 88
abbrev s_raised : Stmt := top 89
abbrev s_least_sizes : Stmt := top 90
abbrev s_law_pot : Stmt := top 92
abbrev s_law_draw : Stmt := top 93
abbrev s_law_pick : Stmt := top 94
abbrev s_law_mixed : Stmt := top 95
abbrev s_law_names : Stmt := top 96
abbrev s_law_ends : Stmt := top 97
abbrev s_law_ties : Stmt := top 98
abbrev s_law_made : Stmt := top 99
abbrev s_law_lines : Stmt := top 100
abbrev s_law_gap : Stmt := top 101
abbrev s_law_leads : Stmt := top 102
abbrev s_law_is_above : Stmt := top 103
abbrev s_law_empty : Stmt := top 104
abbrev s_law_box : Stmt := top 105
abbrev s_law_heard : Stmt := top 106
abbrev s_law_least_right : Stmt := top 107
abbrev s_law_told_right : Stmt := top 108
abbrev s_law_changed_right : Stmt := top 109
abbrev s_law_right : Stmt := top 110
abbrev s_law : Stmt := top 111
abbrev s_Many_init : Stmt := inClass (top 46) 2
abbrev s_Many_least : Stmt := inClass (top 46) 3
abbrev s_Many_most : Stmt := inClass (top 46) 4
abbrev s_Many_eq : Stmt := inClass (top 46) 16
abbrev s_Model_init : Stmt := inClass (top 58) 2
abbrev s_Model_kinds : Stmt := inClass (top 58) 3
abbrev s_Model_links : Stmt := inClass (top 58) 4
abbrev s_Model_kind_at : Stmt := inClass (top 58) 5
abbrev s_Model_many_at : Stmt := inClass (top 58) 6
abbrev s_Model_with_many : Stmt := inClass (top 58) 7
abbrev s_Model_contains : Stmt := inClass (top 58) 12
abbrev s_Model_eq : Stmt := inClass (top 58) 14
abbrev s_Ratio_init : Stmt := inClass (top 63) 1
abbrev s_Ratio_is_below : Stmt := inClass (top 63) 5
abbrev s_Ratio_times : Stmt := inClass (top 63) 10
abbrev s_Ratio_mul : Stmt := inClass (top 63) 13
abbrev s_Map_init : Stmt := inClass (top 76) 0
abbrev s_Map_add_step : Stmt := inClass (top 76) 1
abbrev s_Map_roads : Stmt := inClass (top 76) 2
abbrev s_Map_best_circle : Stmt := inClass (top 76) 5
abbrev s_Map_reason_at : Stmt := inClass (top 76) 6
abbrev s_Map_paper_of : Stmt := inClass (top 76) 7
abbrev s_Sizes_init : Stmt := inClass (top 82) 0
abbrev s_Sizes_kinds : Stmt := inClass (top 82) 2
abbrev s_Sizes_counts : Stmt := inClass (top 82) 3
abbrev s_Sizes_is_within : Stmt := inClass (top 82) 4
abbrev s_Sizes_add : Stmt := inClass (top 82) 11
abbrev s_Sizes_eq : Stmt := inClass (top 82) 16
abbrev s_Line_init : Stmt := inClass (top 86) 0
abbrev s_Line_needed : Stmt := inClass (top 86) 1
abbrev s_Line_is_met : Stmt := inClass (top 86) 2
abbrev s_EmptyBy_init : Stmt := inClass (top 13) 0
abbrev s_Empty_init : Stmt := inClass (top 20) 0
def d_is_integer : He.DefD := ⟨("is_integer", none), "is_integer", "is_integer", defArgs s_is_integer, defBody s_is_integer, defScope s_is_integer, [], []⟩
def d_is_count : He.DefD := ⟨("is_count", none), "is_count", "is_count", defArgs s_is_count, defBody s_is_count, defScope s_is_count, [], []⟩
def d_is_name : He.DefD := ⟨("is_name", none), "is_name", "is_name", defArgs s_is_name, defBody s_is_name, defScope s_is_name, [], []⟩
def d_is_end : He.DefD := ⟨("is_end", none), "is_end", "is_end", defArgs s_is_end, defBody s_is_end, defScope s_is_end, [], []⟩
def d_other_end : He.DefD := ⟨("other_end", none), "other_end", "other_end", defArgs s_other_end, defBody s_other_end, defScope s_other_end, [], []⟩
def d_want_count : He.DefD := ⟨("want_count", none), "want_count", "want_count", defArgs s_want_count, defBody s_want_count, defScope s_want_count, [], []⟩
def d_is_end_many : He.DefD := ⟨("is_end_many", none), "is_end_many", "is_end_many", defArgs s_is_end_many, defBody s_is_end_many, defScope s_is_end_many, [], []⟩
def d_are_ends : He.DefD := ⟨("are_ends", none), "are_ends", "are_ends", defArgs s_are_ends, defBody s_are_ends, defScope s_are_ends, [], []⟩
def d_want_kinds : He.DefD := ⟨("want_kinds", none), "want_kinds", "want_kinds", defArgs s_want_kinds, defBody s_want_kinds, defScope s_want_kinds, [], []⟩
def d_want_links : He.DefD := ⟨("want_links", none), "want_links", "want_links", defArgs s_want_links, defBody s_want_links, defScope s_want_links, [], []⟩
def d_want_few : He.DefD := ⟨("want_few", none), "want_few", "want_few", defArgs s_want_few, defBody s_want_few, defScope s_want_few, [], []⟩
def d_want_model : He.DefD := ⟨("want_model", none), "want_model", "want_model", defArgs s_want_model, defBody s_want_model, defScope s_want_model, [], []⟩
def d_want_kind : He.DefD := ⟨("want_kind", none), "want_kind", "want_kind", defArgs s_want_kind, defBody s_want_kind, defScope s_want_kind, [], []⟩
def d_want_link : He.DefD := ⟨("want_link", none), "want_link", "want_link", defArgs s_want_link, defBody s_want_link, defScope s_want_link, [], []⟩
def d_want_end : He.DefD := ⟨("want_end", none), "want_end", "want_end", defArgs s_want_end, defBody s_want_end, defScope s_want_end, [], []⟩
def d_common_divisor : He.DefD := ⟨("common_divisor", none), "common_divisor", "common_divisor", defArgs s_common_divisor, defBody s_common_divisor, defScope s_common_divisor, [], []⟩
def d_is_ratio : He.DefD := ⟨("is_ratio", none), "is_ratio", "is_ratio", defArgs s_is_ratio, defBody s_is_ratio, defScope s_is_ratio, [], []⟩
def d_as_ratio : He.DefD := ⟨("as_ratio", none), "as_ratio", "as_ratio", defArgs s_as_ratio, defBody s_as_ratio, defScope s_as_ratio, [], []⟩
def d_is_step : He.DefD := ⟨("is_step", none), "is_step", "is_step", defArgs s_is_step, defBody s_is_step, defScope s_is_step, [], []⟩
def d_is_broken_end : He.DefD := ⟨("is_broken_end", none), "is_broken_end", "is_broken_end", defArgs s_is_broken_end, defBody s_is_broken_end, defScope s_is_broken_end, [], []⟩
def d_steps_of : He.DefD := ⟨("steps_of", none), "steps_of", "steps_of", defArgs s_steps_of, defBody s_steps_of, defScope s_steps_of, [], []⟩
def d_factor_of : He.DefD := ⟨("factor_of", none), "factor_of", "factor_of", defArgs s_factor_of, defBody s_factor_of, defScope s_factor_of, [], []⟩
def d_is_known_step : He.DefD := ⟨("is_known_step", none), "is_known_step", "is_known_step", defArgs s_is_known_step, defBody s_is_known_step, defScope s_is_known_step, [], []⟩
def d_behind_step : He.DefD := ⟨("behind_step", none), "behind_step", "behind_step", defArgs s_behind_step, defBody s_behind_step, defScope s_behind_step, [], []⟩
def d_way_goal : He.DefD := ⟨("way_goal", none), "way_goal", "way_goal", defArgs s_way_goal, defBody s_way_goal, defScope s_way_goal, [], []⟩
def d_way_product : He.DefD := ⟨("way_product", none), "way_product", "way_product", defArgs s_way_product, defBody s_way_product, defScope s_way_product, [], []⟩
def d_is_ring : He.DefD := ⟨("is_ring", none), "is_ring", "is_ring", defArgs s_is_ring, defBody s_is_ring, defScope s_is_ring, [], []⟩
def d_best_of : He.DefD := ⟨("best_of", none), "best_of", "best_of", defArgs s_best_of, defBody s_best_of, defScope s_best_of, [], []⟩
def d_is_empty_paper : He.DefD := ⟨("is_empty_paper", none), "is_empty_paper", "is_empty_paper", defArgs s_is_empty_paper, defBody s_is_empty_paper, defScope s_is_empty_paper, [], []⟩
def d_want_full : He.DefD := ⟨("want_full", none), "want_full", "want_full", defArgs s_want_full, defBody s_want_full, defScope s_want_full, [], []⟩
def d_are_counts : He.DefD := ⟨("are_counts", none), "are_counts", "are_counts", defArgs s_are_counts, defBody s_are_counts, defScope s_are_counts, [], []⟩
def d_counts_like : He.DefD := ⟨("counts_like", none), "counts_like", "counts_like", defArgs s_counts_like, defBody s_counts_like, defScope s_counts_like, [], []⟩
def d_checked_counts : He.DefD := ⟨("checked_counts", none), "checked_counts", "checked_counts", defArgs s_checked_counts, defBody s_checked_counts, defScope s_checked_counts, [], []⟩
def d_lines_of : He.DefD := ⟨("lines_of", none), "lines_of", "lines_of", defArgs s_lines_of, defBody s_lines_of, defScope s_lines_of, [], []⟩
def d_want_full_where_told : He.DefD := ⟨("want_full_where_told", none), "want_full_where_told", "want_full_where_told", defArgs s_want_full_where_told, defBody s_want_full_where_told, defScope s_want_full_where_told, [], []⟩
def d_raised : He.DefD := ⟨("raised", none), "raised", "raised", defArgs s_raised, defBody s_raised, defScope s_raised, [], []⟩
def d_least_sizes : He.DefD := ⟨("least_sizes", none), "least_sizes", "least_sizes", defArgs s_least_sizes, defBody s_least_sizes, defScope s_least_sizes, [], []⟩
def d_law_pot : He.DefD := ⟨("_law_pot", none), "_law_pot", "_law_pot", defArgs s_law_pot, defBody s_law_pot, defScope s_law_pot, [], []⟩
def d_law_draw : He.DefD := ⟨("_law_draw", none), "_law_draw", "_law_draw", defArgs s_law_draw, defBody s_law_draw, defScope s_law_draw, [], []⟩
def d_law_pick : He.DefD := ⟨("_law_pick", none), "_law_pick", "_law_pick", defArgs s_law_pick, defBody s_law_pick, defScope s_law_pick, [], []⟩
def d_law_mixed : He.DefD := ⟨("_law_mixed", none), "_law_mixed", "_law_mixed", defArgs s_law_mixed, defBody s_law_mixed, defScope s_law_mixed, [], []⟩
def d_law_names : He.DefD := ⟨("_law_names", none), "_law_names", "_law_names", defArgs s_law_names, defBody s_law_names, defScope s_law_names, [], []⟩
def d_law_ends : He.DefD := ⟨("_law_ends", none), "_law_ends", "_law_ends", defArgs s_law_ends, defBody s_law_ends, defScope s_law_ends, [], []⟩
def d_law_ties : He.DefD := ⟨("_law_ties", none), "_law_ties", "_law_ties", defArgs s_law_ties, defBody s_law_ties, defScope s_law_ties, [], []⟩
def d_law_made : He.DefD := ⟨("_law_made", none), "_law_made", "_law_made", defArgs s_law_made, defBody s_law_made, defScope s_law_made, [], []⟩
def d_law_lines : He.DefD := ⟨("_law_lines", none), "_law_lines", "_law_lines", defArgs s_law_lines, defBody s_law_lines, defScope s_law_lines, [], []⟩
def d_law_gap : He.DefD := ⟨("_law_gap", none), "_law_gap", "_law_gap", defArgs s_law_gap, defBody s_law_gap, defScope s_law_gap, [], []⟩
def d_law_leads : He.DefD := ⟨("_law_leads", none), "_law_leads", "_law_leads", defArgs s_law_leads, defBody s_law_leads, defScope s_law_leads, [], []⟩
def d_law_is_above : He.DefD := ⟨("_law_is_above", none), "_law_is_above", "_law_is_above", defArgs s_law_is_above, defBody s_law_is_above, defScope s_law_is_above, [], []⟩
def d_law_empty : He.DefD := ⟨("_law_empty", none), "_law_empty", "_law_empty", defArgs s_law_empty, defBody s_law_empty, defScope s_law_empty, [], []⟩
def d_law_box : He.DefD := ⟨("_law_box", none), "_law_box", "_law_box", defArgs s_law_box, defBody s_law_box, defScope s_law_box, [], []⟩
def d_law_heard : He.DefD := ⟨("_law_heard", none), "_law_heard", "_law_heard", defArgs s_law_heard, defBody s_law_heard, defScope s_law_heard, [], []⟩
def d_law_least_right : He.DefD := ⟨("_law_least_right", none), "_law_least_right", "_law_least_right", defArgs s_law_least_right, defBody s_law_least_right, defScope s_law_least_right, [], []⟩
def d_law_told_right : He.DefD := ⟨("_law_told_right", none), "_law_told_right", "_law_told_right", defArgs s_law_told_right, defBody s_law_told_right, defScope s_law_told_right, [], []⟩
def d_law_changed_right : He.DefD := ⟨("_law_changed_right", none), "_law_changed_right", "_law_changed_right", defArgs s_law_changed_right, defBody s_law_changed_right, defScope s_law_changed_right, [], []⟩
def d_law_right : He.DefD := ⟨("_law_right", none), "_law_right", "_law_right", defArgs s_law_right, defBody s_law_right, defScope s_law_right, [], []⟩
def d_law : He.DefD := ⟨("law", none), "law", "law", defArgs s_law, defBody s_law, defScope s_law, [], []⟩
def d_Many_init : He.DefD := ⟨("Many", some "__init__"), "__init__", "Many.__init__", defArgs s_Many_init, defBody s_Many_init, defScope s_Many_init, [.non], []⟩
def d_Many_least : He.DefD := ⟨("Many", some "least"), "least", "Many.least", defArgs s_Many_least, defBody s_Many_least, defScope s_Many_least, [], []⟩
def d_Many_most : He.DefD := ⟨("Many", some "most"), "most", "Many.most", defArgs s_Many_most, defBody s_Many_most, defScope s_Many_most, [], []⟩
def d_Many_eq : He.DefD := ⟨("Many", some "__eq__"), "__eq__", "Many.__eq__", defArgs s_Many_eq, defBody s_Many_eq, defScope s_Many_eq, [], []⟩
def d_Model_init : He.DefD := ⟨("Model", some "__init__"), "__init__", "Model.__init__", defArgs s_Model_init, defBody s_Model_init, defScope s_Model_init, [.non], []⟩
def d_Model_kinds : He.DefD := ⟨("Model", some "kinds"), "kinds", "Model.kinds", defArgs s_Model_kinds, defBody s_Model_kinds, defScope s_Model_kinds, [], []⟩
def d_Model_links : He.DefD := ⟨("Model", some "links"), "links", "Model.links", defArgs s_Model_links, defBody s_Model_links, defScope s_Model_links, [], []⟩
def d_Model_kind_at : He.DefD := ⟨("Model", some "kind_at"), "kind_at", "Model.kind_at", defArgs s_Model_kind_at, defBody s_Model_kind_at, defScope s_Model_kind_at, [], []⟩
def d_Model_many_at : He.DefD := ⟨("Model", some "many_at"), "many_at", "Model.many_at", defArgs s_Model_many_at, defBody s_Model_many_at, defScope s_Model_many_at, [], []⟩
def d_Model_with_many : He.DefD := ⟨("Model", some "with_many"), "with_many", "Model.with_many", defArgs s_Model_with_many, defBody s_Model_with_many, defScope s_Model_with_many, [], []⟩
def d_Model_contains : He.DefD := ⟨("Model", some "__contains__"), "__contains__", "Model.__contains__", defArgs s_Model_contains, defBody s_Model_contains, defScope s_Model_contains, [], []⟩
def d_Model_eq : He.DefD := ⟨("Model", some "__eq__"), "__eq__", "Model.__eq__", defArgs s_Model_eq, defBody s_Model_eq, defScope s_Model_eq, [], []⟩
def d_Ratio_init : He.DefD := ⟨("Ratio", some "__init__"), "__init__", "Ratio.__init__", defArgs s_Ratio_init, defBody s_Ratio_init, defScope s_Ratio_init, [.int 1], []⟩
def d_Ratio_is_below : He.DefD := ⟨("Ratio", some "is_below"), "is_below", "Ratio.is_below", defArgs s_Ratio_is_below, defBody s_Ratio_is_below, defScope s_Ratio_is_below, [], []⟩
def d_Ratio_times : He.DefD := ⟨("Ratio", some "times"), "times", "Ratio.times", defArgs s_Ratio_times, defBody s_Ratio_times, defScope s_Ratio_times, [], []⟩
def d_Ratio_mul : He.DefD := ⟨("Ratio", some "__mul__"), "__mul__", "Ratio.__mul__", defArgs s_Ratio_mul, defBody s_Ratio_mul, defScope s_Ratio_mul, [], []⟩
def d_Map_init : He.DefD := ⟨("Map", some "__init__"), "__init__", "Map.__init__", defArgs s_Map_init, defBody s_Map_init, defScope s_Map_init, [], []⟩
def d_Map_add_step : He.DefD := ⟨("Map", some "add_step"), "add_step", "Map.add_step", defArgs s_Map_add_step, defBody s_Map_add_step, defScope s_Map_add_step, [], []⟩
def d_Map_roads : He.DefD := ⟨("Map", some "roads"), "roads", "Map.roads", defArgs s_Map_roads, defBody s_Map_roads, defScope s_Map_roads, [], []⟩
def d_Map_best_circle : He.DefD := ⟨("Map", some "best_circle"), "best_circle", "Map.best_circle", defArgs s_Map_best_circle, defBody s_Map_best_circle, defScope s_Map_best_circle, [], []⟩
def d_Map_reason_at : He.DefD := ⟨("Map", some "reason_at"), "reason_at", "Map.reason_at", defArgs s_Map_reason_at, defBody s_Map_reason_at, defScope s_Map_reason_at, [], []⟩
def d_Map_paper_of : He.DefD := ⟨("Map", some "paper_of"), "paper_of", "Map.paper_of", defArgs s_Map_paper_of, defBody s_Map_paper_of, defScope s_Map_paper_of, [], []⟩
def d_Sizes_init : He.DefD := ⟨("Sizes", some "__init__"), "__init__", "Sizes.__init__", defArgs s_Sizes_init, defBody s_Sizes_init, defScope s_Sizes_init, [], []⟩
def d_Sizes_kinds : He.DefD := ⟨("Sizes", some "kinds"), "kinds", "Sizes.kinds", defArgs s_Sizes_kinds, defBody s_Sizes_kinds, defScope s_Sizes_kinds, [], []⟩
def d_Sizes_counts : He.DefD := ⟨("Sizes", some "counts"), "counts", "Sizes.counts", defArgs s_Sizes_counts, defBody s_Sizes_counts, defScope s_Sizes_counts, [], []⟩
def d_Sizes_is_within : He.DefD := ⟨("Sizes", some "is_within"), "is_within", "Sizes.is_within", defArgs s_Sizes_is_within, defBody s_Sizes_is_within, defScope s_Sizes_is_within, [], []⟩
def d_Sizes_add : He.DefD := ⟨("Sizes", some "__add__"), "__add__", "Sizes.__add__", defArgs s_Sizes_add, defBody s_Sizes_add, defScope s_Sizes_add, [], []⟩
def d_Sizes_eq : He.DefD := ⟨("Sizes", some "__eq__"), "__eq__", "Sizes.__eq__", defArgs s_Sizes_eq, defBody s_Sizes_eq, defScope s_Sizes_eq, [], []⟩
def d_Line_init : He.DefD := ⟨("Line", some "__init__"), "__init__", "Line.__init__", defArgs s_Line_init, defBody s_Line_init, defScope s_Line_init, [], []⟩
def d_Line_needed : He.DefD := ⟨("Line", some "needed"), "needed", "Line.needed", defArgs s_Line_needed, defBody s_Line_needed, defScope s_Line_needed, [], []⟩
def d_Line_is_met : He.DefD := ⟨("Line", some "is_met"), "is_met", "Line.is_met", defArgs s_Line_is_met, defBody s_Line_is_met, defScope s_Line_is_met, [], []⟩
def d_EmptyBy_init : He.DefD := ⟨("EmptyBy", some "__init__"), "__init__", "EmptyBy.__init__", defArgs s_EmptyBy_init, defBody s_EmptyBy_init, defScope s_EmptyBy_init, [], []⟩
def d_Empty_init : He.DefD := ⟨("Empty", some "__init__"), "__init__", "Empty.__init__", defArgs s_Empty_init, defBody s_Empty_init, defScope s_Empty_init, [], []⟩
def fns : List He.DefD := [d_is_integer, d_is_count, d_is_name, d_is_end, d_other_end, d_want_count, d_is_end_many, d_are_ends, d_want_kinds, d_want_links, d_want_few, d_want_model, d_want_kind, d_want_link, d_want_end, d_common_divisor, d_is_ratio, d_as_ratio, d_is_step, d_is_broken_end, d_steps_of, d_factor_of, d_is_known_step, d_behind_step, d_way_goal, d_way_product, d_is_ring, d_best_of, d_is_empty_paper, d_want_full, d_are_counts, d_counts_like, d_checked_counts, d_lines_of, d_want_full_where_told, d_raised, d_least_sizes, d_law_pot, d_law_draw, d_law_pick, d_law_mixed, d_law_names, d_law_ends, d_law_ties, d_law_made, d_law_lines, d_law_gap, d_law_leads, d_law_is_above, d_law_empty, d_law_box, d_law_heard, d_law_least_right, d_law_told_right, d_law_changed_right, d_law_right, d_law, d_Many_init, d_Many_eq, d_Model_init, d_Model_kinds, d_Model_links, d_Model_kind_at, d_Model_many_at, d_Model_with_many, d_Model_contains, d_Model_eq, d_Ratio_init, d_Ratio_is_below, d_Ratio_times, d_Ratio_mul, d_Map_init, d_Map_add_step, d_Map_roads, d_Map_best_circle, d_Map_reason_at, d_Map_paper_of, d_Sizes_init, d_Sizes_kinds, d_Sizes_counts, d_Sizes_is_within, d_Sizes_add, d_Sizes_eq, d_Line_init, d_Line_needed, d_Line_is_met]
abbrev i_is_integer : Nat := 0
abbrev i_is_count : Nat := 1
abbrev i_is_name : Nat := 2
abbrev i_is_end : Nat := 3
abbrev i_other_end : Nat := 4
abbrev i_want_count : Nat := 5
abbrev i_is_end_many : Nat := 6
abbrev i_are_ends : Nat := 7
abbrev i_want_kinds : Nat := 8
abbrev i_want_links : Nat := 9
abbrev i_want_few : Nat := 10
abbrev i_want_model : Nat := 11
abbrev i_want_kind : Nat := 12
abbrev i_want_link : Nat := 13
abbrev i_want_end : Nat := 14
abbrev i_common_divisor : Nat := 15
abbrev i_is_ratio : Nat := 16
abbrev i_as_ratio : Nat := 17
abbrev i_is_step : Nat := 18
abbrev i_is_broken_end : Nat := 19
abbrev i_steps_of : Nat := 20
abbrev i_factor_of : Nat := 21
abbrev i_is_known_step : Nat := 22
abbrev i_behind_step : Nat := 23
abbrev i_way_goal : Nat := 24
abbrev i_way_product : Nat := 25
abbrev i_is_ring : Nat := 26
abbrev i_best_of : Nat := 27
abbrev i_is_empty_paper : Nat := 28
abbrev i_want_full : Nat := 29
abbrev i_are_counts : Nat := 30
abbrev i_counts_like : Nat := 31
abbrev i_checked_counts : Nat := 32
abbrev i_lines_of : Nat := 33
abbrev i_want_full_where_told : Nat := 34
abbrev i_raised : Nat := 35
abbrev i_least_sizes : Nat := 36
abbrev i_law_pot : Nat := 37
abbrev i_law_draw : Nat := 38
abbrev i_law_pick : Nat := 39
abbrev i_law_mixed : Nat := 40
abbrev i_law_names : Nat := 41
abbrev i_law_ends : Nat := 42
abbrev i_law_ties : Nat := 43
abbrev i_law_made : Nat := 44
abbrev i_law_lines : Nat := 45
abbrev i_law_gap : Nat := 46
abbrev i_law_leads : Nat := 47
abbrev i_law_is_above : Nat := 48
abbrev i_law_empty : Nat := 49
abbrev i_law_box : Nat := 50
abbrev i_law_heard : Nat := 51
abbrev i_law_least_right : Nat := 52
abbrev i_law_told_right : Nat := 53
abbrev i_law_changed_right : Nat := 54
abbrev i_law_right : Nat := 55
abbrev i_law : Nat := 56
abbrev i_Many_init : Nat := 57
abbrev i_Many_eq : Nat := 58
abbrev i_Model_init : Nat := 59
abbrev i_Model_kinds : Nat := 60
abbrev i_Model_links : Nat := 61
abbrev i_Model_kind_at : Nat := 62
abbrev i_Model_many_at : Nat := 63
abbrev i_Model_with_many : Nat := 64
abbrev i_Model_contains : Nat := 65
abbrev i_Model_eq : Nat := 66
abbrev i_Ratio_init : Nat := 67
abbrev i_Ratio_is_below : Nat := 68
abbrev i_Ratio_times : Nat := 69
abbrev i_Ratio_mul : Nat := 70
abbrev i_Map_init : Nat := 71
abbrev i_Map_add_step : Nat := 72
abbrev i_Map_roads : Nat := 73
abbrev i_Map_best_circle : Nat := 74
abbrev i_Map_reason_at : Nat := 75
abbrev i_Map_paper_of : Nat := 76
abbrev i_Sizes_init : Nat := 77
abbrev i_Sizes_kinds : Nat := 78
abbrev i_Sizes_counts : Nat := 79
abbrev i_Sizes_is_within : Nat := 80
abbrev i_Sizes_add : Nat := 81
abbrev i_Sizes_eq : Nat := 82
abbrev i_Line_init : Nat := 83
abbrev i_Line_needed : Nat := 84
abbrev i_Line_is_met : Nat := 85

/-! ### what the top has written -/
structure Own (K : PySem.W.Frag) (mg : Str → Option Value) (c : Str) (fs ms : List Str) : Prop where
  g : mg c = some (.ref (He.ga K c))
  cl : Cls K (He.ga K c)
  ci : CIsi K (He.ga K c)
  mak : Mk K (He.ga K c) (He.ma K (He.ga K c) "__init__")
  na : ∀ f ∈ fs, NoAttr K (He.ga K c) f
  me : ∀ m ∈ ms, Meth K (He.ga K c) m (He.ma K (He.ga K c) m)
structure OwnS (K : PySem.W.Frag) (mg : Str → Option Value) (c : Str) (fs : List (Str × Nat)) (ms : List Str) : Prop where
  g : mg c = some (.ref (He.ga K c))
  cl : SlX.SCls K (He.ga K c)
  ci : CIsi K (He.ga K c)
  mak : Mk K (He.ga K c) (He.ma K (He.ga K c) "__init__")
  sl : ∀ q ∈ fs, SlX.Slot1 K (He.ga K c) q.1 (He.ma K (He.ga K c) q.1) q.2
  me : ∀ m ∈ ms, Meth K (He.ga K c) m (He.ma K (He.ga K c) m)
/-- the getter of a property -/
def pg (K : PySem.W.Frag) (C : Addr) (f : Str) : Addr := match PySem.W.recIn K (He.ma K C f) "property" with
  | some (.ref g :: _) => g
  | _ => 0
structure OwnP (K : PySem.W.Frag) (C : Addr) (f qual : Str) (st : Stmt) : Prop where
  at_ : PySem.W.findIn K (.ref C) f = some (some (.ref (He.ma K C f)))
  get : PySem.W.specialIn K (.ref (He.ma K C f)) "__get__" = some (some (.builtin "property.__get__"))
  tk : PySem.W.takesIn K (.ref (He.ma K C f)) = some true
  rc : ∃ rest, PySem.W.recIn K (He.ma K C f) "property" = some (.ref (pg K C f) :: rest)
  fn : ∃ fd, FunD K f qual (defArgs st) (defBody st) (defScope st) [] [] (pg K C f) fd
def frees : List Str := ["isinstance", "int", "bool", "str", "len", "all", "any", "list", "tuple", "dict", "sorted", "range", "enumerate", "min", "max", "abs", "set", "divmod", "super"]
structure Txt (K : PySem.W.Frag) (mg : Str → Option Value) : Prop where
  fn : ∀ (i : Nat) (d : He.DefD), fns[i]? = some d → (d.at_.2 = none → mg d.at_.1 = some (.ref (He.fAd K d.at_))) ∧ ∃ fd, FunD K d.name d.qual d.params d.body d.scope (d.dvs K) (d.kws K) (He.fAd K d.at_) fd
  free : ∀ x, frees.contains x = true → mg x = none
  letters : ∃ t, mg "LETTERS" = some (.str "abcdefghijklmnopqrstuvwxyz" t)
  most : ∃ t, mg "MOST_LETTERS" = some (.int 8 t)
  near : ∃ t, mg "NEAR_values" = some (.str "near" t)
  far : ∃ t, mg "FAR" = some (.str "far" t)
  nearM : ∃ t, mg "NEAR_models" = some (.str "near" t)
  model : Own K mg "Model" ["own_kinds", "own_links"] ["kinds", "links", "kind_at", "many_at", "with_many", "__contains__", "__eq__"]
  map : Own K mg "Map" ["own_model", "own_kinds", "own_best", "own_broken"] ["add_step", "roads", "best_circle", "reason_at", "paper_of"]
  sizes : Own K mg "Sizes" ["own_counts"] ["kinds", "counts", "is_within", "__add__", "__eq__"]
  line : Own K mg "Line" ["own_is_product", "own_asking", "own_asked", "own_least", "own_most"] ["needed", "is_met"]
  many : OwnS K mg "Many" [("own_least", 0), ("own_most", 1), ("own_place", 2)] ["__eq__"]
  ratio : OwnS K mg "Ratio" [("own_bottom", 0), ("own_top", 1)] ["is_below", "times", "__mul__"]
  least : OwnP K (He.ga K "Many") "least" "Many.least" s_Many_least
  mostP : OwnP K (He.ga K "Many") "most" "Many.most" s_Many_most
  kit : ∀ q ∈ ([("Many", "Many", true), ("Ratio", "Ratio", true), ("Model", "Model", true), ("Sizes", "Sizes", true)] : List (Str × Str × Bool)), PySem.W.kitOne K (.ref (He.ga K q.1)) (.ref (He.ga K q.2.1)) = some q.2.2
  cread : ∀ c ∈ (["Many", "Model"] : List Str), ClX.CRead K (He.ga K c) (.type "type")
  cTop : ∃ u, ClX.CVal K (He.ga K "Many") (.type "type") "TOP" (.int 6) u
  cKinds : ∃ u, ClX.CVal K (He.ga K "Model") (.type "type") "MOST_KINDS" (.int 5) u
  cLinks : ∃ u, ClX.CVal K (He.ga K "Model") (.type "type") "MOST_LINKS" (.int 8) u
  kitT : PySem.W.kitOne K (.type "dict") (.ref (He.ga K "Sizes")) = some false
  kitR : PySem.W.kitOne K (.ref (He.ga K "Ratio")) (.type "int") = some false
  lines : mg "LINES" = some (.ref (He.ga K "LINES")) ∧ ∀ H, SqT K H (He.ga K "LINES") [.int 0, .int 1, .int 2, .int 3]
  selfF : ∀ c ∈ (["Ratio", "Sizes"] : List Str), PySem.W.selfFirst K (He.ga K c) = true

end K53
end KT_
section KI_
set_option maxRecDepth 100000
set_option maxHeartbeats 0
/-! KI: what is looked at behind the top. -/
namespace K53
open PySem PySem.Spec PyProof.Rows L2
open He (ga ma Fa eqO refV)
def cisiB (K : PySem.W.Frag) (C : Addr) : Bool := eqO (PySem.W.findIn K (.ref C) "__class__") (some (some (.builtin "object.__class__"))) && (eqO (PySem.W.specialIn K (.builtin "object.__class__") "__get__") (some (some (.builtin "getset_descriptor.__get__"))) &&
  (decide (PySem.W.takesIn K (.builtin "object.__class__") = some true) && decide (PySem.W.mroIn K C (.type "object") = some true)))
def ownB (K : PySem.W.Frag) (c : Str) (fs ms : List Str) : Bool := (Fa.glo c).ok K && ((Fa.cls c).ok K && (cisiB K (ga K c) && ((Fa.mkr c).ok K && (fs.all (fun f => (Fa.noat c f).ok K) && ms.all (fun m => (Fa.meth c m).ok K)))))
def slot1B (K : PySem.W.Frag) (C : Addr) (f : Str) (i : Nat) : Bool := eqO (PySem.W.findIn K (.ref C) f) (some (some (.ref (ma K C f)))) && (eqO (PySem.W.specialIn K (.ref (ma K C f)) "__get__") (some (some (.builtin "member_descriptor.__get__"))) &&
  (decide (PySem.W.takesIn K (.ref (ma K C f)) = some true) && (decide (PySem.W.typeIn K (.ref (ma K C f)) = some (.type "member_descriptor")) && (decide (PySem.W.slotIn K (ma K C f) C = some i) && decide (i < 1000)))))
def ownSB (K : PySem.W.Frag) (c : Str) (fs : List (Str × Nat)) (ms : List Str) : Bool := (Fa.glo c).ok K && (PySem.W.plainGet K (ga K c) Str.empty && (PySem.W.isClsIn K (ga K c) && (PySem.W.plainOver K (ga K c) && (eqO (PySem.W.findIn K (.ref (ga K c)) "__setattr__") (some (some (.builtin "object.__setattr__"))) &&
  (cisiB K (ga K c) && ((Fa.mkr c).ok K && (fs.all (fun q => slot1B K (ga K c) q.1 q.2) && ms.all (fun m => (Fa.meth c m).ok K))))))))
abbrev rtTail : List Value := [.type "RuntimeError", .type "Exception", .type "BaseException", .type "object"]
abbrev veTail : List Value := [.type "ValueError", .type "Exception", .type "BaseException", .type "object"]
/-- the function at f: its code, its defaults -/
def fnOkB (K : PySem.W.Frag) (f : Addr) (qual : Str) : Bool := PySem.W.keepIn K (.ref f) && (match K.lookup f with
  | some ⟨_, _, .func fd, _⟩ => PySem.W.codeIn K fd.code qual && (He.dflB K fd.defaults [] && He.kwdB K fd.kwdefaults [])
  | _ => false)
def ownPB (K : PySem.W.Frag) (C : Addr) (f qual : Str) : Bool := eqO (PySem.W.findIn K (.ref C) f) (some (some (.ref (ma K C f)))) && (eqO (PySem.W.specialIn K (.ref (ma K C f)) "__get__") (some (some (.builtin "property.__get__"))) &&
  (decide (PySem.W.takesIn K (.ref (ma K C f)) = some true) && ((match PySem.W.recIn K (ma K C f) "property" with | some (.ref _ :: _) => true | _ => false) && fnOkB K (pg K C f) qual)))
/-- an own exception class, but the text of its __init__ -/
def excB (K : PySem.W.Frag) (C fI : Addr) (B i newId : String) (bm : List Value) (fs : List Str) : Bool := PySem.W.excInitIn K C bm newId && (PySem.W.excOver K C bm && (PySem.W.hasDictIn K C && (eqO (PySem.W.findIn K (.ref C) "__setattr__") (some (some (.builtin "object.__setattr__"))) &&
  (eqO (PySem.W.findIn K (.ref C) "__getattribute__") (some (some (.builtin "BaseException.__getattribute__"))) && (eqO (PySem.W.findIn K (.ref C) "__getattr__") (some none) && (fs.all (fun f => eqO (PySem.W.findIn K (.ref C) f) (some none)) &&
  (eqO (PySem.W.findIn K (.ref C) "__init__") (some (some (.ref fI))) && (decide (PySem.W.typeIn K (.ref fI) = some (.type "function")) && (PySem.W.keepIn K (.ref C) && (decide (PySem.W.subIn K (.ref C) (.type "BaseException") = some true) &&
  (decide (PySem.W.typeIn K (.ref C) = some (.type "type")) && (eqO (PySem.W.ks_superIn K C C "__init__") (some (some (.builtin i))) && (decide (PySem.W.subIn K (.ref C) (.type B) = some true) && eqO (PySem.W.nsIn K cStatics "thirdparty.any") (some none))))))))))))))
/-- the text of an __init__ that says super() -/
abbrev FnE : Type := Option (Str × Str × Arguments × FuncBody × Scope × Addr × List Str × Value × Value × Addr)
def fnE (K : PySem.W.Frag) (f : Addr) : FnE := match K.lookup f with
  | some ⟨_, _, .func fd, _⟩ => some (fd.name, fd.qualname, fd.params, fd.body, fd.scope, fd.globals, fd.closure.map (·.1), fd.defaults, fd.kwdefaults, fd.builtins)
  | _ => none
def excFB (K : PySem.W.Frag) (C fI : Addr) (qual : Str) : Bool := match K.lookup fI with
  | some ⟨_, _, .func fd, _⟩ => PySem.W.codeIn K fd.code qual && ((match fd.code with
    | .ref cda => (match K.lookup cda with
      | some ⟨_, _, .fields vs, _⟩ => (match (vs[2]? : Option Value) with
        | some (.str file _) => PySem.Challenge.pw_howmanyeach_k53_whole_least_sizes_in_a_b.main.file == file
        | _ => false)
      | _ => false)
    | _ => false) && (match fd.closure with
    | [(_, cc)] => (match K.lookup cc with
      | some ⟨_, _, .cell (some (.ref D)), _⟩ => decide (D = C)
      | _ => false)
    | _ => false))
  | _ => false
/-! ### the part of the heap that is told -/
def vals (o : Obj) : List Addr := match o.data with
  | .dict es _ => es.toList.flatMap fun e => refV e.val
  | _ => []
def kids (o : Obj) : List Addr := match o with
  | ⟨_, _, .func fd, _⟩ => refV fd.code ++ refV fd.defaults ++ fd.closure.map (·.2)
  | ⟨_, _, .cls cd, _⟩ => [cd.ns]
  | ⟨.type "property", _, .fields vs, _⟩ => vs.toList.flatMap refV
  | _ => []
def frAdd (g : Addr → Option Obj) (as : List Addr) (f : Obj → List Addr) : List Addr := as.flatMap fun a => match g a with
  | some o => f o
  | none => []
def owns : List Str := ["Many", "Model", "Ratio", "Map", "Sizes", "Line", "Empty", "EmptyBy", "StateError", "EachError"]
def asH (g : Addr → Option Obj) : List Addr :=
  match frAdd g [mainGlobals] vals with
  | l1 => match owns.map (ga (He.frG g [mainGlobals])) with
    | cs => match frAdd g cs kids with
      | nss => match frAdd g nss vals with
        | l3 => match frAdd g l3 kids with
          | l4 => mainGlobals :: (cs ++ nss ++ l1 ++ frAdd g l1 kids ++ l3 ++ l4 ++ frAdd g l4 kids ++ [cStatics])
def KK (g : Addr → Option Obj) : PySem.W.Frag := He.frT g (asH g)
/-! ### the looks -/
def defsB (K : PySem.W.Frag) : Bool := fns.all fun d => d.ok K && (d.at_.2.isSome || (Fa.glo d.at_.1).ok K)
def defsV (K : PySem.W.Frag) : List He.FnW := fns.map fun d => He.fnW K d.at_
def defsW : List He.FnW := fns.map He.DefD.val
def looks1 (K : PySem.W.Frag) : List Bool := [frees.all (fun x => (Fa.free x).ok K), (Fa.str "LETTERS" "abcdefghijklmnopqrstuvwxyz").ok K, (Fa.int "MOST_LETTERS" 8).ok K, (Fa.str "NEAR_values" "near").ok K, (Fa.str "FAR" "far").ok K, (Fa.str "NEAR_models" "near").ok K]
def looks2 (K : PySem.W.Frag) : List Bool := [ownB K "Model" ["own_kinds", "own_links"] ["kinds", "links", "kind_at", "many_at", "with_many", "__contains__", "__eq__"],
  ownB K "Map" ["own_model", "own_kinds", "own_best", "own_broken"] ["add_step", "roads", "best_circle", "reason_at", "paper_of"], ownB K "Sizes" ["own_counts"] ["kinds", "counts", "is_within", "__add__", "__eq__"],
  ownB K "Line" ["own_is_product", "own_asking", "own_asked", "own_least", "own_most"] ["needed", "is_met"], ownSB K "Many" [("own_least", 0), ("own_most", 1), ("own_place", 2)] ["__eq__"], ownSB K "Ratio" [("own_bottom", 0), ("own_top", 1)] ["is_below", "times", "__mul__"],
  ownPB K (ga K "Many") "least" "Many.least", ownPB K (ga K "Many") "most" "Many.most"]
def kits : List (Str × Str × Bool) := [("Many", "Many", true), ("Ratio", "Ratio", true), ("Model", "Model", true), ("Sizes", "Sizes", true), ("Empty", "StateError", true)]
def cvalB (K : PySem.W.Frag) (c f : Str) (i : Int) : Bool := match PySem.W.findCls K (.ref (ga K c)) (.type "type") f with
  | some (.val (.int j _)) => decide (j = i)
  | _ => false
def looks3 (K : PySem.W.Frag) : List Bool := [kits.all (fun q => decide (PySem.W.kitOne K (.ref (ga K q.1)) (.ref (ga K q.2.1)) = some q.2.2)),
  (["Many", "Model"] : List Str).all (fun c => PySem.W.readsIn K (ga K c) (.type "type") && eqO (PySem.W.specialIn K (.ref (ga K c)) "__getattribute__") (some (some (.builtin "type.__getattribute__")))),
  cvalB K "Many" "TOP" 6, cvalB K "Model" "MOST_KINDS" 5, cvalB K "Model" "MOST_LINKS" 8, decide (PySem.W.kitOne K (.type "dict") (.ref (ga K "Sizes")) = some false), decide (PySem.W.kitOne K (.ref (ga K "Ratio")) (.type "int") = some false),
  (Fa.glo "LINES").ok K, He.tupB K "LINES" [.int 0, .int 1, .int 2, .int 3], (["Ratio", "Sizes"] : List Str).all (fun c => PySem.W.selfFirst K (ga K c))]
def looks4 (K : PySem.W.Frag) : List Bool := [(Fa.glo "Empty").ok K, (Fa.glo "EmptyBy").ok K, (Fa.glo "StateError").ok K, excB K (ga K "Empty") (ma K (ga K "Empty") "__init__") "RuntimeError" "RuntimeError.__init__" "RuntimeError.__new__" rtTail ["kind", "paper"],
  excB K (ga K "EmptyBy") (ma K (ga K "EmptyBy") "__init__") "ValueError" "ValueError.__init__" "ValueError.__new__" veTail ["paper"], excFB K (ga K "Empty") (ma K (ga K "Empty") "__init__") "Empty.__init__", excFB K (ga K "EmptyBy") (ma K (ga K "EmptyBy") "__init__") "EmptyBy.__init__",
  decide (PySem.W.exmOne K (.ref (ga K "Empty")) (.ref (ga K "Empty")) = some true)]
def excV (K : PySem.W.Frag) : List FnE := [fnE K (ma K (ga K "Empty") "__init__"), fnE K (ma K (ga K "EmptyBy") "__init__"), fnE K (pg K (ga K "Many") "least"), fnE K (pg K (ga K "Many") "most")]
def cTab : He.Defn := ("_law_told_right", none)
def tabB (g : Addr → Option Obj) (K : PySem.W.Frag) : Bool := He.tabsB g [cTab] K
end K53
end KI_
section KJ_
set_option maxRecDepth 100000
set_option maxHeartbeats 0
/-! KJ: the top run in the kernel, and looked at. -/
namespace K53
open PySem PySem.Spec PyProof.Rows L2
abbrev Rw : PySem.W.OpenRow := PySem.W.OpenLaw.row PySem.Challenge.rw_howmanyeach_k53_whole_least_sizes_in_a_b
def looks (g : Addr → Option Obj) (K : PySem.W.Frag) : Bool := ((looks1 K ++ looks3 K ++ looks4 K).all id && tabB g K) && ((looks2 K).all id && defsB K)
def exFn (qual : Str) (st : Stmt) : FnE := some ("__init__", qual, defArgs st, .stmts (defBody st), defScope st, mainGlobals, ["__class__"], .none, .none, builtinsNs)
def geFn (name qual : Str) (st : Stmt) : FnE := some (name, qual, defArgs st, .stmts (defBody st), defScope st, mainGlobals, [], .none, .none, builtinsNs)
def excW : List FnE := [exFn "Empty.__init__" s_Empty_init, exFn "EmptyBy.__init__" s_EmptyBy_init, geFn "least" "Many.least" s_Many_least, geFn "most" "Many.most" s_Many_most]
abbrev ObsT : Type := Bool × List He.FnW × List FnE
def obsK (g : Addr → Option Obj) : ObsT := (looks g (KK g), defsV (KK g), excV (KK g))
def obsW : ObsT := (true, defsW, excW)
def loose : List Str := (PySem.Challenge.pw_howmanyeach_k53_whole_least_sizes_in_a_b.main.scope.names.map (·.1)).filter fun x => !(x == ("law" : Str))
open HandSHeadRun PySem.W in
theorem run_a (w : World) (os : OsState) : ((endF (stepQ (denQ tabQ) Rw.prog w) 20000 Rw.prog w os).map fun s => (((looks1 (KK (getT s)) ++ looks3 (KK (getT s)) ++ looks4 (KK (getT s))).all id && tabB (getT s) (KK (getT s))) && (looks2 (KK (getT s))).all id)) = some true := by
  kernel_rfl
open HandSHeadRun PySem.W in
theorem run_b (w : World) (os : OsState) : ((endF (stepQ (denQ tabQ) Rw.prog w) 20000 Rw.prog w os).map fun s => (defsB (KK (getT s)), defsV (KK (getT s)), excV (KK (getT s)))) = some (true, defsW, excW) := by
  kernel_rfl
open HandSHeadRun PySem.W in
theorem run_c1 (w : World) (os : OsState) : ((endF (stepQ (denQ tabQ) Rw.prog w) 20000 Rw.prog w os).map fun s => looksF Rw.prog (boot_heap w.params) s.abs) = some true := by
  kernel_rfl
open HandSHeadRun PySem.W in
theorem run_c2 (w : World) (os : OsState) : ((endF (stepQ (denQ tabQ) Rw.prog w) 20000 Rw.prog w os).map fun s => seenQ (PySem.W.view Rw.prog [111]) loose (importedModules Rw.prog.main.body) (fun s => xlAt (PySem.W.view Rw.prog [111]) [] s && recOk Rw.toRowW.records s) s.abs) = some (openGood (PySem.W.view Rw.prog [111]) loose) := by
  kernel_rfl
end K53
end KJ_
section KD_
set_option maxRecDepth 100000
set_option maxHeartbeats 4000000
/-! KD: calls of built-ins; the defs of values, first. -/
namespace K53
open PySem PySem.Spec PyProof.Rows L2
section
variable {X : Cx} {e a b c o k : Expr} {es : List Expr} {Γ : En} {M : Mu} {p q z : Pv} {ps : List Pv} {x y : V} {pos pp apos cpos : Pos} {e0 : Eb} {P : Pst} {kp fs : List (Str × Pv)} {s : Str}
theorem xe_cb1 {n : Str} {idS : String} {r : List V → Hp → VK → Prop} (hc : CallR X (.builtin idS) r) (hm : X.mg n = none) (hv : bootBuiltins n = some (.builtin idS)) (ha : XE X e Γ M p)
    (hr : ∀ G H σ Γ v, St0 G H σ Γ M → p.r G v → ∀ Q : VK, (∀ u G' H', Stp G H G' H' → z.r G' u → Q u H') → r [v] H Q) (hg : Gl X n := by rfl) (hn : n ≠ "__name__" := by decide) (hdb : (n == ("__debug__" : Str)) = false := by decide)
    (he : starEach [e] X.env = (false, eval e X.env) :: starEach [] X.env := by rfl) : XE X (.Call (.Name n pp) [e] [] pos) Γ M z := fun G H σ st Q k =>
  ⟨_, pe_callB hc hg hm hv (pa_cons pe_w pa_nil he) hn hdb he rfl, ha G H σ st _ fun v G1 H1 t1 r1 => hr G1 H1 σ Γ v (st.stp t1) r1 Q fun u G2 H2 t2 r2 => k u G2 H2 (t1.trans t2) r2⟩
theorem xe_ct1 {n : Str} {T : String} {r : List V → Hp → VK → Prop} (hc : CallR X (.type T) r) (hm : X.mg n = none) (hv : bootBuiltins n = some (.type T)) (ha : XE X e Γ M p)
    (hr : ∀ G H σ Γ v, St0 G H σ Γ M → p.r G v → ∀ Q : VK, (∀ u G' H', Stp G H G' H' → z.r G' u → Q u H') → r [v] H Q) (hg : Gl X n := by rfl) (hn : n ≠ "__name__" := by decide) (hdb : (n == ("__debug__" : Str)) = false := by decide)
    (he : starEach [e] X.env = (false, eval e X.env) :: starEach [] X.env := by rfl) : XE X (.Call (.Name n pp) [e] [] pos) Γ M z := fun G H σ st Q k =>
  ⟨_, pe_callTy hc hg hm hv (pa_cons pe_w pa_nil he) hn hdb he rfl, ha G H σ st _ fun v G1 H1 t1 r1 => hr G1 H1 σ Γ v (st.stp t1) r1 Q fun u G2 H2 t2 r2 => k u G2 H2 (t1.trans t2) r2⟩
theorem xn_ct1 {n : Str} {T : String} {r : List V → Hp → VK → Prop} {ob : Mo} (hc : CallR X (.type T) r) (hm : X.mg n = none) (hv : bootBuiltins n = some (.type T)) (ha : XE X e Γ M p)
    (hr : ∀ G H σ Γ v, St0 G H σ Γ M → p.r G v → ∀ Q : VK, (∀ a u, H a = none → ob.r G u → Q (.ref a) (upd H a u)) → r [v] H Q) (hg : Gl X n := by rfl) (hn : n ≠ "__name__" := by decide) (hdb : (n == ("__debug__" : Str)) = false := by decide)
    (he : starEach [e] X.env = (false, eval e X.env) :: starEach [] X.env := by rfl) : XN X (.Call (.Name n pp) [e] [] pos) Γ M ob := fun G H σ st Q k =>
  ⟨_, pe_callTy hc hg hm hv (pa_cons pe_w pa_nil he) hn hdb he rfl, ha G H σ st _ fun v G1 H1 t1 r1 => hr G1 H1 σ Γ v (st.stp t1) r1 Q fun a u ha r2 => k a u G1 _ (t1.trans (Stp.tmp t1.i ha)) (t1.h.free ha) (t1.i.free ha) upd_same r2⟩
theorem xn_cb1 {n : Str} {T : String} {r : List V → Hp → VK → Prop} {ob : Mo} (hc : CallR X (.builtin T) r) (hm : X.mg n = none) (hv : bootBuiltins n = some (.builtin T)) (ha : XE X e Γ M p)
    (hr : ∀ G H σ Γ v, St0 G H σ Γ M → p.r G v → ∀ Q : VK, (∀ a u, H a = none → ob.r G u → Q (.ref a) (upd H a u)) → r [v] H Q) (hg : Gl X n := by rfl) (hn : n ≠ "__name__" := by decide) (hdb : (n == ("__debug__" : Str)) = false := by decide)
    (he : starEach [e] X.env = (false, eval e X.env) :: starEach [] X.env := by rfl) : XN X (.Call (.Name n pp) [e] [] pos) Γ M ob := fun G H σ st Q k =>
  ⟨_, pe_callB hc hg hm hv (pa_cons pe_w pa_nil he) hn hdb he rfl, ha G H σ st _ fun v G1 H1 t1 r1 => hr G1 H1 σ Γ v (st.stp t1) r1 Q fun a u ha r2 => k a u G1 _ (t1.trans (Stp.tmp t1.i ha)) (t1.h.free ha) (t1.i.free ha) upd_same r2⟩
/-! ### len, all, any -/
theorem xe_lenS (hm : X.mg "len" = none) (h : XE X e Γ M (vStr s)) (hz : s.length ≤ sizeLine) (hg : Gl X "len" := by rfl) (he : starEach [e] X.env = (false, eval e X.env) :: starEach [] X.env := by rfl) : XE X (.Call (.Name "len" pp) [e] [] pos) Γ M (vInt s.length) :=
  xe_cb1 call_len hm (by decide +kernel) h (fun G H σ Γ v st rv Q k => by cases rv; exact ⟨_, s.length, rfl, ⟨hz, rfl⟩, k _ G H (.refl st.i) rfl⟩) hg (by decide) (by decide) he
theorem xe_lenL (hm : X.mg "len" = none) (h : XE X e Γ M p) (vw : VwL M p ps) (hg : Gl X "len" := by rfl) (he : starEach [e] X.env = (false, eval e X.env) :: starEach [] X.env := by rfl) : XE X (.Call (.Name "len" pp) [e] [] pos) Γ M (vInt ps.length) :=
  xe_cb1 call_len_seq hm (by decide +kernel) h (fun G H σ Γ v st rv Q k => by
    obtain ⟨a, xs, rfl, h1, h2⟩ := vw _ _ _ _ st v rv
    exact ⟨a, xs, rfl, .inl (SqL.of h1), by rw [h2.len]; exact k _ G H (.refl st.i) rfl⟩) hg (by decide) (by decide) he
theorem xe_lenT (hm : X.mg "len" = none) (h : XE X e Γ M (vTup ps)) (hg : Gl X "len" := by rfl) (he : starEach [e] X.env = (false, eval e X.env) :: starEach [] X.env := by rfl) : XE X (.Call (.Name "len" pp) [e] [] pos) Γ M (vInt ps.length) :=
  xe_cb1 call_len_seq hm (by decide +kernel) h (fun G H σ Γ v st rv Q k => by
    obtain ⟨a, xs, rfl, h1, h2⟩ := rv
    exact ⟨a, xs, rfl, .inr (SqT.of (st.i _ _ h1)), by rw [h2.len]; exact k _ G H (.refl st.i) rfl⟩) hg (by decide) (by decide) he
def rLenDk : List V → Hp → VK → Prop := fun xs H Q => ∃ a kvs, xs = [V.ref a] ∧ Rd H a (.dK kvs) ∧ Q (.int kvs.length) H
theorem call_lenDk {X : Cx} : CallR X (.builtin "len") rLenDk := by
  intro pins s σ H xs us Q I r q
  obtain ⟨a, kvs, ex, hd, q⟩ := q
  subst ex
  obtain ⟨u, eu, rx⟩ := vals1 r
  subst eu
  obtain rfl : u = Value.ref a := rx
  exact d_len I hd fun t s' I' => ⟨.int kvs.length, H, I', ⟨t, rfl⟩, q⟩
theorem xe_lenD (hm : X.mg "len" = none) (h : XE X e Γ M p) (vw : VwD M p kp) (hg : Gl X "len" := by rfl) (he : starEach [e] X.env = (false, eval e X.env) :: starEach [] X.env := by rfl) : XE X (.Call (.Name "len" pp) [e] [] pos) Γ M (vInt kp.length) :=
  xe_cb1 call_lenDk hm (by decide +kernel) h (fun G H σ Γ v st rv Q k => by
    obtain ⟨a, xs, rfl, h1, h2⟩ := vw _ _ _ _ st v rv
    exact ⟨a, xs, rfl, h1, by rw [h2.len]; exact k _ G H (.refl st.i) rfl⟩) hg (by decide) (by decide) he
theorem xe_all {bs : List Bool} (hc : X.calm = true) (hm : X.mg "all" = none) (h : XE X e Γ M (vLst (bs.map fun b => vBl b))) (hg : Gl X "all" := by rfl) (he : starEach [e] X.env = (false, eval e X.env) :: starEach [] X.env := by rfl) : XE X (.Call (.Name "all" pp) [e] [] pos) Γ M (vBl (bs.all id)) :=
  xe_cb1 (cr_all hc) hm (by decide +kernel) h (fun G H σ Γ v st rv Q k => by
    obtain ⟨a, xs, rfl, h1, h2⟩ := rv
    obtain rfl := h2.vals
    exact ⟨a, bs, rfl, SqL.of (st.i _ _ h1), k _ G H (.refl st.i) rfl⟩) hg (by decide) (by decide) he
theorem xe_any {bs : List Bool} (hc : X.calm = true) (hm : X.mg "any" = none) (h : XE X e Γ M (vLst (bs.map fun b => vBl b))) (hg : Gl X "any" := by rfl) (he : starEach [e] X.env = (false, eval e X.env) :: starEach [] X.env := by rfl) : XE X (.Call (.Name "any" pp) [e] [] pos) Γ M (vBl (bs.any id)) :=
  xe_cb1 (cr_any hc) hm (by decide +kernel) h (fun G H σ Γ v st rv Q k => by
    obtain ⟨a, xs, rfl, h1, h2⟩ := rv
    obtain rfl := h2.vals
    exact ⟨a, bs, rfl, SqL.of (st.i _ _ h1), k _ G H (.refl st.i) rfl⟩) hg (by decide) (by decide) he
/-! ### list(..), tuple(..), dict(..) -/
theorem xn_listT (hm : X.mg "list" = none) (h : XE X e Γ M (vTup ps)) (hg : Gl X "list" := by rfl) (he : starEach [e] X.env = (false, eval e X.env) :: starEach [] X.env := by rfl) : XN X (.Call (.Name "list" pp) [e] [] pos) Γ M (mLst ps) :=
  xn_ct1 call_list_of hm (by decide +kernel) h (fun G H σ Γ v st rv Q k => by
    obtain ⟨a, xs, rfl, h1, h2⟩ := rv
    exact ⟨a, xs, rfl, .inr (SqT.of (st.i _ _ h1)), fun l hl => k l _ hl ⟨xs, rfl, h2⟩⟩) hg (by decide) (by decide) he
theorem xn_listL (hm : X.mg "list" = none) (h : XE X e Γ M p) (vw : VwL M p ps) (hg : Gl X "list" := by rfl) (he : starEach [e] X.env = (false, eval e X.env) :: starEach [] X.env := by rfl) : XN X (.Call (.Name "list" pp) [e] [] pos) Γ M (mLst ps) :=
  xn_ct1 call_list_of hm (by decide +kernel) h (fun G H σ Γ v st rv Q k => by
    obtain ⟨a, xs, rfl, h1, h2⟩ := vw _ _ _ _ st v rv
    exact ⟨a, xs, rfl, .inl (SqL.of h1), fun l hl => k l _ hl ⟨xs, rfl, h2⟩⟩) hg (by decide) (by decide) he
theorem AlD.keysV {G : Hp} : ∀ {kv : List (Key × V)} {kp : List (Str × Pv)}, AlD G kv kp → AlA G (kv.map fun x => kV x.1) (kp.map fun x => vStr x.1)
  | _, _, .nil => .nil
  | _, _, .cons h t => .cons rfl t.keysV
theorem xn_listD (hc : X.calm = true) (hm : X.mg "list" = none) (h : XE X e Γ M p) (vw : VwD M p kp) (hg : Gl X "list" := by rfl) (he : starEach [e] X.env = (false, eval e X.env) :: starEach [] X.env := by rfl) : XN X (.Call (.Name "list" pp) [e] [] pos) Γ M (mLst (kp.map fun x => vStr x.1)) :=
  xn_ct1 (call_listD hc) hm (by decide +kernel) h (fun G H σ Γ v st rv Q k => by
    obtain ⟨a, xs, rfl, h1, h2⟩ := vw _ _ _ _ st v rv
    exact ⟨a, xs, rfl, h1, fun l hl => k l _ hl ⟨_, rfl, h2.keysV⟩⟩) hg (by decide) (by decide) he
theorem xn_dictD (hm : X.mg "dict" = none) (h : XE X e Γ M p) (vw : VwD M p kp) (hg : Gl X "dict" := by rfl) (he : starEach [e] X.env = (false, eval e X.env) :: starEach [] X.env := by rfl) : XN X (.Call (.Name "dict" pp) [e] [] pos) Γ M (mDic kp) :=
  xn_ct1 call_dictD hm (by decide +kernel) h (fun G H σ Γ v st rv Q k => by
    obtain ⟨a, xs, rfl, h1, h2⟩ := vw _ _ _ _ st v rv
    exact ⟨a, xs, rfl, h1, fun l hl => k l _ hl ⟨_, rfl, h2⟩⟩) hg (by decide) (by decide) he
theorem xe_tupL (hm : X.mg "tuple" = none) (h : XE X e Γ M p) (vw : VwL M p ps) (hg : Gl X "tuple" := by rfl) (he : starEach [e] X.env = (false, eval e X.env) :: starEach [] X.env := by rfl) : XE X (.Call (.Name "tuple" pp) [e] [] pos) Γ M (vTup ps) :=
  xe_ct1 call_tuple_of hm (by decide +kernel) h (fun G H σ Γ v st rv Q k => by
    obtain ⟨a, xs, rfl, h1, h2⟩ := vw _ _ _ _ st v rv
    exact ⟨a, xs, rfl, .inl ⟨SqL.of h1, fun l hl => k _ (upd G l (.tup xs)) _ (Stp.new st.i hl) ⟨l, xs, rfl, upd_same, h2.mono (le_same (same_new (st.i.free hl)))⟩⟩⟩) hg (by decide) (by decide) he
/-! ### sorted -/
def leS (a b : Str) : Bool := !ltCps b.cps.toList a.cps.toList
/-- the sorted list of texts, told by what sorted gives -/
def IsSort (ys xs : List Str) : Prop := ys.Perm xs ∧ sortedS ys = true
end
end K53
end KD_
section MA_
set_option maxRecDepth 100000
set_option maxHeartbeats 4000000
/-! MA: texts in order; names. -/
namespace K53
open PySem PySem.Spec PyProof.Rows L2
theorem ltCps_irrefl : ∀ a : List Nat, ltCps a a = false
  | [] => rfl
  | x :: r => by simp [ltCps, ltCps_irrefl r]
theorem ltCps_trans : ∀ {a b c : List Nat}, ltCps a b = true → ltCps b c = true → ltCps a c = true
  | [], [], _, h, _ => by simp [ltCps] at h
  | [], _ :: _, [], _, h => by simp [ltCps] at h
  | [], _ :: _, _ :: _, _, _ => rfl
  | _ :: _, [], _, h, _ => by simp [ltCps] at h
  | _ :: _, _ :: _, [], _, h => by simp [ltCps] at h
  | x :: a, y :: b, z :: c, h1, h2 => by
    simp only [ltCps, Bool.or_eq_true, decide_eq_true_eq, Bool.and_eq_true, beq_iff_eq] at h1 h2 ⊢
    rcases h1 with h1 | ⟨rfl, h1⟩
    · rcases h2 with h2 | ⟨rfl, h2⟩
      · exact .inl (by omega)
      · exact .inl h1
    · rcases h2 with h2 | ⟨rfl, h2⟩
      · exact .inl h2
      · exact .inr ⟨rfl, ltCps_trans h1 h2⟩
theorem ltCps_tri : ∀ (a b : List Nat), ltCps a b = true ∨ a = b ∨ ltCps b a = true
  | [], [] => .inr (.inl rfl)
  | [], _ :: _ => .inl rfl
  | _ :: _, [] => .inr (.inr rfl)
  | x :: a, y :: b => by
    simp only [ltCps, Bool.or_eq_true, decide_eq_true_eq, Bool.and_eq_true, beq_iff_eq]
    rcases Nat.lt_trichotomy x y with h | rfl | h
    · exact .inl (.inl h)
    · rcases ltCps_tri a b with h | rfl | h
      · exact .inl (.inr ⟨rfl, h⟩)
      · exact .inr (.inl rfl)
      · exact .inr (.inr (.inr ⟨rfl, h⟩))
    · exact .inr (.inr (.inl h))
theorem str_ext {a b : Str} (h : a.cps.toList = b.cps.toList) : a = b := by
  cases a; cases b
  simp only at h
  rw [Array.toList_inj] at h
  rw [h]
theorem leS_total (a b : Str) : (leS a b || leS b a) = true := by
  unfold leS
  cases h : ltCps b.cps.toList a.cps.toList with
  | false => rfl
  | true =>
    cases h2 : ltCps a.cps.toList b.cps.toList with
    | false => rfl
    | true =>
      have := ltCps_trans h h2
      rw [ltCps_irrefl] at this; cases this
theorem leS_trans (a b c : Str) (h1 : leS a b = true) (h2 : leS b c = true) : leS a c = true := by
  unfold leS at *
  simp only [Bool.not_eq_true'] at *
  cases h : ltCps c.cps.toList a.cps.toList with
  | false => rfl
  | true =>
    rcases ltCps_tri a.cps.toList b.cps.toList with q | q | q
    · rw [ltCps_trans h q] at h2; cases h2
    · rw [q] at h; rw [h] at h2; cases h2
    · rw [q] at h1; cases h1
theorem leS_antisymm {a b : Str} (h1 : leS a b = true) (h2 : leS b a = true) : a = b := by
  unfold leS at *
  simp only [Bool.not_eq_true'] at *
  rcases ltCps_tri a.cps.toList b.cps.toList with q | q | q
  · rw [q] at h2; cases h2
  · exact str_ext q
  · rw [q] at h1; cases h1
def sortS (xs : List Str) : List Str := xs.mergeSort leS
theorem sortS_perm (xs : List Str) : (sortS xs).Perm xs := List.mergeSort_perm _ _
theorem sortS_pairwise (xs : List Str) : (sortS xs).Pairwise (fun a b => leS a b = true) := List.pairwise_mergeSort leS_trans leS_total xs
theorem risingS_pw : ∀ (p : Str) (l : List Str), risingS p l = true → (p :: l).Pairwise (fun a b => leS a b = true)
  | p, [], _ => List.pairwise_singleton _ _
  | p, x :: r, h => by
    unfold risingS at h
    rw [Bool.and_eq_true] at h
    have ih := risingS_pw x r h.2
    rw [List.pairwise_cons]
    refine ⟨fun y hy => ?_, ih⟩
    rcases List.mem_cons.mp hy with rfl | hy
    · exact h.1
    · exact leS_trans _ _ _ h.1 ((List.pairwise_cons.mp ih).1 y hy)
theorem sortedS_pw {l : List Str} (h : sortedS l = true) : l.Pairwise (fun a b => leS a b = true) := by
  cases l with
  | nil => exact List.Pairwise.nil
  | cons x r => exact risingS_pw x r h
theorem sort_unique {ys xs : List Str} (p : ys.Perm xs) (h : ys.Pairwise (fun a b => leS a b = true)) : ys = sortS xs :=
  (p.trans (sortS_perm xs).symm).eq_of_pairwise (fun a b _ _ h1 h2 => leS_antisymm h1 h2) h (sortS_pairwise xs)
theorem sorted_is {ys xs : List Str} (p : ys.Perm xs) (h : sortedS ys = true) : ys = sortS xs := sort_unique p (sortedS_pw h)
theorem sortS_congr {xs ys : List Str} (p : xs.Perm ys) : sortS xs = sortS ys := sort_unique ((sortS_perm xs).trans p) (sortS_pairwise xs)
theorem sortS_id {xs : List Str} (h : xs.Pairwise (fun a b => leS a b = true)) : sortS xs = xs := (sort_unique (.refl _) h).symm
theorem sortS_sortS (xs : List Str) : sortS (sortS xs) = sortS xs := sortS_id (sortS_pairwise xs)
theorem sortS_length (xs : List Str) : (sortS xs).length = xs.length := (sortS_perm xs).length_eq
theorem mem_sortS {xs : List Str} {a : Str} : a ∈ sortS xs ↔ a ∈ xs := (sortS_perm xs).mem_iff
theorem sortS_nodup {xs : List Str} (h : xs.Nodup) : (sortS xs).Nodup := (sortS_perm xs).nodup_iff.mpr h
section
variable {X : Cx} {e a b c o k : Expr} {es : List Expr} {Γ : En} {M : Mu} {p q z : Pv} {ps : List Pv} {x y : V} {pos pp apos cpos : Pos} {kp : List (Str × Pv)}
theorem alA_strs {G : Hp} {xs : List V} {ss : List Str} (h : AlA G xs (ss.map fun s => vStr s)) : xs = ss.map V.str := h.vals
theorem xn_sortL {ss : List Str} (hm : X.mg "sorted" = none) (h : XE X e Γ M p) (vw : VwL M p (ss.map fun s => vStr s)) (h64 : ss.length < 64) (hg : Gl X "sorted" := by rfl) (he : starEach [e] X.env = (false, eval e X.env) :: starEach [] X.env := by rfl) : XN X (.Call (.Name "sorted" pp) [e] [] pos) Γ M (mLst ((sortS ss).map fun s => vStr s)) :=
  xn_cb1 cr_sortedS hm (by decide +kernel) h (fun G H σ Γ v st rv Q k => by
    obtain ⟨a, xs, rfl, h1, h2⟩ := vw _ _ _ _ st v rv
    obtain rfl := alA_strs h2
    exact ⟨a, ss, rfl, SqL.of h1, h64, fun ys l hp hs hl => k l _ hl ⟨_, rfl, by rw [sorted_is hp hs]; exact alA_vals⟩⟩) hg (by decide) (by decide) he
theorem xn_sortD (hc : X.calm = true) (hm : X.mg "sorted" = none) (h : XE X e Γ M p) (vw : VwD M p kp) (h64 : kp.length < 64) (hg : Gl X "sorted" := by rfl) (he : starEach [e] X.env = (false, eval e X.env) :: starEach [] X.env := by rfl) : XN X (.Call (.Name "sorted" pp) [e] [] pos) Γ M (mLst ((sortS (kp.map (·.1))).map fun s => vStr s)) :=
  xn_cb1 (call_sortedD hc) hm (by decide +kernel) h (fun G H σ Γ v st rv Q k => by
    obtain ⟨a, xs, rfl, h1, h2⟩ := vw _ _ _ _ st v rv
    exact ⟨a, xs, kp.map (·.1), rfl, h1, by rw [h2.keys, List.map_map]; rfl, by rw [List.length_map]; exact h64, fun ys l hp hs hl => k l _ hl ⟨_, rfl, by rw [sorted_is hp hs]; exact alA_vals⟩⟩) hg (by decide) (by decide) he
theorem XN.lst (h : XN X e Γ M (mLst ps)) : XE X e Γ M (vLst ps) := h.xe fun G v u r e => mLst_lst r e
theorem XN.dic (h : XN X e Γ M (mDic kp)) : XE X e Γ M (vDic kp) := h.xe fun G v u r e => mDic_dic r e
end
/-- a name: one to eight letters -/
def NameOk (s : Str) : Prop := 1 ≤ s.length ∧ s.length ≤ 8 ∧ ∀ c ∈ s.cps.toList, 97 ≤ c ∧ c ≤ 122
def LET : Str := "abcdefghijklmnopqrstuvwxyz"
theorem let_mem {c : Nat} (h : 97 ≤ c ∧ c ≤ 122) : c ∈ LET.cps.toList := by
  have e : LET.cps.toList = [97, 98, 99, 100, 101, 102, 103, 104, 105, 106, 107, 108, 109, 110, 111, 112, 113, 114, 115, 116, 117, 118, 119, 120, 121, 122] := by decide +kernel
  rw [e]
  simp only [List.mem_cons, List.not_mem_nil, or_false]
  omega
theorem len_small {n : Nat} (h : n ≤ 1000) : n ≤ sizeLine := by rw [sizeLine_eq]; omega
section
variable {P : Program} {w : World} {K : PySem.W.Frag} {mg : Str → Option Value} {base : Heap}
theorem fd_is_integer (T : Txt K mg) : Fd P w K mg base "is_integer" 1 ["value"] [] (spP (δ := Pv × Bool) (fun d => [d.1]) (fun d => IsiP K d.1 (.type "int") d.2 ∧ (d.2 = true → IsiP K d.1 (.type "bool") false)) (fun d => vBl d.2)) := by
  obtain ⟨g, fd, F⟩ := T.fn i_is_integer d_is_integer rfl
  refine ⟨_, fd, [], g rfl, F.kp, .nil, F.bindsN fun _ _ _ _ _ _ us hl => match us, hl with | [_], _ => rfl, ?_⟩
  have S : FnScope ["value"] ["value"] (defScope s_is_integer) := ⟨rfl, rfl, rfl, by decide +kernel, rfl, by decide +kernel, by decide +kernel⟩
  refine fd_of (N := ["value"]) F S (fun _ => rfl) (by decide) ?_
  intro cdv A outer s H E hr ⟨p, b⟩ G ⟨h1, h2⟩
  refine xss_one (xs_ret (XE.is (q := vBl b) (xe_and (xe_isi (T.free "isinstance" rfl) (xv 0) (xe_bt (T.free "int" rfl) (by decide +kernel) (x := .ty "int") rfl) (.ty _) h1)
    (fun z => xe_one (xe_not (xe_isi (T.free "isinstance" rfl) (xv 0) (xe_bt (T.free "bool" rfl) (by decide +kernel) (x := .ty "bool") rfl) (.ty _) (h2 z))))) ?_) fun _ _ _ t r => ⟨t, r⟩)
  cases b <;> rfl
/-- an int, or what is no int -/
def CntP (K : PySem.W.Frag) (p : Pv) (b : Bool) : Prop := (∃ i : Int, p = vInt i ∧ b = decide (0 ≤ i)) ∨ (IsiP K p (.type "int") false ∧ b = false)
theorem fd_is_count (T : Txt K mg) : Fd P w K mg base "is_count" 2 ["value"] [] (spP (δ := Pv × Bool) (fun d => [d.1]) (fun d => CntP K d.1 d.2) (fun d => vBl d.2)) := by
  obtain ⟨g, fd, F⟩ := T.fn i_is_count d_is_count rfl
  refine ⟨_, fd, [], g rfl, F.kp, .nil, F.bindsN fun _ _ _ _ _ _ us hl => match us, hl with | [_], _ => rfl, ?_⟩
  have S : FnScope ["value"] ["value"] (defScope s_is_count) := ⟨rfl, rfl, rfl, by decide +kernel, rfl, by decide +kernel, by decide +kernel⟩
  refine fd_of (N := ["value"]) F S (fun _ => rfl) (by decide) ?_
  intro cdv A outer s H E hr ⟨p, b⟩ G ok
  rcases ok with ⟨i, rfl, rfl⟩ | ⟨h, rfl⟩
  · refine xss_one (xs_ret (XE.is (xe_and (xe_call (fd_is_integer T) (vInt i, true) hr (xa_cons (xv 0) xa_nil) ⟨isi_int rfl, fun _ => isi_int rfl⟩) (fun z => xe_one (xe_ge (xv 0) xe_int))) ?_) fun _ _ _ t r => ⟨t, r⟩)
    rw [Bool.true_and]
  · refine xss_one (xs_ret (XE.is (xe_and (w := false) (xe_call (fd_is_integer T) (p, false) hr (xa_cons (xv 0) xa_nil) ⟨h, fun z => nomatch z⟩) (fun z => nomatch z)) ?_) fun _ _ _ t r => ⟨t, r⟩)
    rfl
theorem fd_is_name (T : Txt K mg) : Fd P w K mg base "is_name" 1 ["value"] [] (spP (δ := Str) (fun s => [vStr s]) (NameOk) (fun _ => vBl true)) := by
  obtain ⟨g, fd, F⟩ := T.fn i_is_name d_is_name rfl
  refine ⟨_, fd, [], g rfl, F.kp, .nil, F.bindsN fun _ _ _ _ _ _ us hl => match us, hl with | [_], _ => rfl, ?_⟩
  have S : FnScope ["value", "letter"] ["value"] (defScope s_is_name) := ⟨rfl, rfl, rfl, by decide +kernel, rfl, by decide +kernel, by decide +kernel⟩
  refine fd_of (N := ["value", "letter"]) F S (fun _ => rfl) (by decide) ?_
  intro cdv A outer s H E hr z G ok
  obtain ⟨tL, mL⟩ := T.letters
  obtain ⟨tM, mM⟩ := T.most
  have hsz : z.length ≤ sizeLine := len_small (by have := ok.2.1; omega)
  refine xss_iff (XT.is (xw_or (xt_not (xt_val (xe_isi (T.free "isinstance" rfl) (xv 0) (xe_bt (T.free "str" rfl) (by decide +kernel) (x := .ty "str") rfl) (.ty _) (isi_str (b := true) rfl))))
    (fun _ => xw_or1 (xt_not (xt_chain (u := decide ((1 : Int) ≤ z.length)) (u' := decide ((z.length : Int) ≤ 8)) op_le op_le xe_int (xe_lenS (T.free "len" rfl) (xv 0) hsz) (xe_gl (x := .int 8) mM ⟨_, rfl⟩) (fun H Q q => ⟨_, _, rfl, rfl, q⟩) (fun H Q q => ⟨_, _, rfl, rfl, q⟩))))).pt ?_) ?_
  · rw [decide_eq_true (by have := ok.1; omega : (1 : Int) ≤ z.length), decide_eq_true (by have := ok.2.1; omega : (z.length : Int) ≤ 8)]
    rfl
  · refine xss_one (xs_ret (XE.is (xe_all (bs := z.cps.toList.map fun _ => true) rfl (T.free "all" rfl) (XE.is (xe_lc0 (own := [("letter", 1)]) (g := fun _ => vBl true) (fun c => [some (vStr z), some (vStr ⟨#[c]⟩)]) rfl S.nd (xi_str (xv 0)) (blkOk_by (N := ["value", "letter"]) (sc := defScope s_is_name) (by decide +kernel)) (fun _ _ _ _ _ _ _ => xg_name 1 S.nd) (fun _ _ _ _ _ c hc => ?_) ?_) ?_)) ?_) fun _ _ _ t r => ⟨t, r⟩)
    · refine xe_cmp (x := .str ⟨#[c]⟩) (y := .str LET) op_in_sign (xv 1) (xe_gl (x := .str LET) mL ⟨_, rfl⟩) (fun H Q q => ⟨c, LET, rfl, rfl, ?_⟩) rfl
      rw [decide_eq_true (let_mem (ok.2.2 c hc))]
      exact q
    · have : z.cps.toList.length = z.length := by simp [Str.length]
      rw [this, sizeLine_eq]
      have := ok.2.1
      omega
    · rw [List.map_map]; rfl
    · rw [show (z.cps.toList.map fun _ => true).all id = true from List.all_eq_true.mpr fun b hb => by obtain ⟨_, _, rfl⟩ := List.mem_map.mp hb; rfl]
end
end K53
end MA_
section MB_
set_option maxRecDepth 100000
set_option maxHeartbeats 4000000
/-! MB: ends, counts, Manys; the checks of models. -/
namespace K53
open PySem PySem.Spec PyProof.Rows L2
def endS (b : Bool) : Str := if b then "near" else "far"
def optV : Option Nat → V
  | none => .non
  | some n => .int (n : Int)
abbrev vOpt (q : Option Nat) : Pv := vVal (optV q)
abbrev Mn := Nat × Option Nat
/-- a Many -/
def vMany (K : PySem.W.Frag) (m : Mn) : Pv := vSlt (He.ga K "Many") [vInt (m.1 : Int), vOpt m.2, vTup [vInt (m.1 : Int), vInt (if m.2 = none then 1 else 0), vInt ((m.2.getD 0 : Nat) : Int)]]
def MnOk (m : Mn) : Prop := m.1 ≤ 6 ∧ ∀ q, m.2 = some q → m.1 ≤ q ∧ q ≤ 6
section
variable {X : Cx} {e a b c o k : Expr} {es : List Expr} {Γ : En} {M : Mu} {p q z : Pv} {ps : List Pv} {x y : V} {pos pp apos cpos : Pos} {e0 : Eb} {P : Pst} {kp : List (Str × Pv)}
theorem xt_nott (h : XT X a Γ M true) : XT X (.UnaryOp .Not a pos) Γ M false := xt_not h
theorem xt_notf (h : XT X a Γ M false) : XT X (.UnaryOp .Not a pos) Γ M true := xt_not h
/-- the end of a body -/
theorem xss_fall : XSs X e0 [] Γ [] (fP e0 vNon) := xss_nil fun _ _ _ s => ⟨s.t, rfl⟩
theorem xe_in {xs : List V} (ha : XE X a Γ M (vVal x)) (hb : XE X b Γ M (vTup (xs.map vVal))) (fx : flatV x = true) (fs : xs.all flatV = true) (hm : behindInMarks .In b = false := by with_unfolding_all rfl) : XE X (.Compare a [.In] [b] pos) Γ M (vBl (inV x xs)) :=
  xe_cmpG op_in_seq ha hb (fun G H v w i rv rw Q k => by
    obtain ⟨t, ys, rfl, h1, h2⟩ := rw
    cases rv
    obtain rfl : ys = xs := by
      have := AlA.vals (g := fun v => v) h2
      simpa using this
    exact ⟨t, ys, rfl, .inr (SqT.of (i _ _ h1)), fx, fs, k _ G H (.refl i) rfl⟩) hm
/-- a constant of a class, by its name -/
theorem xe_cval {C : Addr} {mc u : Value} {f : Str} (ho : XE X o Γ M (vVal (.ref C))) (r : ClX.CRead X.K C mc) (cv : ClX.CVal X.K C mc f x u) (hb : attributeBase o f X.env (eval o X.env) = eval o X.env := by rfl) : XE X (.Attribute o f pos) Γ M (vVal x) := fun G H σ s Q k =>
  ⟨_, ClX.pe_cval pe_w hb, ho G H σ s _ fun v G' H' t rv => by
    cases rv
    exact ⟨C, mc, x, u, rfl, r, cv, k x G' H' t rfl⟩⟩
end
section
variable {P : Program} {w : World} {K : PySem.W.Frag} {mg : Str → Option Value} {base : Heap}
theorem fd_is_end (T : Txt K mg) : Fd P w K mg base "is_end" 1 ["value"] [] (spP (δ := Bool) (fun b => [vStr (endS b)]) (fun _ => True) (fun _ => vBl true)) := by
  obtain ⟨g, fd, F⟩ := T.fn i_is_end d_is_end rfl
  refine ⟨_, fd, [], g rfl, F.kp, .nil, F.bindsN fun _ _ _ _ _ _ us hl => match us, hl with | [_], _ => rfl, ?_⟩
  have S : FnScope ["value"] ["value"] (defScope s_is_end) := ⟨rfl, rfl, rfl, by decide +kernel, rfl, by decide +kernel, by decide +kernel⟩
  refine fd_of (N := ["value"]) F S (fun _ => rfl) (by decide) ?_
  intro cdv A outer s H E hr b G ok
  obtain ⟨tN, mN⟩ := T.near
  obtain ⟨tF, mF⟩ := T.far
  refine xss_one (xs_ret (XE.is (xe_and (xe_isi (T.free "isinstance" rfl) (xv 0) (xe_bt (T.free "str" rfl) (by decide +kernel) (x := .ty "str") rfl) (.ty _) (isi_str (b := true) rfl))
    (fun _ => xe_one (xe_in (x := .str (endS b)) (xs := [.str "near", .str "far"]) (xv 0) (xe_tup (xa_cons (xe_gl (x := .str "near") mN ⟨_, rfl⟩) (xa_cons (xe_gl (x := .str "far") mF ⟨_, rfl⟩) xa_nil))) rfl rfl))) ?_) fun _ _ _ t r => ⟨t, r⟩)
  cases b <;> exact congrArg (fun z => vBl z) (by decide +kernel)
theorem fd_other_end (T : Txt K mg) : Fd P w K mg base "other_end" 2 ["end"] [] (spP (δ := Bool) (fun b => [vStr (endS b)]) (fun _ => True) (fun b => vStr (endS (!b)))) := by
  obtain ⟨g, fd, F⟩ := T.fn i_other_end d_other_end rfl
  refine ⟨_, fd, [], g rfl, F.kp, .nil, F.bindsN fun _ _ _ _ _ _ us hl => match us, hl with | [_], _ => rfl, ?_⟩
  have S : FnScope ["end"] ["end"] (defScope s_other_end) := ⟨rfl, rfl, rfl, by decide +kernel, rfl, by decide +kernel, by decide +kernel⟩
  refine fd_of (N := ["end"]) F S (fun _ => rfl) (by decide) ?_
  intro cdv A outer s H E hr b G ok
  obtain ⟨tN, mN⟩ := T.near
  obtain ⟨tF, mF⟩ := T.far
  refine xss_iff (xt_not (xt_val (xe_call (fd_is_end T) b hr (xa_cons (xv 0) xa_nil) trivial))) (xss_one (xs_ret (xe_if (u := b) (XT.is (xt_eq (x := .str (endS b)) (y := .str "near") (xv 0) (xe_gl (x := .str "near") mN ⟨_, rfl⟩)) ?_) (fun h => XE.is (xe_gl (x := .str "far") mF ⟨_, rfl⟩) ?_) (fun h => XE.is (xe_gl (x := .str "near") mN ⟨_, rfl⟩) ?_)) fun _ _ _ t r => ⟨t, r⟩))
  · cases b <;> decide +kernel
  · subst h; rfl
  · subst h; rfl
theorem fd_want_count (T : Txt K mg) : Fd P w K mg base "want_count" 3 ["value"] [] (spP (δ := Nat) (fun n => [vInt (n : Int)]) (fun _ => True) (fun _ => vNon)) := by
  obtain ⟨g, fd, F⟩ := T.fn i_want_count d_want_count rfl
  refine ⟨_, fd, [], g rfl, F.kp, .nil, F.bindsN fun _ _ _ _ _ _ us hl => match us, hl with | [_], _ => rfl, ?_⟩
  have S : FnScope ["value"] ["value"] (defScope s_want_count) := ⟨rfl, rfl, rfl, by decide +kernel, rfl, by decide +kernel, by decide +kernel⟩
  refine fd_of (N := ["value"]) F S (fun _ => rfl) (by decide) ?_
  intro cdv A outer s H E hr n G ok
  exact xss_iff (XT.is (xt_not (xt_val (xe_call (fd_is_count T) (vInt n, true) hr (xa_cons (xv 0) xa_nil) (.inl ⟨n, rfl, by simp⟩)))) rfl) xss_fall
theorem fd_want_end (T : Txt K mg) : Fd P w K mg base "want_end" 2 ["value"] [] (spP (δ := Bool) (fun b => [vStr (endS b)]) (fun _ => True) (fun _ => vNon)) := by
  obtain ⟨g, fd, F⟩ := T.fn i_want_end d_want_end rfl
  refine ⟨_, fd, [], g rfl, F.kp, .nil, F.bindsN fun _ _ _ _ _ _ us hl => match us, hl with | [_], _ => rfl, ?_⟩
  have S : FnScope ["value"] ["value"] (defScope s_want_end) := ⟨rfl, rfl, rfl, by decide +kernel, rfl, by decide +kernel, by decide +kernel⟩
  refine fd_of (N := ["value"]) F S (fun _ => rfl) (by decide) ?_
  intro cdv A outer s H E hr b G ok
  exact xss_iff (xt_not (xt_val (xe_call (fd_is_end T) b hr (xa_cons (xv 0) xa_nil) trivial))) xss_fall
/-! ### the properties of a Many -/
theorem pd_least (T : Txt K mg) : Pd P w K mg base (He.ga K "Many") "least" 1 (spP (δ := Mn) (fun m => [vMany K m]) (fun _ => True) (fun m => vInt (m.1 : Int))) := by
  obtain ⟨fd, F⟩ := T.least.fn
  refine ⟨_, _, fd, T.least.at_, T.least.get, T.least.tk, T.least.rc, F.bindsN fun _ _ _ _ _ _ us hl => match us, hl with | [_], _ => rfl, ?_⟩
  have S : FnScope ["self"] ["self"] (defScope s_Many_least) := ⟨rfl, rfl, rfl, by decide +kernel, rfl, by decide +kernel, by decide +kernel⟩
  refine fd_of (N := ["self"]) F S (fun _ => rfl) (by decide) ?_
  intro cdv A outer s H E hr m G ok
  exact xss_one (xs_ret (xe_slot (i := 0) (xv 0) rfl T.many.cl (T.many.sl ("own_least", 0) (by simp))) fun _ _ _ t r => ⟨t, r⟩)
theorem pd_most (T : Txt K mg) : Pd P w K mg base (He.ga K "Many") "most" 1 (spP (δ := Mn) (fun m => [vMany K m]) (fun _ => True) (fun m => vOpt m.2)) := by
  obtain ⟨fd, F⟩ := T.mostP.fn
  refine ⟨_, _, fd, T.mostP.at_, T.mostP.get, T.mostP.tk, T.mostP.rc, F.bindsN fun _ _ _ _ _ _ us hl => match us, hl with | [_], _ => rfl, ?_⟩
  have S : FnScope ["self"] ["self"] (defScope s_Many_most) := ⟨rfl, rfl, rfl, by decide +kernel, rfl, by decide +kernel, by decide +kernel⟩
  refine fd_of (N := ["self"]) F S (fun _ => rfl) (by decide) ?_
  intro cdv A outer s H E hr m G ok
  exact xss_one (xs_ret (xe_slot (i := 1) (xv 0) rfl T.many.cl (T.many.sl ("own_most", 1) (by simp))) fun _ _ _ t r => ⟨t, r⟩)
section
variable {X : Cx} {e a b c o k : Expr} {es : List Expr} {Γ : En} {M : Mu} {pos : Pos} {j : Nat} {mm : Mn}
theorem x_least (T : Txt X.K X.mg) (hr : Room j X.A) (ho : XE X o Γ M (vMany X.K mm)) (hj : 2 ≤ j := by decide) (hb : attributeBase o "least" X.env (eval o X.env) = eval o X.env := by rfl) : XE X (.Attribute o "least" pos) Γ M (vInt (mm.1 : Int)) :=
  xe_prop (pd_least T) mm hr T.many.cl ho rfl trivial hj hb
theorem x_most (T : Txt X.K X.mg) (hr : Room j X.A) (ho : XE X o Γ M (vMany X.K mm)) (hj : 2 ≤ j := by decide) (hb : attributeBase o "most" X.env (eval o X.env) = eval o X.env := by rfl) : XE X (.Attribute o "most" pos) Γ M (vOpt mm.2) :=
  xe_prop (pd_most T) mm hr T.many.cl ho rfl trivial hj hb
theorem isi_many (T : Txt K mg) {m : Mn} : IsiP K (vMany K m) (.ref (He.ga K "Many")) true := isi_slt T.many.cl T.many.ci (T.kit ("Many", "Many", true) (by simp))
end
theorem fd_is_end_many (T : Txt K mg) : Fd P w K mg base "is_end_many" 3 ["value"] [] (spP (δ := Mn) (fun m => [vMany K m]) (MnOk) (fun _ => vBl true)) := by
  obtain ⟨g, fd, F⟩ := T.fn i_is_end_many d_is_end_many rfl
  refine ⟨_, fd, [], g rfl, F.kp, .nil, F.bindsN fun _ _ _ _ _ _ us hl => match us, hl with | [_], _ => rfl, ?_⟩
  have S : FnScope ["value"] ["value"] (defScope s_is_end_many) := ⟨rfl, rfl, rfl, by decide +kernel, rfl, by decide +kernel, by decide +kernel⟩
  refine fd_of (N := ["value"]) F S (fun _ => rfl) (by decide) ?_
  intro cdv A outer s H E hr m G ok
  obtain ⟨u, hu⟩ := T.cTop
  refine xss_iff (xt_nott (xt_val (xe_isi (T.free "isinstance" rfl) (xv 0) (xe_gl (x := .ref (He.ga K "Many")) T.many.g rfl) (.own _) (isi_many T)))) ?_
  refine xss_one (xs_ret (XE.is (xe_and (xe_le (x_least T hr (xv 0)) (xe_cval (xe_gl (x := .ref (He.ga K "Many")) T.many.g rfl) (T.cread "Many" (by simp)) hu)) (fun _ => xe_one (xe_or (w := true) (xe_isN (x_most T hr (xv 0)) nonP_val) (fun hq => xe_one (?_))))) ?_) fun _ _ _ t r => ⟨t, r⟩)
  · cases e : m.2 with
    | none => rw [e] at hq; cases hq
    | some q =>
      refine XE.is (xe_le (i := (q : Int)) (XE.is (x_most T hr (xv 0)) (by rw [e]; rfl)) (xe_cval (xe_gl (x := .ref (He.ga K "Many")) T.many.g rfl) (T.cread "Many" (by simp)) hu)) ?_
      rw [decide_eq_true (by have := (ok.2 q e).2; omega : (q : Int) ≤ 6)]
  · rw [decide_eq_true (by have := ok.1; omega : (m.1 : Int) ≤ 6), Bool.or_true]
    rfl
end
end K53
end MB_
section KEa_
set_option maxRecDepth 100000
set_option maxHeartbeats 4000000
/-! KE: enumerate of a tuple; locked dicts; dict comprehensions; the items of a new dict. -/
namespace K53
open PySem PySem.Spec PyProof.Rows L2
open Builtin in
theorem meets_enumerate_newT (l : Addr) (items : Array Value) (ol : Obj) (hT : ∀ hp : Heap, hp.get? l = some ol → hp.IsTuple l items) :
    Meets (Builtin.«enumerate.__new__» ⟨[.type "enumerate", .ref l], []⟩) (fun _ R s => s.heap.get? l = some ol ∧
      R (.ok (.ret (.ref (s.heap.push { cls := .type "tuple_iterator", data := .fields #[.ref l, .int 0 0] }).objs.size)))
        { s with heap := (s.heap.push { cls := .type "tuple_iterator", data := .fields #[.ref l, .int 0 0] }).push { cls := .type "enumerate", data := .fields #[.none, .bool false, .ref s.heap.objs.size, rawInt 0, .none, .none] } }) :=
  .of_wp fun prog w A R s h => by
    obtain ⟨hp, g, d, tk, os⟩ := s; obtain ⟨hl, h⟩ := h
    have hsub := sub_enumerate
    have hL : Heap.IsTuple (Shared.heap ⟨hp, g, d, tk, os⟩) l items := hT _ hl
    wp_walk using AutoSeq1.wpAny_loadPart' hl
    refine wpAny_stack_any fun st => wpAny_pure ?_
    split
    · rename_i c _ _ _ _ _
      cases (c == Value.type "enumerate")
      · wp_walk using AutoSeq1.wpAny_loadPart' hl, wpAny_pyIter_tuple hL
        exact ⟨_, rfl, h⟩
      · wp_walk using AutoSeq1.wpAny_loadPart' hl, wpAny_pyIter_tuple hL
        exact ⟨_, rfl, h⟩
    · wp_walk using AutoSeq1.wpAny_loadPart' hl, wpAny_pyIter_tuple hL
      exact ⟨_, rfl, h⟩
theorem call_enumerate_tuple {prog : Program} {w : World} {A : Around} {E : Value → Shared → Prop} {s : Shared} {l : Addr} {items : Array Value} {Q : Value → Shared → Prop} (hL : s.heap.IsTuple l items)
    (h : ∀ h', IsEnum h' (s.heap.objs.size + 1) s.heap.objs.size 0 .none → h'.IsTupleIter s.heap.objs.size l 0 → h'.objs.size = s.heap.objs.size + 2 →
      (∀ b o, s.heap.get? b = some o → h'.get? b = some o) → Q (.ref (s.heap.objs.size + 1)) { s with heap := h' }) :
    wpAny (model prog w) A (call (.type "enumerate") [.ref l]) Q E s := by
  obtain ⟨ol, hl, hr⟩ := id hL
  refine callType_new F.called_enumerate (by decide) (F.typeCall_enumerate_1 _) (F.newCall_enumerate_1 _) (fun obj => F.args_object_init_2 obj _) F.entry_enumerate_new
    (meets_enumerate_newT l items ol fun hp e => ⟨ol, e, hr⟩) ⟨hl, ?_⟩
  have hz : (s.heap.push { cls := .type "tuple_iterator", data := .fields #[.ref l, .int 0 0] }).objs.size = s.heap.objs.size + 1 := Heap.size_push ..
  show _ ∧ _
  rw [hz]
  have he : IsEnum ((s.heap.push { cls := .type "tuple_iterator", data := .fields #[.ref l, .int 0 0] }).push
      { cls := .type "enumerate", data := .fields #[.none, .bool false, .ref s.heap.objs.size, rawInt 0, .none, .none] }) (s.heap.objs.size + 1) s.heap.objs.size 0 .none := by
    have := Heap.get?_push_size (s.heap.push { cls := .type "tuple_iterator", data := .fields #[.ref l, .int 0 0] })
      (o := { cls := .type "enumerate", data := .fields #[.none, .bool false, .ref s.heap.objs.size, rawInt 0, .none, .none] }) rfl
    rw [hz] at this; exact this
  refine ⟨⟨_, he, rfl⟩, h _ he ⟨_, Heap.get?_push_of_some _ (Heap.get?_push_size _ rfl), rfl, rfl⟩ (by rw [Heap.size_push, hz]) fun b o x => Heap.get?_push_of_some _ (Heap.get?_push_of_some _ x)⟩
def IteT (K : PySem.W.Frag) (a : Addr) : It :=
  ⟨fun i H => ∃ (xs : List V) (x : V), SqT K H a xs ∧ xs[i]? = some x, fun i H v H' => ∃ T x, v = .ref T ∧ H T = none ∧ H' = upd H T (.tup [.int (i : Nat), x]) ∧ ∀ xs, SqT K H a xs → xs[i]? = some x, fun i H => ∃ xs : List V, SqT K H a xs ∧ xs.length ≤ i⟩
theorem turn_enumT {P : Program} {w : World} {K : PySem.W.Frag} {elts : List Expr} {kk : Nat} {tpos : Pos} (a e it : Addr) :
    Turn P w K (.Tuple elts kk tpos) (IteT K a) [e, it] e (fun i h => (∃ old, IsEnum h e it ((i : Nat) : Int) old) ∧ h.IsTupleIter it a i ∧ e ≠ it ∧ a ≠ e ∧ a ≠ it) where
  mem := by simp
  obj := fun i h st b hb => by
    obtain ⟨⟨old, he⟩, ⟨o, ho, hc, hd⟩, _⟩ := st
    have e' : b = e ∨ b = it := by simpa using hb
    rcases e' with z | z
    · rw [z]; exact ⟨_, he, fun v q => nomatch q⟩
    · rw [z]; exact ⟨o, ho, fun v q => by rw [hd] at q; cases q⟩
  keep := fun i h h' st k => let ⟨⟨old, he⟩, hi, hne⟩ := st; ⟨⟨old, k e (by simp) _ he⟩, hi.at fun o q => k it (by simp) o q, hne⟩
  item := by
    intro X hP hw hK hc i pins s σ H E I hf st hg
    subst hP hw hK
    obtain ⟨⟨old, he⟩, hit, hne, nae, nai⟩ := st
    obtain ⟨xs, x, hq, hx⟩ := hg
    obtain ⟨its, rv, p, hz⟩ := I.tuple hq
    obtain ⟨u, hu, ru⟩ := rv.get hx
    have p' : s.heap.IsTuple a its.toArray := p
    have hel : e < s.heap.objs.size := Heap.lt_size he
    have hil : it < s.heap.objs.size := by obtain ⟨_, q, _⟩ := hit; exact Heap.lt_size q
    have hlt : i < its.toArray.size := by
      have := (List.getElem?_eq_some_iff.mp hu).1
      simpa using this
    refine wpAny_pyNext_enum_itemD (Draws.tuple (A := X.A.in1) (I.ok.hd hc) it a nai its.toArray) he ⟨hit, p'⟩ hlt hne (by simp [hne, Ne.symm nae]) fun u' h' tk hu' ho hst hT hsz hk => ?_
    obtain rfl : u' = u := by
      have : its.toArray[i]? = some u := by simpa using hu
      exact Option.some.inj (hu'.symm.trans this)
    refine ⟨_, rfl, wpAny_letOwnedTupleGo_enum (s := { s with heap := h', toks := tk + 1 }) ho fun h'' he' sb => ?_⟩
    have hT2 : h''.get? s.heap.objs.size = some { cls := .type "tuple", data := .seq #[.int i tk, u'] } := (sb.2 _ (Nat.ne_of_gt hel)).trans hT
    have new : ObjOk X.prog X.w (upd H s.heap.objs.size (.tup [.int (i : Nat), x])) h'' s.heap.objs.size (.tup [.int (i : Nat), x]) :=
      ⟨by show 2 ≤ sizeLine; decide, [.int i tk, u'], .cons ⟨_, rfl⟩ (.cons ru .nil), ⟨_, hT2, rfl, _, rfl⟩⟩
    have I1 : Inv X pins σ (upd H s.heap.objs.size (.tup [.int (i : Nat), x])) { s with heap := h'', toks := tk + 1 } :=
      I.turnedNew (ch := [e, it]) (fun b ob hb q => (sb.2 b (fun z => hb (by simp [z]))).trans (hk b ob (fun z => hb (by simp [z])) (fun z => hb (by simp [z])) q)) hf (Nat.le_refl _) new
    refine ⟨.ref s.heap.objs.size, _, I1, rfl, ⟨_, x, rfl, I.hok.fresh (Nat.le_refl _), rfl, fun ys hy => by rw [I.tuple_inj hy hq]; exact hx⟩, ⟨⟨u', ?_⟩, hst.1.at fun o q => (sb.2 it (Ne.symm hne)).trans q, hne, nae, nai⟩, fun b hb => ?_⟩
    · have e1 : ((i + 1 : Nat) : Int) = (i : Int) + 1 := by omega
      rw [e1]; exact he'
    · have hb' : b < s.heap.objs.size := by
        have e' : b = e ∨ b = it := by simpa using hb
        rcases e' with z | z
        · rw [z]; exact hel
        · rw [z]; exact hil
      rw [upd_ne (Nat.ne_of_lt hb')]
      exact (hf b hb).1
  done := by
    intro X hP hw hK hc i pins s σ H E I hf st hg
    subst hP hw hK
    obtain ⟨⟨old, he⟩, hit, hne, nae, nai⟩ := st
    obtain ⟨xs, hq, hx⟩ := hg
    obtain ⟨its, rv, p, hz⟩ := I.tuple hq
    obtain ⟨f0, f1, f2, f3, f4, f5⟩ := hf it (by simp)
    have hl := rv.length
    have p' : s.heap.IsTuple a its.toArray := p
    have hT : s.TypeIs (.ref e) "enumerate" := ⟨_, he, rfl⟩
    unfold pyNext
    refine wpAny_bind (wpAny_attempt (wpAny_callSpecial?_slot (name := Str.ofString "__next__") hT F.slot_enumerate_next
      (wpAny_call_entry F.slot_enumerate_next hT F.entry_enumerate_next ?_ (F.args_enumerate_next_1 _))))
    show wpAny _ _ (PySem.field (.ref e) 2 >>= _) _ _ _
    refine wpAny_bind (wpAny_field he rfl (x := .ref it) rfl ?_)
    refine wpAny_bind (wpAny_nextOf_tuple_end (I.ok.hd hc) hit p' (by simp; omega) fun h' x he' hx' => ?_)
    obtain ⟨o, ho, hc⟩ := hx'
    refine wpAny_bind (wpAny_isInstance (T := "StopIteration") (b := true) ⟨o, ho, hc⟩ isSubtype_stop ?_)
    exact wpAny_pure ⟨rfl, I.turned (t' := s.toks) (fun b o hb e => he' b o hb e) f0 f1 f3 f4 f5⟩
  self := fun A i s Q E st h => let ⟨⟨_, he⟩, _⟩ := st; wpAny_pyIter_enum he h
def iEnumT (K : PySem.W.Frag) (ta : TA) : TI := fun σ H R => ta σ H fun vs H1 => ∃ a xs, vs = [.ref a] ∧ SqT K H1 a xs ∧ R (IteT K a) H1
theorem pi_enumT {X : Cx} {e : Expr} {ta : TA} {p pos tpos : Pos} {elts : List Expr} {kk : Nat} (hg : Gl X "enumerate") (hm : X.mg "enumerate" = none) (ha : PA X [e] ta) (hs : starEach [e] X.env = [(false, eval e X.env)] := by rfl) :
    PI X (.Tuple elts kk tpos) (.Call (.Name "enumerate" p) [e] [] pos) (iEnumT X.K ta) := by
  refine ⟨fun pins s σ H R I h => ?_⟩
  refine Call_ (ld_blt I hg hm boot_enumerate (PyProof.Rows.callWith_type1 (thn (ha.run pos pins s σ H _ I h) fun us s1 ⟨vs, H1, I1, r1, q1⟩ => ?_) hs rfl))
  obtain ⟨a, xs, ex, hq, q⟩ := q1
  subst ex
  cases r1 with
  | cons r rr =>
    cases rr
    cases r
    obtain ⟨its, rv, p', hz⟩ := I1.tuple hq
    have pt : s1.heap.IsTuple a its.toArray := p'
    have hal : a < s1.heap.objs.size := by obtain ⟨_, q, _⟩ := pt; exact Heap.lt_size q
    refine call_enumerate_tuple pt fun h' he hit hsz hk => wpAny_pyIter_enum he ?_
    have I2 : Inv X pins σ H1 { s1 with heap := h' } := I1.kept (t' := s1.toks) hk
    refine ⟨s1.heap.objs.size + 1, [s1.heap.objs.size + 1, s1.heap.objs.size], _, _, H1, rfl, I2, turn_enumT a (s1.heap.objs.size + 1) s1.heap.objs.size, ⟨⟨.none, he⟩, hit, Nat.succ_ne_self _, Nat.ne_of_lt (Nat.lt_succ_of_lt hal), Nat.ne_of_lt hal⟩, fun b hb => ?_, q⟩
    have e' : b = s1.heap.objs.size + 1 ∨ b = s1.heap.objs.size := by simpa using hb
    have hle : s1.heap.objs.size ≤ b := by
      rcases e' with z | z
      · rw [z]; exact Nat.le_add_right _ _
      · rw [z]; exact Nat.le_refl _
    exact I1.fpOk hle (I1.hok.fresh hle)
end K53
end KEa_
section KF_
set_option maxRecDepth 100000
set_option maxHeartbeats 4000000
/-! KF: sorted of a tuple; locks; walks of dicts; enumerate; slices; in. -/
namespace K53
open PySem PySem.Spec PyProof.Rows L2
section
variable {prog : Program} {w : World} {A : Around} {E : Value → Shared → Prop} {s : Shared}
theorem collect_tup {l : Addr} {vs : List Value} {Q : List Value → Shared → Prop} (hl : s.heap.IsTuple l vs.toArray)
    (h : Q vs { s with heap := (s.heap.push (seqObj "list" #[] 0)).update s.heap.objs.size (Obj.mapSeq (· ++ vs.toArray)) }) (hsz : vs.length ≤ sizeLine) :
    wpAny (model prog w) A (collect (.ref l)) Q E s := by
  obtain ⟨o, ho, hc, n, hd⟩ := id hl
  unfold collect
  refine wpAny_bind (wpAny_runValue (codeAny_builtin entry_proto_collect' ?_))
  show wpAny _ _ (do again (.builtin "list.__iadd__" ⟨[← newList [], .ref l], []⟩)) _ _ s
  refine wpAny_bind (wpAny_newList (wpAny_pure ⟨Code.quiet_builtin _ (by decide +kernel), codeAny_builtin entry_list_iadd' ?_⟩))
  show wpAny _ _ (Builtin.List.listExtendWith (.ref s.heap.objs.size) (.ref l) (.ref s.heap.objs.size)) _ _ { s with heap := s.heap.push (seqObj "list" #[] 0) }
  unfold Builtin.List.listExtendWith
  have ho' : (s.heap.push (seqObj "list" #[] 0)).get? l = some o := Heap.get?_push_of_some _ ho
  refine wpAny_bind (wpAny_typeOf (T := "tuple") ⟨o, ho', hc⟩ ?_)
  have ht : (Value.type "tuple" == Value.type "tuple") = true := by rfl
  rw [if_pos (by rw [ht]; simp)]
  refine wpAny_bind (listItems_at ho' hd ?_)
  refine wpAny_bind (listItems_at (xs := #[]) (n := 0) (Heap.get?_push_size _ rfl) rfl ?_)
  rw [if_neg (by simp)]
  refine wpAny_bind (listUpdate_at (xs := #[]) (n := 0) (Heap.get?_push_size _ rfl) rfl ?_ (Nat.zero_le _) (by show (#[] ++ vs.toArray).size ≤ sizeLine + 1; simp only [Array.size_append, List.size_toArray, List.length_nil]; omega))
  refine wpAny_pure ?_
  show wpAny (model prog w) A (do
      let o ← load s.heap.objs.size
      match o.data with
      | .seq xs _ => pure xs.toList
      | _ => unsupported "internal:collect") Q E { s with heap := (s.heap.push (seqObj "list" #[] 0)).update s.heap.objs.size (Obj.mapSeq (· ++ vs.toArray)) }
  refine wpAny_bind (wpAny_load (get?_update_seq (Heap.get?_push_size _ rfl) _) ?_)
  show wpAny _ _ (pure ((#[] : Array Value) ++ vs.toArray).toList) Q E _
  refine wpAny_pure ?_
  simpa using h
theorem sorted_strsT {l : Addr} {vs : List Value} {ss : List Str} {Q : Value → Shared → Prop} (hl : s.heap.IsTuple l vs.toArray) (hS : StrsAre vs ss) (h64 : vs.length < 64)
    (h : ∀ (out : Array Value) (ss' : List Str), StrsAre out.toList ss' → ss'.Perm ss → sortedS ss' = true → Q (.ref (s.heap.objs.size + 1)) { s with heap := sortedAll s.heap vs out }) :
    wpAny (model prog w) A (call (.builtin "sorted") [.ref l]) Q E s := by
  refine Calls.call_function_entry kind_sorted plain_sorted entry_sorted (args_sorted1 _) ?_
  unfold Builtin.«sorted»
  refine wpAny_bind (m := checkCount "sorted" 1 1 _) (wpAny_pure ?_)
  refine wpAny_bind (collect_tup hl ?_ (by rw [sizeLine_eq]; omega))
  refine wpAny_bind (wpAny_newList ?_ (by rw [sizeLine_eq]; omega))
  have hsz : ((s.heap.push (seqObj "list" #[] 0)).update s.heap.objs.size (Obj.mapSeq (· ++ vs.toArray))).objs.size = s.heap.objs.size + 1 := by
    rw [Heap.size_update, size_push']
  have hoL : (((s.heap.push (seqObj "list" #[] 0)).update s.heap.objs.size (Obj.mapSeq (· ++ vs.toArray))).push (seqObj "list" vs.toArray 0)).get? (s.heap.objs.size + 1) = some (seqObj "list" vs.toArray 0) := by
    rw [← hsz]; exact Heap.get?_push_size _ rfl
  show wpAny _ _ _ _ _ { s with heap := ((s.heap.push (seqObj "list" #[] 0)).update s.heap.objs.size (Obj.mapSeq (· ++ vs.toArray))).push (seqObj "list" vs.toArray 0) }
  rw [hsz]
  refine wpAny_bind (wpAny_holding (wpAny_call_entry slot_list_sort ⟨_, hoL, rfl⟩ entry_list_sort (list_sort_treeK strKind_oneLt hoL hS.keysOf (fun v₁ v₂ rest e => keyKind_strs (by rw [← e]; exact hS)) h64 fun st' a1 a2 => ⟨_, rfl, ?_⟩) (args_list_sort _)))
  obtain ⟨ss', h1, h2, h3⟩ := sorted_out_str hS a1 a2
  exact wpAny_pure ⟨_, rfl, h _ ss' h1 h2 h3⟩
end
def rSortTup (K : PySem.W.Frag) : List V → Hp → VK → Prop := fun vs H Q => ∃ (a : Addr) (xs : List Str), vs = [V.ref a] ∧ SqT K H a (xs.map V.str) ∧ xs.length < 64 ∧
  ∀ (ys : List Str) (p : Addr), ys.Perm xs → sortedS ys = true → H p = none → Q (.ref p) (upd H p (.lst (ys.map V.str)))
theorem cr_sortTup {X : Cx} : CallR X (.builtin "sorted") (rSortTup X.K) := by
  intro pins s σ H vs us Q I r h
  obtain ⟨a, xs, rfl, hs, h64, q⟩ := h
  obtain ⟨its, rv, hl, _⟩ := I.tuple hs
  rw [Vals.ref1 r]
  have hlen0 := rv.length
  rw [List.length_map] at hlen0
  refine sorted_strsT (show s.heap.IsTuple a its.toArray from hl) rv.strs (by rw [← hlen0]; exact h64) fun out ys h1 h2 h3 => ?_
  obtain ⟨ep, he'⟩ := PyProof.Rows.sortedAll_at s.heap its out
  have hlen : (ys.map V.str).length ≤ sizeLine := by rw [List.length_map, h2.length_eq]; exact small64 h64
  exact ⟨.ref _, upd H (s.heap.objs.size + 1) (.lst (ys.map V.str)), I.laid (t' := s.toks) (fun _ _ => PyProof.Rows.sortedAll_old) (Nat.le_succ _) ⟨hlen, out.toList, ep, vals_of_strs h1, he'⟩, rfl, q ys _ h2 h3 (I.hok.fresh (Nat.le_succ _))⟩
/-! ### locks -/
theorem Stp.unlock {G H G' H' : Hp} {d : Addr} {od : Obj} {kv : List (Key × V)} (hg : G d = some (.dK kv)) (hh : H d = some (.dK kv)) (t : Stp (upd G d (.frz od (.dK kv))) (upd H d (.frz od (.dK kv))) G' H') : Stp G H (upd G' d (.dK kv)) (upd H' d (.dK kv)) := by
  have one : ∀ {A B : Hp}, A d = some (.dK kv) → Same (upd A d (.frz od (.dK kv))) B → Same A (upd B d (.dK kv)) := fun {A B} ha s b o e => by
    by_cases q : b = d
    · subst q; rw [ha] at e; rw [upd_same]; exact e
    · rw [upd_ne q]; exact s b o (by rw [upd_ne q]; exact e)
  refine ⟨one hg t.g, one hh t.h, fun b o e => ?_, fun b o e n => ?_⟩
  · by_cases q : b = d
    · subst q; rw [upd_same] at e ⊢; exact e
    · rw [upd_ne q] at e ⊢; exact t.i b o e
  · by_cases q : b = d
    · subst q; rw [hg] at n; cases n
    · rw [upd_ne q] at e
      have := t.n b o e (by rw [upd_ne q]; exact n)
      rwa [upd_ne q] at this
theorem St0.lock {G H : Hp} {σ : L2.St} {Γ : En} {M : Mu} {d : Addr} {od : Obj} {kv : List (Key × V)} (s : St0 G H σ Γ M) (hg : G d = some (.dK kv)) : St0 (upd G d (.frz od (.dK kv))) (upd H d (.frz od (.dK kv))) σ Γ M :=
  ⟨fun b o e => by
    by_cases q : b = d
    · subst q; rw [upd_same] at e ⊢; exact e
    · rw [upd_ne q] at e ⊢; exact s.i b o e, s.a.mono (le_lock hg), s.nd, fun q hq => by
    obtain ⟨h1, ob, h2, h3⟩ := s.m q hq
    have ne : q.1 ≠ d := fun z => by rw [z, hg] at h1; cases h1
    exact ⟨by rw [upd_ne ne]; exact h1, ob, by rw [upd_ne ne]; exact h2, Mo.mono _ (le_lock hg) h3⟩⟩
theorem lockE {X : Cx} {e : Expr} {σ : L2.St} {G H : Hp} {Γ : En} {M : Mu} {d : Addr} {kv : List (Key × V)} (s : St0 G H σ Γ M) (hd : Rd G d (.dK kv)) {R : V → Hp → Hp → Prop}
    (ru : ∀ v G' H' od, H d = some (.dK kv) → R v G' H' → G' d = some (.frz od (.dK kv)) → H' d = some (.frz od (.dK kv)) → R v (upd G' d (.dK kv)) (upd H' d (.dK kv)))
    (h : ∀ G1 H1 od, St0 G1 H1 σ Γ M → Le G G1 → (∀ b, H b = none ↔ H1 b = none) → G1 d = some (.frz od (.dK kv)) → ∀ Q1 : VK, (∀ v G' H', Stp G1 H1 G' H' → R v G' H' → Q1 v H') → wE X e σ H1 Q1) :
    ∀ Q : VK, (∀ v G' H', Stp G H G' H' → R v G' H' → Q v H') → wE X e σ H Q := fun Q k => by
  rcases hd with hd | ⟨od, hd⟩
  · have hH : H d = some (.dK kv) := s.i _ _ hd
    refine ⟨_, pe_lock pe_w, d, .dK kv, hH, trivial, fun od => h _ _ od (s.lock hd) (le_lock hd) (fun b => ?_) upd_same _ fun v G' H' t r => ?_⟩
    · by_cases q : b = d
      · subst q; rw [upd_same, hH]; simp
      · rw [upd_ne q]
    · have e : H' d = some (.frz od (.dK kv)) := t.h _ _ upd_same
      exact ⟨e, k v _ _ (Stp.unlock hd hH t) (ru v G' H' od hH r (t.g _ _ upd_same) e)⟩
  · exact h G H od s (.refl _) (fun b => Iff.rfl) hd Q k
/-- a new object, made while a dict is locked -/
theorem lockN {X : Cx} {e : Expr} {σ : L2.St} {G H : Hp} {Γ : En} {M : Mu} {d : Addr} {kv : List (Key × V)} {o : Mo} (s : St0 G H σ Γ M) (hd : Rd G d (.dK kv))
    (h : ∀ G1 H1 od, St0 G1 H1 σ Γ M → Le G G1 → G1 d = some (.frz od (.dK kv)) → ∀ Q : VK, (∀ p ob G' H', Stp G1 H1 G' H' → H1 p = none → G' p = none → H' p = some ob → o.r G' ob → Q (.ref p) H') → wE X e σ H1 Q) :
    ∀ Q : VK, (∀ p ob G' H', Stp G H G' H' → H p = none → G' p = none → H' p = some ob → o.r G' ob → Q (.ref p) H') → wE X e σ H Q := fun Q k =>
  lockE s hd (R := fun v G' H' => ∃ p ob, v = .ref p ∧ H p = none ∧ G' p = none ∧ H' p = some ob ∧ o.r G' ob) (fun v G' H' od hH ⟨p, ob, e, h1, h2, h3, h4⟩ g g' => by
    have ne : p ≠ d := fun z => by rw [z, hH] at h1; cases h1
    exact ⟨p, ob, e, h1, by rw [upd_ne ne]; exact h2, by rw [upd_ne ne]; exact h3, Mo.mono _ (le_unlock g) h4⟩) (fun G1 H1 od s1 l1 iff1 g1 Q1 k1 => h G1 H1 od s1 l1 g1 Q1 fun p ob G' H' t h1 h2 h3 h4 => k1 _ G' H' t ⟨p, ob, rfl, (iff1 p).mpr h1, h2, h3, h4⟩) Q
    fun v G' H' t ⟨p, ob, e, h1, h2, h3, h4⟩ => by subst e; exact k p ob G' H' t h1 h2 h3 h4
/-! ### walks of a locked dict -/
theorem AlD.atI {G : Hp} : ∀ {kv : List (Key × V)} {kp : List (Str × Pv)} {i : Nat} {x : Str × Pv}, AlD G kv kp → kp[i]? = some x → ∃ v, kv[i]? = some (.inr x.1, v) ∧ x.2.r G v
  | _, _, 0, x, .cons h _, e => by simp at e; subst e; exact ⟨_, rfl, h⟩
  | _, _, i + 1, x, .cons _ t, e => by
    obtain ⟨v, h1, h2⟩ := t.atI (i := i) (x := x) (by simpa using e)
    exact ⟨v, by simpa using h1, h2⟩
  | _, _, i, x, .nil, e => by simp at e
section
variable {X : Cx} {e a b c tg it kx vx elt : Expr} {elts : List Expr} {kk : Nat} {es ifs : List Expr} {Γ Γ' Γ'' : En} {M : Mu} {p q z : Pv} {ps : List Pv} {pos pp tpos apos cpos : Pos} {e0 : Eb} {P : Pst} {kp : List (Str × Pv)} {d : Addr} {G H : Hp} {σ : L2.St} {kv : List (Key × V)} {od : Obj} {scope : Scope}
theorem xi_keysAt (s : St0 G H σ Γ M) (hd : G d = some (.frz od (.dK kv))) (al : AlD G kv kp) (he : XE X it Γ M (vVal (.ref d))) : ∀ R : It → Hp → Prop, (∀ J G' H', Stp G H G' H' → Wk J G' kp (fun x => vStr x.1) → R J H') → wI X tg it σ H R := fun R k =>
  ⟨_, pi_keys pe_w, he G H σ s _ fun v G' H' t r => by
    obtain rfl : v = .ref d := r
    have hG := t.g _ _ hd
    have al' := al.mono (le_same t.g)
    refine ⟨d, od, rfl, .inl ⟨kv, t.i _ _ hG, k _ G' H' t ⟨fun i G2 H2 x sg si hx => ?_, fun i G2 H2 x y H3 sg si hx ⟨e1, k2, v2, e2, e3⟩ => ?_, fun G2 H2 sg si => ⟨si _ _ (sg _ _ hG), by rw [al.len]; exact Nat.le_refl _⟩⟩⟩⟩
    · exact ⟨si _ _ (sg _ _ hG), by rw [al.len]; exact (List.getElem?_eq_some_iff.mp hx).1⟩
    · subst e1
      obtain ⟨v, h1, _⟩ := al'.atI hx
      rw [h1] at e2
      cases e2
      exact ⟨G2, .refl si, e3⟩⟩
theorem xi_itemsAt (s : St0 G H σ Γ M) (hd : G d = some (.frz od (.dK kv))) (al : AlD G kv kp) (he : XE X e Γ M (vVal (.ref d))) (hbase : attributeBase e "items" X.env (eval e X.env) = eval e X.env := by rfl) (hline : (apos.endLine == cpos.line) = true := by rfl) :
    ∀ R : It → Hp → Prop, (∀ J G' H', Stp G H G' H' → Wk J G' kp (fun x => vTup [vStr x.1, x.2]) → R J H') → wI X (.Tuple elts kk tpos) (.Call (.Attribute e "items" apos) [] [] cpos) σ H R := fun R k =>
  ⟨_, pi_items pe_w hbase hline, he G H σ s _ fun v G' H' t r => by
    obtain rfl : v = .ref d := r
    have hG := t.g _ _ hd
    have al' := al.mono (le_same t.g)
    refine ⟨d, od, kv, rfl, t.i _ _ hG, k _ G' H' t ⟨fun i G2 H2 x sg si hx => ?_, fun i G2 H2 x y H3 sg si hx ⟨T, k2, v2, e2, e3, hT, e4⟩ => ?_, fun G2 H2 sg si => ⟨si _ _ (sg _ _ hG), by rw [al.len]; exact Nat.le_refl _⟩⟩⟩
    · exact ⟨si _ _ (sg _ _ hG), by rw [al.len]; exact (List.getElem?_eq_some_iff.mp hx).1⟩
    · subst e4 e3
      obtain ⟨v, h1, h2⟩ := al'.atI hx
      rw [h1] at e2
      cases e2
      refine ⟨upd G2 T _, Stp.new si hT, T, _, rfl, upd_same, .cons rfl (.cons (Pv.mono _ (le_same (sg.trans (same_new (si.free hT)))) h2) .nil)⟩⟩
/-- [.. for k in d if ..] -/
theorem xn_lcD {ifs : List Expr} (own : List (Str × Nat)) {bt : Str × Pv → Bool} {g : Str × Pv → Pv} (Γ' : Str × Pv → En) (hc : X.calm = true) (hN : X.N.Nodup) (hv : ∀ G H σ, St0 G H σ Γ M → ∃ kv, Rd G d (.dK kv) ∧ AlD G kv kp) (hi : XE X it Γ M (vVal (.ref d))) (ok : BlkOk X.N X.env.scope scope own)
    (hg : ∀ s H C cl fp, ∀ x ∈ kp, XG (Bk X scope s H C cl fp) tg (vStr x.1) (wipeE Γ (own.map (·.2))) (Γ' x) (own.map (·.2))) (ht : ∀ s H C cl fp, ∀ x ∈ kp, XTs (Bk X scope s H C cl fp) ifs (Γ' x) M (bt x))
    (he : ∀ s H C cl fp, ∀ x ∈ kp, bt x = true → XE (Bk X scope s H C cl fp) elt (Γ' x) M (g x)) (hz : kp.length < sizeLine) (hs : ∀ x, foldedSetIterable it X.env x = pure x := by intro _; rfl) :
    XN X (.ListComp elt [⟨tg, it, ifs, 0⟩] scope pos) Γ M (mLst ((kp.filter bt).map g)) := fun G H σ s Q k => by
  obtain ⟨kv, rd, al⟩ := hv G H σ s
  exact lockN s rd (fun G1 H1 od s1 l1 g1 => lc_core own Γ' hc hN s1 (xi_keysAt s1 g1 (al.mono l1) hi) ok hg ht he hz hs) Q k
theorem xe_lcD0 (own : List (Str × Nat)) {g : Str × Pv → Pv} (Γ' : Str × Pv → En) (hc : X.calm = true) (hN : X.N.Nodup) (hv : ∀ G H σ, St0 G H σ Γ M → ∃ kv, Rd G d (.dK kv) ∧ AlD G kv kp) (hi : XE X it Γ M (vVal (.ref d))) (ok : BlkOk X.N X.env.scope scope own)
    (hg : ∀ s H C cl fp, ∀ x ∈ kp, XG (Bk X scope s H C cl fp) tg (vStr x.1) (wipeE Γ (own.map (·.2))) (Γ' x) (own.map (·.2)))
    (he : ∀ s H C cl fp, ∀ x ∈ kp, XE (Bk X scope s H C cl fp) elt (Γ' x) M (g x)) (hz : kp.length < sizeLine) (hs : ∀ x, foldedSetIterable it X.env x = pure x := by intro _; rfl) :
    XE X (.ListComp elt [⟨tg, it, [], 0⟩] scope pos) Γ M (vLst (kp.map g)) := by
  have := (xn_lcD (bt := fun _ => true) (pos := pos) own Γ' hc hN hv hi ok hg (fun _ _ _ _ _ _ _ => xts_nil) (fun s H C cl fp d hd _ => he s H C cl fp d hd) hz hs).lst
  rwa [List.filter_eq_self.mpr (fun _ _ => rfl)] at this
/-- [.. for k, v in d.items()] -/
theorem xe_lcI0 (own : List (Str × Nat)) {g : Str × Pv → Pv} (Γ' : Str × Pv → En) (hc : X.calm = true) (hN : X.N.Nodup) (hv : ∀ G H σ, St0 G H σ Γ M → ∃ kv, Rd G d (.dK kv) ∧ AlD G kv kp) (hi : XE X e Γ M (vVal (.ref d))) (ok : BlkOk X.N X.env.scope scope own)
    (hg : ∀ s H C cl fp, ∀ x ∈ kp, XG (Bk X scope s H C cl fp) (.Tuple elts kk tpos) (vTup [vStr x.1, x.2]) (wipeE Γ (own.map (·.2))) (Γ' x) (own.map (·.2)))
    (he : ∀ s H C cl fp, ∀ x ∈ kp, XE (Bk X scope s H C cl fp) elt (Γ' x) M (g x)) (hz : kp.length < sizeLine) (hs : ∀ x, foldedSetIterable (.Call (.Attribute e "items" apos) [] [] cpos) X.env x = pure x := by intro _; rfl)
    (hbase : attributeBase e "items" X.env (eval e X.env) = eval e X.env := by rfl) (hline : (apos.endLine == cpos.line) = true := by rfl) :
    XE X (.ListComp elt [⟨.Tuple elts kk tpos, .Call (.Attribute e "items" apos) [] [] cpos, [], 0⟩] scope pos) Γ M (vLst (kp.map g)) := by
  have : XN X (.ListComp elt [⟨.Tuple elts kk tpos, .Call (.Attribute e "items" apos) [] [] cpos, [], 0⟩] scope pos) Γ M (mLst ((kp.filter fun _ => true).map g)) := fun G H σ s Q k => by
    obtain ⟨kv, rd, al⟩ := hv G H σ s
    exact lockN s rd (fun G1 H1 od s1 l1 g1 => lc_core own Γ' hc hN s1 (xi_itemsAt s1 g1 (al.mono l1) hi hbase hline) ok hg (fun _ _ _ _ _ _ _ => xts_nil) (fun s H C cl fp d hd _ => he s H C cl fp d hd) hz hs) Q k
  have := this.lst
  rwa [List.filter_eq_self.mpr (fun _ _ => rfl)] at this
end
/-! ### dict comprehensions -/
theorem putD_new {s : Str} {q : Pv} : ∀ {kp : List (Str × Pv)}, s ∉ kp.map (·.1) → putD s q kp = kp ++ [(s, q)]
  | [], _ => rfl
  | (k, p) :: r, h => by
    rw [List.map_cons, List.mem_cons, not_or] at h
    unfold putD
    rw [if_neg (Ne.symm h.1), putD_new h.2]
    rfl
section
variable {X : Cx} {e a b c tg it kx vx elt : Expr} {elts : List Expr} {kk : Nat} {es ifs : List Expr} {Γ Γ'' : En} {M : Mu} {p q z : Pv} {ps : List Pv} {pos pp tpos apos cpos : Pos} {e0 : Eb} {P : Pst} {kp : List (Str × Pv)} {d : Addr} {G H : Hp} {σ : L2.St} {kv : List (Key × V)} {od : Obj} {scope : Scope} {α : Type} {ds : List α} {f g : α → Pv} {k : α → Str}
theorem dc_core0 (own : List (Str × Nat)) (Γ' : α → En) (hc : X.calm = true) (hN : X.N.Nodup) (s : St0 G H σ Γ M) (hi : ∀ R : It → Hp → Prop, (∀ J G' H', Stp G H G' H' → Wk J G' ds f → R J H') → wI X tg it σ H R) (ok : BlkOk X.N X.env.scope scope own)
    (hg : ∀ s H C cl fp, ∀ d ∈ ds, XG (Bk X scope s H C cl fp) tg (f d) (wipeE Γ (own.map (·.2))) (Γ' d) (own.map (·.2))) (hk : ∀ s H C cl fp, ∀ d ∈ ds, XE (Bk X scope s H C cl fp) kx (Γ' d) M (vStr (k d)))
    (he : ∀ s H C cl fp, ∀ d ∈ ds, XE (Bk X scope s H C cl fp) vx (Γ' d) M (g d)) (hn : (ds.map k).Nodup) (hz : ds.length < sizeLine) (hs : ∀ x, foldedSetIterable it X.env x = pure x := by intro _; rfl) :
    ∀ Q : VK, (∀ p ob G' H', Stp G H G' H' → H p = none → G' p = none → H' p = some ob → (mDic (ds.map fun d => (k d, g d))).r G' ob → Q (.ref p) H') → wE X (.DictComp kx vx [⟨tg, it, [], 0⟩] scope pos) σ H Q := fun Q kq => by
  refine ⟨_, pe_dc (g := fun v σ H Q => ∀ s H0 C cl fp, wG (Bk X scope s H0 C cl fp) tg v σ H Q) (tt := fun σ H Q => ∀ s H0 C cl fp, wTs (Bk X scope s H0 C cl fp) [] σ H Q) (tk := fun σ H Q => ∀ s H0 C cl fp, wE (Bk X scope s H0 C cl fp) kx σ H Q) (tv := fun σ H Q => ∀ s H0 C cl fp, wE (Bk X scope s H0 C cl fp) vx σ H Q) hc hN pi_w ok
    (fun s H C cl fp => ⟨fun pins s1 σ1 H1 v u Q I r q => pg_w.run pins s1 σ1 H1 v u Q I r (q s H C cl fp)⟩) (fun s H C cl fp => ⟨fun pins s1 σ1 H1 Q I q => pts_w.run pins s1 σ1 H1 Q I (q s H C cl fp)⟩) (fun s H C cl fp => ⟨fun pins s1 σ1 H1 Q I q => pe_w.run pins s1 σ1 H1 Q I (q s H C cl fp)⟩) (fun s H C cl fp => ⟨fun pins s1 σ1 H1 Q I q => pe_w.run pins s1 σ1 H1 Q I (q s H C cl fp)⟩) hs, ?_⟩
  refine hi _ fun J G1 H1 t1 wk D hD => ?_
  have s1 := s.stp t1
  have hg1 : G1 D = none := t1.i.free hD
  refine ⟨fun i m H' => m = ds.length - i ∧ i ≤ ds.length ∧ ∃ G', Stp G1 H1 G' H' ∧ St0 G' H' (L2.wipe σ (own.map (·.2))) (wipeE Γ (own.map (·.2))) ((D, mDic ((ds.take i).map fun d => (k d, g d))) :: M),
    ⟨_, rfl, Nat.zero_le _, G1, Stp.tmp t1.i hD, (s1.wipe _).add (o := mDic ((ds.take 0).map fun d => (k d, g d))) (Stp.tmp t1.i hD) hD hg1 upd_same ⟨[], rfl, .nil⟩⟩, ?_⟩
  rintro i m H' ⟨rfl, hle, G', t', s'⟩
  rcases Nat.lt_or_ge i ds.length with hlt | hge
  · right
    have hd' : ds[i]? = some ds[i] := List.getElem?_eq_getElem hlt
    have hmem : ds[i] ∈ ds := List.getElem_mem hlt
    refine ⟨wk.go i G' H' _ t'.g s'.i hd', fun H2 => ∃ G2, Stp G1 H1 G2 H2 ∧ St0 G2 H2 (L2.wipe σ (own.map (·.2))) (wipeE Γ (own.map (·.2))) ((D, mDic ((ds.take (i + 1)).map fun d => (k d, g d))) :: M), ?_, ?_⟩
    · rintro H2 ⟨G2, t2, s2⟩
      exact ⟨ds.length - (i + 1), by omega, rfl, hlt, G2, t2, s2⟩
    · intro v H2 hy
      obtain ⟨G2, t2, rv⟩ := wk.yl i G' H' _ v H2 t'.g s'.i hd' hy
      have s2 := s'.stp t2
      intro cs cH cC ccl cfp
      refine hg cs cH cC ccl cfp _ hmem G2 H2 _ v s2.a s2.i rv _ fun σ3 a3 l3 o3 => ⟨(wipe_ext l3 o3).trans (wipe_wipe σ), ?_⟩
      have s3 : St0 G2 H2 σ3 (Γ' ds[i]) ((D, mDic ((ds.take i).map fun d => (k d, g d))) :: M) := ⟨s2.i, a3, s2.nd, s2.m⟩
      intro cs cH cC ccl cfp
      refine xts_nil (M := M) G2 H2 σ3 (s3.sub (List.sublist_cons_self _ _)) _ fun G3 H3 t3 => ?_
      rw [if_pos rfl]
      intro cs cH cC ccl cfp
      refine hk cs cH cC ccl cfp _ hmem G3 H3 σ3 ((s3.stp t3).sub (List.sublist_cons_self _ _)) _ fun y G4 H4 t4' ry => ?_
      have t4 := t3.trans t4'
      intro cs cH cC ccl cfp
      refine he cs cH cC ccl cfp _ hmem G4 H4 σ3 ((s3.stp t4).sub (List.sublist_cons_self _ _)) _ fun y2 G5 H5 t5 ry2 => ?_
      have s5 := (s2.stp t4).stp t5
      obtain ⟨hG5, ob, hH5, kvs, rfl, al⟩ := s5.m (D, _) List.mem_cons_self
      obtain rfl : y = .str (k ds[i]) := ry
      have hnm : k ds[i] ∉ ((ds.take i).map fun d => (k d, g d)).map (·.1) := by
        rw [List.map_map]
        intro hm
        have e1 : (ds.take (i + 1)).map k = (ds.take i).map k ++ [k ds[i]] := by rw [List.take_add_one, hd', Option.toList_some, List.map_append]; rfl
        have e2 : ((ds.take (i + 1)).map k).Nodup := List.Nodup.sublist ((List.take_sublist _ _).map _) hn
        rw [e1, List.nodup_append] at e2
        exact e2.2.2 _ hm _ (by simp) rfl
      refine ⟨kvs, .inr (k ds[i]), rfl, hH5, ?_, G5, (((t'.trans t2).trans t4).trans t5).wr hD hG5, ?_⟩
      · rw [al.len, List.length_map, List.length_take]
        exact Nat.lt_of_le_of_lt (Nat.min_le_right _ _) hz
      · refine s5.write ⟨_, rfl, ?_⟩
        have e3 : ((ds.take (i + 1)).map fun d => (k d, g d)) = putD (k ds[i]) (g ds[i]) ((ds.take i).map fun d => (k d, g d)) := by
          rw [putD_new hnm, List.take_add_one, hd', Option.toList_some, List.map_append]; rfl
        rw [e3]
        refine al.put ry2 ?_
        rw [List.map_map]
        exact List.Nodup.sublist ((List.take_sublist _ _).map _) hn
  · left
    have e : i = ds.length := Nat.le_antisymm hle hge
    subst e
    obtain ⟨hG, ob, hH, r⟩ := s'.m (D, _) List.mem_cons_self
    rw [List.take_length] at r
    exact ⟨wk.st G' H' t'.g s'.i, kq D ob G' H' (t1.trans t') (t1.h.free hD) hG hH r⟩
theorem xn_dc0 (own : List (Str × Nat)) (Γ' : α → En) (hc : X.calm = true) (hN : X.N.Nodup) (hi : XI X tg it Γ M ds f) (ok : BlkOk X.N X.env.scope scope own)
    (hg : ∀ s H C cl fp, ∀ d ∈ ds, XG (Bk X scope s H C cl fp) tg (f d) (wipeE Γ (own.map (·.2))) (Γ' d) (own.map (·.2))) (hk : ∀ s H C cl fp, ∀ d ∈ ds, XE (Bk X scope s H C cl fp) kx (Γ' d) M (vStr (k d)))
    (he : ∀ s H C cl fp, ∀ d ∈ ds, XE (Bk X scope s H C cl fp) vx (Γ' d) M (g d)) (hn : (ds.map k).Nodup) (hz : ds.length < sizeLine) (hs : ∀ x, foldedSetIterable it X.env x = pure x := by intro _; rfl) :
    XN X (.DictComp kx vx [⟨tg, it, [], 0⟩] scope pos) Γ M (mDic (ds.map fun d => (k d, g d))) := fun G H σ s Q kq => dc_core0 own Γ' hc hN s (hi G H σ s) ok hg hk he hn hz hs Q kq
/-- {.. for k in d} -/
theorem xn_dcD0 {g : Str × Pv → Pv} {k : Str × Pv → Str} (own : List (Str × Nat)) (Γ' : Str × Pv → En) (hc : X.calm = true) (hN : X.N.Nodup) (hv : ∀ G H σ, St0 G H σ Γ M → ∃ kv, Rd G d (.dK kv) ∧ AlD G kv kp) (hi : XE X it Γ M (vVal (.ref d))) (ok : BlkOk X.N X.env.scope scope own)
    (hg : ∀ s H C cl fp, ∀ x ∈ kp, XG (Bk X scope s H C cl fp) tg (vStr x.1) (wipeE Γ (own.map (·.2))) (Γ' x) (own.map (·.2))) (hk : ∀ s H C cl fp, ∀ d ∈ kp, XE (Bk X scope s H C cl fp) kx (Γ' d) M (vStr (k d)))
    (he : ∀ s H C cl fp, ∀ x ∈ kp, XE (Bk X scope s H C cl fp) vx (Γ' x) M (g x)) (hn : (kp.map k).Nodup) (hz : kp.length < sizeLine) (hs : ∀ x, foldedSetIterable it X.env x = pure x := by intro _; rfl) :
    XN X (.DictComp kx vx [⟨tg, it, [], 0⟩] scope pos) Γ M (mDic (kp.map fun d => (k d, g d))) := fun G H σ s Q kq => by
  obtain ⟨kv, rd, al⟩ := hv G H σ s
  exact lockN s rd (fun G1 H1 od s1 l1 g1 => dc_core0 own Γ' hc hN s1 (xi_keysAt s1 g1 (al.mono l1) hi) ok hg hk he hn hz hs) Q kq
/-- {.. for k, v in d.items()} -/
theorem xn_dcI0 {g : Str × Pv → Pv} {k : Str × Pv → Str} (own : List (Str × Nat)) (Γ' : Str × Pv → En) (hc : X.calm = true) (hN : X.N.Nodup) (hv : ∀ G H σ, St0 G H σ Γ M → ∃ kv, Rd G d (.dK kv) ∧ AlD G kv kp) (hi : XE X e Γ M (vVal (.ref d))) (ok : BlkOk X.N X.env.scope scope own)
    (hg : ∀ s H C cl fp, ∀ x ∈ kp, XG (Bk X scope s H C cl fp) (.Tuple elts kk tpos) (vTup [vStr x.1, x.2]) (wipeE Γ (own.map (·.2))) (Γ' x) (own.map (·.2))) (hk : ∀ s H C cl fp, ∀ d ∈ kp, XE (Bk X scope s H C cl fp) kx (Γ' d) M (vStr (k d)))
    (he : ∀ s H C cl fp, ∀ x ∈ kp, XE (Bk X scope s H C cl fp) vx (Γ' x) M (g x)) (hn : (kp.map k).Nodup) (hz : kp.length < sizeLine) (hs : ∀ x, foldedSetIterable (.Call (.Attribute e "items" apos) [] [] cpos) X.env x = pure x := by intro _; rfl)
    (hbase : attributeBase e "items" X.env (eval e X.env) = eval e X.env := by rfl) (hline : (apos.endLine == cpos.line) = true := by rfl) :
    XN X (.DictComp kx vx [⟨.Tuple elts kk tpos, .Call (.Attribute e "items" apos) [] [] cpos, [], 0⟩] scope pos) Γ M (mDic (kp.map fun d => (k d, g d))) := fun G H σ s Q kq => by
  obtain ⟨kv, rd, al⟩ := hv G H σ s
  exact lockN s rd (fun G1 H1 od s1 l1 g1 => dc_core0 own Γ' hc hN s1 (xi_itemsAt s1 g1 (al.mono l1) hi hbase hline) ok hg hk he hn hz hs) Q kq
end
end K53
end KF_
section KFb_
set_option maxRecDepth 100000
set_option maxHeartbeats 4000000
/-! KFb: sequences, new objects from calls, writes, while, locked loops, makes. -/
namespace K53
open PySem PySem.Spec PyProof.Rows L2
/-! ### lists or tuples -/
def vSeq (b : Bool) (ps : List Pv) : Pv := if b then vTup ps else vLst ps
theorem vSeq_at {b : Bool} {ps : List Pv} {G : Hp} {v : V} (h : (vSeq b ps).r G v) : ∃ a xs, v = .ref a ∧ (G a = some (.lst xs) ∨ G a = some (.tup xs)) ∧ AlA G xs ps := by
  cases b with
  | false => obtain ⟨a, xs, e, h, q⟩ := h; exact ⟨a, xs, e, .inl h, q⟩
  | true => obtain ⟨a, xs, e, h, q⟩ := h; exact ⟨a, xs, e, .inr h, q⟩
section
variable {X : Cx} {e a b c o k it : Expr} {es : List Expr} {Γ Γ' : En} {M : Mu} {p q z : Pv} {ps : List Pv} {x y : V} {pos pp apos cpos tpos : Pos} {e0 : Eb} {P : Pst} {kp fs : List (Str × Pv)} {s : Str} {t : Bool} {α : Type} {ds : List α} {f : α → Pv}
theorem isi_seq {u : Value} {r : Bool} (h1 : PySem.W.kitOne X.K (.type "list") u = some r) (h2 : PySem.W.kitOne X.K (.type "tuple") u = some r) : IsiP X.K (vSeq t ps) u r := by
  cases t with
  | false => exact isi_lst h1
  | true => exact isi_tup h2
theorem xe_lenQ (hm : X.mg "len" = none) (h : XE X e Γ M (vSeq t ps)) (hg : Gl X "len" := by rfl) (he : starEach [e] X.env = (false, eval e X.env) :: starEach [] X.env := by rfl) : XE X (.Call (.Name "len" pp) [e] [] pos) Γ M (vInt ps.length) := by
  cases t with
  | false => exact xe_lenL hm h vwL hg he
  | true => exact xe_lenT hm h hg he
/-- isinstance of a list or tuple: (list, tuple) -/
theorem xe_isiQ {n1 n2 : Str} {c1 c2 : V} {j : Nat} {u1 u2 : Value} {r : Bool} {p1 p2 : Pos} (hm : X.mg "isinstance" = none) (he : XE X e Γ M (vSeq t ps)) (hc1 : XE X (.Name n1 p1) Γ M (vVal c1)) (hc2 : XE X (.Name n2 p2) Γ M (vVal c2)) (hu1 : ClsV c1 u1) (hu2 : ClsV c2 u2)
    (k1 : PySem.W.kitAny X.K (.type "list") [u1, u2] = some r) (k2 : PySem.W.kitAny X.K (.type "tuple") [u1, u2] = some r) (hg : Gl X "isinstance" := by rfl)
    (h1 : starEach [e, .Tuple [.Name n1 p1, .Name n2 p2] j tpos] X.env = (false, eval e X.env) :: starEach [.Tuple [.Name n1 p1, .Name n2 p2] j tpos] X.env := by rfl) (h2 : starEach [.Tuple [.Name n1 p1, .Name n2 p2] j tpos] X.env = (false, eval (.Tuple [.Name n1 p1, .Name n2 p2] j tpos) X.env) :: starEach [] X.env := by rfl) (hpl : (backTo pos (starEach [.Tuple [.Name n1 p1, .Name n2 p2] j tpos] X.env)).any (·.1) = false := by rfl) :
    XE X (.Call (.Name "isinstance" pp) [e, .Tuple [.Name n1 p1, .Name n2 p2] j tpos] [] pos) Γ M (vBl r) :=
  xe_cb call_isiT hm (by decide +kernel) (xa_cons he (xa_cons (xe_tup (ps := [vVal c1, vVal c2]) (xa_cons hc1 (xa_cons hc2 xa_nil)) (by show 2 ≤ sizeLine; rw [sizeLine_eq]; decide)) xa_nil h2) h1) (fun G H vs i av Q kq => by
    obtain ⟨v, w, rfl, rv, rw⟩ := alA2 av
    obtain ⟨tp, cs, rfl, ht, al⟩ := rw
    obtain rfl : cs = [c1, c2] := AlA.vals (g := fun v => v) (ds := [c1, c2]) al
    have fin : ∀ tt, TyX X.K H v tt → PySem.W.kitAny X.K tt [u1, u2] = some r → rIsiT X.K [v, .ref tp] H Q := fun tt ty kk => ⟨v, tp, [c1, c2], tt, [u1, u2], r, rfl, i _ _ ht, .cons hu1 (.cons hu2 .nil), ty, kk, kq (.bl r) G H (.refl i) rfl⟩
    cases t with
    | false => obtain ⟨a, xs, rfl, h, _⟩ := rv; exact fin (.type "list") (.base (.lst (i _ _ h))) k1
    | true => obtain ⟨a, xs, rfl, h, _⟩ := rv; exact fin (.type "tuple") (.base (.tup (i _ _ h))) k2) hg (by decide) (by decide) h1 hpl
theorem seq_sq {K : PySem.W.Frag} {G H : Hp} {d : Addr} {xs : List V} (i : Same G H) (h : G d = some (.lst xs) ∨ G d = some (.tup xs)) : SqL K H d xs ∨ SqT K H d xs := by
  rcases h with h | h
  · exact .inl (SqL.of (i _ _ h))
  · exact .inr (SqT.of (i _ _ h))
theorem xe_inQ {xs : List V} (ha : XE X a Γ M (vVal x)) (hb : XE X b Γ M (vSeq t (xs.map vVal))) (fx : flatV x = true) (fs : xs.all flatV = true) (hm : behindInMarks .In b = false := by rfl) : XE X (.Compare a [.In] [b] pos) Γ M (vBl (inV x xs)) :=
  xe_cmpG op_in_seq ha hb (fun G H v w i rv rw Q k => by
    obtain ⟨d, ys, rfl, h1, h2⟩ := vSeq_at rw
    cases rv
    obtain rfl : ys = xs := by simpa using AlA.vals (g := fun v => v) h2
    exact ⟨d, ys, rfl, seq_sq i h1, fx, fs, k _ G H (.refl i) rfl⟩) hm
theorem xt_inQ {xs : List V} (ha : XE X a Γ M (vVal x)) (hb : XE X b Γ M (vSeq t (xs.map vVal))) (fx : flatV x = true) (fs : xs.all flatV = true) (hm : behindInMarks .In b = false := by rfl) : XT X (.Compare a [.In] [b] pos) Γ M (inV x xs) :=
  xt_cmpG op_in_seq ha hb (fun G H v w i rv rw Q k => by
    obtain ⟨d, ys, rfl, h1, h2⟩ := vSeq_at rw
    cases rv
    obtain rfl : ys = xs := by simpa using AlA.vals (g := fun v => v) h2
    exact ⟨d, ys, rfl, seq_sq i h1, fx, fs, k G H (.refl i)⟩) hm
theorem xt_ninQ {xs : List V} (ha : XE X a Γ M (vVal x)) (hb : XE X b Γ M (vSeq t (xs.map vVal))) (fx : flatV x = true) (fs : xs.all flatV = true) (hm : behindInMarks .NotIn b = false := by rfl) : XT X (.Compare a [.NotIn] [b] pos) Γ M (!inV x xs) :=
  xt_cmpG op_notIn_seq ha hb (fun G H v w i rv rw Q k => by
    obtain ⟨d, ys, rfl, h1, h2⟩ := vSeq_at rw
    cases rv
    obtain rfl : ys = xs := by simpa using AlA.vals (g := fun v => v) h2
    exact ⟨d, ys, rfl, seq_sq i h1, fx, fs, k G H (.refl i)⟩) hm
/-- texts in a list of texts -/
theorem flat_strs (ss : List Str) : (ss.map V.str).all flatV = true := List.all_eq_true.mpr fun v hv => by obtain ⟨s, _, rfl⟩ := List.mem_map.mp hv; rfl
theorem inV_strs {s : Str} : ∀ {ss : List Str}, inV (.str s) (ss.map V.str) = decide (s ∈ ss)
  | [] => by simp [inV]
  | a :: ss => by
    have ih := inV_strs (s := s) (ss := ss)
    unfold inV at ih ⊢
    rw [List.map_cons, List.any_cons, ih]
    have : eqV (.str a) (.str s) = decide (a = s) := rfl
    rw [this]
    by_cases h : a = s
    · subst h; simp
    · simp [h, Ne.symm h]
theorem map_strs {ss : List Str} : (ss.map V.str).map vVal = ss.map fun s => vStr s := by rw [List.map_map]; rfl
theorem xe_inS {ss : List Str} (ha : XE X a Γ M (vStr s)) (hb : XE X b Γ M (vSeq t (ss.map fun s => vStr s))) (hm : behindInMarks .In b = false := by rfl) : XE X (.Compare a [.In] [b] pos) Γ M (vBl (decide (s ∈ ss))) :=
  XE.is (xe_inQ ha (XE.is hb (by rw [map_strs])) rfl (flat_strs ss) hm) (by rw [inV_strs])
theorem xt_inS {ss : List Str} (ha : XE X a Γ M (vStr s)) (hb : XE X b Γ M (vSeq t (ss.map fun s => vStr s))) (hm : behindInMarks .In b = false := by rfl) : XT X (.Compare a [.In] [b] pos) Γ M (decide (s ∈ ss)) :=
  XT.is (xt_inQ ha (XE.is hb (by rw [map_strs])) rfl (flat_strs ss) hm) inV_strs
theorem xt_ninS {ss : List Str} (ha : XE X a Γ M (vStr s)) (hb : XE X b Γ M (vSeq t (ss.map fun s => vStr s))) (hm : behindInMarks .NotIn b = false := by rfl) : XT X (.Compare a [.NotIn] [b] pos) Γ M (!decide (s ∈ ss)) :=
  XT.is (xt_ninQ ha (XE.is hb (by rw [map_strs])) rfl (flat_strs ss) hm) (by rw [inV_strs])
/-- x[:n] -/
theorem cut_take {xs : List V} {n : Nat} : cutV xs none (some (n : Int)) = xs.take n := by
  unfold cutV
  rw [HT.sIx_none, HT.sIx_nat, List.drop_zero, Nat.sub_zero]
  exact (List.take_eq_take_min).symm
theorem xe_takeQ {n : Nat} (ho : XE X o Γ M (vSeq t ps)) (hk : XE X k Γ M (vInt (n : Int))) : XE X (.Subscript o (.Slice none (some k) none tpos) pos) Γ M (vSeq t (ps.take n)) := fun G H σ s Q w => by
  cases t with
  | false =>
    refine ⟨_, pe_slice sl_list pe_w po_none (po_some pe_w), ho G H σ s _ fun v G1 H1 t1 r1 => hk G1 H1 σ (s.stp t1) _ fun u G2 H2 t2 r2 => ?_⟩
    obtain ⟨d, xs, rfl, h1, h2⟩ := Pv.mono _ (le_same t2.g) r1
    cases r2
    refine ⟨n, rfl, d, xs, rfl, SqL.of (t2.i _ _ h1), fun p hp => w (.ref p) (upd G2 p (.lst (cutV xs none (some (n : Int))))) _ ((t1.trans t2).trans (Stp.new t2.i hp)) ⟨p, _, rfl, upd_same, ?_⟩⟩
    rw [cut_take]
    exact (h2.take n).mono (le_same (same_new (t2.i.free hp)))
  | true =>
    refine ⟨_, pe_slice sl_tupA pe_w po_none (po_some pe_w), ho G H σ s _ fun v G1 H1 t1 r1 => hk G1 H1 σ (s.stp t1) _ fun u G2 H2 t2 r2 => ?_⟩
    obtain ⟨d, xs, rfl, h1, h2⟩ := Pv.mono _ (le_same t2.g) r1
    cases r2
    refine ⟨n, rfl, d, xs, rfl, SqT.of (t2.i _ _ h1), fun hw => w (.ref d) G2 H2 (t1.trans t2) ⟨d, xs, rfl, h1, ?_⟩, fun _ p hp => w (.ref p) (upd G2 p (.tup (cutV xs none (some (n : Int))))) _ ((t1.trans t2).trans (Stp.new t2.i hp)) ⟨p, _, rfl, upd_same, ?_⟩⟩
    · have hl : xs.length ≤ n := by
        have := hw.2
        rw [HT.sIx_nat] at this
        omega
      rw [List.take_of_length_le (by rw [← h2.len]; exact hl)]
      exact h2
    · rw [cut_take]
      exact (h2.take n).mono (le_same (same_new (t2.i.free hp)))
/-- for i, x in enumerate(xs) -/
theorem xi_enumQ {elts : List Expr} {kk : Nat} (hm : X.mg "enumerate" = none) (h : XE X e Γ M (vSeq t (ds.map f))) (hg : Gl X "enumerate" := by rfl) (hs : starEach [e] X.env = [(false, eval e X.env)] := by rfl) :
    XI X (.Tuple elts kk tpos) (.Call (.Name "enumerate" pp) [e] [] pos) Γ M ds.zipIdx (fun d => vTup [vInt (d.2 : Int), f d.1]) := fun G H σ s R k => by
  have mem : ∀ {i : Nat} {d : α × Nat}, ds.zipIdx[i]? = some d → d.2 = i ∧ ds[i]? = some d.1 := fun {i d} h => by
    rw [List.getElem?_zipIdx] at h
    cases e : ds[i]? with
    | none => rw [e] at h; cases h
    | some u => rw [e] at h; cases h; exact ⟨by simp, rfl⟩
  cases t with
  | false =>
    refine ⟨_, pi_enum hg hm (pa_cons pe_w pa_nil (by rw [hs]; rfl)) hs, h G H σ s _ fun v G' H' t r => ?_⟩
    obtain ⟨a, xs, rfl, h1, h2⟩ := r
    refine ⟨a, xs, rfl, SqL.of (t.i _ _ h1), k _ G' H' t ⟨fun i G H d sg si hd => ?_, fun i G H d x H2 sg si hd ⟨T, y, e1, hT, e2, e3⟩ => ?_, fun G H sg si => ⟨xs, SqL.of (si _ _ (sg _ _ h1)), by rw [h2.len, List.length_map, List.length_zipIdx]; exact Nat.le_refl _⟩⟩⟩
    · obtain ⟨v, e1, _⟩ := h2.get (i := i) (p := f d.1) (by rw [List.getElem?_map, (mem hd).2]; rfl)
      exact ⟨xs, v, SqL.of (si _ _ (sg _ _ h1)), e1⟩
    · subst e1 e2
      have e4 := (h2.mono (le_same sg)).at' (mem hd).2 (e3 xs (SqL.of (si _ _ (sg _ _ h1))))
      exact ⟨upd G T (.tup [.int (i : Int), y]), Stp.new si hT, T, _, rfl, upd_same, .cons (by rw [(mem hd).1]; rfl) (.cons (Pv.mono _ (le_same (same_new (si.free hT))) e4) .nil)⟩
  | true =>
    refine ⟨_, pi_enumT hg hm (pa_cons pe_w pa_nil (by rw [hs]; rfl)) hs, h G H σ s _ fun v G' H' t r => ?_⟩
    obtain ⟨a, xs, rfl, h1, h2⟩ := r
    refine ⟨a, xs, rfl, SqT.of (t.i _ _ h1), k _ G' H' t ⟨fun i G H d sg si hd => ?_, fun i G H d x H2 sg si hd ⟨T, y, e1, hT, e2, e3⟩ => ?_, fun G H sg si => ⟨xs, SqT.of (si _ _ (sg _ _ h1)), by rw [h2.len, List.length_map, List.length_zipIdx]; exact Nat.le_refl _⟩⟩⟩
    · obtain ⟨v, e1, _⟩ := h2.get (i := i) (p := f d.1) (by rw [List.getElem?_map, (mem hd).2]; rfl)
      exact ⟨xs, v, SqT.of (si _ _ (sg _ _ h1)), e1⟩
    · subst e1 e2
      have e4 := (h2.mono (le_same sg)).at' (mem hd).2 (e3 xs (SqT.of (si _ _ (sg _ _ h1))))
      exact ⟨upd G T (.tup [.int (i : Int), y]), Stp.new si hT, T, _, rfl, upd_same, .cons (by rw [(mem hd).1]; rfl) (.cons (Pv.mono _ (le_same (same_new (si.free hT))) e4) .nil)⟩
/-- sorted of texts -/
theorem xn_sortQ {ss : List Str} (hm : X.mg "sorted" = none) (h : XE X e Γ M (vSeq t (ss.map fun s => vStr s))) (h64 : ss.length < 64) (hg : Gl X "sorted" := by rfl) (he : starEach [e] X.env = (false, eval e X.env) :: starEach [] X.env := by rfl) : XN X (.Call (.Name "sorted" pp) [e] [] pos) Γ M (mLst ((sortS ss).map fun s => vStr s)) := by
  cases t with
  | false => exact xn_sortL hm h vwL h64 hg he
  | true =>
    exact xn_cb1 cr_sortTup hm (by decide +kernel) h (fun G H σ Γ v st rv Q k => by
      obtain ⟨a, xs, rfl, h1, h2⟩ := rv
      exact ⟨a, ss, rfl, SqT.of (by rw [← alA_strs h2]; exact st.i _ _ h1), h64, fun ys l hp hs hl => k l _ hl ⟨_, rfl, by rw [sorted_is hp hs]; exact alA_vals⟩⟩) hg (by decide) (by decide) he
/-! ### assignments -/
theorem xs_asgG {tg : Expr} {vs : List Nat} (he : XE X e Γ M p) (hg : XG X tg p Γ Γ' vs) (k : ∀ G H σ, Sta e0 G H σ Γ' M → P.nx G H σ) (hs : swapsWithSole [tg] e pos.line X.env = pure false := by rfl) (hw : swappedStores [tg] e X.env = pure none := by rfl)
    (h1 : (assignEach [tg] X.env).map (·.2) = [assign tg X.env] := by rfl) : XS X e0 (.Assign [tg] e pos) Γ M P := fun G H σ s D f =>
  ⟨_, ps_asg pe_w pg_w hs hw h1, he G H σ s.s _ fun v G1 H1 t1 r1 => by
    have s1 := s.stp t1
    exact hg G1 H1 σ v s1.s.a s1.s.i r1 _ fun σ' a' _ _ => f.nx G1 H1 σ' (k G1 H1 σ' ⟨s1.t, s1.b, ⟨s1.s.i, a', s1.s.nd, s1.s.m⟩, s1.f⟩)⟩
theorem xss_tup {tg : Expr} {vs : List Nat} {rest : List Stmt} (he : XE X e Γ M p) (hg : XG X tg p Γ Γ' vs) (k : XSs X e0 rest Γ' M P) (hs : swapsWithSole [tg] e pos.line X.env = pure false := by rfl) (hw : swappedStores [tg] e X.env = pure none := by rfl)
    (h1 : (assignEach [tg] X.env).map (·.2) = [assign tg X.env] := by rfl) : XSs X e0 (.Assign [tg] e pos :: rest) Γ M P := xss_cons (xs_asgG he hg (fun _ _ _ s => s) hs hw h1) k
/-- x, y = a, b -/
theorem xss_par {i j : Nat} {n m : Str} {px py pt pt2 : Pos} {kt k2 : Nat} {rest : List Stmt} (hc : X.calm = true) (hN : X.N.Nodup) (ha : XE X a Γ M p) (hb : XE X b Γ M q) (k : XSs X e0 rest ((Γ.set i (some p)).set j (some q)) M P) (hij : i ≠ j := by decide) (hi : X.N[i]? = some n := by rfl) (hj : X.N[j]? = some m := by rfl)
    (hx : X.env.scope.names.lookup n = some .local := by rfl) (hy : X.env.scope.names.lookup m = some .local := by rfl)
    (hw : swappedStores [.Tuple [.Name n px, .Name m py] kt pt] (.Tuple [a, b] k2 pt2) X.env = pure (some [n, m]) := by rfl) (hs : swapsWithSole [.Tuple [.Name n px, .Name m py] kt pt] (.Tuple [a, b] k2 pt2) pos.line X.env = pure false := by rfl)
    (hs1 : starEach [a, b] X.env = (false, eval a X.env) :: starEach [b] X.env := by rfl) (hs2 : starEach [b] X.env = (false, eval b X.env) :: starEach [] X.env := by rfl) :
    XSs X e0 (.Assign [.Tuple [.Name n px, .Name m py] kt pt] (.Tuple [a, b] k2 pt2) pos :: rest) Γ M P := fun G H σ s D f =>
  ⟨_, pss_cons (ps_par hc hN hi hj hij hx hy pa_w hw hs) pss_w, (xa_cons ha (xa_cons hb xa_nil hs2) hs1) G H σ s.s _ fun vs G1 H1 t1 r1 => by
    obtain ⟨v, w, rfl, rv, rw⟩ := alA2 r1
    exact ⟨v, w, rfl, k G1 H1 _ (((s.stp t1).set rv).set rw) D f⟩⟩
end
end K53
end KFb_
section KFc_
set_option maxRecDepth 100000
set_option maxHeartbeats 4000000
/-! KFc: calls that give new objects; writes; while; locked loops; makes. -/
namespace K53
open PySem PySem.Spec PyProof.Rows L2
/-! ### a def's promise: a new object that may change -/
def spN {δ : Type} (args : δ → List Pv) (ok : δ → Prop) (o : δ → Mo) : Sp := fun vs H Q _ => ∃ d G, Same G H ∧ AlA G vs (args d) ∧ ok d ∧ ∀ p ob G' H', Stp G H G' H' → H p = none → G' p = none → H' p = some ob → (o d).r G' ob → Q (.ref p) H'
def nP (e0 : Eb) (o : Mo) : Pst := ⟨fun _ _ _ => False, fun v G H => ∃ p ob, v = .ref p ∧ Stp e0.G e0.H G H ∧ e0.H p = none ∧ G p = none ∧ H p = some ob ∧ o.r G ob, fun _ _ _ => False, fun _ _ _ => False⟩
theorem fdn_of {P : Program} {w : World} {K : PySem.W.Frag} {mg : Str → Option Value} {base : Heap} {δ : Type} {args : δ → List Pv} {ok : δ → Prop} {o : δ → Mo} {x qual : Str} {params : Arguments} {body : List Stmt} {scope : Scope} {dvs : List V} {kws : List (Str × V)} {f : Addr} {fd : FuncData} {N ps : List Str} {k : Nat}
    (F : FunD K x qual params body scope dvs kws f fd) (S : FnScope N ps scope) (hl : ∀ d, (args d).length = ps.length) (hN : ps.length ≤ N.length)
    (h : ∀ (cdv : Value) (A : Around) (outer : List Env) (s : Shared) (H : Hp) (E : XK), Room k (A.deeper (envOfC qual scope s.heap.objs.size f cdv)) → ∀ d G, ok d → 
      XSs (cxOf CX0 P w K mg base N qual scope f cdv A outer s H E).nox ⟨G, G, H⟩ body ((args d).map some ++ List.replicate (N.length - (args d).length) none) [] (nP ⟨G, G, H⟩ (o d))) : FnOk P w K mg base CX0 (k + 1) f fd ps (spN args ok o) := by
  refine F.ok S (fun vs H Q E ⟨d, G, i, a, o, q⟩ => by rw [a.len, hl]) fun cdv A outer s H vs Q E hr ⟨d, G, i, a, o, q⟩ => ?_
  obtain ⟨t, h1, h2⟩ := h cdv A outer s H E hr d G o G H (L2.start N vs) ⟨.refl i, .refl _, ⟨i, start_al a (by rw [a.len, hl]; exact hN), List.nodup_nil, fun _ z => nomatch z⟩, fun _ z => nomatch z⟩ { nx := fun _ H' => Q .non H', rt := Q }
    ⟨fun G' H' _ z => z.elim, fun v G' H' ⟨p, ob, e, t, h1, h2, h3, h4⟩ => by subst e; exact q p ob G' H' t h1 h2 h3 h4, fun _ _ _ z => z, fun _ _ _ z => z⟩
  exact ⟨t, h1.nox, h2⟩
section
variable {X : Cx} {e a b c o k' it tg : Expr} {es : List Expr} {Γ Γ' : En} {M : Mu} {p q z : Pv} {ps : List Pv} {x y : V} {pos pp apos cpos tpos : Pos} {e0 : Eb} {P : Pst} {kp fs : List (Str × Pv)} {s : Str} {k j : Nat} {pn : List Str} {dvs : List V} {δ : Type} {args : δ → List Pv} {ok : δ → Prop} {res : δ → Pv} {om : δ → Mo} {C : Addr} {m n : Str} {mo mo' : Mo} {M1 M2 : Mu}
theorem xn_call (F : Fd X.prog X.w X.K X.mg X.base n k pn [] (spN args ok om)) (d : δ) (hr : Room j X.A) (ha : XA X (e :: es) Γ M (args d)) (ho : ok d) (hj : k ≤ j := by decide) (hg : Gl X n := by rfl) (hdb : (n == ("__debug__" : Str)) = false := by decide)
    (he : starEach (e :: es) X.env = (false, eval e X.env) :: starEach es X.env := by rfl) (hpl : (backTo pos (starEach es X.env)).any (·.1) = false := by rfl) : XN X (.Call (.Name n pp) (e :: es) [] pos) Γ M (om d) := fun G H σ s Q q => by
  obtain ⟨f, fd, ds, hm, hk, hd, hb, F⟩ := F.ex
  refine ⟨_, pe_call (E := E0) F (hr.mono hj) hg hm hk hb hd pass0 pa_w hdb he hpl, ha G H σ s _ fun vs G1 H1 t1 r1 => ⟨d, G1, t1.i, by rw [List.append_nil]; exact r1, ho, fun p ob G2 H2 t2 h1 h2 h3 h4 => q p ob G2 H2 (t1.trans t2) (t1.h.free h1) h2 h3 h4⟩⟩
theorem xn_meth0 {pl : Sem Bool} (F : Md X.prog X.w X.K X.mg X.base C m k pn (spN args ok om)) (d : δ) (hr : Room j X.A) (cl : Cls X.K C) (ho : XE X o Γ M (vIns C fs)) (hm : fs.lookup m = none) (hd : args d = [vIns C fs]) (hok : ok d) (hj : k ≤ j := by decide)
    (ht : eval (.Call (.Attribute o m apos) [] [] pos) X.env = (do
      let ov ← eval o X.env
      standAt apos.atName
      let (f, first) ← holding [ov] (getMethod ov m pl)
      callWith pos f first (backTo pos (starEach [] X.env)) (backToKw pos (keywordEach [] X.env))) := by rfl) :
    XN X (.Call (.Attribute o m apos) [] [] pos) Γ M (om d) := fun G H σ s Q w => by
  obtain ⟨f, fd, hm', hb, F⟩ := F.ex
  refine ⟨_, pe_meth0 (E := E0) pe_w cl hm' F (hr.mono hj) hb .nil pass0 ht, ho G H σ s _ fun v G1 H1 t1 r1 => ?_⟩
  obtain ⟨ad, dx, fv, rfl, h1, al⟩ := r1
  refine ⟨ad, dx, fv, rfl, t1.i _ _ h1, al.none hm, ⟨d, G1, t1.i, ?_, hok, fun p ob G3 H3 t3 h1 h2 h3 h4 => w p ob G3 H3 (t1.trans t3) (t1.h.free h1) h2 h3 h4⟩⟩
  rw [hd]
  exact .cons ⟨ad, dx, fv, rfl, h1, al⟩ .nil
theorem xs_retN (he : XN X e Γ M mo) : XS X e0 (.Return (some e) pos) Γ M (nP e0 mo) := fun G H σ s D f =>
  ⟨_, ps_ret pe_w, he G H σ s.s _ fun p ob G1 H1 t1 h1 h2 h3 h4 => f.rt _ G1 H1 ⟨p, ob, rfl, s.t.trans t1, s.t.h.free h1, h2, h3, h4⟩⟩
/-! ### writes -/
/-- the statement of a change -/
theorem Sta.app {G H : Hp} {σ : L2.St} (s : Sta e0 G H σ Γ (M1 ++ (δ', mo) :: M2)) {ob : HO} (h : mo'.r G ob) : Sta e0 G (upd H δ' ob) σ Γ (M1 ++ (δ', mo') :: M2) := s.write h
theorem xs_append {a : Addr} (ho : XE X o Γ (M1 ++ (a, mLst ps) :: M2) (vVal (.ref a))) (he : XE X e Γ (M1 ++ (a, mLst ps) :: M2) p) (k : ∀ G H σ, Sta e0 G H σ Γ (M1 ++ (a, mLst (ps ++ [p])) :: M2) → P.nx G H σ) (hz : ps.length < sizeLine)
    (hbase : attributeBase o "append" X.env (eval o X.env) = eval o X.env := by rfl)
    (hfew : ((backTo cpos (starEach [e] X.env)).all (fun x => !x.1) && (backToKw cpos (keywordEach [] X.env)).all (fun x => x.1.isSome) && decide (([e] : List Expr).length + ([] : List Keyword).length + (if ([] : List Keyword).isEmpty then 0 else 1) < 30)) = true := by rfl)
    (hline : (apos.endLine == cpos.line) = true := by rfl) (hst : starEach [e] X.env = (false, eval e X.env) :: starEach [] X.env := by rfl) (hs : swapsWith (.Call (.Attribute o "append" apos) [e] [] cpos) none pos.line X.env = pure false := by rfl) :
    XS X e0 (.Expr (.Call (.Attribute o "append" apos) [e] [] cpos) pos) Γ (M1 ++ (a, mLst ps) :: M2) P := fun G H σ s D f =>
  ⟨_, ps_expr (pe_bm PySem.F.plainAttrs_list PySem.F.slot_list_append PySem.F.type_list_append mt_append pe_w (pa_cons pe_w pa_nil hst) hbase hfew hline hst rfl) hs, ho G H σ s.s _ fun v G1 H1 t1 r1 => by
    obtain rfl : v = .ref a := r1
    have s1 := s.stp t1
    obtain ⟨hg, ob, hh, xs, rfl, al⟩ := s1.s.m (a, mLst ps) (by simp)
    refine ⟨.inl ⟨rfl, xs, SqL.of hh⟩, he G1 H1 σ s1.s _ fun u G2 H2 t2 r2 => ?_⟩
    have s2 := s1.stp t2
    obtain ⟨hg, ob, hh, xs, rfl, al⟩ := s2.s.m (a, mLst ps) (by simp)
    exact ⟨a, xs, u, rfl, rfl, hh, by rw [al.len]; exact hz, f.nx _ _ _ (k _ _ _ (s2.write ⟨_, rfl, al.app (.cons r2 .nil)⟩))⟩⟩
theorem xs_extend {a : Addr} {qs : List Pv} (ho : XE X o Γ (M1 ++ (a, mLst ps) :: M2) (vVal (.ref a))) (he : XE X e Γ (M1 ++ (a, mLst ps) :: M2) (vLst qs)) (k : ∀ G H σ, Sta e0 G H σ Γ (M1 ++ (a, mLst (ps ++ qs)) :: M2) → P.nx G H σ) (hz : ps.length + qs.length ≤ sizeLine)
    (hbase : attributeBase o "extend" X.env (eval o X.env) = eval o X.env := by rfl)
    (hfew : ((backTo cpos (starEach [e] X.env)).all (fun x => !x.1) && (backToKw cpos (keywordEach [] X.env)).all (fun x => x.1.isSome) && decide (([e] : List Expr).length + ([] : List Keyword).length + (if ([] : List Keyword).isEmpty then 0 else 1) < 30)) = true := by rfl)
    (hline : (apos.endLine == cpos.line) = true := by rfl) (hst : starEach [e] X.env = (false, eval e X.env) :: starEach [] X.env := by rfl) (hs : swapsWith (.Call (.Attribute o "extend" apos) [e] [] cpos) none pos.line X.env = pure false := by rfl) :
    XS X e0 (.Expr (.Call (.Attribute o "extend" apos) [e] [] cpos) pos) Γ (M1 ++ (a, mLst ps) :: M2) P := fun G H σ s D f =>
  ⟨_, ps_expr (pe_bm PySem.F.plainAttrs_list PySem.F.slot_list_extend PySem.F.type_list_extend mt_extend pe_w (pa_cons pe_w pa_nil hst) hbase hfew hline hst rfl) hs, ho G H σ s.s _ fun v G1 H1 t1 r1 => by
    obtain rfl : v = .ref a := r1
    have s1 := s.stp t1
    obtain ⟨hg, ob, hh, xs, rfl, al⟩ := s1.s.m (a, mLst ps) (by simp)
    refine ⟨.inl ⟨rfl, xs, SqL.of hh⟩, he G1 H1 σ s1.s _ fun u G2 H2 t2 r2 => ?_⟩
    have s2 := s1.stp t2
    obtain ⟨hg, ob, hh, xs, rfl, al⟩ := s2.s.m (a, mLst ps) (by simp)
    obtain ⟨b, ys, rfl, hb, al2⟩ := r2
    exact ⟨a, b, xs, ys, rfl, rfl, hh, s2.s.i _ _ hb, by rw [al.len, al2.len]; exact hz, f.nx _ _ _ (k _ _ _ (s2.write ⟨_, rfl, al.app al2⟩))⟩⟩
/-- d[k] = v, a text key -/
theorem xs_dput {a : Addr} (hu : X.A.units + 1 < cLine) (he : XE X e Γ (M1 ++ (a, mDic kp) :: M2) p) (ho : XE X o Γ (M1 ++ (a, mDic kp) :: M2) (vVal (.ref a))) (hk : XE X k' Γ (M1 ++ (a, mDic kp) :: M2) (vStr s)) (k : ∀ G H σ, Sta e0 G H σ Γ (M1 ++ (a, mDic (putD s p kp)) :: M2) → P.nx G H σ)
    (hn : (kp.map (·.1)).Nodup) (hz : kp.length < sizeLine) (hs : swapsWith e (some (.Subscript o k' apos)) pos.line X.env = pure false := by rfl) :
    XS X e0 (.Assign [.Subscript o k' apos] e pos) Γ (M1 ++ (a, mDic kp) :: M2) P := fun G H σ st D f =>
  ⟨_, ps_dput hu pe_w pe_w pe_w hs, he G H σ st.s _ fun v G1 H1 t1 r1 => ho G1 H1 σ (st.stp t1).s _ fun u G2 H2 t2 r2 => hk G2 H2 σ ((st.stp t1).stp t2).s _ fun w G3 H3 t3 r3 => by
    obtain rfl : u = .ref a := r2
    obtain rfl : w = .str s := r3
    have s3 := ((st.stp t1).stp t2).stp t3
    obtain ⟨hg, ob, hh, xs, rfl, al⟩ := s3.s.m (a, mDic kp) (by simp)
    exact ⟨a, _, rfl, DPut.k (k := .inr s) hh (by rw [al.len]; exact hz), f.nx _ _ _ (k _ _ _ (s3.write ⟨_, rfl, al.put (Pv.mono _ (le_same (t2.g.trans t3.g)) r1) hn⟩))⟩⟩
def putP (f : Str) (p : Pv) : List (Str × Pv) → List (Str × Pv)
  | [] => [(f, p)]
  | (g, x) :: r => if g = f then (g, p) :: r else (g, x) :: putP f p r
theorem putP_lt {f : Str} {p : Pv} : ∀ {fs : List (Str × Pv)} {n : Nat}, fs.length < n → (putP f p fs).length < n + 1
  | [], n, h => by unfold putP; simp; omega
  | (g, x) :: r, n, h => by
    unfold putP
    split
    · rw [List.length_cons] at h ⊢; omega
    · rw [List.length_cons] at h ⊢
      have := putP_lt (f := f) (p := p) (fs := r) (n := n - 1) (by omega)
      omega
theorem AlF.put {G : Hp} {f : Str} {v : V} {p : Pv} (h : p.r G v) : ∀ {fv : List (Str × V)} {fs : List (Str × Pv)}, AlF G fv fs → AlF G (putF f v fv) (putP f p fs)
  | _, _, .nil => .cons h .nil
  | _, _, .cons (k := g) h1 t => by
    unfold putF putP
    by_cases z : g = f
    · rw [if_pos z, if_pos z]; exact .cons h t
    · rw [if_neg z, if_neg z]; exact .cons h1 (t.put h)
theorem AlF.len {G : Hp} : ∀ {fv : List (Str × V)} {fs : List (Str × Pv)}, AlF G fv fs → fv.length = fs.length
  | _, _, .nil => rfl
  | _, _, .cons _ t => by rw [List.length_cons, List.length_cons, t.len]
/-- self.f = e -/
theorem xs_fld {a : Addr} {f : Str} (he : XE X e Γ (M1 ++ (a, mIns C fs) :: M2) p) (ho : XE X o Γ (M1 ++ (a, mIns C fs) :: M2) (vVal (.ref a))) (k : ∀ G H σ, Sta e0 G H σ Γ (M1 ++ (a, mIns C (putP f p fs)) :: M2) → P.nx G H σ) (cl : Cls X.K C) (na : NoAttr X.K C f) (hl : fs.length < 1000 := by repeat (first | decide | apply putP_lt))
    (hs : swapsWith e (some (.Attribute o f apos)) pos.line X.env = pure false := by rfl) : XS X e0 (.Assign [.Attribute o f apos] e pos) Γ (M1 ++ (a, mIns C fs) :: M2) P := fun G H σ s D F =>
  ⟨_, ps_fld pe_w pe_w hs, he G H σ s.s _ fun v G1 H1 t1 r1 => ho G1 H1 σ (s.stp t1).s _ fun u G2 H2 t2 r2 => by
    obtain rfl : u = .ref a := r2
    have s2 := (s.stp t1).stp t2
    obtain ⟨hg, ob, hh, dx, fv, rfl, al⟩ := s2.s.m (a, mIns C fs) (by simp)
    exact ⟨a, C, dx, fv, rfl, hh, cl, na, by rw [al.len]; exact hl, F.nx _ _ _ (k _ _ _ (s2.write ⟨dx, _, rfl, al.put (Pv.mono _ (le_same t2.g) r1)⟩))⟩⟩
/-- self.f = a new object that may change -/
theorem xss_fldN {a : Addr} {f : Str} {rest : List Stmt} (he : XN X e Γ (M1 ++ (a, mIns C fs) :: M2) mo) (ho : ∀ a2, XE X o Γ ((a2, mo) :: (M1 ++ (a, mIns C fs) :: M2)) (vVal (.ref a))) (k : ∀ a2, XSs X e0 rest Γ ((a2, mo) :: (M1 ++ (a, mIns C (putP f (vVal (.ref a2)) fs)) :: M2)) P) (cl : Cls X.K C) (na : NoAttr X.K C f) (hl : fs.length < 1000 := by repeat (first | decide | apply putP_lt))
    (hs : swapsWith e (some (.Attribute o f apos)) pos.line X.env = pure false := by rfl) : XSs X e0 (.Assign [.Attribute o f apos] e pos :: rest) Γ (M1 ++ (a, mIns C fs) :: M2) P := fun G H σ s D F =>
  ⟨_, pss_cons (ps_fld pe_w pe_w hs) pss_w, he G H σ s.s _ fun a2 ob2 G1 H1 t1 h1 h2 h3 h4 => ho a2 G1 H1 σ (s.add t1 h1 h2 h3 h4).s _ fun u G2 H2 t2 r2 => by
    obtain rfl : u = .ref a := r2
    have s2 := (s.add t1 h1 h2 h3 h4).stp t2
    obtain ⟨hg, ob, hh, dx, fv, rfl, al⟩ := s2.s.m (a, mIns C fs) (by simp)
    exact ⟨a, C, dx, fv, rfl, hh, cl, na, by rw [al.len]; exact hl, k a2 _ _ σ (Sta.write (M1 := (a2, mo) :: M1) s2 ⟨dx, _, rfl, al.put rfl⟩) D F⟩⟩
/-! ### while -/
theorem xs_while {ι : Type} {cnd : Expr} {body : List Stmt} (Γs : ι → En) (Ms : ι → Mu) (I : Nat → ι → Prop) (bt : ι → Bool) (h0 : ∀ G H σ, Sta e0 G H σ Γ M → ∃ m, StaI e0 Γs Ms (I m) G H σ)
    (hc : ∀ m x, I m x → XT X cnd (Γs x) (Ms x) (bt x))
    (hb : ∀ m x, I m x → bt x = true → XSs X e0 body (Γs x) (Ms x) { P with nx := fun G H σ => ∃ m', m' < m ∧ StaI e0 Γs Ms (I m') G H σ, ct := fun G H σ => ∃ m', m' < m ∧ StaI e0 Γs Ms (I m') G H σ, bk := P.nx })
    (hd : ∀ m x G H σ, I m x → bt x = false → Sta e0 G H σ (Γs x) (Ms x) → P.nx G H σ) (hp : PassesOwn (model X.prog X.w) X.A X.env X.xe := by exact PassesOwn.never) : XS X e0 (.While cnd body [] pos) Γ M P := fun G H σ s D F => by
  refine ⟨_, ps_while hp pt_w pss_w, ?_⟩
  obtain ⟨m0, x0, i0, s0⟩ := h0 G H σ s
  refine ⟨fun m σ H => ∃ G x, I m x ∧ Sta e0 G H σ (Γs x) (Ms x), ⟨m0, G, x0, i0, s0⟩, ?_⟩
  rintro m σ1 H1 ⟨G1, x1, i1, s1⟩
  refine hc m x1 i1 G1 H1 σ1 s1.s _ fun G2 H2 t2 => ?_
  have s2 := s1.stp t2
  cases hbt : bt x1 with
  | false =>
    rw [if_neg (by simp)]
    exact F.nx _ _ _ (hd m x1 G2 H2 σ1 i1 hbt s2)
  | true =>
    rw [if_pos rfl]
    refine ⟨fun σ' H' => ∃ G' m', m' < m ∧ StaI e0 Γs Ms (I m') G' H' σ', ?_, ?_⟩
    · rintro σ' H' ⟨G', m', lt, x', i', s'⟩
      exact ⟨m', lt, G', x', i', s'⟩
    · exact hb m x1 i1 hbt G2 H2 σ1 s2 _ ⟨fun G' H' σ' h => ⟨G', h⟩, F.rt, F.nx, fun G' H' σ' h => ⟨G', h⟩⟩
end
/-! ### a loop while a dict is locked -/
def lkk (d : Addr) (od : Obj) (kv : List (Key × V)) (A : Hp) : Hp := match A d with
  | some _ => upd A d (.frz od (.dK kv))
  | none => A
theorem lkk_some {d : Addr} {od : Obj} {kv : List (Key × V)} {A : Hp} {o : HO} (h : A d = some o) : lkk d od kv A = upd A d (.frz od (.dK kv)) := by unfold lkk; rw [h]
theorem lkk_none {d : Addr} {od : Obj} {kv : List (Key × V)} {A : Hp} (h : A d = none) : lkk d od kv A = A := by unfold lkk; rw [h]
theorem lkk_ne {d : Addr} {od : Obj} {kv : List (Key × V)} {A : Hp} {b : Addr} (h : b ≠ d) : lkk d od kv A b = A b := by
  cases z : A d with
  | none => rw [lkk_none z]
  | some u => rw [lkk_some z, upd_ne h]
theorem lkk_same {d : Addr} {od : Obj} {kv : List (Key × V)} {A B : Hp} (s : Same A B) : Same (lkk d od kv A) (lkk d od kv B) := fun b o e => by
  cases h : A d with
  | none =>
    rw [lkk_none h] at e
    have ne : b ≠ d := fun z => by subst z; rw [h] at e; cases e
    rw [lkk_ne ne]; exact s _ _ e
  | some u =>
    rw [lkk_some h] at e
    rw [lkk_some (s _ _ h)]
    by_cases q : b = d
    · subst q; rw [upd_same] at e ⊢; exact e
    · rw [upd_ne q] at e ⊢; exact s _ _ e
def lkE (d : Addr) (od : Obj) (kv : List (Key × V)) (e0 : Eb) : Eb := ⟨lkk d od kv e0.B, lkk d od kv e0.G, lkk d od kv e0.H⟩
theorem Sta.lock {e0 : Eb} {G H : Hp} {σ : L2.St} {Γ : En} {M : Mu} {d : Addr} {od : Obj} {kv : List (Key × V)} (s : Sta e0 G H σ Γ M) (hg : G d = some (.dK kv)) : Sta (lkE d od kv e0) (upd G d (.frz od (.dK kv))) (upd H d (.frz od (.dK kv))) σ Γ M := by
  have hH : H d = some (.dK kv) := s.s.i _ _ hg
  have eG := lkk_some (od := od) (kv := kv) hg
  have eH := lkk_some (od := od) (kv := kv) hH
  refine ⟨⟨?_, ?_, ?_, fun b o e n => ?_⟩, ?_, s.s.lock hg, fun q hq => ?_⟩
  · rw [← eG]; exact lkk_same s.t.g
  · rw [← eH]; exact lkk_same s.t.h
  · rw [← eG, ← eH]; exact lkk_same s.t.i
  · show lkk d od kv e0.H b = none
    have n' : lkk d od kv e0.G b = none := n
    by_cases q : b = d
    · subst q
      have n2 : e0.G b = none := by
        cases z : e0.G b with
        | none => rfl
        | some u => rw [lkk_some z, upd_same] at n'; cases n'
      have n3 := s.t.n b _ hg n2
      rw [lkk_none n3]; exact n3
    · rw [lkk_ne q] at n' ⊢
      rw [upd_ne q] at e
      exact s.t.n b o e n'
  · rw [← eG]; exact lkk_same s.b
  · have h1 := s.f q hq
    have h2 := (s.s.m q hq).1
    have ne : q.1 ≠ d := fun z => by rw [z, hg] at h2; cases h2
    show lkk d od kv e0.H q.1 = none
    rw [lkk_ne ne]; exact h1
theorem Sta.unlock {e0 : Eb} {G H G' H' : Hp} {σ : L2.St} {Γ Γ' : En} {M M' : Mu} {d : Addr} {od : Obj} {kv : List (Key × V)} {σ' : L2.St} (s : Sta e0 G H σ Γ M) (hg : G d = some (.dK kv)) (s' : Sta (lkE d od kv e0) G' H' σ' Γ' M') (hf : G' d = some (.frz od (.dK kv))) : Sta e0 (upd G' d (.dK kv)) (upd H' d (.dK kv)) σ' Γ' M' := by
  have hH : H d = some (.dK kv) := s.s.i _ _ hg
  have hf' : H' d = some (.frz od (.dK kv)) := s'.s.i _ _ hf
  have at_ : ∀ {A B : Hp}, Same A B → B d = some (.dK kv) → A d = none ∨ A d = some (.dK kv) := fun {A B} sm hb => by
    cases z : A d with
    | none => exact .inl rfl
    | some u => rw [sm _ _ z] at hb; exact .inr hb
  have one : ∀ {A B : Hp}, (A d = none ∨ A d = some (.dK kv)) → Same (lkk d od kv A) B → Same A (upd B d (.dK kv)) := fun {A B} ha sm b o e => by
    by_cases q : b = d
    · subst q
      rcases ha with ha | ha
      · rw [ha] at e; cases e
      · rw [ha] at e; rw [upd_same]; exact e
    · rw [upd_ne q]; exact sm b o (by rw [lkk_ne q]; exact e)
  refine ⟨⟨one (at_ s.t.g hg) s'.t.g, one (at_ s.t.h hH) s'.t.h, fun b o e => ?_, fun b o e n => ?_⟩, one (at_ s.b hg) s'.b, ⟨fun b o e => ?_, s'.s.a.mono (le_unlock hf), s'.s.nd, fun q hq => ?_⟩, fun q hq => ?_⟩
  · by_cases q : b = d
    · subst q; rw [upd_same] at e ⊢; exact e
    · rw [upd_ne q] at e ⊢; exact s'.s.i _ _ e
  · by_cases q : b = d
    · subst q; exact s.t.n b _ hg n
    · rw [upd_ne q] at e
      have := s'.t.n b o e (by show lkk d od kv e0.G b = none; rw [lkk_ne q]; exact n)
      have this : lkk d od kv e0.H b = none := this
      rwa [lkk_ne q] at this
  · by_cases q : b = d
    · subst q; rw [upd_same] at e ⊢; exact e
    · rw [upd_ne q] at e ⊢; exact s'.s.i _ _ e
  · obtain ⟨h1, ob, h2, h3⟩ := s'.s.m q hq
    have ne : q.1 ≠ d := fun z => by rw [z, hf] at h1; cases h1
    exact ⟨by rw [upd_ne ne]; exact h1, ob, by rw [upd_ne ne]; exact h2, Mo.mono _ (le_unlock hf) h3⟩
  · have h1 : lkk d od kv e0.H q.1 = none := s'.f q hq
    have h2 := (s'.s.m q hq).1
    have ne : q.1 ≠ d := fun z => by rw [z, hf] at h2; cases h2
    rwa [lkk_ne ne] at h1
theorem xs_lockFor {X : Cx} {tg it : Expr} {Γ : En} {M : Mu} {e0 : Eb} {P : Pst} {pos : Pos} {d : Addr} {kp : List (Str × Pv)} {f : Str × Pv → Pv} {ι : Type} {body : List Stmt} (Γs : ι → En) (Ms : ι → Mu) (I : Nat → ι → Prop) (hc : X.calm = true)
    (hv : ∀ G H σ, St0 G H σ Γ M → ∃ kv, Rd G d (.dK kv) ∧ AlD G kv kp)
    (hi : ∀ G H σ od kv, St0 G H σ Γ M → G d = some (.frz od (.dK kv)) → AlD G kv kp → ∀ R : It → Hp → Prop, (∀ J G' H', Stp G H G' H' → Wk J G' kp f → R J H') → wI X tg it σ H R)
    (h0 : ∀ e0 G H σ, Sta e0 G H σ Γ M → StaI e0 Γs Ms (I 0) G H σ)
    (hb : ∀ (e0 : Eb) (i : Nat) x y, kp[i]? = some x → I i y → ∃ Γ' vs, XG X tg (f x) (Γs y) Γ' vs ∧ XSs X e0 body Γ' (Ms y) ⟨StaI e0 Γs Ms (I (i + 1)), fun _ _ _ => False, fun _ _ _ => False, StaI e0 Γs Ms (I (i + 1))⟩)
    (hd : ∀ G H σ, StaI e0 Γs Ms (I kp.length) G H σ → P.nx G H σ) (hp : PassesOwn (model X.prog X.w) X.A X.env X.xe := by exact PassesOwn.never) (hs : ∀ x, foldedSetIterable it X.env x = pure x := by intro _; rfl) : XS X e0 (.For tg it body [] pos) Γ M P := fun G H σ s D F => by
  obtain ⟨kv, rd, al⟩ := hv G H σ s.s
  rcases rd with hg | ⟨od, hg⟩
  · have hH : H d = some (.dK kv) := s.s.i _ _ hg
    refine ⟨_, ps_lock ps_w, d, .dK kv, hH, trivial, fun od => ?_⟩
    have s1 := s.lock (od := od) hg
    have s2 : Sta { lkE d od kv e0 with B := upd G d (.frz od (.dK kv)) } (upd G d (.frz od (.dK kv))) (upd H d (.frz od (.dK kv))) σ Γ M := ⟨s1.t, .refl _, s1.s, s1.f⟩
    refine for_core (P := ⟨fun G' H' σ' => StaI { lkE d od kv e0 with B := upd G d (.frz od (.dK kv)) } Γs Ms (I kp.length) G' H' σ', fun _ _ _ => False, fun _ _ _ => False, fun _ _ _ => False⟩) Γs Ms I hc s2 (hi _ _ σ od kv s2.s upd_same (al.mono (le_lock hg))) (h0 _) (fun i x y B hx hy => ?_) (fun G' H' σ' q => q) hp hs _ ⟨fun G' H' σ' q => ?_, fun _ _ _ z => z.elim, fun _ _ _ z => z.elim, fun _ _ _ z => z.elim⟩
    · obtain ⟨Γ', vs, h1, h2⟩ := hb { { lkE d od kv e0 with B := upd G d (.frz od (.dK kv)) } with B := B } i x y hx hy
      refine ⟨Γ', vs, h1, fun G H σ s D F => h2 G H σ s D ⟨F.nx, fun _ _ _ z => z.elim, fun _ _ _ z => z.elim, F.ct⟩⟩
    · obtain ⟨x', hx', s'⟩ := q
      have hf : G' d = some (.frz od (.dK kv)) := s'.b _ _ upd_same
      refine ⟨s'.s.i _ _ hf, F.nx _ _ _ (hd _ _ _ ⟨x', hx', Sta.unlock s hg (⟨s'.t, s1.b.trans s'.b, s'.s, s'.f⟩ : Sta (lkE d od kv e0) G' H' σ' _ _) hf⟩)⟩
  · exact for_core (P := P) Γs Ms I hc s (hi G H σ od kv s.s hg al) (h0 e0) (fun i x y B hx hy => by
      obtain ⟨Γ', vs, h1, h2⟩ := hb { e0 with B := B } i x y hx hy
      exact ⟨Γ', vs, h1, fun G H σ s D F => h2 G H σ s D ⟨F.nx, fun _ _ _ z => z.elim, fun _ _ _ z => z.elim, F.ct⟩⟩) hd hp hs D F
end K53
end KFc_
section KFd_
set_option maxRecDepth 100000
set_option maxHeartbeats 4000000
/-! KFd: makes of instances. -/
namespace K53
open PySem PySem.Spec PyProof.Rows L2
def dl (x : Addr) (H : Hp) : Hp := fun b => if b = x then none else H b
theorem dl_same {x : Addr} {H : Hp} : Same (dl x H) H := fun b o e => by
  unfold dl at e
  split at e
  · cases e
  · exact e
theorem dl_at {x : Addr} {H : Hp} : dl x H x = none := if_pos rfl
theorem dl_ne {x b : Addr} {H : Hp} (h : b ≠ x) : dl x H b = H b := if_neg h
/-- an __init__'s promise: the instance has these attributes -/
def spI (C : Addr) {δ : Type} (args : δ → List Pv) (ok : δ → Prop) (fs : δ → List (Str × Pv)) : Sp := fun vs H Q _ => ∃ d G x dx ws, vs = .ref x :: ws ∧ H x = some (.ins C dx []) ∧ G x = none ∧ Same G H ∧ AlA G ws (args d) ∧ ok d ∧
  ∀ G' H' dx' fv, Stp G (dl x H) G' H' → G' x = none → H' x = some (.ins C dx' fv) → AlF G' fv (fs d) → Q .non H'
def iP (e0 : Eb) (x : Addr) (C : Addr) (fs : List (Str × Pv)) : Pst := ⟨fun G H σ => ∃ Γ M, Sta e0 G H σ Γ ((x, mIns C fs) :: M), fun _ _ _ => False, fun _ _ _ => False, fun _ _ _ => False⟩
theorem fdi_of {P : Program} {w : World} {K : PySem.W.Frag} {mg : Str → Option Value} {base : Heap} {δ : Type} {args : δ → List Pv} {ok : δ → Prop} {fs : δ → List (Str × Pv)} {C : Addr} {x qual : Str} {params : Arguments} {body : List Stmt} {scope : Scope} {dvs : List V} {kws : List (Str × V)} {f : Addr} {fd : FuncData} {N ps : List Str} {k : Nat}
    (F : FunD K x qual params body scope dvs kws f fd) (S : FnScope N ps scope) (hl : ∀ d, (args d).length + 1 = ps.length) (hN : ps.length ≤ N.length)
    (h : ∀ (cdv : Value) (A : Around) (outer : List Env) (s : Shared) (H : Hp) (E : XK), Room k (A.deeper (envOfC qual scope s.heap.objs.size f cdv)) → ∀ d G x, ok d → 
      XSs (cxOf CX0 P w K mg base N qual scope f cdv A outer s H E).nox ⟨G, G, dl x H⟩ body ((vVal (.ref x) :: args d).map some ++ List.replicate (N.length - ((args d).length + 1)) none) [(x, mIns C [])] (iP ⟨G, G, dl x H⟩ x C (fs d))) : FnOk P w K mg base CX0 (k + 1) f fd ps (spI C args ok fs) := by
  refine F.ok S (fun vs H Q E ⟨d, G, x, dx, ws, e, h1, h2, i, a, o, q⟩ => by rw [e, List.length_cons, a.len, hl]) fun cdv A outer s H vs Q E hr ⟨d, G, x, dx, ws, e, h1, h2, i, a, o, q⟩ => ?_
  subst e
  have al : AlA G (V.ref x :: ws) (vVal (.ref x) :: args d) := .cons rfl a
  obtain ⟨t, g1, g2⟩ := h cdv A outer s H E hr d G x o G H (L2.start N (.ref x :: ws)) ⟨⟨.refl _, dl_same, i, fun b o e n => by have n' : G b = none := n; rw [n'] at e; cases e⟩, .refl _, ⟨i, start_al al (by rw [al.len, List.length_cons, hl]; exact hN), by simp, fun q hq => by
      obtain rfl : q = (x, mIns C []) := by simpa using hq
      exact ⟨h2, _, h1, dx, [], rfl, .nil⟩⟩, fun q hq => by
      obtain rfl : q = (x, mIns C []) := by simpa using hq
      exact dl_at⟩ { nx := fun _ H' => Q .non H', rt := Q }
    ⟨fun G' H' σ' ⟨Γ', M', s'⟩ => by
      obtain ⟨z1, ob, z2, dx', fv, rfl, al'⟩ := s'.s.m (x, mIns C (fs d)) (by simp)
      exact q G' H' dx' fv s'.t z1 z2 al', fun _ _ _ z => z.elim, fun _ _ _ z => z, fun _ _ _ z => z⟩
  exact ⟨t, g1.nox, g2⟩
/-- the __init__ of an own class -/
structure Id (P : Program) (w : World) (K : PySem.W.Frag) (mg : Str → Option Value) (base : Heap) (C : Addr) (k : Nat) (ps : List Str) (dvs : List V) (sp : Sp) : Prop where
  ex : ∃ (f : Addr) (fd : FuncData) (ds : List Value), Mk K C f ∧ Vals dvs ds ∧ Binds K fd ps ds ∧ FnOk P w K mg base CX0 k f fd ps sp
section
variable {X : Cx} {e a b c o k' it tg : Expr} {es : List Expr} {Γ Γ' : En} {M : Mu} {p q z : Pv} {ps : List Pv} {x y : V} {pos pp apos cpos tpos : Pos} {e0 : Eb} {P : Pst} {kp fs : List (Str × Pv)} {s : Str} {k j : Nat} {pn : List Str} {dvs : List V} {δ : Type} {args : δ → List Pv} {ok : δ → Prop} {res : δ → Pv} {C : Addr} {m n : Str} {fsd : δ → List (Str × Pv)} {psd : δ → List Pv}
theorem mIns_ins {G : Hp} {v : Addr} {u : HO} (h : (mIns C fs).r G u) (e : G v = some u) : (vIns C fs).r G (.ref v) := by
  obtain ⟨dx, fv, rfl, q⟩ := h
  exact ⟨v, dx, fv, rfl, e, q⟩
theorem xn_make (F : Id X.prog X.w X.K X.mg X.base C k pn [] (spI C args ok fsd)) (d : δ) (hr : Room j X.A) (hm : X.mg n = some (.ref C)) (ha : XA X (e :: es) Γ M (args d)) (ho : ok d) (hj : k + 1 ≤ j := by decide) (hg : Gl X n := by rfl) (hdb : (n == ("__debug__" : Str)) = false := by decide)
    (he : starEach (e :: es) X.env = (false, eval e X.env) :: starEach es X.env := by rfl) (hpl : (backTo pos (starEach es X.env)).any (·.1) = false := by rfl) : XN X (.Call (.Name n pp) (e :: es) [] pos) Γ M (mIns C (fsd d)) := fun G H σ s Q q => by
  obtain ⟨f, fd, ds, mk, hd, hb, F⟩ := F.ex
  refine ⟨_, pe_make (E := E0) mk F (hr.mono hj) hg hm hb hd pass0 pa_w hdb he hpl, ha G H σ s _ fun vs G1 H1 t1 r1 => ?_⟩
  intro x dx hx hdx ne
  have hgx : G1 x = none := t1.i.free hx
  have hgd : G1 dx = none := t1.i.free hdx
  have sm : Same G1 (upd (upd H1 dx (.own x)) x (.ins C dx [])) := fun b o e => by
    rw [upd_ne (ne_of_none e hgx), upd_ne (ne_of_none e hgd)]; exact t1.i _ _ e
  refine ⟨d, G1, x, dx, vs, by rw [List.append_nil], upd_same, hgx, sm, r1, ho, fun G' H' dx' fv t h1 h2 h3 => ⟨rfl, ?_⟩⟩
  have t2 : Stp G1 H1 G' H' := ⟨t.g, fun b o e => t.h b o (by rw [dl_ne (ne_of_none e hx), upd_ne (ne_of_none e hx), upd_ne (ne_of_none e hdx)]; exact e), t.i, fun b o e n => by
    have := t.n b o e n
    by_cases q1 : b = x
    · subst q1; exact hx
    · rw [dl_ne q1, upd_ne q1] at this
      by_cases q2 : b = dx
      · subst q2; exact hdx
      · rwa [upd_ne q2] at this⟩
  exact q x _ G' H' (t1.trans t2) (t1.h.free hx) h1 h2 ⟨dx', fv, rfl, h3⟩
theorem xe_make (F : Id X.prog X.w X.K X.mg X.base C k pn [] (spI C args ok fsd)) (d : δ) (hr : Room j X.A) (hm : X.mg n = some (.ref C)) (ha : XA X (e :: es) Γ M (args d)) (ho : ok d) (hj : k + 1 ≤ j := by decide) (hg : Gl X n := by rfl) (hdb : (n == ("__debug__" : Str)) = false := by decide)
    (he : starEach (e :: es) X.env = (false, eval e X.env) :: starEach es X.env := by rfl) (hpl : (backTo pos (starEach es X.env)).any (·.1) = false := by rfl) : XE X (.Call (.Name n pp) (e :: es) [] pos) Γ M (vIns C (fsd d)) :=
  (xn_make F d hr hm ha ho hj hg hdb he hpl).xe fun G v u r e => mIns_ins r e
end
/-! ### instances with slots -/
inductive AlO (G : Hp) : List (Option V) → List (Option Pv) → Prop where
  | nil : AlO G [] []
  | non {vs : List (Option V)} {ps : List (Option Pv)} (t : AlO G vs ps) : AlO G (none :: vs) (none :: ps)
  | cons {v : V} {p : Pv} {vs : List (Option V)} {ps : List (Option Pv)} (h : p.r G v) (t : AlO G vs ps) : AlO G (some v :: vs) (some p :: ps)
theorem AlO.mono {G G' : Hp} (l : Le G G') : ∀ {vs : List (Option V)} {ps : List (Option Pv)}, AlO G vs ps → AlO G' vs ps
  | _, _, .nil => .nil
  | _, _, .non t => .non (t.mono l)
  | _, _, .cons h t => .cons (Pv.mono _ l h) (t.mono l)
theorem AlO.len {G : Hp} : ∀ {vs : List (Option V)} {ps : List (Option Pv)}, AlO G vs ps → vs.length = ps.length
  | _, _, .nil => rfl
  | _, _, .non t => by rw [List.length_cons, List.length_cons, t.len]
  | _, _, .cons _ t => by rw [List.length_cons, List.length_cons, t.len]
theorem AlO.all {G : Hp} : ∀ {vs : List (Option V)} {ps : List Pv}, AlO G vs (ps.map some) → ∃ xs, vs = xs.map some ∧ AlA G xs ps
  | _, [], .nil => ⟨[], rfl, .nil⟩
  | _, p :: ps, .cons h t => by
    obtain ⟨xs, rfl, q⟩ := t.all
    exact ⟨_ :: xs, rfl, .cons h q⟩
theorem AlO.app {G : Hp} {ws : List (Option V)} {qs : List (Option Pv)} (b : AlO G ws qs) : ∀ {vs : List (Option V)} {ps : List (Option Pv)}, AlO G vs ps → AlO G (vs ++ ws) (ps ++ qs)
  | _, _, .nil => b
  | _, _, .non t => .non (b.app t)
  | _, _, .cons h t => .cons h (b.app t)
theorem AlO.rep {G : Hp} : ∀ n : Nat, AlO G (List.replicate n none) (List.replicate n none)
  | 0 => .nil
  | n + 1 => .non (AlO.rep n)
theorem AlO.set {G : Hp} {v : V} {p : Pv} (h : p.r G v) : ∀ {vs : List (Option V)} {ps : List (Option Pv)} (i : Nat), AlO G vs ps → AlO G (vs.set i (some v)) (ps.set i (some p))
  | _, _, _, .nil => .nil
  | _, _, 0, .non t => .cons h t
  | _, _, i + 1, .non t => .non (t.set h i)
  | _, _, 0, .cons _ t => .cons h t
  | _, _, i + 1, .cons h1 t => .cons h1 (t.set h i)
def putO (i : Nat) (p : Pv) (ps : List (Option Pv)) : List (Option Pv) := (ps ++ List.replicate (i + 1 - ps.length) none).set i (some p)
theorem AlO.put {G : Hp} {v : V} {p : Pv} {vs : List (Option V)} {ps : List (Option Pv)} (a : AlO G vs ps) (i : Nat) (h : p.r G v) : AlO G (SlX.putS i v vs) (putO i p ps) := by
  unfold SlX.putS putO
  rw [a.len]
  exact ((AlO.rep _).app a).set h i
def mSo (C x dx : Addr) (os : List (Option Pv)) : Mo := ⟨fun G o => ∃ vs, AlO G vs os ∧ ((o = .ins C dx [] ∧ vs = []) ∨ (o = SlX.SlO x C dx vs ∧ os ≠ [])), fun l ⟨vs, a, h⟩ => ⟨vs, a.mono l, h⟩⟩
def mSd (x : Addr) (os : List (Option Pv)) : Mo := mRaw (if os.isEmpty then .own x else .xd [])
theorem putO_ne {i : Nat} {p : Pv} {os : List (Option Pv)} : putO i p os ≠ [] := by
  intro z
  have := congrArg List.length z
  unfold putO at this
  rw [List.length_set, List.length_append, List.length_replicate, List.length_nil] at this
  omega
section
variable {X : Cx} {e a b c o k' it tg : Expr} {es : List Expr} {Γ Γ' : En} {M : Mu} {p q z : Pv} {ps : List Pv} {x y : V} {pos pp apos cpos tpos : Pos} {e0 : Eb} {P : Pst} {s : Str} {k j : Nat} {pn : List Str} {dvs : List V} {δ : Type} {args : δ → List Pv} {ok : δ → Prop} {C ax dx pd : Addr} {f n : Str} {i : Nat} {os : List (Option Pv)} {psd : δ → List Pv}
/-- self.f = e, a slot -/
theorem xss_sl {rest : List Stmt} (he : XE X e Γ ((ax, mSo C ax dx os) :: (dx, mSd ax os) :: M) p) (ho : XE X o Γ ((ax, mSo C ax dx os) :: (dx, mSd ax os) :: M) (vVal (.ref ax))) (cl : SlX.SCls X.K C) (sl : SlX.Slot1 X.K C f pd i)
    (k : XSs X e0 rest Γ ((ax, mSo C ax dx (putO i p os)) :: (dx, mSd ax (putO i p os)) :: M) P) (hs : swapsWith e (some (.Attribute o f apos)) pos.line X.env = pure false := by rfl) : XSs X e0 (.Assign [.Attribute o f apos] e pos :: rest) Γ ((ax, mSo C ax dx os) :: (dx, mSd ax os) :: M) P := fun G H σ s D F =>
  ⟨_, pss_cons (SlX.ps_sl pe_w pe_w hs) pss_w, he G H σ s.s _ fun v G1 H1 t1 r1 => ho G1 H1 σ (s.stp t1).s _ fun u G2 H2 t2 r2 => by
    obtain rfl : u = .ref ax := r2
    have s2 := (s.stp t1).stp t2
    obtain ⟨hg, ob, hh, vs, al, hv⟩ := s2.s.m (ax, mSo C ax dx os) (by simp)
    obtain ⟨hgd, obd, hhd, hd⟩ := s2.s.m (dx, mSd ax os) (by simp)
    have hd : obd = if os.isEmpty then .own ax else .xd [] := hd
    have slt : SlX.Slt H2 ax C dx vs := by
      rcases hv with ⟨rfl, rfl⟩ | ⟨rfl, ne⟩
      · exact .inl ⟨hh, rfl⟩
      · refine .inr ⟨hh, ?_⟩
        have : os.isEmpty = false := by cases os with | nil => exact absurd rfl ne | cons _ _ => rfl
        rw [this, if_neg (by simp)] at hd
        rw [hhd, hd]
    refine ⟨ax, C, dx, pd, vs, i, rfl, slt, cl, sl, ?_⟩
    have s3 := Sta.write (M1 := [(ax, mSo C ax dx os)]) (o' := mSd ax (putO i p os)) s2 (ob := .xd []) (by
      show _ = _
      have : (putO i p os).isEmpty = false := by
        cases z : putO i p os with
        | nil => exact absurd z putO_ne
        | cons _ _ => rfl
      rw [this, if_neg (by simp)])
    have s4 := Sta.write (M1 := []) (o' := mSo C ax dx (putO i p os)) s3 (ob := SlX.SlO ax C dx (SlX.putS i v vs)) ⟨_, al.put i (Pv.mono _ (le_same t2.g) r1), .inr ⟨rfl, putO_ne⟩⟩
    exact k _ _ σ s4 D F⟩
end
/-- .. of a class with slots -/
def spIS (C : Addr) {δ : Type} (args : δ → List Pv) (ok : δ → Prop) (ps : δ → List Pv) : Sp := fun vs H Q _ => ∃ d G x dx ws, vs = .ref x :: ws ∧ H x = some (.ins C dx []) ∧ H dx = some (.own x) ∧ dx ≠ x ∧ G x = none ∧ G dx = none ∧ Same G H ∧ AlA G ws (args d) ∧ ok d ∧
  ∀ G' H' xs, Stp G (dl dx (dl x H)) G' H' → G' x = none → G' dx = none → H' x = some (SlX.SlO x C dx (xs.map some)) → H' dx = some (.xd []) → AlA G' xs (ps d) → Q .non H'
def isP (e0 : Eb) (x dx : Addr) (C : Addr) (ps : List Pv) : Pst := ⟨fun G H σ => ∃ Γ M, Sta e0 G H σ Γ ((x, mSo C x dx (ps.map some)) :: (dx, mSd x (ps.map some)) :: M), fun _ _ _ => False, fun _ _ _ => False, fun _ _ _ => False⟩
theorem fdis_of {P : Program} {w : World} {K : PySem.W.Frag} {mg : Str → Option Value} {base : Heap} {δ : Type} {args : δ → List Pv} {ok : δ → Prop} {psd : δ → List Pv} {C : Addr} {x qual : Str} {params : Arguments} {body : List Stmt} {scope : Scope} {dvs : List V} {kws : List (Str × V)} {f : Addr} {fd : FuncData} {N ps : List Str} {k : Nat}
    (F : FunD K x qual params body scope dvs kws f fd) (S : FnScope N ps scope) (hl : ∀ d, (args d).length + 1 = ps.length) (hN : ps.length ≤ N.length) (hne : ∀ d, psd d ≠ [])
    (h : ∀ (cdv : Value) (A : Around) (outer : List Env) (s : Shared) (H : Hp) (E : XK), Room k (A.deeper (envOfC qual scope s.heap.objs.size f cdv)) → ∀ d G x dx, ok d → 
      XSs (cxOf CX0 P w K mg base N qual scope f cdv A outer s H E).nox ⟨G, G, dl dx (dl x H)⟩ body ((vVal (.ref x) :: args d).map some ++ List.replicate (N.length - ((args d).length + 1)) none) [(x, mSo C x dx []), (dx, mSd x [])] (isP ⟨G, G, dl dx (dl x H)⟩ x dx C (psd d))) : FnOk P w K mg base CX0 (k + 1) f fd ps (spIS C args ok psd) := by
  refine F.ok S (fun vs H Q E ⟨d, G, x, dx, ws, e, h1, h2, h3, h4, h5, i, a, o, q⟩ => by rw [e, List.length_cons, a.len, hl]) fun cdv A outer s H vs Q E hr ⟨d, G, x, dx, ws, e, h1, h2, h3, h4, h5, i, a, o, q⟩ => ?_
  subst e
  have al : AlA G (V.ref x :: ws) (vVal (.ref x) :: args d) := .cons rfl a
  obtain ⟨t, g1, g2⟩ := h cdv A outer s H E hr d G x dx o G H (L2.start N (.ref x :: ws)) ⟨⟨.refl _, fun b o e => dl_same _ _ (dl_same _ _ e), i, fun b o e n => by have n' : G b = none := n; rw [n'] at e; cases e⟩, .refl _, ⟨i, start_al al (by rw [al.len, List.length_cons, hl]; exact hN), by simp [Ne.symm h3], fun q hq => by
      rcases List.mem_cons.mp hq with rfl | hq
      · exact ⟨h4, _, h1, [], .nil, .inl ⟨rfl, rfl⟩⟩
      · obtain rfl : q = (dx, mSd x []) := by simpa using hq
        exact ⟨h5, _, h2, rfl⟩⟩, fun q hq => by
      rcases List.mem_cons.mp hq with rfl | hq
      · show dl dx (dl x H) x = none
        rw [dl_ne (Ne.symm h3)]; exact dl_at
      · obtain rfl : q = (dx, mSd x []) := by simpa using hq
        exact dl_at⟩ { nx := fun _ H' => Q .non H', rt := Q }
    ⟨fun G' H' σ' ⟨Γ', M', s'⟩ => by
      obtain ⟨z1, ob, z2, vs, al', hv⟩ := s'.s.m (x, mSo C x dx ((psd d).map some)) (by simp)
      obtain ⟨y1, obd, y2, hd⟩ := s'.s.m (dx, mSd x ((psd d).map some)) (by simp)
      obtain ⟨xs, rfl, al2⟩ := al'.all
      have hd : obd = if ((psd d).map some).isEmpty then .own x else .xd [] := hd
      have hn := hne d
      have e1 : ((psd d).map some).isEmpty = false := by cases z : psd d with | nil => exact absurd z hn | cons _ _ => rfl
      rw [e1, if_neg (by simp)] at hd
      subst hd
      rcases hv with ⟨_, e2⟩ | ⟨rfl, _⟩
      · have := al2.len
        have l0 : xs.length = 0 := by have := congrArg List.length e2; simpa using this
        rw [l0] at this
        exact absurd (List.length_eq_zero_iff.mp this.symm) hn
      · exact q G' H' xs s'.t z1 y1 z2 y2 al2, fun _ _ _ z => z.elim, fun _ _ _ z => z, fun _ _ _ z => z⟩
  exact ⟨t, g1.nox, g2⟩
theorem xe_makeS {X : Cx} {e : Expr} {es : List Expr} {Γ : En} {M : Mu} {pos pp : Pos} {k j : Nat} {pn : List Str} {dvs : List V} {δ : Type} {args : δ → List Pv} {ok : δ → Prop} {C : Addr} {n : Str} {psd : δ → List Pv} {as : List Pv}
    (F : Id X.prog X.w X.K X.mg X.base C k pn dvs (spIS C args ok psd)) (d : δ) (hr : Room j X.A) (hm : X.mg n = some (.ref C)) (ha : XA X (e :: es) Γ M as) (hd : args d = as ++ dvs.map vVal) (ho : ok d) (hj : k + 1 ≤ j := by decide) (hg : Gl X n := by rfl) (hdb : (n == ("__debug__" : Str)) = false := by decide)
    (he : starEach (e :: es) X.env = (false, eval e X.env) :: starEach es X.env := by rfl) (hpl : (backTo pos (starEach es X.env)).any (·.1) = false := by rfl) : XE X (.Call (.Name n pp) (e :: es) [] pos) Γ M (vSlt C (psd d)) := fun G H σ s Q q => by
  obtain ⟨f, fd, ds, mk, hdv, hb, F⟩ := F.ex
  refine ⟨_, pe_make (E := E0) mk F (hr.mono hj) hg hm hb hdv pass0 pa_w hdb he hpl, ha G H σ s _ fun vs G1 H1 t1 r1 => ?_⟩
  intro x dx hx hdx ne
  have hgx : G1 x = none := t1.i.free hx
  have hgd : G1 dx = none := t1.i.free hdx
  have sm : Same G1 (upd (upd H1 dx (.own x)) x (.ins C dx [])) := fun b o e => by
    rw [upd_ne (ne_of_none e hgx), upd_ne (ne_of_none e hgd)]; exact t1.i _ _ e
  refine ⟨d, G1, x, dx, vs ++ dvs, rfl, upd_same, by rw [upd_ne ne, upd_same], ne, hgx, hgd, sm, ?_, ho, fun G' H' xs t h1 h2 h3 h4 h5 => ⟨rfl, ?_⟩⟩
  · rw [hd]
    refine r1.app ?_
    have : ∀ l : List V, AlA G1 l (l.map vVal) := fun l => by
      induction l with
      | nil => exact .nil
      | cons y l ih => exact .cons rfl ih
    exact this dvs
  have t2 : Stp G1 H1 (upd (upd G' dx (.xd [])) x (SlX.SlO x C dx (xs.map some))) H' := by
    refine ⟨fun b o e => ?_, fun b o e => t.h b o ?_, fun b o e => ?_, fun b o e n => ?_⟩
    · rw [upd_ne (ne_of_none e hgx), upd_ne (ne_of_none e hgd)]; exact t.g _ _ e
    · rw [dl_ne (ne_of_none e hdx), dl_ne (ne_of_none e hx), upd_ne (ne_of_none e hx), upd_ne (ne_of_none e hdx)]; exact e
    · by_cases q1 : b = x
      · subst q1; rw [upd_same] at e; cases e; exact h3
      · rw [upd_ne q1] at e
        by_cases q2 : b = dx
        · subst q2; rw [upd_same] at e; cases e; exact h4
        · rw [upd_ne q2] at e; exact t.i _ _ e
    · by_cases q1 : b = x
      · subst q1; exact hx
      · by_cases q2 : b = dx
        · subst q2; exact hdx
        · rw [upd_ne q1, upd_ne q2] at e
          have := t.n b o e n
          rwa [dl_ne q2, dl_ne q1, upd_ne q1, upd_ne q2] at this
  refine q (.ref x) _ H' (t1.trans t2) ⟨x, dx, xs, rfl, .inr ⟨upd_same, by rw [upd_ne ne, upd_same]⟩, h5.mono (le_same fun b o e => ?_)⟩
  have q1 : b ≠ x := fun z => by subst z; rw [h1] at e; cases e
  have q2 : b ≠ dx := fun z => by subst z; rw [h2] at e; cases e
  rw [upd_ne q1, upd_ne q2]; exact e
end K53
end KFd_
section KFe_
set_option maxRecDepth 100000
set_option maxHeartbeats 4000000
/-! KFe: own operators: in, *, +, ==. -/
namespace K53
open PySem PySem.Spec PyProof.Rows L2
section
variable {X : Cx} {C g : Addr} {n : Nat} {sp : Sp}
theorem ins_inst {pins : List (Addr × Obj)} {σ : L2.St} {H : Hp} {s : Shared} {a dx : Addr} {fs : List (Str × V)} (I : Inv X pins σ H s) (h : H a = some (.ins C dx fs)) : ∃ od, PySem.W.InstAt s.heap a (PySem.W.instObj C dx) C (some od) := by
  obtain ⟨mA, O, _⟩ := ins_get I.hok h
  obtain ⟨od, J, _⟩ := O.look
  exact ⟨od, J⟩
theorem op_inI (hs : PySem.W.findIn X.K (.ref C) "__contains__" = some (some (.ref g))) (hf : PySem.W.isFn X.K (.ref g) = true) (F : FnR X.prog X.w X.K X.mg X.base CX0 n g sp) (hr : Room n X.A) :
    OpR X (compareOp .In) (fun x y H Q => ∃ b dy fs, y = .ref b ∧ H b = some (.ins C dy fs) ∧ sp [y, x] H (fun v H' => ∃ k, v = .bl k ∧ Q (.bl k) H') E0) := by
  intro pins s σ H x y v u Q I rx ry h
  obtain ⟨b, dy, fs, rfl, hb, q⟩ := h
  cases (show u = Value.ref b from ry)
  obtain ⟨od, J⟩ := ins_inst I hb
  show wpAny _ _ (contains (.ref b) v >>= _) _ _ _
  refine wpAny_bind ?_
  unfold contains
  refine wpAny_holding ?_
  have L := PySem.W.looks_findIn (M := model X.prog X.w) I.kIn hs
  show wpAny _ _ (specialOf (.ref b) "__contains__" >>= _) _ _ _
  unfold specialOf
  refine wpAny_bind (wpAny_bind (J.type.here (L.here ?_)))
  have hne : ((some (Value.ref g) : Option Value) == some Value.none) = false := rfl
  simp only [hne, Bool.false_eq_true, if_false]
  unfold callSpecialUnlessNone? specialOf
  refine wpAny_bind (wpAny_bind (wpAny_bind (J.type.here (L.here ?_))))
  simp only []
  refine wpAny_holding ?_
  refine wpAny_bind ((PySem.W.bind_fn I.kIn _ (beq_iff_eq.mp hf)).here ?_)
  have hne2 : ((Value.ref g) == Value.none) = false := rfl
  simp only [hne2, Bool.false_eq_true, if_false]
  refine wpAny_bind (wpAny_mono (wpAny_call (run_fnR (us := [.ref b, v]) (vs := [.ref b, x]) F hr pass0 I (.cons rfl (.cons rx .nil)) q)) (fun w s' z => ?_) fun _ _ x => x)
  obtain ⟨z', H', I', rz, k, rfl, qz⟩ := z
  cases (show w = Value.bool k from rz)
  refine wpAny_pure ?_
  exact wpAny_truthy_bool (wpAny_pure ⟨.bl k, H', I', rfl, qz⟩)
theorem op_ninI (hs : PySem.W.findIn X.K (.ref C) "__contains__" = some (some (.ref g))) (hf : PySem.W.isFn X.K (.ref g) = true) (F : FnR X.prog X.w X.K X.mg X.base CX0 n g sp) (hr : Room n X.A) :
    OpR X (compareOp .NotIn) (fun x y H Q => ∃ b dy fs, y = .ref b ∧ H b = some (.ins C dy fs) ∧ sp [y, x] H (fun v H' => ∃ k, v = .bl k ∧ Q (.bl (!k)) H') E0) := by
  intro pins s σ H x y v u Q I rx ry h
  obtain ⟨b, dy, fs, rfl, hb, q⟩ := h
  cases (show u = Value.ref b from ry)
  obtain ⟨od, J⟩ := ins_inst I hb
  show wpAny _ _ (contains (.ref b) v >>= _) _ _ _
  refine wpAny_bind ?_
  unfold contains
  refine wpAny_holding ?_
  have L := PySem.W.looks_findIn (M := model X.prog X.w) I.kIn hs
  show wpAny _ _ (specialOf (.ref b) "__contains__" >>= _) _ _ _
  unfold specialOf
  refine wpAny_bind (wpAny_bind (J.type.here (L.here ?_)))
  have hne : ((some (Value.ref g) : Option Value) == some Value.none) = false := rfl
  simp only [hne, Bool.false_eq_true, if_false]
  unfold callSpecialUnlessNone? specialOf
  refine wpAny_bind (wpAny_bind (wpAny_bind (J.type.here (L.here ?_))))
  simp only []
  refine wpAny_holding ?_
  refine wpAny_bind ((PySem.W.bind_fn I.kIn _ (beq_iff_eq.mp hf)).here ?_)
  have hne2 : ((Value.ref g) == Value.none) = false := rfl
  simp only [hne2, Bool.false_eq_true, if_false]
  refine wpAny_bind (wpAny_mono (wpAny_call (run_fnR (us := [.ref b, v]) (vs := [.ref b, x]) F hr pass0 I (.cons rfl (.cons rx .nil)) q)) (fun w s' z => ?_) fun _ _ x => x)
  obtain ⟨z', H', I', rz, k, rfl, qz⟩ := z
  cases (show w = Value.bool k from rz)
  refine wpAny_pure ?_
  exact wpAny_truthy_bool (wpAny_pure ⟨.bl (!k), H', I', rfl, qz⟩)
theorem op_bin {op : Operator} {W : Hp → Addr → Prop} (hW : ∀ pins σ H (s : Shared) a, Inv X pins σ H s → W H a → ∃ ox od, PySem.W.InstAt s.heap a ox C (some od)) (hc : PySem.W.selfFirst X.K C = true) (hs : PySem.W.findIn X.K (.ref C) (PySem.dunder op.info.2) = some (some (.ref g))) (hf : PySem.W.isFn X.K (.ref g) = true)
    (F : FnR X.prog X.w X.K X.mg X.base CX0 n g sp) (hr : Room n X.A) : OpR X (binaryOp op) (fun x y H Q => ∃ a b, x = .ref a ∧ y = .ref b ∧ W H a ∧ W H b ∧ sp [x, y] H Q E0) := by
  intro pins s σ H x y v u Q I rx ry h
  obtain ⟨a, b, rfl, rfl, ha, hb, q⟩ := h
  cases (show v = Value.ref a from rx)
  cases (show u = Value.ref b from ry)
  obtain ⟨ox, od, J⟩ := hW _ _ _ _ _ I ha
  obtain ⟨ox', od', J'⟩ := hW _ _ _ _ _ I hb
  obtain ⟨m, hF⟩ := I.fr
  refine PySem.W.binop_K hF I.ok.mod.kin J J'.type hc hs hf ?_
  refine wpAny_mono (wpAny_call (run_fnR (us := [.ref a, .ref b]) (vs := [.ref a, .ref b]) F hr pass0 I (.cons rfl (.cons rfl .nil)) q)) (fun w s' z => ?_) fun _ _ x => x
  obtain ⟨z', H', I', rz, qz⟩ := z
  exact SlX.cmpback rz ⟨z', H', I', rz, qz⟩
theorem op_cmpO {op : CmpOp} {W : Hp → Addr → Prop} (hW : ∀ pins σ H (s : Shared) a, Inv X pins σ H s → W H a → ∃ ox od, PySem.W.InstAt s.heap a ox C (some od)) (hop : ∀ a b, compareOp op a b = richCompare op a b) (hs : PySem.W.findIn X.K (.ref C) (cmpInfo op).2.1 = some (some (.ref g))) (hf : PySem.W.isFn X.K (.ref g) = true) (hn : PySem.W.notFirst X.K C (.ref C) = true)
    (F : FnR X.prog X.w X.K X.mg X.base CX0 n g sp) (hr : Room n X.A) : OpR X (compareOp op) (fun x y H Q => ∃ a b, x = .ref a ∧ y = .ref b ∧ W H a ∧ W H b ∧ sp [x, y] H Q E0) := by
  intro pins s σ H x y v u Q I rx ry h
  obtain ⟨a, b, rfl, rfl, ha, hb, q⟩ := h
  cases (show v = Value.ref a from rx)
  cases (show u = Value.ref b from ry)
  obtain ⟨ox, od, J⟩ := hW _ _ _ _ _ I ha
  obtain ⟨ox', od', J'⟩ := hW _ _ _ _ _ I hb
  obtain ⟨m, hF⟩ := I.fr
  rw [hop]
  refine PySem.W.cmp_K (op := op) (tb := .ref C) hr.units0 hF I.ok.mod.kin J J'.type hn hs hf ?_
  refine wpAny_mono (wpAny_call (run_fnR (us := [.ref a, .ref b]) (vs := [.ref a, .ref b]) F hr pass0 I (.cons rfl (.cons rfl .nil)) q)) (fun w s' z => ?_) fun _ _ x => x
  obtain ⟨z', H', I', rz, qz⟩ := z
  exact SlX.cmpback rz ⟨z', H', I', rz, qz⟩
end
theorem xss_consP {X : Cx} {e0 : Eb} {P : Pst} {Γ Γ' : En} {M M' : Mu} {st : Stmt} {rest : List Stmt} {φ : Prop} (h : XS X e0 st Γ M { P with nx := fun G H σ => Sta e0 G H σ Γ' M' ∧ φ }) (hr : φ → XSs X e0 rest Γ' M' P) : XSs X e0 (st :: rest) Γ M P := fun G H σ s D f =>
  ⟨_, pss_cons ps_w pss_w, h G H σ s _ ⟨fun G1 H1 σ1 s1 => hr s1.2 G1 H1 σ1 s1.1 D f, f.rt, f.bk, f.ct⟩⟩
theorem fg_nil : Fg [] [] := ⟨rfl, fun i p e => by simp at e⟩
theorem fg_keep {x : Option Pv} {Γ Γ' : En} (h : Fg Γ' Γ) : Fg (x :: Γ') (x :: Γ) := ⟨by rw [List.length_cons, List.length_cons, h.1], fun i p e => by
  cases i with
  | zero => exact e
  | succ i => exact h.2 i p (by simpa using e)⟩
theorem fg_drop {x : Option Pv} {Γ Γ' : En} (h : Fg Γ' Γ) : Fg (none :: Γ') (x :: Γ) := ⟨by rw [List.length_cons, List.length_cons, h.1], fun i p e => by
  cases i with
  | zero => simp at e
  | succ i => exact h.2 i p (by simpa using e)⟩
section
variable {X : Cx} {e a b c o k' it tg : Expr} {es : List Expr} {Γ Γ' : En} {M : Mu} {p q z : Pv} {ps : List Pv} {x y : V} {pos pp apos cpos tpos : Pos} {e0 : Eb} {P : Pst} {kp fs : List (Str × Pv)} {s : Str} {k j : Nat} {pn : List Str} {dvs : List V} {δ : Type} {args : δ → List Pv} {ok : δ → Prop} {res : δ → Pv} {C : Addr} {m n : Str}
theorem xe_inI {bt : δ → Bool} (F : Md X.prog X.w X.K X.mg X.base C "__contains__" k pn (spP args ok fun d => vBl (bt d))) (d : δ) (hr : Room j X.A) (ha : XE X a Γ M p) (hb : XE X b Γ M (vIns C fs)) (hd : args d = [vIns C fs, p]) (hok : ok d) (hj : k ≤ j := by decide) (hm : behindInMarks .In b = false := by rfl) :
    XE X (.Compare a [.In] [b] pos) Γ M (vBl (bt d)) := by
  obtain ⟨f, fd, hm', hb', F⟩ := F.ex
  refine xe_cmpG (op_inI hm'.at_ hm'.fn (F.raw hb' .nil) (hr.mono hj)) ha hb (fun G H v w i rv rw Q kq => ?_) hm
  obtain ⟨ad, dx, fv, rfl, h1, al⟩ := rw
  refine ⟨ad, dx, fv, rfl, i _ _ h1, d, G, i, ?_, hok, fun v' G' H' t r => ⟨_, r, kq _ G' H' t rfl⟩⟩
  rw [hd]
  exact .cons ⟨ad, dx, fv, rfl, h1, al⟩ (.cons rv .nil)
theorem xt_ninI {bt : δ → Bool} (F : Md X.prog X.w X.K X.mg X.base C "__contains__" k pn (spP args ok fun d => vBl (bt d))) (d : δ) (hr : Room j X.A) (ha : XE X a Γ M p) (hb : XE X b Γ M (vIns C fs)) (hd : args d = [vIns C fs, p]) (hok : ok d) (hj : k ≤ j := by decide) (hm : behindInMarks .NotIn b = false := by rfl) :
    XT X (.Compare a [.NotIn] [b] pos) Γ M (!bt d) := by
  obtain ⟨f, fd, hm', hb', F⟩ := F.ex
  refine xt_cmpG (op_ninI hm'.at_ hm'.fn (F.raw hb' .nil) (hr.mono hj)) ha hb (fun G H v w i rv rw Q kq => ?_) hm
  obtain ⟨ad, dx, fv, rfl, h1, al⟩ := rw
  refine ⟨ad, dx, fv, rfl, i _ _ h1, d, G, i, ?_, hok, fun v' G' H' t r => ⟨_, r, kq G' H' t⟩⟩
  rw [hd]
  exact .cons ⟨ad, dx, fv, rfl, h1, al⟩ (.cons rv .nil)
end
end K53
end KFe_
section KFg_
set_option maxRecDepth 100000
set_option maxHeartbeats 4000000
/-! KFg: dicts with pairs of texts as keys; calls that write. -/
namespace K53
open PySem PySem.Spec PyProof.Rows L2
abbrev K2 := Str × Str
def kk2 (k : K2) : List Key := [.inr k.1, .inr k.2]
inductive AlT (G : Hp) : List (List Key × V) → List (K2 × Pv) → Prop where
  | nil : AlT G [] []
  | cons {k : K2} {v : V} {p : Pv} {vs : List (List Key × V)} {ps : List (K2 × Pv)} (h : p.r G v) (t : AlT G vs ps) : AlT G ((kk2 k, v) :: vs) ((k, p) :: ps)
theorem AlT.mono {G G' : Hp} (l : Le G G') : ∀ {vs : List (List Key × V)} {ps : List (K2 × Pv)}, AlT G vs ps → AlT G' vs ps
  | _, _, .nil => .nil
  | _, _, .cons h t => .cons (Pv.mono _ l h) (t.mono l)
theorem AlT.len {G : Hp} : ∀ {vs : List (List Key × V)} {ps : List (K2 × Pv)}, AlT G vs ps → vs.length = ps.length
  | _, _, .nil => rfl
  | _, _, .cons _ t => by rw [List.length_cons, List.length_cons, t.len]
theorem kk2_inj {a b : K2} : kk2 a = kk2 b ↔ a = b := by
  constructor
  · intro h
    unfold kk2 at h
    injection h with h1 h2
    injection h2 with h2 _
    injection h1 with h1
    injection h2 with h2
    exact Prod.ext h1 h2
  · intro h; rw [h]
theorem AlT.look {G : Hp} {s : K2} : ∀ {kv : List (List Key × V)} {kp : List (K2 × Pv)} {q : Pv}, AlT G kv kp → kp.lookup s = some q → ∃ v, valV kv (kk2 s) = some v ∧ q.r G v
  | _, _, q, .nil, e => by simp at e
  | _, _, q, .cons (k := k) h t, e => by
    rw [List.lookup_cons] at e
    by_cases z : s = k
    · subst z
      rw [beq_self_eq_true] at e
      cases e
      exact ⟨_, valV_pos rfl, h⟩
    · rw [show (s == k) = false by simpa using z] at e
      obtain ⟨v, h1, h2⟩ := t.look e
      exact ⟨v, by rw [valV_neg (fun y => z (kk2_inj.mp y).symm)]; exact h1, h2⟩
theorem AlT.none {G : Hp} {s : K2} : ∀ {kv : List (List Key × V)} {kp : List (K2 × Pv)}, AlT G kv kp → kp.lookup s = Option.none → valV kv (kk2 s) = Option.none
  | _, _, .nil, e => rfl
  | _, _, .cons (k := k) h t, e => by
    rw [List.lookup_cons] at e
    by_cases z : s = k
    · subst z
      rw [beq_self_eq_true] at e
      cases e
    · rw [show (s == k) = false by simpa using z] at e
      rw [valV_neg (fun y => z (kk2_inj.mp y).symm)]
      exact t.none e
theorem AlT.isSome {G : Hp} {s : K2} {kv : List (List Key × V)} {kp : List (K2 × Pv)} (h : AlT G kv kp) : (valV kv (kk2 s)).isSome = (kp.lookup s).isSome := by
  cases e : kp.lookup s with
  | none => rw [h.none e]; rfl
  | some q => obtain ⟨v, h1, _⟩ := h.look e; rw [h1]; rfl
/-- l[k] = v on pairs -/
def putA {κ α : Type} [DecidableEq κ] (s : κ) (q : α) : List (κ × α) → List (κ × α)
  | [] => [(s, q)]
  | (k, p) :: r => if k = s then (k, q) :: r else (k, p) :: putA s q r
theorem putA_map {κ α β : Type} [DecidableEq κ] {s : κ} {q : α} {f : α → β} : ∀ {l : List (κ × α)}, putA s (f q) (l.map fun x => (x.1, f x.2)) = (putA s q l).map fun x => (x.1, f x.2)
  | [] => rfl
  | (k, p) :: r => by
    show putA s (f q) ((k, f p) :: r.map fun x => (x.1, f x.2)) = _
    unfold putA
    by_cases h : k = s
    · rw [if_pos h, if_pos h]; rfl
    · rw [if_neg h, if_neg h, putA_map]; rfl
theorem lookA_map {κ α β : Type} [BEq κ] {s : κ} {f : α → β} : ∀ {l : List (κ × α)}, (l.map fun x => (x.1, f x.2)).lookup s = (l.lookup s).map f
  | [] => rfl
  | (k, x) :: m => by
    rw [List.map_cons, List.lookup_cons, List.lookup_cons]
    cases s == k with
    | true => rfl
    | false => exact lookA_map
theorem putA_look {κ α : Type} [BEq κ] [LawfulBEq κ] [DecidableEq κ] {s s' : κ} {q : α} : ∀ {l : List (κ × α)}, (putA s q l).lookup s' = if s' = s then some q else l.lookup s'
  | [] => by
    unfold putA
    rw [List.lookup_cons]
    by_cases e : s' = s
    · rw [if_pos e, e, beq_self_eq_true]
    · rw [if_neg e, show (s' == s) = false by simpa using e]
  | (k, p) :: r => by
    unfold putA
    by_cases e : k = s
    · rw [if_pos e, List.lookup_cons, List.lookup_cons]
      subst e
      by_cases e2 : s' = k
      · rw [if_pos e2, e2, beq_self_eq_true]
      · rw [if_neg e2, show (s' == k) = false by simpa using e2]
    · rw [if_neg e, List.lookup_cons, List.lookup_cons]
      by_cases e2 : s' = k
      · subst e2; rw [beq_self_eq_true, if_neg e]
      · rw [show (s' == k) = false by simpa using e2]
        exact putA_look
theorem putA_keys {κ α : Type} [DecidableEq κ] {s : κ} {q : α} : ∀ {l : List (κ × α)}, (l.map (·.1)).Nodup → ((putA s q l).map (·.1)).Nodup ∧ ∀ x ∈ (putA s q l).map (·.1), x = s ∨ x ∈ l.map (·.1)
  | [], _ => by simp [putA]
  | (k, p) :: r, nd => by
    rw [List.map_cons, List.nodup_cons] at nd
    unfold putA
    by_cases e : k = s
    · rw [if_pos e]
      exact ⟨List.nodup_cons.mpr nd, fun x hx => .inr hx⟩
    · rw [if_neg e]
      obtain ⟨h1, h2⟩ := putA_keys (s := s) (q := q) nd.2
      refine ⟨List.nodup_cons.mpr ⟨fun hm => ?_, h1⟩, fun x hx => ?_⟩
      · rcases h2 _ hm with h | h
        · exact e h
        · exact nd.1 h
      · rcases List.mem_cons.mp hx with h | h
        · exact .inr (by rw [h]; exact List.mem_cons_self)
        · rcases h2 x h with h | h
          · exact .inl h
          · exact .inr (List.mem_cons_of_mem _ h)
theorem putA_len {κ α : Type} [DecidableEq κ] {s : κ} {q : α} : ∀ {l : List (κ × α)}, (putA s q l).length ≤ l.length + 1
  | [] => Nat.le_refl _
  | (k, p) :: r => by
    unfold putA
    by_cases e : k = s
    · rw [if_pos e]; exact Nat.le_succ _
    · rw [if_neg e, List.length_cons, List.length_cons]
      exact Nat.succ_le_succ putA_len
theorem putK_consT {k : List Key} {x v : V} {kv : List (List Key × V)} {j : List Key} (h : j ≠ k) : putK ((j, x) :: kv) k v = (j, x) :: putK kv k v := by
  unfold putK
  rw [List.any_cons]
  have e : decide (((j, x) : List Key × V).1 = k) = false := decide_eq_false h
  rw [e, Bool.false_or]
  split
  · rw [List.map_cons, if_neg h]
  · rfl
theorem AlT.keys {G : Hp} : ∀ {kv : List (List Key × V)} {kp : List (K2 × Pv)}, AlT G kv kp → kv.map (·.1) = kp.map (fun x => kk2 x.1)
  | _, _, .nil => rfl
  | _, _, .cons h t => by rw [List.map_cons, List.map_cons, t.keys]
theorem AlT.put {G : Hp} {s : K2} {q : Pv} {v : V} (hv : q.r G v) : ∀ {kv : List (List Key × V)} {kp : List (K2 × Pv)}, AlT G kv kp → (kp.map (·.1)).Nodup → AlT G (putK kv (kk2 s) v) (putA s q kp)
  | _, _, .nil, _ => .cons hv .nil
  | _, _, .cons (k := k) (v := x) (vs := kv) (ps := kp) h t, nd => by
    rw [List.map_cons, List.nodup_cons] at nd
    by_cases z : k = s
    · subst z
      have e : putK ((kk2 k, x) :: kv) (kk2 k) v = (kk2 k, v) :: kv := by
        unfold putK
        rw [List.any_cons]
        have e1 : decide (((kk2 k, x) : List Key × V).1 = kk2 k) = true := decide_eq_true rfl
        rw [e1, Bool.true_or, if_pos rfl, List.map_cons, if_pos rfl]
        congr 1
        have : ∀ y ∈ kv, (if y.1 = kk2 k then (y.1, v) else y) = y := fun y hy => by
          rw [if_neg]
          intro e
          apply nd.1
          have : kk2 k ∈ kv.map (·.1) := e ▸ List.mem_map_of_mem (f := (·.1)) hy
          rw [t.keys] at this
          obtain ⟨w, hw, ew⟩ := List.mem_map.mp this
          have := kk2_inj.mp ew
          rw [← this]
          exact List.mem_map_of_mem (f := (·.1)) hw
        rw [List.map_congr_left this, List.map_id']
      rw [e]
      unfold putA
      rw [if_pos rfl]
      exact .cons hv t
    · rw [putK_consT (fun y => z (kk2_inj.mp y))]
      unfold putA
      rw [if_neg z]
      exact .cons h (t.put hv nd.2)
def vDicT (kp : List (K2 × Pv)) : Pv := ⟨fun G v => ∃ d kv, v = .ref d ∧ G d = some (.dT kv) ∧ AlT G kv kp, fun l ⟨d, kv, e, h, q⟩ => ⟨d, kv, e, l.at h nDk_dT, q.mono l⟩⟩
def mDicT (kp : List (K2 × Pv)) : Mo := ⟨fun G o => ∃ kv, o = .dT kv ∧ AlT G kv kp, fun l ⟨xs, e, q⟩ => ⟨xs, e, q.mono l⟩⟩
theorem mDicT_dic {kp : List (K2 × Pv)} {G : Hp} {v : Addr} {u : HO} (h : (mDicT kp).r G u) (e : G v = some u) : (vDicT kp).r G (.ref v) := by
  obtain ⟨xs, rfl, q⟩ := h
  exact ⟨v, xs, rfl, e, q⟩
def VwT (M : Mu) (p : Pv) (kp : List (K2 × Pv)) : Prop := ∀ G H σ Γ, St0 G H σ Γ M → ∀ v, p.r G v → ∃ d kv, v = .ref d ∧ H d = some (.dT kv) ∧ AlT G kv kp
theorem vwT {M : Mu} {kp : List (K2 × Pv)} : VwT M (vDicT kp) kp := fun G H σ Γ s v ⟨d, kv, e, h, q⟩ => ⟨d, kv, e, s.i _ _ h, q⟩
theorem vwT_mu {M : Mu} {a : Addr} {kp : List (K2 × Pv)} (h : (a, mDicT kp) ∈ M) : VwT M (vVal (.ref a)) kp := fun G H σ Γ s v r => by
  obtain ⟨_, ob, h1, kv, rfl, q⟩ := s.m _ h
  exact ⟨a, kv, r, h1, q⟩
section
variable {X : Cx} {e a b c o k' it tg f' : Expr} {es : List Expr} {Γ Γ' : En} {M : Mu} {p q z : Pv} {ps : List Pv} {x y : V} {pos pp apos cpos tpos : Pos} {e0 : Eb} {P : Pst} {kp : List (K2 × Pv)} {kd : List (Str × Pv)} {fs : List (Str × Pv)} {s : K2} {sd : Str} {M1 M2 : Mu}
theorem key2 {G H : Hp} {v : V} (i : Same G H) (r : (vTup [vStr s.1, vStr s.2]).r G v) : ∃ b, v = .ref b ∧ H b = some (.tup ((kk2 s).map kV)) := by
  obtain ⟨b, xs, rfl, h1, h2⟩ := r
  obtain ⟨u, w, rfl, r1, r2⟩ := alA2 h2
  cases r1; cases r2
  exact ⟨b, rfl, i _ _ h1⟩
theorem xn_dicT : XN X (.Dict [] [] pos) Γ M (mDicT []) := fun G H σ s Q k => ⟨_, pe_dnewT, fun a ha => k a _ G _ (Stp.tmp s.i ha) ha (s.i.free ha) upd_same ⟨[], rfl, .nil⟩⟩
theorem xe_dgetT (hu : X.A.units + 1 < cLine) (ho : XE X o Γ M p) (hk : XE X k' Γ M (vTup [vStr s.1, vStr s.2])) (vw : VwT M p kp) (hl : kp.lookup s = some q) (hs : NoSl k' := by exact fun _ _ => rfl) : XE X (.Subscript o k' pos) Γ M q := fun G H σ st Q w =>
  ⟨_, pe_dget hu pe_w pe_w hs, x2s ho hk st fun v u G' H' s' t rv ru => by
    obtain ⟨d, kv, rfl, rd, al⟩ := vw _ _ _ _ s' v rv
    obtain ⟨b, rfl, hb⟩ := key2 s'.i ru
    obtain ⟨v, h1, h2⟩ := al.look hl
    exact ⟨d, v, rfl, .inr ⟨kv, kk2 s, b, .inl rd, rfl, hb, h1.symm⟩, w v G' H' t h2⟩⟩
theorem xt_dinT (hu : X.A.units + 1 < cLine) (hk : XE X k' Γ M (vTup [vStr s.1, vStr s.2])) (ho : XE X o Γ M p) (vw : VwT M p kp) (hm : behindInMarks .In o = false := by rfl) : XT X (.Compare k' [.In] [o] pos) Γ M (kp.lookup s).isSome := fun G H σ st Q w =>
  ⟨_, pt_cmp (pc_din hu pe_w pe_w) hm, x2s hk ho st fun u v G' H' s' t ru rv => by
    obtain ⟨d, kv, rfl, rd, al⟩ := vw _ _ _ _ s' v rv
    obtain ⟨b, rfl, hb⟩ := key2 s'.i ru
    exact ⟨d, _, rfl, .inr ⟨kv, kk2 s, b, .inl rd, rfl, hb, rfl⟩, _, rfl, by rw [al.isSome]; exact w G' H' t⟩⟩
theorem xt_dninT (hu : X.A.units + 1 < cLine) (hk : XE X k' Γ M (vTup [vStr s.1, vStr s.2])) (ho : XE X o Γ M p) (vw : VwT M p kp) (hm : behindInMarks .NotIn o = false := by rfl) : XT X (.Compare k' [.NotIn] [o] pos) Γ M (!(kp.lookup s).isSome) := fun G H σ st Q w =>
  ⟨_, pt_cmp (pc_dnotin hu pe_w pe_w) hm, x2s hk ho st fun u v G' H' s' t ru rv => by
    obtain ⟨d, kv, rfl, rd, al⟩ := vw _ _ _ _ s' v rv
    obtain ⟨b, rfl, hb⟩ := key2 s'.i ru
    exact ⟨d, _, rfl, .inr ⟨kv, kk2 s, b, .inl rd, rfl, hb, rfl⟩, _, rfl, by rw [al.isSome]; exact w G' H' t⟩⟩
/-- d[a, b] = v -/
theorem xs_dputT {a : Addr} (hu : X.A.units + 1 < cLine) (he : XE X e Γ (M1 ++ (a, mDicT kp) :: M2) p) (ho : XE X o Γ (M1 ++ (a, mDicT kp) :: M2) (vVal (.ref a))) (hk : XE X k' Γ (M1 ++ (a, mDicT kp) :: M2) (vTup [vStr s.1, vStr s.2])) (k : ∀ G H σ, Sta e0 G H σ Γ (M1 ++ (a, mDicT (putA s p kp)) :: M2) → P.nx G H σ)
    (hn : (kp.map (·.1)).Nodup) (hz : kp.length < sizeLine) (hs : swapsWith e (some (.Subscript o k' apos)) pos.line X.env = pure false := by rfl) :
    XS X e0 (.Assign [.Subscript o k' apos] e pos) Γ (M1 ++ (a, mDicT kp) :: M2) P := fun G H σ st D f =>
  ⟨_, ps_dput hu pe_w pe_w pe_w hs, he G H σ st.s _ fun v G1 H1 t1 r1 => ho G1 H1 σ (st.stp t1).s _ fun u G2 H2 t2 r2 => hk G2 H2 σ ((st.stp t1).stp t2).s _ fun w G3 H3 t3 r3 => by
    obtain rfl : u = .ref a := r2
    have s3 := ((st.stp t1).stp t2).stp t3
    obtain ⟨b, rfl, hb⟩ := key2 s3.s.i r3
    obtain ⟨hg, ob, hh, xs, rfl, al⟩ := s3.s.m (a, mDicT kp) (by simp)
    exact ⟨a, _, rfl, DPut.t hh hb (by rw [al.len]; exact hz), f.nx _ _ _ (k _ _ _ (s3.write ⟨_, rfl, al.put (Pv.mono _ (le_same (t2.g.trans t3.g)) r1) hn⟩))⟩⟩
/-- d.setdefault(k, v) -/
def setD (s : Str) (q : Pv) (kp : List (Str × Pv)) : List (Str × Pv) := if (kp.lookup s).isSome then kp else putD s q kp
theorem xs_setdef {a : Addr} (ho : XE X o Γ (M1 ++ (a, mDic kd) :: M2) (vVal (.ref a))) (hk : XE X k' Γ (M1 ++ (a, mDic kd) :: M2) (vStr sd)) (he : XE X f' Γ (M1 ++ (a, mDic kd) :: M2) p) (k : ∀ G H σ, Sta e0 G H σ Γ (M1 ++ (a, mDic (setD sd p kd)) :: M2) → P.nx G H σ)
    (hn : (kd.map (·.1)).Nodup) (hz : kd.length < sizeLine) (m : L2.M2 X o "setdefault" apos k' f' cpos) (hs : swapsWith (.Call (.Attribute o "setdefault" apos) [k', f'] [] cpos) none pos.line X.env = pure false := by rfl) :
    XS X e0 (.Expr (.Call (.Attribute o "setdefault" apos) [k', f'] [] cpos) pos) Γ (M1 ++ (a, mDic kd) :: M2) P := fun G H σ st D f =>
  ⟨_, ps_expr (pe_dsetd pe_w pe_w pe_w m) hs, ho G H σ st.s _ fun u G1 H1 t1 r1 => by
    obtain rfl : u = .ref a := r1
    have s1 := st.stp t1
    obtain ⟨hg, ob, hh, xs, rfl, al⟩ := s1.s.m (a, mDic kd) (by simp)
    refine ⟨a, rfl, .inl ⟨xs, .inl hh⟩, hk G1 H1 σ s1.s _ fun w G2 H2 t2 r2 => he G2 H2 σ (s1.stp t2).s _ fun v G3 H3 t3 r3 => ?_⟩
    obtain rfl : w = .str sd := r2
    have s3 := (s1.stp t2).stp t3
    obtain ⟨hg, ob, hh, xs, rfl, al⟩ := s3.s.m (a, mDic kd) (by simp)
    refine ⟨xs, .inr sd, hh, rfl, by rw [al.len]; exact hz, fun v' hv => ?_, fun hv => ?_⟩
    · have e1 : (kd.lookup sd).isSome = true := by rw [← al.isSome, hv]; rfl
      have e2 : setD sd p kd = kd := if_pos e1
      rw [e2] at k
      exact f.nx _ _ _ (k _ _ _ s3)
    · have e1 : ¬ (kd.lookup sd).isSome = true := by rw [← al.isSome, hv]; simp
      have e2 : setD sd p kd = putD sd p kd := if_neg e1
      rw [e2] at k
      exact f.nx _ _ _ (k _ _ _ (s3.write ⟨_, rfl, al.put r3 hn⟩))⟩
end
end K53
end KFg_
section KFh_
set_option maxRecDepth 100000
set_option maxHeartbeats 4000000
/-! KFh: calls that write what is under way. -/
namespace K53
open PySem PySem.Spec PyProof.Rows L2
def dls (as : List Addr) (H : Hp) : Hp := fun b => if b ∈ as then none else H b
theorem dls_in {as : List Addr} {H : Hp} {b : Addr} (h : b ∈ as) : dls as H b = none := if_pos h
theorem dls_out {as : List Addr} {H : Hp} {b : Addr} (h : b ∉ as) : dls as H b = H b := if_neg h
theorem dls_same {as : List Addr} {H : Hp} : Same (dls as H) H := fun b o e => by
  by_cases h : b ∈ as
  · rw [dls_in h] at e; cases e
  · rwa [dls_out h] at e
def spM {δ : Type} (args : δ → List Pv) (ok : δ → Prop) (M0 M1 : δ → Mu) : Sp := fun vs H Q _ => ∃ d G, Same G H ∧ AlA G vs (args d) ∧ ok d ∧ ((M0 d).map (·.1)).Nodup ∧ (∀ q ∈ M0 d, G q.1 = none ∧ ∃ ob, H q.1 = some ob ∧ q.2.r G ob) ∧
  ∀ G' H', Stp G (dls ((M0 d).map (·.1)) H) G' H' → (∀ q ∈ M1 d, G' q.1 = none ∧ ∃ ob, H' q.1 = some ob ∧ q.2.r G' ob) → Q .non H'
def mP (e0 : Eb) (M1 : Mu) : Pst := ⟨fun G H σ => ∃ Γ, Sta e0 G H σ Γ M1, fun _ _ _ => False, fun _ _ _ => False, fun _ _ _ => False⟩
theorem fdm_of {P : Program} {w : World} {K : PySem.W.Frag} {mg : Str → Option Value} {base : Heap} {δ : Type} {args : δ → List Pv} {ok : δ → Prop} {M0 M1 : δ → Mu} {x qual : Str} {params : Arguments} {body : List Stmt} {scope : Scope} {dvs : List V} {kws : List (Str × V)} {f : Addr} {fd : FuncData} {N ps : List Str} {k : Nat}
    (F : FunD K x qual params body scope dvs kws f fd) (S : FnScope N ps scope) (hl : ∀ d, (args d).length = ps.length) (hN : ps.length ≤ N.length)
    (h : ∀ (cdv : Value) (A : Around) (outer : List Env) (s : Shared) (H : Hp) (E : XK), Room k (A.deeper (envOfC qual scope s.heap.objs.size f cdv)) → ∀ d G, ok d → 
      XSs (cxOf CX0 P w K mg base N qual scope f cdv A outer s H E).nox ⟨G, G, dls ((M0 d).map (·.1)) H⟩ body ((args d).map some ++ List.replicate (N.length - (args d).length) none) (M0 d) (mP ⟨G, G, dls ((M0 d).map (·.1)) H⟩ (M1 d))) : FnOk P w K mg base CX0 (k + 1) f fd ps (spM args ok M0 M1) := by
  refine F.ok S (fun vs H Q E ⟨d, G, i, a, o, _⟩ => by rw [a.len, hl]) fun cdv A outer s H vs Q E hr ⟨d, G, i, a, o, nd, m, q⟩ => ?_
  obtain ⟨t, h1, h2⟩ := h cdv A outer s H E hr d G o G H (L2.start N vs) ⟨⟨.refl _, dls_same, i, fun b o e n => by have n' : G b = none := n; rw [n'] at e; cases e⟩, .refl _, ⟨i, start_al a (by rw [a.len, hl]; exact hN), nd, m⟩, fun q hq => dls_in (List.mem_map_of_mem hq)⟩ { nx := fun _ H' => Q .non H', rt := Q }
    ⟨fun G' H' _ ⟨Γ, s'⟩ => q G' H' s'.t s'.s.m, fun _ _ _ z => z.elim, fun _ _ _ z => z, fun _ _ _ z => z⟩
  exact ⟨t, h1.nox, h2⟩
theorem Sta.called {e0 : Eb} {G H G' H' : Hp} {σ : L2.St} {Γ : En} {M M' : Mu} (s : Sta e0 G H σ Γ M) (t : Stp G (dls (M.map (·.1)) H) G' H') (hk : M'.map (·.1) = M.map (·.1)) (m : ∀ q ∈ M', G' q.1 = none ∧ ∃ ob, H' q.1 = some ob ∧ q.2.r G' ob) : Sta e0 G' H' σ Γ M' := by
  have out : ∀ b o, e0.H b = some o → b ∉ M.map (·.1) := fun b o e hm => by
    obtain ⟨q, hq, rfl⟩ := List.mem_map.mp hm
    rw [s.f q hq] at e; cases e
  refine ⟨⟨s.t.g.trans t.g, fun b o e => t.h b o (by rw [dls_out (out b o e)]; exact s.t.h b o e), t.i, fun b o e n => ?_⟩, s.b.trans t.g, ⟨t.i, s.s.a.mono (le_same t.g), by rw [hk]; exact s.s.nd, m⟩, fun q hq => ?_⟩
  · cases z : G b with
    | some u => exact s.t.n b u z n
    | none =>
      have h1 := t.n b o e z
      cases z2 : e0.H b with
      | none => rfl
      | some u =>
        have := s.t.h b u z2
        rw [dls_out (out b u z2), this] at h1
        cases h1
  · have : q.1 ∈ M.map (·.1) := by rw [← hk]; exact List.mem_map_of_mem hq
    obtain ⟨q', hq', e⟩ := List.mem_map.mp this
    rw [← e]; exact s.f q' hq'
/-- self.m(..), self under way -/
theorem xss_methM {X : Cx} {e o : Expr} {es : List Expr} {Γ : En} {ps : List Pv} {pos pos' apos : Pos} {e0 : Eb} {P : Pst} {fs : List (Str × Pv)} {k j : Nat} {pn : List Str} {δ : Type} {args : δ → List Pv} {ok : δ → Prop} {M0 M1 : δ → Mu} {C x : Addr} {m : Str} {rest : List Stmt} {pl : Sem Bool}
    (F : Md X.prog X.w X.K X.mg X.base C m k pn (spM args ok M0 M1)) (d : δ) (hr : Room j X.A) (cl : Cls X.K C) (ho : XE X o Γ (M0 d) (vVal (.ref x))) (hx : (x, mIns C fs) ∈ M0 d) (hm : fs.lookup m = none) (ha : XA X (e :: es) Γ (M0 d) ps) (hd : args d = vVal (.ref x) :: ps) (hok : ok d) (hk : (M1 d).map (·.1) = (M0 d).map (·.1)) (kk : XSs X e0 rest Γ (M1 d) P) (hj : k ≤ j := by decide)
    (hst : starEach (e :: es) X.env = (false, eval e X.env) :: starEach es X.env := by rfl) (hpl : (backTo pos (starEach es X.env)).any (·.1) = false := by rfl)
    (ht : eval (.Call (.Attribute o m apos) (e :: es) [] pos) X.env = (do
      let ov ← eval o X.env
      standAt apos.atName
      let (f, first) ← holding [ov] (getMethod ov m pl)
      callWith pos f first (backTo pos (starEach (e :: es) X.env)) (backToKw pos (keywordEach [] X.env))) := by rfl) (hs : swapsWith (.Call (.Attribute o m apos) (e :: es) [] pos) none pos'.line X.env = pure false := by rfl) :
    XSs X e0 (.Expr (.Call (.Attribute o m apos) (e :: es) [] pos) pos' :: rest) Γ (M0 d) P := fun G H σ s D f => by
  obtain ⟨g, fd, hm', hb, F⟩ := F.ex
  refine ⟨_, pss_cons (ps_expr (pe_meth (E := E0) pe_w cl hm' F (hr.mono hj) hb .nil pass0 pa_w hst hpl ht) hs) pss_w, ho G H σ s.s _ fun v G1 H1 t1 r1 => ?_⟩
  obtain rfl : v = .ref x := r1
  have s1 := s.stp t1
  obtain ⟨hg, ob, hh, dx, fv, rfl, al⟩ := s1.s.m _ hx
  refine ⟨x, dx, fv, rfl, hh, al.none hm, ha G1 H1 σ s1.s _ fun vs G2 H2 t2 r2 => ?_⟩
  have s2 := s1.stp t2
  refine ⟨d, G2, s2.s.i, by rw [hd, List.append_nil]; exact .cons rfl r2, hok, s2.s.nd, s2.s.m, fun G' H' t m => kk G' H' σ (s2.called t hk m) D f⟩
end K53
end KFh_
section KFi_
set_option maxRecDepth 100000
set_option maxHeartbeats 4000000
/-! KFi: == and != of lists and dicts; + of lists. -/
namespace K53
open PySem PySem.Spec PyProof.Rows L2
section
variable {X : Cx}
theorem op_eqNil (hu : X.A.units < cLine) : OpR X (compareOp .Eq) (fun x y H Q => ∃ a b xs, x = .ref a ∧ y = .ref b ∧ H a = some (.lst xs) ∧ H b = some (.lst []) ∧ Q (.bl xs.isEmpty) H) := by
  intro pins s σ H x y v u Q I rx ry h
  obtain ⟨a, b, xs, rfl, rfl, ha, hb, q⟩ := h
  cases rx; cases ry
  obtain ⟨z, its, n, r, hl, e⟩ := I.lstM ha
  obtain ⟨z2, its2, n2, r2, hl2, e2⟩ := I.lstM hb
  have h0 : its2 = [] := by cases r2; rfl
  subst h0
  have L1 : s.heap.IsList a its.toArray := ⟨_, e, rfl, n, rfl⟩
  have L2' : s.heap.IsList b ([] : List Value).toArray := ⟨_, e2, rfl, n2, rfl⟩
  cases xs with
  | nil =>
    cases r
    exact SeqAt.RcAt.lists (e := fun _ => true) L1 L2' rfl hu (fun j h1 _ => absurd h1 (by simp)) X.prog X.w X.xe _ ⟨.bl true, H, I, rfl, q⟩
  | cons x xs =>
    cases r with
    | cons r rr => exact SeqAt.RcAt.lists_lengths L1 L2' (by simp) hu X.prog X.w X.xe _ ⟨.bl false, H, I, rfl, q⟩
theorem op_neNil (hu : X.A.units < cLine) : OpR X (compareOp .NotEq) (fun x y H Q => ∃ a b xs, x = .ref a ∧ y = .ref b ∧ H a = some (.lst xs) ∧ H b = some (.lst []) ∧ Q (.bl (!xs.isEmpty)) H) := by
  intro pins s σ H x y v u Q I rx ry h
  obtain ⟨a, b, xs, rfl, rfl, ha, hb, q⟩ := h
  cases rx; cases ry
  obtain ⟨z, its, n, r, hl, e⟩ := I.lstM ha
  obtain ⟨z2, its2, n2, r2, hl2, e2⟩ := I.lstM hb
  have h0 : its2 = [] := by cases r2; rfl
  subst h0
  have L1 : s.heap.IsList a its.toArray := ⟨_, e, rfl, n, rfl⟩
  have L2' : s.heap.IsList b ([] : List Value).toArray := ⟨_, e2, rfl, n2, rfl⟩
  cases xs with
  | nil =>
    cases r
    exact SeqAt.RcNeAt.lists (e := fun _ => true) L1 L2' rfl hu (fun j h1 _ => absurd h1 (by simp)) X.prog X.w X.xe _ ⟨.bl false, H, I, rfl, q⟩
  | cons x xs =>
    cases r with
    | cons r rr => exact SeqAt.RcNeAt.lists_lengths L1 L2' (by simp) hu X.prog X.w X.xe _ ⟨.bl true, H, I, rfl, q⟩
theorem op_neNilD (hu : X.A.units < cLine) : OpR X (compareOp .NotEq) (fun x y H Q => ∃ a b ks, x = .ref a ∧ y = .ref b ∧ Rd H a (.dK ks) ∧ H b = some (.dK []) ∧ Q (.bl (!ks.isEmpty)) H) := by
  intro pins s σ H x y v u Q I rx ry h
  obtain ⟨a, b, ks, rfl, rfl, ea, eb, q⟩ := h
  obtain rfl : v = Value.ref a := rx
  obtain rfl : u = Value.ref b := ry
  obtain ⟨_, ya, va, ra, da⟩ := (show ObjOk X.prog X.w H s.heap a (.dK ks) from ea.ok I.hok)
  obtain ⟨_, yb, vb, rb, db⟩ := (show ObjOk X.prog X.w H s.heap b (.dK []) from I.hok b _ eb)
  have h0 : vb = [] := by cases rb; rfl
  subst h0
  refine PySem.W.keq_ne (knd := mixKind X.prog X.w) (r := true) ya yb da db hu (fun hl => ?_) ?_
  · have : va = [] := List.length_eq_zero_iff.mp hl
    subst this
    exact .nil
  · cases ks with
    | nil =>
      cases ra
      exact ⟨.bl false, H, I, rfl, q⟩
    | cons k ks =>
      cases ra with
      | cons r rr => exact ⟨.bl true, H, I, rfl, q⟩
end
section
variable {X : Cx} {e a b c o k' it tg f' : Expr} {es : List Expr} {Γ Γ' : En} {M : Mu} {p q z : Pv} {ps qs : List Pv} {x y : V} {pos pp apos cpos tpos : Pos} {e0 : Eb} {P : Pst} {kp : List (Str × Pv)} {k : Nat}
theorem xt_eqNil (hr : Room k X.A) (ha : XE X a Γ M p) (vw : VwL M p ps) (hm : behindInMarks .Eq (.List [] cpos) = false := by first | exact nobehind _ (by decide) (by decide) | rfl) : XT X (.Compare a [.Eq] [.List [] cpos] pos) Γ M ps.isEmpty := fun G H σ s Q kq =>
  ⟨_, pt_cmpR (op_eqNil hr.units0) pe_w pe_w hm, x2s ha (xn_lst xa_nil).lst s fun v w G' H' s' t rv rw => by
    obtain ⟨d, xs, rfl, h1, h2⟩ := vw _ _ _ _ s' v rv
    obtain ⟨d2, ys, rfl, h3, h4⟩ := rw
    cases h4
    refine ⟨d, d2, xs, rfl, rfl, h1, s'.i _ _ h3, _, rfl, ?_⟩
    have : xs.isEmpty = ps.isEmpty := by cases h2 <;> rfl
    rw [this]
    exact kq G' H' t⟩
theorem xt_neNil (hr : Room k X.A) (ha : XE X a Γ M p) (vw : VwL M p ps) (hm : behindInMarks .NotEq (.List [] cpos) = false := by first | exact nobehind _ (by decide) (by decide) | rfl) : XT X (.Compare a [.NotEq] [.List [] cpos] pos) Γ M (!ps.isEmpty) := fun G H σ s Q kq =>
  ⟨_, pt_cmpR (op_neNil hr.units0) pe_w pe_w hm, x2s ha (xn_lst xa_nil).lst s fun v w G' H' s' t rv rw => by
    obtain ⟨d, xs, rfl, h1, h2⟩ := vw _ _ _ _ s' v rv
    obtain ⟨d2, ys, rfl, h3, h4⟩ := rw
    cases h4
    refine ⟨d, d2, xs, rfl, rfl, h1, s'.i _ _ h3, _, rfl, ?_⟩
    have : xs.isEmpty = ps.isEmpty := by cases h2 <;> rfl
    rw [this]
    exact kq G' H' t⟩
theorem xt_neNilD (hr : Room k X.A) (ha : XE X a Γ M p) (vw : VwD M p kp) (hm : behindInMarks .NotEq (.Dict [] [] cpos) = false := by first | exact nobehind _ (by decide) (by decide) | rfl) : XT X (.Compare a [.NotEq] [.Dict [] [] cpos] pos) Γ M (!kp.isEmpty) := fun G H σ s Q kq =>
  ⟨_, pt_cmpR (op_neNilD hr.units0) pe_w pe_w hm, ha G H σ s _ fun v G1 H1 t1 r1 => xn_dic G1 H1 σ (s.stp t1) _ fun d2 ob G2 H2 t2 g1 g2 g3 g4 => by
    obtain ⟨d, xs, rfl, h1, h2⟩ := vw _ _ _ _ ((s.stp t1).stp t2) v (Pv.mono _ (le_same t2.g) r1)
    obtain ⟨kv, rfl, h4⟩ := g4
    cases h4
    refine ⟨d, d2, xs, rfl, rfl, h1, g3, _, rfl, ?_⟩
    have : xs.isEmpty = kp.isEmpty := by cases h2 <;> rfl
    rw [this]
    exact kq G2 H2 (t1.trans t2)⟩
theorem op_neStrs (hu : X.A.units < cLine) : OpR X (compareOp .NotEq) (fun x y H Q => ∃ a b, ∃ ss : List Str, x = .ref a ∧ y = .ref b ∧ H a = some (.lst (ss.map V.str)) ∧ H b = some (.lst (ss.map V.str)) ∧ Q (.bl false) H) := by
  intro pins s σ H x y v u Q I rx ry h
  obtain ⟨a, b, ss, rfl, rfl, ha, hb, q⟩ := h
  cases rx; cases ry
  obtain ⟨z, its, n, r, hl, e⟩ := I.lstM ha
  obtain ⟨z2, its2, n2, r2, hl2, e2⟩ := I.lstM hb
  have L1 : s.heap.IsList a its.toArray := ⟨_, e, rfl, n, rfl⟩
  have L2' : s.heap.IsList b its2.toArray := ⟨_, e2, rfl, n2, rfl⟩
  refine SeqAt.RcNeAt.lists (e := fun _ => true) L1 L2' (by rw [List.size_toArray, List.size_toArray, ← hl, ← hl2]) hu (fun j h1 h2 => ?_) X.prog X.w X.xe _ ⟨.bl false, H, I, ?_, q⟩
  · have k1 : j < (ss.map V.str).length := by rw [hl]; simpa using h1
    obtain ⟨u1, g1, r1⟩ := r.get (List.getElem?_eq_getElem k1)
    obtain ⟨u2, g2, r2⟩ := r2.get (List.getElem?_eq_getElem k1)
    have e1 : its.toArray[j] = u1 := by
      have h1' : j < its.length := by simpa using h1
      rw [List.getElem?_eq_getElem h1'] at g1
      simpa using g1
    have e2 : its2.toArray[j] = u2 := by
      have h1' : j < its2.length := by simpa using h2
      rw [List.getElem?_eq_getElem h1'] at g2
      simpa using g2
    rw [e1, e2]
    have es : (ss.map V.str)[j] = V.str (ss[j]'(by simpa using k1)) := by simp
    rw [es] at r1 r2
    have q := eqAt_V (A := X.A.in1) (s := s) r1 r2 rfl rfl
    rw [show eqV (.str (ss[j]'(by simpa using k1))) (.str (ss[j]'(by simpa using k1))) = true from decide_eq_true rfl] at q
    exact q
  · show L2.RelV (V.bl false) (Value.bool (!(List.range its.toArray.size).all fun _ => true))
    rw [show ((List.range its.toArray.size).all fun _ => true) = true by simp]
    rfl
/-- two lists of the same texts -/
theorem xt_neS {ss : List Str} (hr : Room k X.A) (ha : XE X a Γ M (vLst (ss.map fun s => vStr s))) (hb : XE X b Γ M (vLst (ss.map fun s => vStr s))) (hm : behindInMarks .NotEq b = false := by first | exact nobehind _ (by decide) (by decide) | rfl) : XT X (.Compare a [.NotEq] [b] pos) Γ M false := fun G H σ s Q kq =>
  ⟨_, pt_cmpR (op_neStrs hr.units0) pe_w pe_w hm, x2s ha hb s fun v w G' H' s' t rv rw => by
    obtain ⟨d, xs, rfl, h1, h2⟩ := rv
    obtain ⟨d2, ys, rfl, h3, h4⟩ := rw
    rw [alA_strs h2] at h1
    rw [alA_strs h4] at h3
    exact ⟨d, d2, ss, rfl, rfl, s'.i _ _ h1, s'.i _ _ h3, _, rfl, kq G' H' t⟩⟩
/-- xs + ys -/
theorem xn_catL (ha : XE X a Γ M p) (va : VwL M p ps) (hb : XE X b Γ M (vLst qs)) (hz : ps.length + qs.length ≤ sizeLine) : XN X (.BinOp a .Add b pos) Γ M (mLst (ps ++ qs)) := fun G H σ s Q kq =>
  ⟨_, pe_op op_cat pe_w pe_w, x2s ha hb s fun v w G' H' s' t rv rw => by
    obtain ⟨d, xs, rfl, h1, h2⟩ := va _ _ _ _ s' v rv
    obtain ⟨d2, ys, rfl, h3, h4⟩ := rw
    exact ⟨d, d2, xs, ys, rfl, rfl, h1, s'.i _ _ h3, by rw [h2.len, h4.len]; exact hz, fun p hp => kq p _ G' _ (t.trans (Stp.tmp s'.i hp)) (t.h.free hp) (s'.i.free hp) upd_same ⟨_, rfl, h2.app h4⟩⟩⟩
end
end K53
end KFi_
section KFj_
set_option maxRecDepth 100000
set_option maxHeartbeats 4000000
/-! KFj: attributes as targets; values that are kept for a call; items of a new dict; three at once; what is only known to be there. -/
namespace K53
open PySem PySem.Spec PyProof.Rows L2
def vEx {ι : Type} (φ : ι → Prop) (g : ι → Pv) : Pv := ⟨fun G v => ∃ x, φ x ∧ (g x).r G v, fun l ⟨x, h, r⟩ => ⟨x, h, Pv.mono _ l r⟩⟩
def vAny : Pv := ⟨fun _ _ => True, fun _ _ => trivial⟩
theorem vEx_open {ι : Type} {φ : ι → Prop} {g : ι → Pv} (G : Hp) (v : V) (h : (vEx φ g).r G v) : ∃ x : {x // φ x}, (g x.1).r G v := by
  obtain ⟨x, h1, h2⟩ := h
  exact ⟨⟨x, h1⟩, h2⟩
def gFld (K : PySem.W.Frag) (to : TE) (f : Str) : TG := fun v σ H Q => to σ H fun x H2 => ∃ a C dx fs, x = .ref a ∧ H2 a = some (.ins C dx fs) ∧ Cls K C ∧ NoAttr K C f ∧ fs.length < 1000 ∧ Q σ (upd H2 a (.ins C dx (putF f v fs)))
theorem pg_fld {X : Cx} {o : Expr} {f : Str} {pos : Pos} {to : TE} (ho : PE X o to) (ha : ∀ v, assign (.Attribute o f pos) X.env v = (do
      let ov ← holding [v] (eval o X.env)
      standAt pos.atName
      holding [v, ov] (setAttr ov f v)
      release [v, ov] []) := by intro _; rfl) : PG X (.Attribute o f pos) (gFld X.K to f) := by
  refine ⟨fun pins s σ H v u Q I r h => ?_⟩
  rw [ha]
  refine wpAny_bind (wpAny_holding (thn (ho.run pins s σ H _ I h) fun ov s1 ⟨x, H1, I1, r1, a, C, dx, fs, ex, ea, c, n, l, q1⟩ => ?_))
  subst ex
  obtain rfl : ov = Value.ref a := r1
  refine wpAny_bind (wpAny_standAt (wpAny_bind (wpAny_holding (setattr_ok I1 ea c n l r fun s3 I3 => ?_))))
  exact wpAny_release ⟨σ, _, I3, q1⟩
section
variable {X : Cx} {e a b c o o2 k' it tg : Expr} {elts es : List Expr} {kk : Nat} {Γ Γ' : En} {M : Mu} {p q z : Pv} {ps : List Pv} {x y : V} {pos pp apos bpos cpos tpos : Pos} {e0 : Eb} {P : Pst} {kp fs : List (Str × Pv)} {s : Str} {k j : Nat} {C : Addr} {mo mo' : Mo} {M1 M2 : Mu} {td : TE}
/-- self.f, self.g = e -/
theorem xs_fld2 {a : Addr} {f g : Str} (he : XE X e Γ (M1 ++ (a, mIns C fs) :: M2) (vTup [p, q])) (ho : ∀ fs, XE X o Γ (M1 ++ (a, mIns C fs) :: M2) (vVal (.ref a))) (ho2 : ∀ fs, XE X o2 Γ (M1 ++ (a, mIns C fs) :: M2) (vVal (.ref a))) (kq : ∀ G H σ, Sta e0 G H σ Γ (M1 ++ (a, mIns C (putP g q (putP f p fs))) :: M2) → P.nx G H σ) (hc : X.calm = true) (cl : Cls X.K C) (na : NoAttr X.K C f) (na2 : NoAttr X.K C g) (hl : fs.length < 998 := by repeat (first | decide | apply putP_lt))
    (hs : swapsWithSole [.Tuple [.Attribute o f apos, .Attribute o2 g bpos] kk tpos] e pos.line X.env = pure false := by rfl) (hw : swappedStores [.Tuple [.Attribute o f apos, .Attribute o2 g bpos] kk tpos] e X.env = pure none := by rfl)
    (h1 : (assignEach [.Tuple [.Attribute o f apos, .Attribute o2 g bpos] kk tpos] X.env).map (·.2) = [assign (.Tuple [.Attribute o f apos, .Attribute o2 g bpos] kk tpos) X.env] := by rfl)
    (hn : (assignEach [.Attribute o f apos, .Attribute o2 g bpos] X.env).length = 2 := by rfl) (hst : (assignEach [.Attribute o f apos, .Attribute o2 g bpos] X.env).findIdx? (·.1) = none := by rfl)
    (hg1 : (assignEach [.Attribute o f apos, .Attribute o2 g bpos] X.env).map (·.2) = assign (.Attribute o f apos) X.env :: (assignEach [.Attribute o2 g bpos] X.env).map (·.2) := by rfl) (hg2 : (assignEach [.Attribute o2 g bpos] X.env).map (·.2) = assign (.Attribute o2 g bpos) X.env :: (assignEach [] X.env).map (·.2) := by rfl)
    (ha : ∀ v, assign (.Attribute o f apos) X.env v = (do
      let ov ← holding [v] (eval o X.env)
      standAt apos.atName
      holding [v, ov] (setAttr ov f v)
      release [v, ov] []) := by intro _; rfl) (ha2 : ∀ v, assign (.Attribute o2 g bpos) X.env v = (do
      let ov ← holding [v] (eval o2 X.env)
      standAt bpos.atName
      holding [v, ov] (setAttr ov g v)
      release [v, ov] []) := by intro _; rfl) :
    XS X e0 (.Assign [.Tuple [.Attribute o f apos, .Attribute o2 g bpos] kk tpos] e pos) Γ (M1 ++ (a, mIns C fs) :: M2) P := fun G H σ s D F =>
  ⟨_, ps_asg pe_w (pg_tup hc (pgs_cons (pg_fld pe_w ha) (pgs_cons (pg_fld pe_w ha2) pgs_nil hg2) hg1) hn hst) hs hw h1, he G H σ s.s _ fun v G1 H1 t1 r1 => by
    obtain ⟨t, xs, rfl, ht, al⟩ := r1
    obtain ⟨u, w, rfl, ru, rw'⟩ := alA2 al
    have s1 := s.stp t1
    refine ⟨t, [u, w], rfl, SqT.of (t1.i _ _ ht), rfl, u, [w], rfl, ho fs G1 H1 σ s1.s _ fun v2 G2 H2 t2 r2 => ?_⟩
    obtain rfl : v2 = .ref a := r2
    have s2 := s1.stp t2
    obtain ⟨hg, ob, hh, dx, fv, rfl, al2⟩ := s2.s.m (a, mIns C fs) (by simp)
    refine ⟨a, C, dx, fv, rfl, hh, cl, na, by rw [al2.len]; omega, w, [], rfl, ?_⟩
    have s3 := Sta.write (o' := mIns C (putP f p fs)) s2 ⟨dx, _, rfl, al2.put (Pv.mono _ (le_same t2.g) ru)⟩
    refine ho2 _ G2 _ σ s3.s _ fun v4 G4 H4 t4 r4 => ?_
    obtain rfl : v4 = .ref a := r4
    have s4 := s3.stp t4
    obtain ⟨hg, ob, hh, dx, fv, rfl, al3⟩ := s4.s.m (a, mIns C (putP f p fs)) (by simp)
    have hl2 : (putP f p fs).length < 999 := putP_lt hl
    refine ⟨a, C, dx, fv, rfl, hh, cl, na2, by rw [al3.len]; omega, rfl, F.nx _ _ _ (kq _ _ _ (s4.write ⟨dx, _, rfl, al3.put (Pv.mono _ (le_same (t2.g.trans t4.g)) rw')⟩))⟩⟩
/-- a value of what is under way, seen as if it stayed -/
theorem St0.keep {G H : Hp} {σ : L2.St} {i : Nat} {a : Addr} (s : St0 G H σ Γ (M1 ++ (a, mo) :: M2)) (hi : Γ[i]? = some (some (vVal (.ref a)))) (w : ∀ G u, mo.r G u → G a = some u → p.r G (.ref a)) : ∃ ob, H a = some ob ∧ G a = none ∧ St0 (upd G a ob) H σ (Γ.set i (some p)) (M1 ++ M2) := by
  have s' : Sta ⟨G, G, dls ((M1 ++ (a, mo) :: M2).map (·.1)) H⟩ G H σ Γ (M1 ++ (a, mo) :: M2) := ⟨⟨.refl _, dls_same, s.i, fun b o e n => by have n' : G b = none := n; rw [n'] at e; cases e⟩, .refl _, s, fun q hq => dls_in (List.mem_map_of_mem hq)⟩
  obtain ⟨ob, hr, hH, hG, s2⟩ := s'.pub
  obtain ⟨v, h1, h2⟩ := s2.s.a.2 i _ hi
  obtain rfl : v = .ref a := h2
  have s3 := s2.s.set (i := i) (w _ ob (Mo.mono _ (le_same (same_new hG)) hr) upd_same)
  have e : σ.set i (some (V.ref a)) = σ := by
    refine List.ext_getElem? fun j => ?_
    by_cases hj : j = i
    · subst hj
      rw [List.getElem?_set_self (List.getElem?_eq_some_iff.mp h1).1, h1]
    · rw [List.getElem?_set_ne (Ne.symm hj)]
  rw [e] at s3
  exact ⟨ob, hH, hG, s3⟩
theorem Stp.drop {G H G' H' : Hp} {a : Addr} {ob : HO} (hG : G a = none) (t : Stp (upd G a ob) H G' H') : Stp G H (dl a G') H' := by
  refine ⟨fun b o e => ?_, t.h, fun b o e => t.i _ _ (dl_same _ _ e), fun b o e n => ?_⟩
  · have ne : b ≠ a := ne_of_none e hG
    rw [dl_ne ne]; exact t.g b o (by rw [upd_ne ne]; exact e)
  · by_cases q : b = a
    · subst q; rw [dl_at] at e; cases e
    · rw [dl_ne q] at e
      exact t.n b o e (by rw [upd_ne q]; exact n)
theorem XE.tmp {a : Addr} (i : Nat) (p : Pv) (hi : Γ[i]? = some (some (vVal (.ref a)))) (w : ∀ G u, mo.r G u → G a = some u → p.r G (.ref a)) (h : XE X e (Γ.set i (some p)) (M1 ++ M2) (vVal x)) : XE X e Γ (M1 ++ (a, mo) :: M2) (vVal x) := fun G H σ s Q k => by
  obtain ⟨ob, hH, hG, s'⟩ := s.keep hi w
  exact h _ H σ s' Q fun v G' H' t r => k v _ H' (Stp.drop hG t) r
theorem pi_itemsF {H1 : Hp} {tpos : Pos} (he : PE X e td) (hbase : attributeBase e "items" X.env (eval e X.env) = eval e X.env := by rfl) (hline : (apos.endLine == cpos.line) = true := by rfl) :
    PI X (.Tuple elts kk tpos) (.Call (.Attribute e "items" apos) [] [] cpos) (fun σ H R => td σ H fun x H1 => ∃ d kvs, x = .ref d ∧ H1 d = some (.dK kvs) ∧ ∀ o, R (Iti d o kvs) (upd H1 d (.frz o (.dK kvs)))) := by
  refine ⟨fun pins s σ H R I h => ?_⟩
  refine wpAny_Call_method (T := "dict") (id := "dict.items") hbase rfl hline F.plainAttrs_dict F.slot_dict_items F.type_dict_items (thn (he.run pins s σ H _ I h) fun u s1 ⟨x, H1', I1', rx, d, kvs, ex, hd', q'⟩ => ?_)
  subst ex
  obtain rfl : u = Value.ref d := rx
  obtain ⟨o, I1⟩ := I1'.lock hd' trivial
  have q := q' o
  have hd : (upd H1' d (.frz o (.dK kvs))) d = some (.frz o (.dK kvs)) := upd_same
  generalize upd H1' d (.frz o (.dK kvs)) = H1 at I1 q hd
  obtain ⟨hs, hgd, hx, es, ep, vs, hdt, hsz, kv, hm⟩ := I1.frzK hd
  have hl : kvs.length = vs.length := Paired.length kv
  refine ⟨hm.dictOf.typeIs, hm.dictOf.mapOf.noDict, ?_⟩
  have I2 : Inv X pins σ H1 { s1 with heap := s1.heap.push { cls := .type "dict_items", data := .fields #[.ref d] } } := I1.kept (t' := s1.toks) fun b ob q => Heap.get?_push_of_some _ q
  have fin : wpAny (model X.prog X.w) X.A (pyIter (.ref s1.heap.objs.size)) (PIE X pins σ (.Tuple elts kk tpos) R) X.xe { s1 with heap := s1.heap.push { cls := .type "dict_items", data := .fields #[.ref d] } } := by
    refine wpAny_pyIter_items (d := d) (knd := mixKind X.prog X.w) ⟨_, Heap.get?_push_size _ rfl, rfl, rfl⟩ (hm.push _) (pi_one (tk := s1.toks) I2 _ (turn_items _ hdt) ⟨.none, .none, ?_⟩ q)
    rw [hl]
    exact Heap.get?_push_size _ rfl
  show wpAny _ _ (callWith cpos (.builtin "dict.items") [.ref d] [] []) _ X.xe s1
  exact method_meetsIn F.slot_dict_items F.entry_dict_items rfl (PySem.evalArgs_none ⟨rfl, hm.dictOf.typeIs, F.args_dict_items_1 _, _, meets_dict_items (mixKind X.prog X.w) d hs, ⟨vs, hm.dictOf⟩, fin⟩)
/-- the pairs of a new dict -/
theorem xi_itemsN (he : XN X e Γ M (mDic kp)) (hbase : attributeBase e "items" X.env (eval e X.env) = eval e X.env := by rfl) (hline : (apos.endLine == cpos.line) = true := by rfl) :
    XI X (.Tuple elts kk tpos) (.Call (.Attribute e "items" apos) [] [] cpos) Γ M kp (fun x => vTup [vStr x.1, x.2]) := fun G H σ s R k =>
  ⟨_, pi_itemsF (H1 := H) pe_w hbase hline, he G H σ s _ fun d ob G1 H1 t1 h1 h2 h3 h4 => by
    obtain ⟨kv, rfl, al⟩ := h4
    refine ⟨d, kv, rfl, h3, fun o => ?_⟩
    have t2 : Stp G H (upd G1 d (.frz o (.dK kv))) (upd H1 d (.frz o (.dK kv))) := by
      refine ⟨t1.g.trans (same_new h2), fun b u e => ?_, fun b u e => ?_, fun b u e n => ?_⟩
      · have ne : b ≠ d := ne_of_none e h1
        rw [upd_ne ne]; exact t1.h _ _ e
      · by_cases q : b = d
        · subst q; rw [upd_same] at e ⊢; exact e
        · rw [upd_ne q] at e ⊢; exact t1.i _ _ e
      · by_cases q : b = d
        · subst q; exact h1
        · rw [upd_ne q] at e; exact t1.n _ _ e n
    have hG : (upd G1 d (.frz o (.dK kv))) d = some (.frz o (.dK kv)) := upd_same
    have al' := al.mono (le_same (same_new (o := .frz o (.dK kv)) h2))
    refine k _ _ _ t2 ⟨fun i G2 H2 x sg si hx => ?_, fun i G2 H2 x y H3 sg si hx ⟨T, k2, v2, e2, e3, hT, e4⟩ => ?_, fun G2 H2 sg si => ⟨si _ _ (sg _ _ hG), by rw [al.len]; exact Nat.le_refl _⟩⟩
    · exact ⟨si _ _ (sg _ _ hG), by rw [al.len]; exact (List.getElem?_eq_some_iff.mp hx).1⟩
    · subst e4 e3
      obtain ⟨v, h1, h2⟩ := al'.atI hx
      rw [h1] at e2
      cases e2
      exact ⟨upd G2 T _, Stp.new si hT, T, _, rfl, upd_same, .cons rfl (.cons (Pv.mono _ (le_same (sg.trans (same_new (si.free hT)))) h2) .nil)⟩⟩
/-- a tuple of the written part -/
theorem xi_tupK {α : Type} {ds : List α} {f : α → V} {ad : Addr} (h : XE X e Γ M (vVal (.ref ad))) (hK : ∀ H, SqT X.K H ad (ds.map f)) : XI X tg e Γ M ds (fun d => vVal (f d)) := fun G H σ s R k =>
  ⟨_, pi_tup pe_w, h G H σ s _ fun v G' H' t r => by
    obtain rfl : v = .ref ad := r
    refine ⟨ad, rfl, ⟨ds.map f, hK _⟩, k _ G' H' t ⟨fun i G H d sg si hd => ?_, fun i G H d x H2 sg si hd ⟨e1, e2⟩ => ?_, fun G H sg si => ⟨ds.map f, hK _, by rw [List.length_map]; exact Nat.le_refl _⟩⟩⟩
    · exact ⟨ds.map f, f d, hK _, by rw [List.getElem?_map, hd]; rfl⟩
    · subst e1
      have := e2 _ (hK _)
      rw [List.getElem?_map, hd] at this
      exact ⟨G, .refl si, (Option.some.inj this).symm⟩⟩
end
end K53
end KFj_
section KFk_
set_option maxRecDepth 100000
set_option maxHeartbeats 4000000
/-! KFk: three names at once. -/
namespace K53
open PySem PySem.Spec PyProof.Rows L2
section
variable {X : Cx} {a b c : Expr} {Γ : En} {M : Mu} {p q r : Pv} {pos px py pz pt pt2 : Pos} {e0 : Eb} {P : Pst} {mo mo2 : Mo} {i j l kt k2 : Nat} {n m o : Str} {rest : List Stmt}
theorem xss_par3NN (hc : X.calm = true) (hN : X.N.Nodup) (ha : XN X a Γ M mo) (hb : ∀ a1, XN X b Γ ((a1, mo) :: M) mo2) (he : ∀ a1 a2, XE X c Γ ((a2, mo2) :: (a1, mo) :: M) p)
    (k : ∀ a1 a2, XSs X e0 rest (((Γ.set i (some (vVal (.ref a1)))).set j (some (vVal (.ref a2)))).set l (some p)) ((a2, mo2) :: (a1, mo) :: M) P) (hij : i ≠ j := by decide) (hil : i ≠ l := by decide) (hjl : j ≠ l := by decide) (hi : X.N[i]? = some n := by rfl) (hj : X.N[j]? = some m := by rfl) (hl : X.N[l]? = some o := by rfl)
    (hx : X.env.scope.names.lookup n = some .local := by rfl) (hy : X.env.scope.names.lookup m = some .local := by rfl) (hz : X.env.scope.names.lookup o = some .local := by rfl)
    (hw : swappedStores [.Tuple [.Name n px, .Name m py, .Name o pz] kt pt] (.Tuple [a, b, c] k2 pt2) X.env = pure (some [n, m, o]) := by rfl) (hs : swapsWithSole [.Tuple [.Name n px, .Name m py, .Name o pz] kt pt] (.Tuple [a, b, c] k2 pt2) pos.line X.env = pure false := by rfl)
    (hs1 : starEach [a, b, c] X.env = (false, eval a X.env) :: starEach [b, c] X.env := by rfl) (hs2 : starEach [b, c] X.env = (false, eval b X.env) :: starEach [c] X.env := by rfl) (hs3 : starEach [c] X.env = (false, eval c X.env) :: starEach [] X.env := by rfl) :
    XSs X e0 (.Assign [.Tuple [.Name n px, .Name m py, .Name o pz] kt pt] (.Tuple [a, b, c] k2 pt2) pos :: rest) Γ M P := fun G H σ s D f =>
  ⟨_, pss_cons (ps_par3 hc hN hi hj hl hij hil hjl hx hy hz (pa_cons pe_w (pa_cons pe_w (pa_cons pe_w pa_nil hs3) hs2) hs1) hw hs) pss_w, ha G H σ s.s _ fun a1 ob1 G1 H1 t1 h1 h2 h3 h4 => by
    have s1 := s.add t1 h1 h2 h3 h4
    refine hb a1 G1 H1 σ s1.s _ fun a2 ob2 G2 H2 t2 g1 g2 g3 g4 => ?_
    have s2 := s1.add t2 g1 g2 g3 g4
    refine he a1 a2 G2 H2 σ s2.s _ fun v G3 H3 t3 r3 => ?_
    have s3 := s2.stp t3
    exact ⟨_, _, _, rfl, k a1 a2 G3 H3 _ (((s3.set (p := vVal (.ref a1)) rfl).set (p := vVal (.ref a2)) rfl).set r3) D f⟩⟩
/-- what follows is known by x -/
theorem xss_consI {ι : Type} {st : Stmt} (Γs : ι → En) (Ms : ι → Mu) (I : ι → Prop) (h : XS X e0 st Γ M { P with nx := StaI e0 Γs Ms I }) (hr : ∀ x, I x → XSs X e0 rest (Γs x) (Ms x) P) : XSs X e0 (st :: rest) Γ M P := fun G H σ s D f =>
  ⟨_, pss_cons ps_w pss_w, h G H σ s _ ⟨fun G1 H1 σ1 ⟨x, hx, s1⟩ => hr x hx G1 H1 σ1 s1 D f, f.rt, f.bk, f.ct⟩⟩
end
end K53
end KFk_
section KFl_
set_option maxRecDepth 100000
set_option maxHeartbeats 4000000
/-! KFl: a list of two naturals of which only that is known (a pot). -/
namespace K53
open PySem PySem.Spec PyProof.Rows L2
def potAt (a : Addr) : Heap → Prop := fun h => ∃ (i j : Nat) (t u : Tok) (n : Nat), j < 4294967296 ∧ h.get? a = some { cls := .type "list", data := .seq #[.int (i : Int) t, .int (j : Int) u] n }
theorem nMut_ext {φ : Heap → Prop} : Mut (some (HO.ext φ)) := trivial
section
variable {X : Cx} {pins : List (Addr × Obj)} {σ : L2.St} {H : Hp} {s : Shared} {a : Addr}
theorem asLst (I : Inv X pins σ H s) (h : H a = some (.ext (potAt a))) : ∃ i j : Nat, j < 4294967296 ∧ Inv X pins σ (upd H a (.lst [.int (i : Int), .int (j : Int)])) s := by
  obtain ⟨⟨i, j, t, u, n, hj, e⟩, _, _⟩ := (show ObjOk X.prog X.w H s.heap a (.ext (potAt a)) from I.hok a _ h)
  refine ⟨i, j, hj, I.write (x := a) (e := a) (t' := s.toks) (h' := s.heap) (by rw [h]; exact nMut_ext) (.inl rfl) (fun b v _ q => q) ⟨_, e⟩ ?_⟩
  exact ⟨by show 2 ≤ sizeLine; decide, [.int i t, .int j u], n, .cons ⟨t, rfl⟩ (.cons ⟨u, rfl⟩ .nil), e⟩
theorem potOk {P : Program} {w : World} {h : Heap} {i j : Nat} (x : ObjOk P w H h a (.lst [.int (i : Int), .int (j : Int)])) (hj : j < 4294967296) {H' : Hp} : ObjOk P w H' h a (.ext (potAt a)) := by
  obtain ⟨_, its, n, rv, e⟩ := x
  cases rv with
  | cons r1 rv =>
    cases rv with
    | cons r2 rv =>
      cases rv
      obtain ⟨t, rfl⟩ := r1
      obtain ⟨u, rfl⟩ := r2
      exact ⟨⟨i, j, t, u, n, hj, e⟩, ⟨_, e⟩, fun h1 h2 ⟨i, j, t, u, n, hj, e⟩ k => ⟨i, j, t, u, n, hj, k _ e⟩⟩
theorem asPot (I : Inv X pins σ H s) {i j : Nat} (hj : j < 4294967296) (h : H a = some (.lst [.int (i : Int), .int (j : Int)])) : Inv X pins σ (upd H a (.ext (potAt a))) s := by
  have x := (show ObjOk X.prog X.w H s.heap a (.lst [.int (i : Int), .int (j : Int)]) from I.hok a _ h)
  have ⟨_, its, n, rv, e⟩ := x
  exact I.write (x := a) (e := a) (t' := s.toks) (h' := s.heap) (by rw [h]; trivial) (.inl rfl) (fun b v _ q => q) ⟨_, e⟩ (potOk x hj)
end
def IsPot (H : Hp) (a : Addr) : Prop := ∃ i j : Nat, j < 4294967296 ∧ H a = some (.lst [.int (i : Int), .int (j : Int)])
def tPot (t : TS) : TS := fun D σ H => ∃ a, H a = some (.ext (potAt a)) ∧ ∀ i j : Nat, j < 4294967296 → t ⟨fun σ' H' => IsPot H' a ∧ D.nx σ' (upd H' a (.ext (potAt a))), fun v H' => IsPot H' a ∧ D.rt v (upd H' a (.ext (potAt a))), fun _ _ => False, fun _ _ => False⟩ σ (upd H a (.lst [.int (i : Int), .int (j : Int)]))
theorem pss_pot {X : Cx} {sts : List Stmt} {t : TS} (h : PSs X sts t) : PSs X sts (tPot t) := by
  refine ⟨fun pins s σ H D I hw => ?_⟩
  obtain ⟨a, ha, hw⟩ := hw
  obtain ⟨i, j, hj, I1⟩ := asLst I ha
  refine thn (h.run pins s σ _ _ I1 (hw i j hj)) fun f s1 q => ?_
  cases f with
  | next => obtain ⟨σ', H', I2, ⟨i', j', hj', e⟩, q⟩ := q; exact ⟨σ', _, asPot I2 hj' e, q⟩
  | brk => obtain ⟨σ', H', I2, q⟩ := q; exact q.elim
  | cont => obtain ⟨σ', H', I2, q⟩ := q; exact q.elim
  | ret v => obtain ⟨x, σ', H', I2, r, ⟨i', j', hj', e⟩, q⟩ := q; exact ⟨x, σ', _, asPot I2 hj' e, r, q⟩
def vPot : Pv := ⟨fun G v => ∃ a, v = .ref a ∧ G a = some (.ext (potAt a)), fun l ⟨a, e, h⟩ => ⟨a, e, l.at h nDk_ext⟩⟩
theorem Stp.pot {G H G' H' : Hp} {a : Addr} (ha : G a = some (.ext (potAt a))) (hi : Same G H) (t : Stp (dl a G) (dl a H) G' H') : Stp G H (upd G' a (.ext (potAt a))) (upd H' a (.ext (potAt a))) := by
  have one : ∀ {A B : Hp}, A a = some (.ext (potAt a)) → Same (dl a A) B → Same A (upd B a (.ext (potAt a))) := fun {A B} hA s b o e => by
    by_cases q : b = a
    · subst q; rw [hA] at e; rw [upd_same]; exact e
    · rw [upd_ne q]; exact s b o (by rw [dl_ne q]; exact e)
  refine ⟨one ha t.g, one (hi _ _ ha) t.h, fun b o e => ?_, fun b o e n => ?_⟩
  · by_cases q : b = a
    · subst q; rw [upd_same] at e ⊢; exact e
    · rw [upd_ne q] at e ⊢; exact t.i _ _ e
  · by_cases q : b = a
    · subst q; rw [ha] at n; cases n
    · rw [upd_ne q] at e
      have := t.n b o e (by rw [dl_ne q]; exact n)
      rwa [dl_ne q] at this
/-- the ends of a body that writes a pot at a -/
def potP (e0 : Eb) (a : Addr) (φ : V → Prop) : Pst := ⟨fun _ _ _ => False, fun v G H => φ v ∧ Stp e0.G e0.H G H ∧ IsPot H a, fun _ _ _ => False, fun _ _ _ => False⟩
/-- a def that draws from a pot and answers a plain value -/
theorem fdpot_of {P : Program} {w : World} {K : PySem.W.Frag} {mg : Str → Option Value} {base : Heap} {δ : Type} {as : δ → List V} {ok : δ → Prop} {φ : δ → V → Prop} {x qual : Str} {params : Arguments} {body : List Stmt} {scope : Scope} {dvs : List V} {kws : List (Str × V)} {f : Addr} {fd : FuncData} {N ps : List Str} {k : Nat}
    (F : FunD K x qual params body scope dvs kws f fd) (S : FnScope N ps scope) (hl : ∀ d, (as d).length + 1 = ps.length) (hN : ps.length ≤ N.length)
    (h : ∀ (cdv : Value) (A : Around) (outer : List Env) (s : Shared) (H : Hp) (E : XK), Room k (A.deeper (envOfC qual scope s.heap.objs.size f cdv)) → ∀ d G a (i j : Nat), ok d → j < 4294967296 →
      XSs (cxOf CX0 P w K mg base N qual scope f cdv A outer s H E).nox ⟨dl a G, dl a G, dl a H⟩ body ((vVal (.ref a) :: (as d).map vVal).map some ++ List.replicate (N.length - (vVal (.ref a) :: (as d).map vVal).length) none) [(a, mLst [vInt (i : Int), vInt (j : Int)])] (potP ⟨dl a G, dl a G, dl a H⟩ a (φ d))) :
    FnOk P w K mg base CX0 (k + 1) f fd ps (spP (fun d => vPot :: (as d).map vVal) ok fun d => ⟨fun _ v => φ d v, fun _ h => h⟩) := by
  refine F.ok S (fun vs H Q E ⟨d, G, i, a, o, q⟩ => by rw [a.len, List.length_cons, List.length_map, hl]) fun cdv A outer s H vs Q E hr ⟨d, G, i, al, o, q⟩ => ?_
  cases al with
  | cons ra al =>
    obtain ⟨a, rfl, ha⟩ := ra
    have e2 := AlA.vals (g := fun v => v) al
    rw [List.map_id'] at e2
    subst e2
    have hH : H a = some (.ext (potAt a)) := i _ _ ha
    refine ⟨tPot (wSs _ body), (pss_pot pss_w).nox, a, hH, fun n m hm => ?_⟩
    have al1 : AlA (dl a G) (as d) ((as d).map vVal) := by have := alA_vals (G := dl a G) (g := fun v : V => v) (ds := as d); rwa [List.map_id'] at this
    have al2 : AlA (dl a G) (V.ref a :: as d) (vVal (.ref a) :: (as d).map vVal) := .cons rfl al1
    refine h cdv A outer s H E hr d G a n m o hm (dl a G) (upd H a (.lst [.int (n : Int), .int (m : Int)])) (L2.start N (V.ref a :: as d)) ⟨⟨.refl _, fun b o e => ?_, fun b o e => ?_, fun b o e z => ?_⟩, .refl _, ⟨fun b o e => ?_, start_al al2 (by rw [al2.len, List.length_cons, List.length_map, hl]; exact hN), by simp, fun q hq => ?_⟩, fun q hq => ?_⟩ _ ⟨fun _ _ _ z => z.elim, fun v G' H' ⟨hv, t, hp⟩ => ?_, fun _ _ _ z => z.elim, fun _ _ _ z => z.elim⟩
    · have e : dl a H b = some o := e
      have ne : b ≠ a := fun z => by rw [z, dl_at] at e; cases e
      rw [dl_ne ne] at e
      rw [upd_ne ne]; exact e
    · have e : dl a G b = some o := e
      have ne : b ≠ a := fun z => by rw [z, dl_at] at e; cases e
      rw [dl_ne ne] at e
      rw [upd_ne ne]; exact i _ _ e
    · have z' : dl a G b = none := z
      rw [z'] at e; cases e
    · have e : dl a G b = some o := e
      have ne : b ≠ a := fun z => by rw [z, dl_at] at e; cases e
      rw [dl_ne ne] at e
      rw [upd_ne ne]; exact i _ _ e
    · obtain rfl : q = (a, mLst [vInt (n : Int), vInt (m : Int)]) := by simpa using hq
      exact ⟨dl_at, _, upd_same, _, rfl, .cons rfl (.cons rfl .nil)⟩
    · obtain rfl : q = (a, mLst [vInt (n : Int), vInt (m : Int)]) := by simpa using hq
      exact dl_at
    · exact ⟨hp, q v _ _ (t.pot ha i) hv⟩
theorem AlA.set {G : Hp} {v : V} {p : Pv} (h : p.r G v) : ∀ {vs : List V} {ps : List Pv} (i : Nat), AlA G vs ps → AlA G (vs.set i v) (ps.set i p)
  | _, _, _, .nil => .nil
  | _, _, 0, .cons _ t => .cons h t
  | _, _, i + 1, .cons h1 t => .cons h1 (t.set h i)
section
variable {X : Cx} {e o k' : Expr} {Γ : En} {p q : Pv} {ps : List Pv} {pos apos tpos px : Pos} {e0 : Eb} {P : Pst} {M1 M2 : Mu} {kk : Nat} {rest : List Stmt}
/-- o[k] = e, a list -/
theorem xs_ix {a : Addr} {i : Int} {j : Nat} (he : XE X e Γ (M1 ++ (a, mLst ps) :: M2) p) (ho : XE X o Γ (M1 ++ (a, mLst ps) :: M2) (vVal (.ref a))) (hk : XE X k' Γ (M1 ++ (a, mLst ps) :: M2) (vInt i)) (hx : ixN ps.length i = some j) (kq : ∀ G H σ, Sta e0 G H σ Γ (M1 ++ (a, mLst (ps.set j p)) :: M2) → P.nx G H σ)
    (hs : swapsWithSole [.Subscript o k' apos] e pos.line X.env = pure false := by rfl) (hw : swappedStores [.Subscript o k' apos] e X.env = pure none := by rfl) (h1 : (assignEach [.Subscript o k' apos] X.env).map (·.2) = [assign (.Subscript o k' apos) X.env] := by rfl)
    (ha : ∀ v, assign (.Subscript o k' apos) X.env v = (do
      let ov ← holding [v] (eval o X.env)
      let iv ← holding [v, ov] (eval k' X.env)
      standAt apos
      holding [v, ov, iv] (setItem ov iv v)
      release [v, ov, iv] []) := by intro _; rfl) : XS X e0 (.Assign [.Subscript o k' apos] e pos) Γ (M1 ++ (a, mLst ps) :: M2) P := fun G H σ s D f =>
  ⟨_, ps_asg pe_w (pg_sub pe_w pe_w set_list ha) hs hw h1, he G H σ s.s _ fun v G1 H1 t1 r1 => ho G1 H1 σ (s.stp t1).s _ fun u G2 H2 t2 r2 => hk G2 H2 σ ((s.stp t1).stp t2).s _ fun w G3 H3 t3 r3 => by
    obtain rfl : u = .ref a := r2
    obtain rfl : w = .int i := r3
    have s3 := ((s.stp t1).stp t2).stp t3
    obtain ⟨hg, ob, hh, xs, rfl, al⟩ := s3.s.m (a, mLst ps) (by simp)
    exact ⟨a, xs, i, j, rfl, rfl, hh, by rw [al.len]; exact hx, f.nx _ _ _ (kq _ _ _ (s3.write ⟨_, rfl, al.set (Pv.mono _ (le_same (t2.g.trans t3.g)) r1) j⟩))⟩⟩
/-- o[k], n = e -/
theorem xss_ixName {a : Addr} {i : Int} {j l : Nat} {n : Str} (hc : X.calm = true) (hN : X.N.Nodup) (he : XE X e Γ (M1 ++ (a, mLst ps) :: M2) (vTup [p, q])) (ho : XE X o Γ (M1 ++ (a, mLst ps) :: M2) (vVal (.ref a))) (hk : XE X k' Γ (M1 ++ (a, mLst ps) :: M2) (vInt i)) (hx : ixN ps.length i = some j)
    (kq : XSs X e0 rest (Γ.set l (some q)) (M1 ++ (a, mLst (ps.set j p)) :: M2) P) (hl : X.N[l]? = some n := by rfl) (hlo : Loc X.env.scope n := by first | exact .inl rfl | exact .inr rfl) (hf : X.fn n = true ∨ X.env.scope.names.lookup n = some .local := by first | exact .inl rfl | exact .inr rfl)
    (hs : swapsWithSole [.Tuple [.Subscript o k' apos, .Name n px] kk tpos] e pos.line X.env = pure false := by rfl) (hw : swappedStores [.Tuple [.Subscript o k' apos, .Name n px] kk tpos] e X.env = pure none := by rfl)
    (h1 : (assignEach [.Tuple [.Subscript o k' apos, .Name n px] kk tpos] X.env).map (·.2) = [assign (.Tuple [.Subscript o k' apos, .Name n px] kk tpos) X.env] := by rfl)
    (hn : (assignEach [.Subscript o k' apos, .Name n px] X.env).length = 2 := by rfl) (hst : (assignEach [.Subscript o k' apos, .Name n px] X.env).findIdx? (·.1) = none := by rfl)
    (hg1 : (assignEach [.Subscript o k' apos, .Name n px] X.env).map (·.2) = assign (.Subscript o k' apos) X.env :: (assignEach [.Name n px] X.env).map (·.2) := by rfl) (hg2 : (assignEach [.Name n px] X.env).map (·.2) = assign (.Name n px) X.env :: (assignEach [] X.env).map (·.2) := by rfl)
    (ha : ∀ v, assign (.Subscript o k' apos) X.env v = (do
      let ov ← holding [v] (eval o X.env)
      let iv ← holding [v, ov] (eval k' X.env)
      standAt apos
      holding [v, ov, iv] (setItem ov iv v)
      release [v, ov, iv] []) := by intro _; rfl) : XSs X e0 (.Assign [.Tuple [.Subscript o k' apos, .Name n px] kk tpos] e pos :: rest) Γ (M1 ++ (a, mLst ps) :: M2) P := fun G H σ s D f =>
  ⟨_, pss_cons (ps_asg pe_w (pg_tup hc (pgs_cons (pg_sub pe_w pe_w set_list ha) (pgs_cons (pg_name hN hl hlo hf) pgs_nil hg2) hg1) hn hst) hs hw h1) pss_w, he G H σ s.s _ fun v G1 H1 t1 r1 => by
    obtain ⟨t, xs, rfl, ht, al⟩ := r1
    obtain ⟨u, w, rfl, ru, rw'⟩ := alA2 al
    have s1 := s.stp t1
    refine ⟨t, [u, w], rfl, SqT.of (t1.i _ _ ht), rfl, u, [w], rfl, ho G1 H1 σ s1.s _ fun v2 G2 H2 t2 r2 => hk G2 H2 σ (s1.stp t2).s _ fun v3 G3 H3 t3 r3 => ?_⟩
    obtain rfl : v2 = .ref a := r2
    obtain rfl : v3 = .int i := r3
    have s3 := (s1.stp t2).stp t3
    obtain ⟨hg, ob, hh, ys, rfl, al2⟩ := s3.s.m (a, mLst ps) (by simp)
    have l3 := le_same (t2.g.trans t3.g)
    exact ⟨a, ys, i, j, rfl, rfl, hh, by rw [al2.len]; exact hx, w, [], rfl, rfl, kq _ _ _ ((s3.write (o' := mLst (ps.set j p)) ⟨_, rfl, al2.set (Pv.mono _ l3 ru) j⟩).set (Pv.mono _ l3 rw')) D f⟩⟩
end
end K53
end KFl_
section MC_
set_option maxRecDepth 100000
set_option maxHeartbeats 4000000
/-! MC: models. -/
namespace K53
open PySem PySem.Spec PyProof.Rows L2
structure Tie where
  a : Str
  m : Mn
  b : Str
  n : Mn
abbrev Ties := List (Str × Tie)
structure Web where
  ks : List Str
  ts : Ties
def Tie.kd (t : Tie) (b : Bool) : Str := if b then t.a else t.b
def Tie.mn (t : Tie) (b : Bool) : Mn := if b then t.m else t.n
structure TieOk (t : Tie) : Prop where
  a : NameOk t.a
  b : NameOk t.b
  m : MnOk t.m
  n : MnOk t.n
def vTie (K : PySem.W.Frag) (t : Tie) : Pv := vTup [vStr t.a, vMany K t.m, vStr t.b, vMany K t.n]
def pTies (K : PySem.W.Frag) (ts : Ties) : List (Str × Pv) := ts.map fun x => (x.1, vTie K x.2)
def fsWeb (K : PySem.W.Frag) (W : Web) : List (Str × Pv) := [("own_kinds", vTup (W.ks.map fun s => vStr s)), ("own_links", vDic (pTies K W.ts))]
def vWeb (K : PySem.W.Frag) (W : Web) : Pv := vIns (He.ga K "Model") (fsWeb K W)
theorem pTies_keys {K : PySem.W.Frag} {ts : Ties} : (pTies K ts).map (·.1) = ts.map (·.1) := by unfold pTies; rw [List.map_map]; rfl
theorem pTies_look {K : PySem.W.Frag} {ts : Ties} {s : Str} : (pTies K ts).lookup s = (ts.lookup s).map (vTie K) := lookup_map
/-- kinds as they are handed in -/
structure KsOk (ks : List Str) : Prop where
  ne : ks ≠ []
  nm : ∀ k ∈ ks, NameOk k
  nd : ks.Nodup
  ln : ks.length ≤ 5
structure TsOk (ks : List Str) (ts : Ties) : Prop where
  nm : ∀ x ∈ ts, NameOk x.1
  ok : ∀ x ∈ ts, TieOk x.2
  ia : ∀ x ∈ ts, x.2.a ∈ ks
  ib : ∀ x ∈ ts, x.2.b ∈ ks
  nd : (ts.map (·.1)).Nodup
  ln : ts.length ≤ 8
structure WebOk (W : Web) : Prop where
  k : KsOk W.ks
  t : TsOk W.ks W.ts
  sk : W.ks.Pairwise (fun a b => leS a b = true)
  st : (W.ts.map (·.1)).Pairwise (fun a b => leS a b = true)
theorem kitQ1 {K : PySem.W.Frag} : PySem.W.kitAny K (.type "list") [.type "list", .type "tuple"] = some true := kitAny_cons (b := true) (kit_ty (by decide +kernel)) (fun z => nomatch z) fun _ => rfl
theorem kitQ2 {K : PySem.W.Frag} : PySem.W.kitAny K (.type "tuple") [.type "list", .type "tuple"] = some true := kitAny_cons (b := false) (kit_ty (by decide +kernel)) (fun _ => kitAny_cons (b := true) (kit_ty (by decide +kernel)) (fun z => nomatch z) fun _ => rfl) fun z => nomatch z
theorem look_mem {α : Type} {s : Str} {x : α} : ∀ {l : List (Str × α)}, l.lookup s = some x → (s, x) ∈ l
  | [], h => by simp at h
  | (k, y) :: l, h => by
    rw [List.lookup_cons] at h
    by_cases z : s = k
    · subst z; rw [beq_self_eq_true] at h; cases h; exact List.mem_cons_self
    · rw [show (s == k) = false by simpa using z] at h
      exact List.mem_cons_of_mem _ (look_mem h)
theorem look_of {α : Type} {s : Str} {x : α} : ∀ {l : List (Str × α)}, (l.map (·.1)).Nodup → (s, x) ∈ l → l.lookup s = some x
  | [], _, h => by simp at h
  | (k, y) :: l, nd, h => by
    rw [List.map_cons, List.nodup_cons] at nd
    rw [List.lookup_cons]
    rcases List.mem_cons.mp h with h | h
    · cases h; rw [beq_self_eq_true]
    · have : s ≠ k := fun z => nd.1 (z ▸ List.mem_map_of_mem (f := (·.1)) h)
      rw [show (s == k) = false by simpa using this]
      exact look_of nd.2 h
section
variable {P : Program} {w : World} {K : PySem.W.Frag} {mg : Str → Option Value} {base : Heap}
theorem fd_are_ends (T : Txt K mg) : Fd P w K mg base "are_ends" 4 ["value"] [] (spP (δ := Tie) (fun t => [vTie K t]) (TieOk) (fun _ => vBl true)) := by
  obtain ⟨g, fd, F⟩ := T.fn i_are_ends d_are_ends rfl
  refine ⟨_, fd, [], g rfl, F.kp, .nil, F.bindsN fun _ _ _ _ _ _ us hl => match us, hl with | [_], _ => rfl, ?_⟩
  have S : FnScope ["value"] ["value"] (defScope s_are_ends) := ⟨rfl, rfl, rfl, by decide +kernel, rfl, by decide +kernel, by decide +kernel⟩
  refine fd_of (N := ["value"]) F S (fun _ => rfl) (by decide) ?_
  intro cdv A outer s H E hr t G ok
  refine xss_iff (XT.is (xw_or (xt_not (xt_val (xe_isi (T.free "isinstance" rfl) (xv 0) (xe_bt (T.free "tuple" rfl) (by decide +kernel) (x := .ty "tuple") rfl) (.ty _) (isi_tup (b := true) (kit_ty (by decide +kernel))))))
    (fun _ => xw_or1 (xt_ne (x := .int _) (y := .int 4) (xe_lenT (T.free "len" rfl) (xv 0)) xe_int))).pt rfl) ?_
  refine xss_one (xs_ret (XE.is (xe_and (u := true) (xe_call (fd_is_name T) t.a hr (xa_cons (xe_ixT (i := 0) (xv 0) xe_int rfl) xa_nil) ok.a)
    (fun _ => xe_and (u := true) (xe_call (fd_is_end_many T) t.m hr (xa_cons (xe_ixT (i := 1) (xv 0) xe_int rfl) xa_nil) ok.m)
    (fun _ => xe_and (u := true) (xe_call (fd_is_name T) t.b hr (xa_cons (xe_ixT (i := 2) (xv 0) xe_int rfl) xa_nil) ok.b)
    (fun _ => xe_one (xe_call (fd_is_end_many T) t.n hr (xa_cons (xe_ixT (i := 3) (xv 0) xe_int rfl) xa_nil) ok.n))))) rfl) fun _ _ _ t r => ⟨t, r⟩)
theorem fd_want_kinds (T : Txt K mg) : Fd P w K mg base "want_kinds" 2 ["value"] [] (spP (δ := Bool × List Str) (fun d => [vSeq d.1 (d.2.map fun s => vStr s)]) (fun d => KsOk d.2) (fun _ => vNon)) := by
  obtain ⟨g, fd, F⟩ := T.fn i_want_kinds d_want_kinds rfl
  refine ⟨_, fd, [], g rfl, F.kp, .nil, F.bindsN fun _ _ _ _ _ _ us hl => match us, hl with | [_], _ => rfl, ?_⟩
  have S : FnScope ["value", "position", "one"] ["value"] (defScope s_want_kinds) := ⟨rfl, rfl, rfl, by decide +kernel, rfl, by decide +kernel, by decide +kernel⟩
  refine fd_of (N := ["value", "position", "one"]) F S (fun _ => rfl) (by decide) ?_
  intro cdv A outer s H E hr ⟨t, ks⟩ G ok
  have ok : KsOk ks := ok
  refine xss_iff (XT.is (xw_or (xt_not (xt_val (xe_isiQ (r := true) (T.free "isinstance" rfl) (xv 0) (xe_bt (T.free "list" rfl) (by decide +kernel) (x := .ty "list") rfl) (xe_bt (T.free "tuple" rfl) (by decide +kernel) (x := .ty "tuple") rfl) (.ty _) (.ty _) kitQ1 kitQ2)))
    (fun _ => xw_or1 (xt_eq (x := .int _) (y := .int 0) (xe_lenQ (T.free "len" rfl) (xv 0)) xe_int))).pt ?_) ?_
  · have := List.length_pos_iff.mpr ok.ne
    have e : decide (V.int ((ks.map fun s => vStr s).length : Int) = V.int 0) = false := by
      rw [List.length_map]
      exact decide_eq_false fun z => by injection z with z; omega
    rw [e]; rfl
  · refine xss_one (xs_for (fun _ : Unit => [some (vSeq t (ks.map fun s => vStr s)), none, none]) (fun _ => []) (fun _ _ => True) rfl (xi_enumQ (T.free "enumerate" rfl) (xv 0)) (fun _ _ _ s => ⟨(), trivial, s.fg (by repeat (first | exact fg_nil | apply fg_keep | apply fg_drop))⟩) (fun i d x B hd _ => ?_) (fun G H σ ⟨_, _, s⟩ => ⟨s.t, rfl⟩))
    have hd' : ks[i]? = some d.1 ∧ d.2 = i := by
      rw [List.getElem?_zipIdx] at hd
      cases e : ks[i]? with
      | none => rw [e] at hd; cases hd
      | some u => rw [e] at hd; cases hd; exact ⟨rfl, by simp⟩
    obtain ⟨one, j⟩ := d
    obtain ⟨h1, e⟩ := hd'
    have h1 : ks[i]? = some one := h1
    obtain rfl : j = i := e
    refine ⟨_, _, xg_tup rfl (xgs_cons (xg_name 1 S.nd) (xgs_cons (xg_name 2 S.nd) xgs_nil)), ?_⟩
    refine xss_iff (XT.is (xw_or (xt_not (xt_val (xe_call (fd_is_name T) one hr (xa_cons (xv 2) xa_nil) (ok.nm _ (List.mem_of_getElem? h1)))))
      (fun _ => xw_or1 (xt_inS (ss := ks.take j) (xv 2) (XE.is (xe_takeQ (xv 0) (xv 1)) (by rw [List.map_take]))))).pt ?_) (xss_nil fun _ _ _ s => ⟨(), trivial, s.fg (by repeat (first | exact fg_nil | apply fg_keep | apply fg_drop))⟩)
    have : one ∉ ks.take j := fun hm => by
      have h2 := ok.nd
      rw [← List.take_append_drop j ks, List.nodup_append] at h2
      refine h2.2.2 _ hm one ?_ rfl
      rw [List.mem_iff_getElem?]
      exact ⟨0, by rw [List.getElem?_drop, Nat.add_zero]; exact h1⟩
    rw [decide_eq_false this]; rfl
theorem u1 {k : Nat} {A : Around} (r : Room k A) : A.units + 1 < cLine := by have := r.un; omega
theorem nonP_dicAt {d : Addr} {ps} : NonP (vDicAt d ps) false := fun G v ⟨h, _⟩ => by subst h; rfl
theorem vDic_open {kp : List (Str × Pv)} (G : Hp) (v : V) (h : (vDic kp).r G v) : ∃ d, (vDicAt d kp).r G v := h
/-- of a name that holds a dict -/
theorem hvD {i d : Nat} {kp : List (Str × Pv)} {Γ : En} {M : Mu} (hi : Γ[i]? = some (some (vDicAt d kp))) : ∀ G H σ, St0 G H σ Γ M → ∃ kv, Rd G d (.dK kv) ∧ AlD G kv kp := fun G H σ s => by
  obtain ⟨v, h1, h2, kv, h3, h4⟩ := s.a.2 i _ hi
  exact ⟨kv, h3, h4⟩
theorem vDicAt_ref {d : Addr} {kp : List (Str × Pv)} (G : Hp) (v : V) (h : (vDicAt d kp).r G v) : (vVal (.ref d)).r G v := h.1
theorem fd_want_links (T : Txt K mg) : Fd P w K mg base "want_links" 5 ["value", "kinds"] [] (spP (δ := Ties × Bool × List Str) (fun d => [vDic (pTies K d.1), vSeq d.2.1 (d.2.2.map fun s => vStr s)]) (fun d => TsOk d.2.2 d.1) (fun _ => vNon)) := by
  obtain ⟨g, fd, F⟩ := T.fn i_want_links d_want_links rfl
  refine ⟨_, fd, [], g rfl, F.kp, .nil, F.bindsN fun _ _ _ _ _ _ us hl => match us, hl with | [_, _], _ => rfl, ?_⟩
  have S : FnScope ["value", "kinds", "link", "ends"] ["value", "kinds"] (defScope s_want_links) := ⟨rfl, rfl, rfl, by decide +kernel, rfl, by decide +kernel, by decide +kernel⟩
  refine fd_of (N := ["value", "kinds", "link", "ends"]) F S (fun _ => rfl) (by decide) ?_
  intro cdv A outer s H E hr ⟨ts, t, ks⟩ G ok
  have ok : TsOk ks ts := ok
  refine xss_open (i := 0) (g := fun d => vDicAt d (pTies K ts)) rfl vDic_open fun d => ?_
  refine xss_iff (xt_isN (xv 0) nonP_dicAt) ?_
  refine xss_iff (XT.is (xw_or (xt_not (xt_val (xe_isi (b := true) (T.free "isinstance" rfl) (xv 0) (xe_bt (T.free "dict" rfl) (by decide +kernel) (x := .ty "dict") rfl) (.ty _) (isi_dicAt (kit_ty (by decide +kernel))))))
    (fun _ => xw_or1 (xt_not (xt_val (xe_all (bs := (pTies K ts).map fun _ => true) rfl (T.free "all" rfl) (XE.is (xe_lcD0 (d := d) (kp := pTies K ts) (own := [("link", 2)]) (g := fun _ => vBl true) (fun x => [some (vDicAt d (pTies K ts)), some (vSeq t (ks.map fun s => vStr s)), some (vStr x.1), none]) rfl S.nd (hvD (i := 0) rfl) ((xv 0).weak vDicAt_ref) (blkOk_by (N := ["value", "kinds", "link", "ends"]) (sc := defScope s_want_links) (by decide +kernel)) (fun _ _ _ _ _ _ _ => xg_name 2 S.nd) (fun _ _ _ _ _ x hx => ?_) ?_) ?_)))))).pt ?_) ?_
  · refine xe_call (fd_is_name T) x.1 hr (xa_cons (xv 2) xa_nil) ?_
    obtain ⟨y, hy, rfl⟩ := List.mem_map.mp hx
    exact ok.nm y hy
  · rw [show (pTies K ts).length = ts.length from List.length_map _, sizeLine_eq]; have := ok.ln; omega
  · rw [List.map_map]; rfl
  · rw [show ((pTies K ts).map fun _ => true).all id = true from List.all_eq_true.mpr fun b hb => by obtain ⟨_, _, rfl⟩ := List.mem_map.mp hb; rfl]; rfl
  · refine xss_one (xs_for (ds := sortS (ts.map (·.1))) (f := fun s => vStr s) (fun _ : Unit => [some (vDicAt d (pTies K ts)), some (vSeq t (ks.map fun s => vStr s)), none, none]) (fun _ => []) (fun _ _ => True) rfl (xi_lst (XE.is (xn_sortD rfl (T.free "sorted" rfl) (xv 0) vwD_at (by rw [show (pTies K ts).length = ts.length from List.length_map _]; have := ok.ln; omega)).lst (by rw [pTies_keys]))) (fun _ _ _ s => ⟨(), trivial, s.fg (by repeat (first | exact fg_nil | apply fg_keep | apply fg_drop))⟩) (fun i s x B hs _ => ?_) (fun G H σ ⟨_, _, s⟩ => ⟨s.t, rfl⟩))
    have hs1 : s ∈ ts.map (·.1) := mem_sortS.mp (List.mem_of_getElem? hs)
    obtain ⟨y, hy, rfl⟩ := List.mem_map.mp hs1
    have hl : ts.lookup y.1 = some y.2 := look_of ok.nd hy
    refine ⟨_, _, xg_name 2 S.nd, ?_⟩
    refine xss_set (i := 3) (xe_dget (u1 hr) (xv 0) (xv 2) vwD_at (q := vTie K y.2) (by rw [pTies_look, hl]; rfl)) S.nd ?_
    refine xss_iff (XT.is (xw_or (xt_not (xt_val (xe_call (fd_are_ends T) y.2 hr (xa_cons (xv 3) xa_nil) (ok.ok y hy)))) (fun _ => xw_or (xt_ninS (xe_ixT (i := 0) (xv 3) xe_int rfl) (xv 1)) (fun _ => xw_or1 (xt_ninS (xe_ixT (i := 2) (xv 3) xe_int rfl) (xv 1))))).pt ?_) (xss_nil fun _ _ _ s => ⟨(), trivial, s.fg (by repeat (first | exact fg_nil | apply fg_keep | apply fg_drop))⟩)
    rw [decide_eq_true (ok.ia y hy), decide_eq_true (ok.ib y hy)]; rfl
theorem fd_want_few (T : Txt K mg) : Fd P w K mg base "want_few" 1 ["kind_count", "link_count"] [] (spP (δ := Nat × Nat) (fun d => [vInt (d.1 : Int), vInt (d.2 : Int)]) (fun d => d.1 ≤ 5 ∧ d.2 ≤ 8) (fun _ => vNon)) := by
  obtain ⟨g, fd, F⟩ := T.fn i_want_few d_want_few rfl
  refine ⟨_, fd, [], g rfl, F.kp, .nil, F.bindsN fun _ _ _ _ _ _ us hl => match us, hl with | [_, _], _ => rfl, ?_⟩
  have S : FnScope ["kind_count", "link_count"] ["kind_count", "link_count"] (defScope s_want_few) := ⟨rfl, rfl, rfl, by decide +kernel, rfl, by decide +kernel, by decide +kernel⟩
  refine fd_of (N := ["kind_count", "link_count"]) F S (fun _ => rfl) (by decide) ?_
  intro cdv A outer s H E hr ⟨a, b⟩ G ok
  have ok : a ≤ 5 ∧ b ≤ 8 := ok
  obtain ⟨uk, hk⟩ := T.cKinds
  obtain ⟨ul, hl⟩ := T.cLinks
  refine xss_iff (XT.is (xt_gt (xv 0) (xe_cval (xe_gl (x := .ref (He.ga K "Model")) T.model.g rfl) (T.cread "Model" (by simp)) hk)) (decide_eq_false (by omega))) ?_
  exact xss_iff (XT.is (xt_gt (xv 1) (xe_cval (xe_gl (x := .ref (He.ga K "Model")) T.model.g rfl) (T.cread "Model" (by simp)) hl)) (decide_eq_false (by omega))) xss_fall
theorem isi_web (T : Txt K mg) {W : Web} : IsiP K (vWeb K W) (.ref (He.ga K "Model")) true := isi_ins T.model.cl T.model.ci (T.kit ("Model", "Model", true) (by simp))
theorem fd_want_model (T : Txt K mg) : Fd P w K mg base "want_model" 1 ["value"] [] (spP (δ := Web) (fun W => [vWeb K W]) (fun _ => True) (fun _ => vNon)) := by
  obtain ⟨g, fd, F⟩ := T.fn i_want_model d_want_model rfl
  refine ⟨_, fd, [], g rfl, F.kp, .nil, F.bindsN fun _ _ _ _ _ _ us hl => match us, hl with | [_], _ => rfl, ?_⟩
  have S : FnScope ["value"] ["value"] (defScope s_want_model) := ⟨rfl, rfl, rfl, by decide +kernel, rfl, by decide +kernel, by decide +kernel⟩
  refine fd_of (N := ["value"]) F S (fun _ => rfl) (by decide) ?_
  intro cdv A outer s H E hr W G ok
  exact xss_iff (xt_nott (xt_val (xe_isi (T.free "isinstance" rfl) (xv 0) (xe_gl (x := .ref (He.ga K "Model")) T.model.g rfl) (.own _) (isi_web T)))) xss_fall
theorem md_Model_contains (T : Txt K mg) : Md P w K mg base (He.ga K "Model") "__contains__" 2 ["self", "value"] (spP (δ := Web × Str) (fun d => [vWeb K d.1, vStr d.2]) (fun d => NameOk d.2) (fun d => vBl (decide (d.2 ∈ d.1.ks)))) := by
  obtain ⟨g, fd, F⟩ := T.fn i_Model_contains d_Model_contains rfl
  refine ⟨_, fd, T.model.me "__contains__" (by simp), F.bindsN fun _ _ _ _ _ _ us hl => match us, hl with | [_, _], _ => rfl, ?_⟩
  have S : FnScope ["self", "value"] ["self", "value"] (defScope s_Model_contains) := ⟨rfl, rfl, rfl, by decide +kernel, rfl, by decide +kernel, by decide +kernel⟩
  refine fd_of (N := ["self", "value"]) F S (fun _ => rfl) (by decide) ?_
  intro cdv A outer s H E hr ⟨W, s⟩ G ok
  refine xss_one (xs_ret (XE.is (xe_and (xe_call (fd_is_name T) s hr (xa_cons (xv 1) xa_nil) ok) (fun _ => xe_one (xe_inS (t := true) (ss := W.ks) (xv 1) (xe_fld (xv 0) vwI (q := vTup (W.ks.map fun s => vStr s)) rfl T.model.cl (T.model.na "own_kinds" (by simp)))))) ?_) fun _ _ _ t r => ⟨t, r⟩)
  rw [Bool.true_and]
theorem fd_want_kind (T : Txt K mg) : Fd P w K mg base "want_kind" 3 ["model", "value"] [] (spP (δ := Web × Str) (fun d => [vWeb K d.1, vStr d.2]) (fun d => NameOk d.2 ∧ d.2 ∈ d.1.ks) (fun _ => vNon)) := by
  obtain ⟨g, fd, F⟩ := T.fn i_want_kind d_want_kind rfl
  refine ⟨_, fd, [], g rfl, F.kp, .nil, F.bindsN fun _ _ _ _ _ _ us hl => match us, hl with | [_, _], _ => rfl, ?_⟩
  have S : FnScope ["model", "value"] ["model", "value"] (defScope s_want_kind) := ⟨rfl, rfl, rfl, by decide +kernel, rfl, by decide +kernel, by decide +kernel⟩
  refine fd_of (N := ["model", "value"]) F S (fun _ => rfl) (by decide) ?_
  intro cdv A outer s H E hr ⟨W, s⟩ G ok
  have ok : NameOk s ∧ s ∈ W.ks := ok
  exact xss_iff (XT.is (xt_ninI (md_Model_contains T) (W, s) hr (xv 1) (xv 0) rfl ok.1) (by rw [decide_eq_true ok.2]; rfl)) xss_fall
theorem fd_want_link (T : Txt K mg) : Fd P w K mg base "want_link" 2 ["model", "value"] [] (spP (δ := Web × Str × Tie) (fun d => [vWeb K d.1, vStr d.2.1]) (fun d => NameOk d.2.1 ∧ d.1.ts.lookup d.2.1 = some d.2.2) (fun _ => vNon)) := by
  obtain ⟨g, fd, F⟩ := T.fn i_want_link d_want_link rfl
  refine ⟨_, fd, [], g rfl, F.kp, .nil, F.bindsN fun _ _ _ _ _ _ us hl => match us, hl with | [_, _], _ => rfl, ?_⟩
  have S : FnScope ["model", "value"] ["model", "value"] (defScope s_want_link) := ⟨rfl, rfl, rfl, by decide +kernel, rfl, by decide +kernel, by decide +kernel⟩
  refine fd_of (N := ["model", "value"]) F S (fun _ => rfl) (by decide) ?_
  intro cdv A outer s H E hr ⟨W, s, t⟩ G ok
  have ok : NameOk s ∧ W.ts.lookup s = some t := ok
  refine xss_iff (XT.is (xw_or (xt_not (xt_val (xe_call (fd_is_name T) s hr (xa_cons (xv 1) xa_nil) ok.1))) (fun _ => xw_or1 (xt_dnotin (u1 hr) (xv 1) (xe_fld (xv 0) vwI (q := vDic (pTies K W.ts)) rfl T.model.cl (T.model.na "own_links" (by simp))) vwD))).pt ?_) xss_fall
  rw [pTies_look, ok.2]; rfl
end
end K53
end MC_
section MD_
set_option maxRecDepth 100000
set_option maxHeartbeats 4000000
/-! MD: making models, their methods. -/
namespace K53
open PySem PySem.Spec PyProof.Rows L2
def tie0 : Tie := ⟨"", (0, none), "", (0, none)⟩
def sortT (ts : Ties) : Ties := (sortS (ts.map (·.1))).map fun s => (s, (ts.lookup s).getD tie0)
def mkWeb (ks : List Str) (ts : Ties) : Web := ⟨sortS ks, sortT ts⟩
theorem sortT_keys (ts : Ties) : (sortT ts).map (·.1) = sortS (ts.map (·.1)) := by unfold sortT; rw [List.map_map]; exact List.map_id _
theorem sortT_mem {ts : Ties} (nd : (ts.map (·.1)).Nodup) {x : Str × Tie} : x ∈ sortT ts ↔ x ∈ ts := by
  unfold sortT
  rw [List.mem_map]
  constructor
  · rintro ⟨s, hs, rfl⟩
    obtain ⟨y, hy, rfl⟩ := List.mem_map.mp (mem_sortS.mp hs)
    rw [look_of nd hy]; exact hy
  · intro h
    refine ⟨x.1, mem_sortS.mpr (List.mem_map_of_mem h), ?_⟩
    rw [look_of nd h]; rfl
theorem sortT_look {ts : Ties} (nd : (ts.map (·.1)).Nodup) {s : Str} : (sortT ts).lookup s = ts.lookup s := by
  have nd2 : ((sortT ts).map (·.1)).Nodup := by rw [sortT_keys]; exact sortS_nodup nd
  cases h : ts.lookup s with
  | some t => exact look_of nd2 ((sortT_mem nd).mpr (look_mem h))
  | none =>
    cases h2 : (sortT ts).lookup s with
    | none => rfl
    | some t =>
      have := look_of nd ((sortT_mem nd).mp (look_mem h2))
      rw [this] at h; cases h
theorem mkWeb_ok {ks : List Str} {ts : Ties} (h1 : KsOk ks) (h2 : TsOk ks ts) : WebOk (mkWeb ks ts) := by
  refine ⟨⟨?_, fun k hk => h1.nm k (mem_sortS.mp hk), sortS_nodup h1.nd, ?_⟩, ⟨fun x hx => h2.nm x ((sortT_mem h2.nd).mp hx), fun x hx => h2.ok x ((sortT_mem h2.nd).mp hx), fun x hx => mem_sortS.mpr (h2.ia x ((sortT_mem h2.nd).mp hx)), fun x hx => mem_sortS.mpr (h2.ib x ((sortT_mem h2.nd).mp hx)), ?_, ?_⟩, sortS_pairwise _, ?_⟩
  · intro z
    have h : (sortS ks).length = ks.length := sortS_length ks
    have z : sortS ks = [] := z
    rw [z] at h
    exact h1.ne (List.length_eq_zero_iff.mp h.symm)
  · show (sortS ks).length ≤ 5
    rw [sortS_length]; exact h1.ln
  · show ((sortT ts).map (·.1)).Nodup
    rw [sortT_keys]; exact sortS_nodup h2.nd
  · show (sortT ts).length ≤ 8
    unfold sortT
    rw [List.length_map, sortS_length, List.length_map]; exact h2.ln
  · show ((sortT ts).map (·.1)).Pairwise _
    rw [sortT_keys]; exact sortS_pairwise _
theorem pTies_sortT {K : PySem.W.Frag} {ts : Ties} : pTies K (sortT ts) = (sortS (ts.map (·.1))).map fun s => (s, vTie K ((ts.lookup s).getD tie0)) := by unfold pTies sortT; rw [List.map_map]; rfl
section
variable {P : Program} {w : World} {K : PySem.W.Frag} {mg : Str → Option Value} {base : Heap}
theorem fi_Model (T : Txt K mg) : ∃ fd, FunD K "__init__" "Model.__init__" (defArgs s_Model_init) (defBody s_Model_init) (defScope s_Model_init) [.non] [] (He.ma K (He.ga K "Model") "__init__") fd ∧ FnOk P w K mg base CX0 6 (He.ma K (He.ga K "Model") "__init__") fd ["self", "kinds", "links"] (spI (He.ga K "Model") (δ := Bool × List Str × Ties) (fun d => [vSeq d.1 (d.2.1.map fun s => vStr s), vDic (pTies K d.2.2)]) (fun d => KsOk d.2.1 ∧ TsOk d.2.1 d.2.2) (fun d => fsWeb K (mkWeb d.2.1 d.2.2))) := by
  obtain ⟨g, fd, F⟩ := T.fn i_Model_init d_Model_init rfl
  refine ⟨fd, F, ?_⟩
  have S : FnScope ["self", "kinds", "links", "found", "link"] ["self", "kinds", "links"] (defScope s_Model_init) := ⟨rfl, rfl, rfl, by decide +kernel, rfl, by decide +kernel, by decide +kernel⟩
  refine fdi_of (N := ["self", "kinds", "links", "found", "link"]) F S (fun _ => rfl) (by decide) ?_
  intro cdv A outer s H E hr ⟨t, ks, ts⟩ G x ok
  have ok1 : KsOk ks := ok.1
  have ok2 : TsOk ks ts := ok.2
  have lt : (pTies K ts).length ≤ 8 := by rw [show (pTies K ts).length = ts.length from List.length_map _]; exact ok2.ln
  refine xss_open (i := 2) (g := fun d => vDicAt d (pTies K ts)) rfl vDic_open fun d => ?_
  refine xss_expr ((xe_call (fd_want_kinds T) (t, ks) hr (xa_cons (xv 1) xa_nil) ok1)) ?_
  refine xss_expr (xe_call (fd_want_links T) (ts, t, ks) hr (xa_cons ((xv 2).weak fun _ _ h => ⟨d, h⟩) (xa_cons (xv 1) xa_nil)) ok2) ?_
  refine xss_set (i := 3) (xe_if (u := false) (xt_isN (xv 2) nonP_dicAt) (fun z => nomatch z) (fun _ => xv 2)) S.nd ?_
  refine xss_expr (xe_call (fd_want_few T) (ks.length, ts.length) hr (xa_cons (XE.is (xe_lenQ (T.free "len" rfl) (xv 1)) (by rw [List.length_map])) (xa_cons (XE.is (xe_lenD (T.free "len" rfl) (xv 3) vwD_at) (by rw [show (pTies K ts).length = ts.length from List.length_map _])) xa_nil)) ⟨ok1.ln, ok2.ln⟩) ?_
  refine xss_cons (xs_fld (M1 := []) (xe_tupL (T.free "tuple" rfl) (xn_sortQ (T.free "sorted" rfl) (xv 1) (Nat.lt_of_le_of_lt ok1.ln (by decide))).lst vwL) (xv 0) (fun _ _ _ s => s) T.model.cl (T.model.na "own_kinds" (by simp))) ?_
  refine xss_one (xs_fld (M1 := []) (XE.is (XN.dic (xn_dc0 (ds := sortS (ts.map (·.1))) (f := fun s => vStr s) (k := fun s => s) (g := fun s => vTie K ((ts.lookup s).getD tie0)) (own := [("link", 4)]) (fun s => [some (vVal (.ref x)), some (vSeq t (ks.map fun s => vStr s)), some (vDicAt d (pTies K ts)), some (vDicAt d (pTies K ts)), some (vStr s)]) rfl S.nd
    (xi_lst (XE.is (xn_sortD rfl (T.free "sorted" rfl) (xv 3) vwD_at (by omega)).lst (by rw [pTies_keys]))) (blkOk_by (N := ["self", "kinds", "links", "found", "link"]) (sc := defScope s_Model_init) (by decide +kernel)) (fun _ _ _ _ _ _ _ => xg_name 4 S.nd) (fun _ _ _ _ _ _ _ => xv 4) (fun _ _ _ _ _ s hs => ?_) ?_ ?_)) (by rw [← pTies_sortT]; rfl)) (xv 0) (fun _ _ _ s => ⟨_, [], s⟩) T.model.cl (T.model.na "own_links" (by simp)))
  · obtain ⟨y, hy, rfl⟩ := List.mem_map.mp (mem_sortS.mp hs)
    refine xe_dget (u1 hr) (xv 3) (xv 4) vwD_at ?_
    rw [pTies_look, look_of ok2.nd hy]; rfl
  · rw [List.map_id']; exact sortS_nodup ok2.nd
  · rw [sortS_length, List.length_map, sizeLine_eq]; have := ok2.ln; omega
theorem id_Model (T : Txt K mg) : Id P w K mg base (He.ga K "Model") 6 ["self", "kinds", "links"] [] (spI (He.ga K "Model") (δ := Bool × List Str × Ties) (fun d => [vSeq d.1 (d.2.1.map fun s => vStr s), vDic (pTies K d.2.2)]) (fun d => KsOk d.2.1 ∧ TsOk d.2.1 d.2.2) (fun d => fsWeb K (mkWeb d.2.1 d.2.2))) := by
  obtain ⟨fd, F, ok⟩ := fi_Model (P := P) (w := w) (base := base) T
  obtain ⟨ds, hds, hb⟩ := F.binds1 (ps := ["self", "kinds", "links"]) 3 1 (by simp) rfl fun _ _ _ _ _ _ _ us its h1 h2 => match us, its, h1, h2 with | [_, _, _], [_], _, _ => ⟨_, rfl, rfl⟩
  exact ⟨⟨_, fd, ds, T.model.mak, hds, hb, ok⟩⟩
end
theorem ties_small {K : PySem.W.Frag} {ts : Ties} (h : ts.length ≤ 8) : (pTies K ts).length < sizeLine := by
  rw [show (pTies K ts).length = ts.length from List.length_map _, sizeLine_eq]; omega
/-- a model whose dict of links stands at d -/
def vWebAt (K : PySem.W.Frag) (d : Addr) (W : Web) : Pv := vIns (He.ga K "Model") [("own_kinds", vTup (W.ks.map fun s => vStr s)), ("own_links", vDicAt d (pTies K W.ts))]
theorem vWeb_open {K : PySem.W.Frag} {W : Web} (G : Hp) (v : V) (h : (vWeb K W).r G v) : ∃ d, (vWebAt K d W).r G v := by
  obtain ⟨a, dx, fv, e, h1, al⟩ := h
  cases al with
  | cons r1 t =>
    cases t with
    | cons r2 t =>
      obtain ⟨d, hd⟩ := r2
      exact ⟨d, a, dx, _, e, h1, .cons r1 (.cons hd t)⟩
theorem hvW {K : PySem.W.Frag} {W : Web} {i d : Nat} {Γ : En} {M : Mu} (hi : Γ[i]? = some (some (vWebAt K d W))) : ∀ G H σ, St0 G H σ Γ M → ∃ kv, Rd G d (.dK kv) ∧ AlD G kv (pTies K W.ts) := fun G H σ s => by
  obtain ⟨v, h1, a, dx, fv, e, h2, al⟩ := s.a.2 i _ hi
  cases al with
  | cons r1 t =>
    cases t with
    | cons r2 t =>
      obtain ⟨_, kv, h3, h4⟩ := r2
      exact ⟨kv, h3, h4⟩
def putTs (s : Str) (t : Tie) : Ties → Ties
  | [] => [(s, t)]
  | (k, p) :: r => if k = s then (k, t) :: r else (k, p) :: putTs s t r
theorem pTies_put {K : PySem.W.Frag} {s : Str} {t : Tie} : ∀ {ts : Ties}, putD s (vTie K t) (pTies K ts) = pTies K (putTs s t ts)
  | [] => rfl
  | (k, p) :: r => by
    show putD s (vTie K t) ((k, vTie K p) :: pTies K r) = _
    unfold putD putTs
    by_cases h : k = s
    · rw [if_pos h, if_pos h]; rfl
    · rw [if_neg h, if_neg h, pTies_put]; rfl
theorem putTs_keys {s : Str} {t : Tie} : ∀ {ts : Ties}, s ∈ ts.map (·.1) → (putTs s t ts).map (·.1) = ts.map (·.1)
  | [], h => by simp at h
  | (k, p) :: r, h => by
    unfold putTs
    by_cases e : k = s
    · rw [if_pos e]; rfl
    · rw [if_neg e, List.map_cons, List.map_cons, putTs_keys]
      rw [List.map_cons] at h
      rcases List.mem_cons.mp h with h | h
      · exact absurd h.symm e
      · exact h
theorem putTs_mem {s : Str} {t : Tie} {x : Str × Tie} : ∀ {ts : Ties}, x ∈ putTs s t ts → x = (s, t) ∨ x ∈ ts
  | [], h => by simp [putTs] at h; exact .inl h
  | (k, p) :: r, h => by
    unfold putTs at h
    by_cases e : k = s
    · rw [if_pos e] at h
      rcases List.mem_cons.mp h with h | h
      · subst e; exact .inl h
      · exact .inr (List.mem_cons_of_mem _ h)
    · rw [if_neg e] at h
      rcases List.mem_cons.mp h with h | h
      · rw [h]; exact .inr List.mem_cons_self
      · rcases putTs_mem h with h | h
        · exact .inl h
        · exact .inr (List.mem_cons_of_mem _ h)
theorem putTs_look {s s' : Str} {t : Tie} : ∀ {ts : Ties}, (putTs s t ts).lookup s' = if s' = s then some t else ts.lookup s'
  | [] => by
    unfold putTs
    rw [List.lookup_cons]
    by_cases e : s' = s
    · rw [if_pos e, e, beq_self_eq_true]
    · rw [if_neg e, show (s' == s) = false by simpa using e]
  | (k, p) :: r => by
    unfold putTs
    by_cases e : k = s
    · rw [if_pos e, List.lookup_cons, List.lookup_cons]
      subst e
      by_cases e2 : s' = k
      · rw [if_pos e2, e2, beq_self_eq_true]
      · rw [if_neg e2, show (s' == k) = false by simpa using e2]
    · rw [if_neg e, List.lookup_cons, List.lookup_cons]
      by_cases e2 : s' = k
      · subst e2; rw [beq_self_eq_true, if_neg e]
      · rw [show (s' == k) = false by simpa using e2]
        exact putTs_look
theorem TsOk.put {ks : List Str} {ts : Ties} {s : Str} {t : Tie} (h : TsOk ks ts) (hs : s ∈ ts.map (·.1)) (ht : TieOk t) (ia : t.a ∈ ks) (ib : t.b ∈ ks) : TsOk ks (putTs s t ts) := by
  have nm : NameOk s := by obtain ⟨y, hy, rfl⟩ := List.mem_map.mp hs; exact h.nm y hy
  refine ⟨fun x hx => ?_, fun x hx => ?_, fun x hx => ?_, fun x hx => ?_, by rw [putTs_keys hs]; exact h.nd, ?_⟩
  · rcases putTs_mem hx with rfl | hx
    · exact nm
    · exact h.nm x hx
  · rcases putTs_mem hx with rfl | hx
    · exact ht
    · exact h.ok x hx
  · rcases putTs_mem hx with rfl | hx
    · exact ia
    · exact h.ia x hx
  · rcases putTs_mem hx with rfl | hx
    · exact ib
    · exact h.ib x hx
  · have := congrArg List.length (putTs_keys (t := t) hs)
    rw [List.length_map, List.length_map] at this
    rw [this]; exact h.ln
def Tie.setM (t : Tie) (b : Bool) (m : Mn) : Tie := if b then { t with m := m } else { t with n := m }
section
variable {P : Program} {w : World} {K : PySem.W.Frag} {mg : Str → Option Value} {base : Heap}
theorem md_Model_kinds (T : Txt K mg) : Md P w K mg base (He.ga K "Model") "kinds" 1 ["self"] (spP (δ := Web) (fun W => [vWeb K W]) (fun _ => True) (fun W => vLst (W.ks.map fun s => vStr s))) := by
  obtain ⟨g, fd, F⟩ := T.fn i_Model_kinds d_Model_kinds rfl
  refine ⟨_, fd, T.model.me "kinds" (by simp), F.bindsN fun _ _ _ _ _ _ us hl => match us, hl with | [_], _ => rfl, ?_⟩
  have S : FnScope ["self"] ["self"] (defScope s_Model_kinds) := ⟨rfl, rfl, rfl, by decide +kernel, rfl, by decide +kernel, by decide +kernel⟩
  refine fd_of (N := ["self"]) F S (fun _ => rfl) (by decide) ?_
  intro cdv A outer s H E hr W G ok
  exact xss_one (xs_ret (xn_listT (T.free "list" rfl) (xe_fld (xv 0) vwI (q := vTup (W.ks.map fun s => vStr s)) rfl T.model.cl (T.model.na "own_kinds" (by simp)))).lst fun _ _ _ t r => ⟨t, r⟩)
theorem md_Model_links (T : Txt K mg) : Md P w K mg base (He.ga K "Model") "links" 1 ["self"] (spN (δ := Web) (fun W => [vWeb K W]) (fun W => (W.ts.map (·.1)).Nodup ∧ W.ts.length ≤ 8) (fun W => mDic (pTies K W.ts))) := by
  obtain ⟨g, fd, F⟩ := T.fn i_Model_links d_Model_links rfl
  refine ⟨_, fd, T.model.me "links" (by simp), F.bindsN fun _ _ _ _ _ _ us hl => match us, hl with | [_], _ => rfl, ?_⟩
  have S : FnScope ["self", "link"] ["self"] (defScope s_Model_links) := ⟨rfl, rfl, rfl, by decide +kernel, rfl, by decide +kernel, by decide +kernel⟩
  refine fdn_of (N := ["self", "link"]) F S (fun _ => rfl) (by decide) ?_
  intro cdv A outer s H E hr W G ok
  have ok : (W.ts.map (·.1)).Nodup ∧ W.ts.length ≤ 8 := ok
  refine xss_open (i := 0) (g := fun d => vWebAt K d W) rfl vWeb_open fun d => ?_
  refine xss_one (xs_retN ?_)
  have e : mDic (pTies K W.ts) = mDic ((pTies K W.ts).map fun x => (x.1, x.2)) := by rw [List.map_id']
  show XN _ _ _ _ (mDic (pTies K W.ts))
  rw [e]
  refine xn_dcD0 (d := d) (own := [("link", 1)]) (k := fun x => x.1) (g := fun x => x.2) (fun x => [some (vWebAt K d W), some (vStr x.1)]) rfl S.nd (hvW (i := 0) rfl) ((xe_fld (xv 0) vwI (q := vDicAt d (pTies K W.ts)) rfl T.model.cl (T.model.na "own_links" (by simp))).weak vDicAt_ref) (blkOk_by (N := ["self", "link"]) (sc := defScope s_Model_links) (by decide +kernel)) (fun _ _ _ _ _ _ _ => xg_name 1 S.nd) (fun _ _ _ _ _ _ _ => xv 1) (fun _ _ _ _ _ x hx => ?_) ?_ ?_
  · obtain ⟨y, hy, rfl⟩ := List.mem_map.mp hx
    exact xe_dget (u1 hr) (xe_fld (xv 0) vwI (q := vDicAt d (pTies K W.ts)) rfl T.model.cl (T.model.na "own_links" (by simp))) (xv 1) vwD_at (by rw [pTies_look, look_of ok.1 hy]; rfl)
  · rw [pTies_keys]; exact ok.1
  · rw [show (pTies K W.ts).length = W.ts.length from List.length_map _, sizeLine_eq]; have := ok.2; omega
theorem md_Model_kind_at (T : Txt K mg) : Md P w K mg base (He.ga K "Model") "kind_at" 3 ["self", "link", "end"] (spP (δ := Web × Str × Bool × Tie) (fun d => [vWeb K d.1, vStr d.2.1, vStr (endS d.2.2.1)]) (fun d => NameOk d.2.1 ∧ d.1.ts.lookup d.2.1 = some d.2.2.2) (fun d => vStr (d.2.2.2.kd d.2.2.1))) := by
  obtain ⟨g, fd, F⟩ := T.fn i_Model_kind_at d_Model_kind_at rfl
  refine ⟨_, fd, T.model.me "kind_at" (by simp), F.bindsN fun _ _ _ _ _ _ us hl => match us, hl with | [_, _, _], _ => rfl, ?_⟩
  have S : FnScope ["self", "link", "end"] ["self", "link", "end"] (defScope s_Model_kind_at) := ⟨rfl, rfl, rfl, by decide +kernel, rfl, by decide +kernel, by decide +kernel⟩
  refine fd_of (N := ["self", "link", "end"]) F S (fun _ => rfl) (by decide) ?_
  intro cdv A outer s H E hr ⟨W, s, b, t⟩ G ok
  have ok : NameOk s ∧ W.ts.lookup s = some t := ok
  obtain ⟨tN, mN⟩ := T.nearM
  refine xss_expr (xe_call (fd_want_link T) (W, s, t) hr (xa_cons (xv 0) (xa_cons (xv 1) xa_nil)) ok) ?_
  refine xss_expr (xe_call (fd_want_end T) b hr (xa_cons (xv 2) xa_nil) trivial) ?_
  refine xss_one (xs_ret (xe_ixT (i := if b then 0 else 2) (ps := [vStr t.a, vMany K t.m, vStr t.b, vMany K t.n]) (xe_dget (u1 hr) (xe_fld (xv 0) vwI (q := vDic (pTies K W.ts)) rfl T.model.cl (T.model.na "own_links" (by simp))) (xv 1) vwD (by rw [pTies_look, ok.2]; rfl))
    (xe_if (u := b) (XT.is (xt_eq (x := .str (endS b)) (y := .str "near") (xv 2) (xe_gl (x := .str "near") mN ⟨_, rfl⟩)) (by cases b <;> decide +kernel)) (fun h => XE.is xe_int (by subst h; rfl)) (fun h => XE.is xe_int (by subst h; rfl))) ?_) fun _ _ _ t r => ⟨t, r⟩)
  cases b <;> rfl
theorem md_Model_many_at (T : Txt K mg) : Md P w K mg base (He.ga K "Model") "many_at" 3 ["self", "link", "end"] (spP (δ := Web × Str × Bool × Tie) (fun d => [vWeb K d.1, vStr d.2.1, vStr (endS d.2.2.1)]) (fun d => NameOk d.2.1 ∧ d.1.ts.lookup d.2.1 = some d.2.2.2) (fun d => vMany K (d.2.2.2.mn d.2.2.1))) := by
  obtain ⟨g, fd, F⟩ := T.fn i_Model_many_at d_Model_many_at rfl
  refine ⟨_, fd, T.model.me "many_at" (by simp), F.bindsN fun _ _ _ _ _ _ us hl => match us, hl with | [_, _, _], _ => rfl, ?_⟩
  have S : FnScope ["self", "link", "end"] ["self", "link", "end"] (defScope s_Model_many_at) := ⟨rfl, rfl, rfl, by decide +kernel, rfl, by decide +kernel, by decide +kernel⟩
  refine fd_of (N := ["self", "link", "end"]) F S (fun _ => rfl) (by decide) ?_
  intro cdv A outer s H E hr ⟨W, s, b, t⟩ G ok
  have ok : NameOk s ∧ W.ts.lookup s = some t := ok
  obtain ⟨tN, mN⟩ := T.nearM
  refine xss_expr (xe_call (fd_want_link T) (W, s, t) hr (xa_cons (xv 0) (xa_cons (xv 1) xa_nil)) ok) ?_
  refine xss_expr (xe_call (fd_want_end T) b hr (xa_cons (xv 2) xa_nil) trivial) ?_
  refine xss_one (xs_ret (xe_ixT (i := if b then 1 else 3) (ps := [vStr t.a, vMany K t.m, vStr t.b, vMany K t.n]) (xe_dget (u1 hr) (xe_fld (xv 0) vwI (q := vDic (pTies K W.ts)) rfl T.model.cl (T.model.na "own_links" (by simp))) (xv 1) vwD (by rw [pTies_look, ok.2]; rfl))
    (xe_if (u := b) (XT.is (xt_eq (x := .str (endS b)) (y := .str "near") (xv 2) (xe_gl (x := .str "near") mN ⟨_, rfl⟩)) (by cases b <;> decide +kernel)) (fun h => XE.is xe_int (by subst h; rfl)) (fun h => XE.is xe_int (by subst h; rfl))) ?_) fun _ _ _ t r => ⟨t, r⟩)
  cases b <;> rfl
theorem md_Model_with_many (T : Txt K mg) : Md P w K mg base (He.ga K "Model") "with_many" 8 ["self", "link", "end", "many"] (spP (δ := Web × Str × Bool × Mn × Tie) (fun d => [vWeb K d.1, vStr d.2.1, vStr (endS d.2.2.1), vMany K d.2.2.2.1]) (fun d => WebOk d.1 ∧ NameOk d.2.1 ∧ d.1.ts.lookup d.2.1 = some d.2.2.2.2 ∧ MnOk d.2.2.2.1) (fun d => vWeb K (mkWeb d.1.ks (putTs d.2.1 (d.2.2.2.2.setM d.2.2.1 d.2.2.2.1) d.1.ts)))) := by
  obtain ⟨g, fd, F⟩ := T.fn i_Model_with_many d_Model_with_many rfl
  refine ⟨_, fd, T.model.me "with_many" (by simp), F.bindsN fun _ _ _ _ _ _ us hl => match us, hl with | [_, _, _, _], _ => rfl, ?_⟩
  have S : FnScope ["self", "link", "end", "many", "found", "near", "near_many", "far", "far_many"] ["self", "link", "end", "many"] (defScope s_Model_with_many) := ⟨rfl, rfl, rfl, by decide +kernel, rfl, by decide +kernel, by decide +kernel⟩
  refine fd_of (N := ["self", "link", "end", "many", "found", "near", "near_many", "far", "far_many"]) F S (fun _ => rfl) (by decide) ?_
  intro cdv A outer s H E hr ⟨W, s, b, m, t⟩ G ok
  obtain ⟨okW, okS, hl, okM⟩ : WebOk W ∧ NameOk s ∧ W.ts.lookup s = some t ∧ MnOk m := ok
  obtain ⟨tN, mN⟩ := T.nearM
  have hm : (s, t) ∈ W.ts := look_mem hl
  refine xss_expr (xe_call (fd_want_link T) (W, s, t) hr (xa_cons (xv 0) (xa_cons (xv 1) xa_nil)) ⟨okS, hl⟩) ?_
  refine xss_expr (xe_call (fd_want_end T) b hr (xa_cons (xv 2) xa_nil) trivial) ?_
  refine xss_iff (xt_nott (xt_val (xe_call (fd_is_end_many T) m hr (xa_cons (xv 3) xa_nil) okM))) ?_
  refine xss_new (i := 4) (xn_meth0 (md_Model_links T) W hr T.model.cl (xv 0) rfl rfl ⟨okW.t.nd, okW.t.ln⟩) S.nd fun a => ?_
  refine xss_tup (xe_dget (u1 hr) (xv 4) (xv 1) (vwD_mu (a := a) (kp := pTies K W.ts) List.mem_cons_self) (q := vTie K t) (by rw [pTies_look, hl]; rfl)) (xg_tup rfl (xgs_cons (xg_name 5 S.nd) (xgs_cons (xg_name 6 S.nd) (xgs_cons (xg_name 7 S.nd) (xgs_cons (xg_name 8 S.nd) xgs_nil))))) ?_
  refine xss_cons (xs_dput (M1 := []) (s := s) (p := vTie K (t.setM b m)) (u1 hr) (xe_if (u := b) (XT.is (xt_eq (x := .str (endS b)) (y := .str "near") (xv 2) (xe_gl (x := .str "near") mN ⟨_, rfl⟩)) (by cases b <;> decide +kernel)) (fun h => XE.is (xe_tup (xa_cons (xv 5) (xa_cons (xv 3) (xa_cons (xv 7) (xa_cons (xv 8) xa_nil))))) (by subst h; rfl)) (fun h => XE.is (xe_tup (xa_cons (xv 5) (xa_cons (xv 6) (xa_cons (xv 7) (xa_cons (xv 3) xa_nil))))) (by subst h; rfl))) (xv 4) (xv 1) (fun _ _ _ s => s) (by rw [pTies_keys]; exact okW.t.nd) (ties_small okW.t.ln)) ?_
  refine xss_pub (i := 4) (M1 := []) (p := vDic (pTies K (putTs s (t.setM b m) W.ts))) rfl (fun G u h e => mDic_dic (by rw [← pTies_put]; exact h) e) ?_
  refine xss_one (xs_ret (xe_make (id_Model T) (true, W.ks, putTs s (t.setM b m) W.ts) hr T.model.g (xa_cons (xe_fld (xv 0) vwI (q := vTup (W.ks.map fun s => vStr s)) rfl T.model.cl (T.model.na "own_kinds" (by simp))) (xa_cons (xv 4) xa_nil)) ⟨okW.k, okW.t.put (List.mem_map_of_mem (f := (·.1)) hm) ?_ ?_ ?_⟩) fun _ _ _ t r => ⟨t, r⟩)
  · have h := okW.t.ok _ hm
    cases b
    · exact ⟨h.a, h.b, h.m, okM⟩
    · exact ⟨h.a, h.b, okM, h.n⟩
  · cases b <;> exact okW.t.ia _ hm
  · cases b <;> exact okW.t.ib _ hm
end
end K53
end MD_
section ME_
set_option maxRecDepth 100000
set_option maxHeartbeats 4000000
/-! ME: making Manys; ratios. -/
namespace K53
open PySem PySem.Spec PyProof.Rows L2
section
variable {X : Cx} {e a b c o k : Expr} {es : List Expr} {Γ : En} {M : Mu} {p q z : Pv} {ps : List Pv} {x y : V} {pos pp apos cpos : Pos} {e0 : Eb} {P : Pst} {kp : List (Str × Pv)}
theorem xe_intB {b : Bool} (hm : X.mg "int" = none) (h : XE X e Γ M (vBl b)) (hg : Gl X "int" := by rfl) (he : starEach [e] X.env = (false, eval e X.env) :: starEach [] X.env := by rfl) : XE X (.Call (.Name "int" pp) [e] [] pos) Γ M (vInt (if b then 1 else 0)) :=
  xe_ct1 call_int1 hm (by decide +kernel) h (fun G H σ Γ v st rv Q k => by
    cases rv
    exact .inr ⟨b, rfl, k _ G H (.refl st.i) rfl⟩) hg (by decide) (by decide) he
theorem xe_intI {i : Int} (hm : X.mg "int" = none) (h : XE X e Γ M (vInt i)) (hg : Gl X "int" := by rfl) (he : starEach [e] X.env = (false, eval e X.env) :: starEach [] X.env := by rfl) : XE X (.Call (.Name "int" pp) [e] [] pos) Γ M (vInt i) :=
  xe_ct1 call_int1 hm (by decide +kernel) h (fun G H σ Γ v st rv Q k => by
    cases rv
    exact .inl ⟨i, rfl, k _ G H (.refl st.i) rfl⟩) hg (by decide) (by decide) he
end
section
variable {P : Program} {w : World} {K : PySem.W.Frag} {mg : Str → Option Value} {base : Heap}
def psMany (m : Mn) : List Pv := [vInt (m.1 : Int), vOpt m.2, vTup [vInt (m.1 : Int), vInt (if m.2 = none then 1 else 0), vInt ((m.2.getD 0 : Nat) : Int)]]
theorem fi_Many (T : Txt K mg) : ∃ fd, FunD K "__init__" "Many.__init__" (defArgs s_Many_init) (defBody s_Many_init) (defScope s_Many_init) [.non] [] (He.ma K (He.ga K "Many") "__init__") fd ∧ FnOk P w K mg base CX0 4 (He.ma K (He.ga K "Many") "__init__") fd ["self", "least", "most"] (spIS (He.ga K "Many") (δ := Mn) (fun m => [vInt (m.1 : Int), vOpt m.2]) (fun m => ∀ q, m.2 = some q → m.1 ≤ q) (fun m => [vInt (m.1 : Int), vOpt m.2, vTup [vInt (m.1 : Int), vInt (if m.2 = none then 1 else 0), vInt ((m.2.getD 0 : Nat) : Int)]])) := by
  obtain ⟨g, fd, F⟩ := T.fn i_Many_init d_Many_init rfl
  refine ⟨fd, F, ?_⟩
  have S : FnScope ["self", "least", "most"] ["self", "least", "most"] (defScope s_Many_init) := ⟨rfl, rfl, rfl, by decide +kernel, rfl, by decide +kernel, by decide +kernel⟩
  refine fdis_of (N := ["self", "least", "most"]) F S (fun _ => rfl) (by decide) (fun _ => by simp) ?_
  intro cdv A outer s H E hr ⟨l, q⟩ G x dx ok
  have ok : ∀ z, q = some z → l ≤ z := ok
  refine xss_expr (xe_call (fd_want_count T) l hr (xa_cons (xv 1) xa_nil) trivial) ?_
  refine xss_cons (xs_if (u := q.isSome) (XT.is (xt_notN (xv 2) nonP_val) (by cases q <;> rfl)) (fun h => ?_) (fun _ => xss_nil fun _ _ _ s => s)) ?_
  · obtain ⟨z, rfl⟩ := Option.isSome_iff_exists.mp h
    refine xss_expr (xe_call (fd_want_count T) z hr (xa_cons (xv 2) xa_nil) trivial) ?_
    exact xss_iff (XT.is (xt_lt (i := (z : Int)) (j := (l : Int)) (xv 2) (xv 1)) (decide_eq_false (by have := ok z rfl; omega))) (xss_nil fun _ _ _ s => s)
  · refine xss_sl (i := 0) (xv 1) (xv 0) T.many.cl (T.many.sl ("own_least", 0) (by simp)) ?_
    refine xss_sl (i := 1) (xv 2) (xv 0) T.many.cl (T.many.sl ("own_most", 1) (by simp)) ?_
    refine xss_sl (i := 2) (xe_tup (xa_cons (xv 1) (xa_cons (XE.is (q := vInt (if q = none then 1 else 0)) (xe_intB (b := decide (q = none)) (T.free "int" rfl) (XE.is (xe_isN (xv 2) nonP_val) (by cases q <;> rfl))) (by simp)) (xa_cons (xe_if (u := decide (q = none)) (XT.is (xt_isN (xv 2) nonP_val) (by cases q <;> rfl)) (fun h => XE.is (xe_int (i := 0)) (p := _) (q := vInt ((q.getD 0 : Nat) : Int)) ?_) (fun h => XE.is (xv 2) (q := vInt ((q.getD 0 : Nat) : Int)) ?_)) xa_nil)))) (xv 0) T.many.cl (T.many.sl ("own_place", 2) (by simp)) ?_
    · have : q = none := by simpa using h
      subst this; rfl
    · cases q with
      | none => simp at h
      | some z => rfl
    · exact xss_nil fun _ _ _ s => ⟨_, [], s⟩
theorem id_Many (T : Txt K mg) : Id P w K mg base (He.ga K "Many") 4 ["self", "least", "most"] [] (spIS (He.ga K "Many") (δ := Mn) (fun m => [vInt (m.1 : Int), vOpt m.2]) (fun m => ∀ q, m.2 = some q → m.1 ≤ q) (fun m => [vInt (m.1 : Int), vOpt m.2, vTup [vInt (m.1 : Int), vInt (if m.2 = none then 1 else 0), vInt ((m.2.getD 0 : Nat) : Int)]])) := by
  obtain ⟨fd, F, ok⟩ := fi_Many (P := P) (w := w) (base := base) T
  obtain ⟨ds, hds, hb⟩ := F.binds1 (ps := ["self", "least", "most"]) 3 1 (by simp) rfl fun _ _ _ _ _ _ _ us its h1 h2 => match us, its, h1, h2 with | [_, _, _], [_], _, _ => ⟨_, rfl, rfl⟩
  exact ⟨⟨_, fd, ds, T.many.mak, hds, hb, ok⟩⟩
end
end K53
end ME_
section MF_
set_option maxRecDepth 100000
set_option maxHeartbeats 4000000
/-! MF: ratios. -/
namespace K53
open PySem PySem.Spec PyProof.Rows L2
abbrev Rt := Nat × Nat
def mkR (p q : Nat) : Rt := (p / Nat.gcd p q, q / Nat.gcd p q)
def vRatio (K : PySem.W.Frag) (r : Rt) : Pv := vSlt (He.ga K "Ratio") [vInt (r.2 : Int), vInt (r.1 : Int)]
/-- small enough -/
def RtOk (r : Rt) : Prop := 1 ≤ r.2 ∧ r.2 < 1073741824 ∧ r.1 < 1073741824
theorem mkR_ok {p q : Nat} (h1 : 1 ≤ q) (h2 : q < 1073741824) (h3 : p < 1073741824) : RtOk (mkR p q) := by
  have g0 : 0 < Nat.gcd p q := Nat.gcd_pos_of_pos_right _ h1
  refine ⟨Nat.div_pos (Nat.le_of_dvd h1 (Nat.gcd_dvd_right p q)) g0, Nat.lt_of_le_of_lt (Nat.div_le_self _ _) h2, Nat.lt_of_le_of_lt (Nat.div_le_self _ _) h3⟩
section
variable {X : Cx} {e a b c o k : Expr} {es : List Expr} {Γ : En} {M : Mu} {p q z : Pv} {ps vs : List Pv} {x y : V} {pos pp apos cpos : Pos} {e0 : Eb} {P : Pst} {kp : List (Str × Pv)} {C : Addr} {m : Str} {n j : Nat} {pn : List Str} {δ : Type} {args : δ → List Pv} {ok : δ → Prop} {res : δ → Pv}
theorem xe_methS {pl : Sem Bool} (F : Md X.prog X.w X.K X.mg X.base C m n pn (spP args ok res)) (d : δ) (hr : Room j X.A) (cl : SlX.SCls X.K C) (ho : XE X o Γ M (vSlt C vs)) (ha : XA X (e :: es) Γ M ps) (hd : args d = vSlt C vs :: ps) (hok : ok d) (hj : n ≤ j := by decide)
    (hst : starEach (e :: es) X.env = (false, eval e X.env) :: starEach es X.env := by rfl) (hpl : (backTo pos (starEach es X.env)).any (·.1) = false := by rfl)
    (ht : eval (.Call (.Attribute o m apos) (e :: es) [] pos) X.env = (do
      let ov ← eval o X.env
      standAt apos.atName
      let (f, first) ← holding [ov] (getMethod ov m pl)
      callWith pos f first (backTo pos (starEach (e :: es) X.env)) (backToKw pos (keywordEach [] X.env))) := by rfl) :
    XE X (.Call (.Attribute o m apos) (e :: es) [] pos) Γ M (res d) := fun G H σ s Q w => by
  obtain ⟨f, fd, hm', hb, F⟩ := F.ex
  refine ⟨_, SlX.pe_methSl (E := E0) pe_w cl hm' (F.raw hb .nil) (hr.mono hj) pass0 pa_w hst hpl ht, ho G H σ s _ fun v G1 H1 t1 r1 => ?_⟩
  obtain ⟨ad, dx, xs, rfl, h1, al⟩ := r1
  refine ⟨ad, dx, _, rfl, Le.slt (le_same t1.i) h1, ha G1 H1 σ (s.stp t1) _ fun ws G2 H2 t2 r2 => ⟨d, G2, t2.i, ?_, hok, fun v G3 H3 t3 r3 => w v G3 H3 ((t1.trans t2).trans t3) r3⟩⟩
  rw [hd, List.append_nil]
  exact .cons ⟨ad, dx, xs, rfl, Le.slt (le_same t2.g) h1, al.mono (le_same t2.g)⟩ r2
/-- x * y, x + y by own methods; instances with slots -/
theorem xe_binS {op : Operator} (F : Md X.prog X.w X.K X.mg X.base C (PySem.dunder op.info.2) n pn (spP args ok res)) (d : δ) (hr : Room j X.A) (hc : PySem.W.selfFirst X.K C = true) {us : List Pv} (ha : XE X a Γ M (vSlt C vs)) (hb : XE X b Γ M (vSlt C us)) (hd : args d = [vSlt C vs, vSlt C us]) (hok : ok d) (hj : n ≤ j := by decide) :
    XE X (.BinOp a op b pos) Γ M (res d) := by
  obtain ⟨f, fd, hm', hb', F⟩ := F.ex
  refine xe_opG (op_bin (C := C) (W := fun H a => ∃ dx vs, SlX.Slt H a C dx vs) (fun pins σ H s a I ⟨dx, vs, h⟩ => ?_) hc hm'.at_ hm'.fn (F.raw hb' .nil) (hr.mono hj)) ha hb fun G H v w i rv rw Q kq => ?_
  · obtain ⟨sl, od, _, J, _⟩ := SlX.slt_inst I h
    exact ⟨_, _, J⟩
  · obtain ⟨a1, dx1, xs1, rfl, h1, al1⟩ := rv
    obtain ⟨a2, dx2, xs2, rfl, h2, al2⟩ := rw
    refine ⟨a1, a2, rfl, rfl, ⟨_, _, Le.slt (le_same i) h1⟩, ⟨_, _, Le.slt (le_same i) h2⟩, d, G, i, ?_, hok, fun v G3 H3 t3 r3 => kq v G3 H3 t3 r3⟩
    rw [hd]
    exact .cons ⟨a1, dx1, xs1, rfl, h1, al1⟩ (.cons ⟨a2, dx2, xs2, rfl, h2, al2⟩ .nil)
theorem xe_binI {op : Operator} {fs gs : List (Str × Pv)} (F : Md X.prog X.w X.K X.mg X.base C (PySem.dunder op.info.2) n pn (spP args ok res)) (d : δ) (hr : Room j X.A) (hc : PySem.W.selfFirst X.K C = true) (ha : XE X a Γ M (vIns C fs)) (hb : XE X b Γ M (vIns C gs)) (hd : args d = [vIns C fs, vIns C gs]) (hok : ok d) (hj : n ≤ j := by decide) :
    XE X (.BinOp a op b pos) Γ M (res d) := by
  obtain ⟨f, fd, hm', hb', F⟩ := F.ex
  refine xe_opG (op_bin (C := C) (W := fun H a => ∃ dx vs, H a = some (.ins C dx vs)) (fun pins σ H s a I ⟨dx, vs, h⟩ => ?_) hc hm'.at_ hm'.fn (F.raw hb' .nil) (hr.mono hj)) ha hb fun G H v w i rv rw Q kq => ?_
  · obtain ⟨od, J⟩ := ins_inst I h
    exact ⟨_, _, J⟩
  · obtain ⟨a1, dx1, xs1, rfl, h1, al1⟩ := rv
    obtain ⟨a2, dx2, xs2, rfl, h2, al2⟩ := rw
    refine ⟨a1, a2, rfl, rfl, ⟨_, _, i _ _ h1⟩, ⟨_, _, i _ _ h2⟩, d, G, i, ?_, hok, fun v G3 H3 t3 r3 => kq v G3 H3 t3 r3⟩
    rw [hd]
    exact .cons ⟨a1, dx1, xs1, rfl, h1, al1⟩ (.cons ⟨a2, dx2, xs2, rfl, h2, al2⟩ .nil)
end
section
variable {P : Program} {w : World} {K : PySem.W.Frag} {mg : Str → Option Value} {base : Heap}
theorem fd_common_divisor (T : Txt K mg) : Fd P w K mg base "common_divisor" 1 ["one", "other"] [] (spP (δ := Nat × Nat) (fun d => [vInt (d.1 : Int), vInt (d.2 : Int)]) (fun _ => True) (fun d => vInt ((Nat.gcd d.1 d.2 : Nat) : Int))) := by
  obtain ⟨g, fd, F⟩ := T.fn i_common_divisor d_common_divisor rfl
  refine ⟨_, fd, [], g rfl, F.kp, .nil, F.bindsN fun _ _ _ _ _ _ us hl => match us, hl with | [_, _], _ => rfl, ?_⟩
  have S : FnScope ["one", "other"] ["one", "other"] (defScope s_common_divisor) := ⟨rfl, rfl, rfl, by decide +kernel, rfl, by decide +kernel, by decide +kernel⟩
  refine fd_of (N := ["one", "other"]) F S (fun _ => rfl) (by decide) ?_
  intro cdv A outer s H E hr ⟨a, b⟩ G ok
  refine xss_cons (Γ' := [some (vInt ((Nat.gcd a b : Nat) : Int)), none]) (M' := []) (xs_while (fun x : Nat × Nat => [some (vInt (x.1 : Int)), some (vInt (x.2 : Int))]) (fun _ => []) (fun m x => m = x.2 ∧ Nat.gcd x.1 x.2 = Nat.gcd a b) (fun x => decide (0 < x.2)) (fun _ _ _ s => ⟨b, (a, b), ⟨rfl, rfl⟩, s⟩) (fun m x hx => XT.is (xt_gt (xv 1) xe_int) ?_) (fun m x hx hb => ?_) (fun m x G H σ hx hb s => ?_)) (xss_one (xs_ret (xv 0) fun _ _ _ t r => ⟨t, r⟩))
  · exact decide_eq_decide.mpr ⟨fun h => by omega, fun h => by omega⟩
  · obtain ⟨x, y⟩ := x
    obtain ⟨hm, hx⟩ := hx
    have hm : m = y := hm
    have hx : Nat.gcd x y = Nat.gcd a b := hx
    have h0 : 0 < y := by simpa using hb
    refine xss_par (i := 0) (j := 1) rfl S.nd (xv 1) (XE.is (xe_mod (xv 0) (xv 1) (by show (0 : Int) < (y : Int); omega)) (q := vInt ((x % y : Nat) : Int)) (by rw [Int.natCast_emod])) (xss_nil fun _ _ _ s => ⟨x % y, by rw [hm]; exact Nat.mod_lt _ h0, (y, x % y), ⟨rfl, ?_⟩, s⟩)
    show Nat.gcd y (x % y) = _
    rw [← hx, Nat.gcd_comm y, ← Nat.gcd_rec, Nat.gcd_comm]
  · obtain ⟨x, y⟩ := x
    have h0 : y = 0 := by
      have : ¬ 0 < y := by simpa using hb
      omega
    subst h0
    have : x = Nat.gcd a b := by rw [← hx.2]; exact (Nat.gcd_zero_right x).symm
    subst this
    exact s.fg (by repeat (first | exact fg_nil | apply fg_keep | apply fg_drop))
theorem isi_ratio (T : Txt K mg) {r : Rt} : IsiP K (vRatio K r) (.ref (He.ga K "Ratio")) true := isi_slt T.ratio.cl T.ratio.ci (T.kit ("Ratio", "Ratio", true) (by simp))
theorem isi_ratioI (T : Txt K mg) {r : Rt} : IsiP K (vRatio K r) (.type "int") false := isi_slt T.ratio.cl T.ratio.ci T.kitR
theorem fd_is_ratio (T : Txt K mg) : Fd P w K mg base "is_ratio" 3 ["value"] [] (spP (δ := Rt) (fun r => [vRatio K r]) (fun _ => True) (fun _ => vBl true)) := by
  obtain ⟨g, fd, F⟩ := T.fn i_is_ratio d_is_ratio rfl
  refine ⟨_, fd, [], g rfl, F.kp, .nil, F.bindsN fun _ _ _ _ _ _ us hl => match us, hl with | [_], _ => rfl, ?_⟩
  have S : FnScope ["value"] ["value"] (defScope s_is_ratio) := ⟨rfl, rfl, rfl, by decide +kernel, rfl, by decide +kernel, by decide +kernel⟩
  refine fd_of (N := ["value"]) F S (fun _ => rfl) (by decide) ?_
  intro cdv A outer s H E hr r G ok
  exact xss_one (xs_ret (XE.is (xe_or (w := true) (xe_isi (T.free "isinstance" rfl) (xv 0) (xe_gl (x := .ref (He.ga K "Ratio")) T.ratio.g rfl) (.own _) (isi_ratio T)) (fun z => nomatch z)) rfl) fun _ _ _ t r => ⟨t, r⟩)
theorem fd_as_ratio (T : Txt K mg) : Fd P w K mg base "as_ratio" 4 ["value"] [] (spP (δ := Rt) (fun r => [vRatio K r]) (fun _ => True) (fun r => vRatio K r)) := by
  obtain ⟨g, fd, F⟩ := T.fn i_as_ratio d_as_ratio rfl
  refine ⟨_, fd, [], g rfl, F.kp, .nil, F.bindsN fun _ _ _ _ _ _ us hl => match us, hl with | [_], _ => rfl, ?_⟩
  have S : FnScope ["value"] ["value"] (defScope s_as_ratio) := ⟨rfl, rfl, rfl, by decide +kernel, rfl, by decide +kernel, by decide +kernel⟩
  refine fd_of (N := ["value"]) F S (fun _ => rfl) (by decide) ?_
  intro cdv A outer s H E hr r G ok
  refine xss_iff (xt_nott (xt_val (xe_call (fd_is_ratio T) r hr (xa_cons (xv 0) xa_nil) trivial))) ?_
  exact xss_one (xs_ret (xe_if (u := false) (xt_val (xe_call (fd_is_count T) (vRatio K r, false) hr (xa_cons (xv 0) xa_nil) (.inr ⟨isi_ratioI T, rfl⟩))) (fun z => nomatch z) (fun _ => xv 0)) fun _ _ _ t r => ⟨t, r⟩)
theorem fi_Ratio (T : Txt K mg) : ∃ fd, FunD K "__init__" "Ratio.__init__" (defArgs s_Ratio_init) (defBody s_Ratio_init) (defScope s_Ratio_init) [.int 1] [] (He.ma K (He.ga K "Ratio") "__init__") fd ∧ FnOk P w K mg base CX0 4 (He.ma K (He.ga K "Ratio") "__init__") fd ["self", "top", "bottom"] (spIS (He.ga K "Ratio") (δ := Nat × Nat) (fun d => [vInt (d.1 : Int), vInt (d.2 : Int)]) (fun d => 1 ≤ d.2 ∧ d.2 < 1073741824) (fun d => [vInt ((mkR d.1 d.2).2 : Int), vInt ((mkR d.1 d.2).1 : Int)])) := by
  obtain ⟨g, fd, F⟩ := T.fn i_Ratio_init d_Ratio_init rfl
  refine ⟨fd, F, ?_⟩
  have S : FnScope ["self", "top", "bottom", "divisor"] ["self", "top", "bottom"] (defScope s_Ratio_init) := ⟨rfl, rfl, rfl, by decide +kernel, rfl, by decide +kernel, by decide +kernel⟩
  refine fdis_of (N := ["self", "top", "bottom", "divisor"]) F S (fun _ => rfl) (by decide) (fun _ => by simp) ?_
  intro cdv A outer s H E hr ⟨p, q⟩ G x dx ok
  obtain ⟨h1, h2⟩ : 1 ≤ q ∧ q < 1073741824 := ok
  have g0 : 0 < Nat.gcd p q := Nat.gcd_pos_of_pos_right _ h1
  have g1 : Nat.gcd p q ≤ q := Nat.le_of_dvd h1 (Nat.gcd_dvd_right p q)
  have hc : ∀ i : Int, CDiv i ((Nat.gcd p q : Nat) : Int) := fun i => ⟨by omega, by omega⟩
  refine xss_iff (XT.is (xt_not (xt_val (xe_call (fd_is_count T) (vInt p, true) hr (xa_cons (xv 1) xa_nil) (.inl ⟨p, rfl, by simp⟩)))) rfl) ?_
  refine xss_iff (XT.is (xw_or (xt_not (xt_val (xe_call (fd_is_integer T) (vInt q, true) hr (xa_cons (xv 2) xa_nil) ⟨isi_int rfl, fun _ => isi_int rfl⟩))) (fun _ => xw_or1 (xt_lt (xv 2) xe_int))).pt ?_) ?_
  · rw [decide_eq_false (by omega : ¬ (q : Int) < 1)]; rfl
  refine xss_set (i := 3) (xe_call (fd_common_divisor T) (p, q) hr (xa_cons (xv 1) (xa_cons (xv 2) xa_nil)) trivial) S.nd ?_
  refine xss_sl (i := 1) (XE.is (xe_fdiv (xv 1) (xv 3) (hc _)) (q := vInt ((p / Nat.gcd p q : Nat) : Int)) (by rw [Int.natCast_ediv])) (xv 0) T.ratio.cl (T.ratio.sl ("own_top", 1) (by simp)) ?_
  refine xss_sl (i := 0) (XE.is (xe_fdiv (xv 2) (xv 3) (hc _)) (q := vInt ((q / Nat.gcd p q : Nat) : Int)) (by rw [Int.natCast_ediv])) (xv 0) T.ratio.cl (T.ratio.sl ("own_bottom", 0) (by simp)) ?_
  exact xss_nil fun _ _ _ s => ⟨_, [], s⟩
theorem id_Ratio2 (T : Txt K mg) : Id P w K mg base (He.ga K "Ratio") 4 ["self", "top", "bottom"] [] (spIS (He.ga K "Ratio") (δ := Nat × Nat) (fun d => [vInt (d.1 : Int), vInt (d.2 : Int)]) (fun d => 1 ≤ d.2 ∧ d.2 < 1073741824) (fun d => [vInt ((mkR d.1 d.2).2 : Int), vInt ((mkR d.1 d.2).1 : Int)])) := by
  obtain ⟨fd, F, ok⟩ := fi_Ratio (P := P) (w := w) (base := base) T
  obtain ⟨ds, hds, hb⟩ := F.binds1 (ps := ["self", "top", "bottom"]) 3 1 (by simp) rfl fun _ _ _ _ _ _ _ us its h1 h2 => match us, its, h1, h2 with | [_, _, _], [_], _, _ => ⟨_, rfl, rfl⟩
  exact ⟨⟨_, fd, ds, T.ratio.mak, hds, hb, ok⟩⟩
theorem id_Ratio1 (T : Txt K mg) : Id P w K mg base (He.ga K "Ratio") 4 ["self", "top", "bottom"] [.int 1] (spIS (He.ga K "Ratio") (δ := Nat × Nat) (fun d => [vInt (d.1 : Int), vInt (d.2 : Int)]) (fun d => 1 ≤ d.2 ∧ d.2 < 1073741824) (fun d => [vInt ((mkR d.1 d.2).2 : Int), vInt ((mkR d.1 d.2).1 : Int)])) := by
  obtain ⟨fd, F, ok⟩ := fi_Ratio (P := P) (w := w) (base := base) T
  obtain ⟨ds, hds, hb⟩ := F.binds1 (ps := ["self", "top", "bottom"]) 2 0 (by simp) rfl fun _ _ _ _ _ _ _ us its h1 h2 => match us, its, h1, h2 with | [_, _], [_], _, _ => ⟨_, rfl, rfl⟩
  exact ⟨⟨_, fd, ds, T.ratio.mak, hds, hb, ok⟩⟩
section
variable {X : Cx} {e e' : Expr} {Γ : En} {M : Mu} {pos pp : Pos} {j : Nat}
/-- Ratio(p, q) -/
theorem xe_ratio2 (T : Txt X.K X.mg) (hr : Room j X.A) {p q : Nat} (ha : XA X [e, e'] Γ M [vInt (p : Int), vInt (q : Int)]) (h1 : 1 ≤ q) (h2 : q < 1073741824) (hj : 5 ≤ j := by decide) (hg : Gl X "Ratio" := by rfl)
    (he : starEach [e, e'] X.env = (false, eval e X.env) :: starEach [e'] X.env := by rfl) (hpl : (backTo pos (starEach [e'] X.env)).any (·.1) = false := by rfl) : XE X (.Call (.Name "Ratio" pp) [e, e'] [] pos) Γ M (vRatio X.K (mkR p q)) :=
  xe_makeS (id_Ratio2 T) (p, q) hr T.ratio.g ha rfl ⟨h1, h2⟩ hj hg (by decide) he hpl
/-- Ratio(p) -/
theorem xe_ratio1 (T : Txt X.K X.mg) (hr : Room j X.A) {p : Nat} (ha : XE X e Γ M (vInt (p : Int))) (hj : 5 ≤ j := by decide) (hg : Gl X "Ratio" := by rfl)
    (he : starEach [e] X.env = (false, eval e X.env) :: starEach [] X.env := by rfl) (hpl : (backTo pos (starEach [] X.env)).any (·.1) = false := by rfl) : XE X (.Call (.Name "Ratio" pp) [e] [] pos) Γ M (vRatio X.K (p, 1)) := by
  have h : mkR p 1 = (p, 1) := by unfold mkR; rw [Nat.gcd_one_right, Nat.div_one, Nat.div_one]
  have := xe_makeS (pos := pos) (pp := pp) (id_Ratio1 T) (p, 1) hr T.ratio.g (xa_cons ha xa_nil he) rfl ⟨Nat.le_refl _, by show 1 < _; decide⟩ hj hg (by decide) he hpl
  rw [show vRatio X.K (p, 1) = vSlt (He.ga X.K "Ratio") [vInt ((mkR p 1).2 : Int), vInt ((mkR p 1).1 : Int)] by rw [h]; rfl]
  exact this
theorem x_top (T : Txt X.K X.mg) {r : Rt} {o : Expr} (ho : XE X o Γ M (vRatio X.K r)) (hb : attributeBase o "own_top" X.env (eval o X.env) = eval o X.env := by rfl) : XE X (.Attribute o "own_top" pos) Γ M (vInt (r.1 : Int)) := xe_slot (i := 1) ho rfl T.ratio.cl (T.ratio.sl ("own_top", 1) (by simp)) hb
theorem x_bottom (T : Txt X.K X.mg) {r : Rt} {o : Expr} (ho : XE X o Γ M (vRatio X.K r)) (hb : attributeBase o "own_bottom" X.env (eval o X.env) = eval o X.env := by rfl) : XE X (.Attribute o "own_bottom" pos) Γ M (vInt (r.2 : Int)) := xe_slot (i := 0) ho rfl T.ratio.cl (T.ratio.sl ("own_bottom", 0) (by simp)) hb
end
def mulR (a b : Rt) : Rt := mkR (a.1 * b.1) (a.2 * b.2)
def ltR (a b : Rt) : Bool := decide (a.1 * b.2 < b.1 * a.2)
theorem two64 : (2:Int)^64 = 18446744073709551616 := by decide
theorem cmulN {a b : Nat} (h : a < 1073741824) : CMul (a : Int) (b : Int) := .inl ⟨by rw [two64]; omega, by rw [two64]; omega⟩
theorem md_Ratio_times (T : Txt K mg) : Md P w K mg base (He.ga K "Ratio") "times" 6 ["self", "other"] (spP (δ := Rt × Rt) (fun d => [vRatio K d.1, vRatio K d.2]) (fun d => RtOk d.1 ∧ RtOk d.2 ∧ d.1.2 * d.2.2 < 1073741824) (fun d => vRatio K (mulR d.1 d.2))) := by
  obtain ⟨g, fd, F⟩ := T.fn i_Ratio_times d_Ratio_times rfl
  refine ⟨_, fd, T.ratio.me "times" (by simp), F.bindsN fun _ _ _ _ _ _ us hl => match us, hl with | [_, _], _ => rfl, ?_⟩
  have S : FnScope ["self", "other"] ["self", "other"] (defScope s_Ratio_times) := ⟨rfl, rfl, rfl, by decide +kernel, rfl, by decide +kernel, by decide +kernel⟩
  refine fd_of (N := ["self", "other"]) F S (fun _ => rfl) (by decide) ?_
  intro cdv A outer s H E hr ⟨a, b⟩ G ok
  obtain ⟨o1, o2, h⟩ : RtOk a ∧ RtOk b ∧ a.2 * b.2 < 1073741824 := ok
  refine xss_one (xs_ret (xe_ratio2 T hr (p := a.1 * b.1) (q := a.2 * b.2) (xa_cons (XE.is (xe_mul (x_top T (xv 0)) (x_top T (xv 1)) (cmulN o1.2.2)) (by rw [Int.natCast_mul])) (xa_cons (XE.is (xe_mul (x_bottom T (xv 0)) (x_bottom T (xv 1)) (cmulN o1.2.1)) (by rw [Int.natCast_mul])) xa_nil)) (Nat.mul_pos o1.1 o2.1) h) fun _ _ _ t r => ⟨t, r⟩)
theorem md_Ratio_is_below (T : Txt K mg) : Md P w K mg base (He.ga K "Ratio") "is_below" 5 ["self", "other"] (spP (δ := Rt × Rt) (fun d => [vRatio K d.1, vRatio K d.2]) (fun d => RtOk d.1 ∧ RtOk d.2) (fun d => vBl (ltR d.1 d.2))) := by
  obtain ⟨g, fd, F⟩ := T.fn i_Ratio_is_below d_Ratio_is_below rfl
  refine ⟨_, fd, T.ratio.me "is_below" (by simp), F.bindsN fun _ _ _ _ _ _ us hl => match us, hl with | [_, _], _ => rfl, ?_⟩
  have S : FnScope ["self", "other", "second"] ["self", "other"] (defScope s_Ratio_is_below) := ⟨rfl, rfl, rfl, by decide +kernel, rfl, by decide +kernel, by decide +kernel⟩
  refine fd_of (N := ["self", "other", "second"]) F S (fun _ => rfl) (by decide) ?_
  intro cdv A outer s H E hr ⟨a, b⟩ G ok
  obtain ⟨o1, o2⟩ : RtOk a ∧ RtOk b := ok
  refine xss_set (i := 2) (xe_call (fd_as_ratio T) b hr (xa_cons (xv 1) xa_nil) trivial) S.nd ?_
  refine xss_one (xs_ret (XE.is (xe_lt (xe_mul (x_top T (xv 0)) (x_bottom T (xv 2)) (cmulN o1.2.2)) (xe_mul (x_top T (xv 2)) (x_bottom T (xv 0)) (cmulN o2.2.2))) ?_) fun _ _ _ t r => ⟨t, r⟩)
  refine congrArg vBl (decide_eq_decide.mpr ?_)
  rw [← Int.natCast_mul, ← Int.natCast_mul]
  exact Int.ofNat_lt
theorem md_Ratio_mul (T : Txt K mg) : Md P w K mg base (He.ga K "Ratio") "__mul__" 7 ["self", "other"] (spP (δ := Rt × Rt) (fun d => [vRatio K d.1, vRatio K d.2]) (fun d => RtOk d.1 ∧ RtOk d.2 ∧ d.1.2 * d.2.2 < 1073741824) (fun d => vRatio K (mulR d.1 d.2))) := by
  obtain ⟨g, fd, F⟩ := T.fn i_Ratio_mul d_Ratio_mul rfl
  refine ⟨_, fd, T.ratio.me "__mul__" (by simp), F.bindsN fun _ _ _ _ _ _ us hl => match us, hl with | [_, _], _ => rfl, ?_⟩
  have S : FnScope ["self", "other"] ["self", "other"] (defScope s_Ratio_mul) := ⟨rfl, rfl, rfl, by decide +kernel, rfl, by decide +kernel, by decide +kernel⟩
  refine fd_of (N := ["self", "other"]) F S (fun _ => rfl) (by decide) ?_
  intro cdv A outer s H E hr ⟨a, b⟩ G ok
  refine xss_one (xs_ret (xe_methS (md_Ratio_times T) (a, b) hr T.ratio.cl (xv 0) (xa_cons (xe_call (fd_as_ratio T) b hr (xa_cons (xv 1) xa_nil) trivial) xa_nil) rfl ok) fun _ _ _ t r => ⟨t, r⟩)
end
end K53
end MF_
section MG_
set_option maxRecDepth 100000
set_option maxHeartbeats 4000000
/-! MG: leads. -/
namespace K53
open PySem PySem.Spec PyProof.Rows L2
abbrev Step := Str × Bool
def isStep (t : Tie) (e : Bool) : Bool := decide (1 ≤ (t.mn e).1)
def isBrk (t : Tie) (e : Bool) : Bool := isStep t e && decide ((t.mn (!e)).2 = some 0)
def stepsOf (ts : Ties) : List Step := ts.flatMap fun x => ([false, true].filter (isStep x.2)).map fun e => (x.1, e)
def facQ (st : Bool) (p : Nat) : Option Nat → Option Rt
  | none => none
  | some q => if q = 0 then none else if st then some (mkR p q) else none
def facOf (t : Tie) (e : Bool) : Option Rt := facQ (isStep t e) (t.mn e).1 (t.mn (!e)).2
/-- where a way leads -/
def goW (ts : Ties) : Str → List Step → Option Str
  | k, [] => some k
  | k, s :: r => match ts.lookup s.1 with
    | some t => if isStep t s.2 && (!isBrk t s.2 && decide (t.kd s.2 = k)) then goW ts (t.kd (!s.2)) r else none
    | none => none
def stepR (ts : Ties) (s : Step) : Rt := match ts.lookup s.1 with
  | some t => (facOf t s.2).getD (0, 1)
  | none => (0, 1)
def prodW (ts : Ties) (r : Rt) (way : List Step) : Rt := way.foldl (fun r s => mulR r (stepR ts s)) r
abbrev Road := List Step × Rt
def bestS (b : Option Road) (r : Road) : Option Road := match b with
  | none => some r
  | some x => if ltR x.2 r.2 then some r else some x
def bestR (b : Option Road) (rs : List Road) : Option Road := rs.foldl bestS b
/-- at most 6 to the n -/
def RtB (n : Nat) (r : Rt) : Prop := 1 ≤ r.2 ∧ r.2 ≤ 6 ^ n ∧ r.1 ≤ 6 ^ n
theorem RtB.ok {n : Nat} {r : Rt} (h : RtB n r) (hn : n ≤ 11) : RtOk r := by
  have : 6 ^ n ≤ 6 ^ 11 := Nat.pow_le_pow_right (by decide) hn
  have e : 6 ^ 11 = 362797056 := by decide
  exact ⟨h.1, by have := h.2.1; omega, by have := h.2.2; omega⟩
theorem mkR_b {n p q : Nat} (h1 : 1 ≤ q) (h2 : q ≤ 6 ^ n) (h3 : p ≤ 6 ^ n) : RtB n (mkR p q) :=
  ⟨Nat.div_pos (Nat.le_of_dvd h1 (Nat.gcd_dvd_right p q)) (Nat.gcd_pos_of_pos_right _ h1), Nat.le_trans (Nat.div_le_self _ _) h2, Nat.le_trans (Nat.div_le_self _ _) h3⟩
theorem RtB.mul {n m : Nat} {a b : Rt} (h1 : RtB n a) (h2 : RtB m b) : RtB (n + m) (mulR a b) :=
  mkR_b (Nat.mul_pos h1.1 h2.1) (by rw [Nat.pow_add]; exact Nat.mul_le_mul h1.2.1 h2.2.1) (by rw [Nat.pow_add]; exact Nat.mul_le_mul h1.2.2 h2.2.2)
theorem RtB.mulOk {n m : Nat} {a b : Rt} (h1 : RtB n a) (h2 : RtB m b) (h : n + m ≤ 11) : RtOk a ∧ RtOk b ∧ a.2 * b.2 < 1073741824 := by
  refine ⟨h1.ok (by omega), h2.ok (by omega), ?_⟩
  have h3 : a.2 * b.2 ≤ 6 ^ (n + m) := by rw [Nat.pow_add]; exact Nat.mul_le_mul h1.2.1 h2.2.1
  have : 6 ^ (n + m) ≤ 6 ^ 11 := Nat.pow_le_pow_right (by decide) h
  have e : 6 ^ 11 = 362797056 := by decide
  omega
theorem RtB.mono {n m : Nat} {a : Rt} (h : RtB n a) (k : n ≤ m) : RtB m a := by
  have : 6 ^ n ≤ 6 ^ m := Nat.pow_le_pow_right (by decide) k
  exact ⟨h.1, Nat.le_trans h.2.1 this, Nat.le_trans h.2.2 this⟩
theorem facQ_b {st : Bool} {p : Nat} {q : Option Nat} {r : Rt} (hp : p ≤ 6) (hq : ∀ z, q = some z → z ≤ 6) (h : facQ st p q = some r) : RtB 1 r := by
  cases q with
  | none => cases h
  | some z =>
    have h : (if z = 0 then none else if st = true then some (mkR p z) else none) = some r := h
    by_cases h0 : z = 0
    · rw [if_pos h0] at h; cases h
    · rw [if_neg h0] at h
      cases st with
      | false => cases h
      | true =>
        cases h
        exact mkR_b (by omega) (by have := hq z rfl; omega) (by omega)
theorem MnOk.of {t : Tie} (h : TieOk t) (e : Bool) : MnOk (t.mn e) := by cases e; exact h.n; exact h.m
theorem facOf_b {t : Tie} {e : Bool} {r : Rt} (h : TieOk t) (hf : facOf t e = some r) : RtB 1 r :=
  facQ_b (MnOk.of h e).1 (fun z hz => ((MnOk.of h (!e)).2 z hz).2) hf
theorem zero_b : RtB 0 (0, 1) := ⟨Nat.le_refl _, by decide, by decide⟩
theorem one_b : RtB 0 (1, 1) := ⟨Nat.le_refl _, by decide, by decide⟩
theorem stepR_b {ks : List Str} {ts : Ties} (h : TsOk ks ts) (s : Step) : RtB 1 (stepR ts s) := by
  unfold stepR
  cases e : ts.lookup s.1 with
  | none => exact zero_b.mono (by decide)
  | some t =>
    show RtB 1 ((facOf t s.2).getD (0, 1))
    cases e2 : facOf t s.2 with
    | none => exact zero_b.mono (by decide)
    | some r => exact facOf_b (h.ok _ (look_mem e)) e2
theorem prodW_b {ks : List Str} {ts : Ties} (h : TsOk ks ts) : ∀ (way : List Step) {n : Nat} {r : Rt}, RtB n r → RtB (n + way.length) (prodW ts r way)
  | [], n, r, hr => hr
  | s :: w, n, r, hr => by
    have := prodW_b h w (hr.mul (stepR_b h s))
    rw [List.length_cons, Nat.add_comm w.length, ← Nat.add_assoc]
    exact this
def vStep (s : Step) : Pv := vTup [vStr s.1, vStr (endS s.2)]
def vOptR (K : PySem.W.Frag) : Option Rt → Pv
  | none => vNon
  | some r => vRatio K r
theorem stepsOf_len (ts : Ties) : (stepsOf ts).length ≤ 2 * ts.length := by
  induction ts with
  | nil => exact Nat.le_refl _
  | cons x r ih =>
    have : stepsOf (x :: r) = (([false, true].filter (isStep x.2)).map fun e => (x.1, e)) ++ stepsOf r := rfl
    rw [this, List.length_append, List.length_map, List.length_cons]
    have := List.length_filter_le (isStep x.2) [false, true]
    have h2 : [false, true].length = 2 := rfl
    omega
theorem ties_64 {K : PySem.W.Frag} {ts : Ties} (h : ts.length ≤ 8) : (pTies K ts).length < 64 := by
  rw [show (pTies K ts).length = ts.length from List.length_map _]; omega
theorem Sta.m1 {e0 : Eb} {G H : Hp} {σ : L2.St} {Γ : En} {a : Addr} {o o' : Mo} {M : Mu} (s : Sta e0 G H σ Γ ((a, o) :: M)) (h : o = o') : Sta e0 G H σ Γ ((a, o') :: M) := h ▸ s
section
variable {P : Program} {w : World} {K : PySem.W.Frag} {mg : Str → Option Value} {base : Heap}
section
variable {X : Cx} {e a b c o k : Expr} {Γ : En} {M : Mu} {pos apos : Pos} {j : Nat} {W : Web} {l : Str} {en : Bool} {t : Tie}
theorem x_manyAt (T : Txt X.K X.mg) (hr : Room j X.A) (hl : NameOk l ∧ W.ts.lookup l = some t) (ho : XE X o Γ M (vWeb X.K W)) (ha : XA X [a, b] Γ M [vStr l, vStr (endS en)]) (hj : 3 ≤ j := by decide) {pl : Sem Bool}
    (hst : starEach [a, b] X.env = (false, eval a X.env) :: starEach [b] X.env := by rfl) (hpl : (backTo pos (starEach [b] X.env)).any (·.1) = false := by rfl)
    (ht : eval (.Call (.Attribute o "many_at" apos) [a, b] [] pos) X.env = (do
      let ov ← eval o X.env
      standAt apos.atName
      let (f, first) ← holding [ov] (getMethod ov "many_at" pl)
      callWith pos f first (backTo pos (starEach [a, b] X.env)) (backToKw pos (keywordEach [] X.env))) := by rfl) : XE X (.Call (.Attribute o "many_at" apos) [a, b] [] pos) Γ M (vMany X.K (t.mn en)) :=
  xe_meth (md_Model_many_at T) (W, l, en, t) hr T.model.cl ho rfl ha rfl hl hj hst hpl ht
theorem x_kindAt (T : Txt X.K X.mg) (hr : Room j X.A) (hl : NameOk l ∧ W.ts.lookup l = some t) (ho : XE X o Γ M (vWeb X.K W)) (ha : XA X [a, b] Γ M [vStr l, vStr (endS en)]) (hj : 3 ≤ j := by decide) {pl : Sem Bool}
    (hst : starEach [a, b] X.env = (false, eval a X.env) :: starEach [b] X.env := by rfl) (hpl : (backTo pos (starEach [b] X.env)).any (·.1) = false := by rfl)
    (ht : eval (.Call (.Attribute o "kind_at" apos) [a, b] [] pos) X.env = (do
      let ov ← eval o X.env
      standAt apos.atName
      let (f, first) ← holding [ov] (getMethod ov "kind_at" pl)
      callWith pos f first (backTo pos (starEach [a, b] X.env)) (backToKw pos (keywordEach [] X.env))) := by rfl) : XE X (.Call (.Attribute o "kind_at" apos) [a, b] [] pos) Γ M (vStr (t.kd en)) :=
  xe_meth (md_Model_kind_at T) (W, l, en, t) hr T.model.cl ho rfl ha rfl hl hj hst hpl ht
end
theorem fd_is_step (T : Txt K mg) : Fd P w K mg base "is_step" 4 ["model", "link", "end"] [] (spP (δ := Web × Str × Bool × Tie) (fun d => [vWeb K d.1, vStr d.2.1, vStr (endS d.2.2.1)]) (fun d => NameOk d.2.1 ∧ d.1.ts.lookup d.2.1 = some d.2.2.2) (fun d => vBl (isStep d.2.2.2 d.2.2.1))) := by
  obtain ⟨g, fd, F⟩ := T.fn i_is_step d_is_step rfl
  refine ⟨_, fd, [], g rfl, F.kp, .nil, F.bindsN fun _ _ _ _ _ _ us hl => match us, hl with | [_, _, _], _ => rfl, ?_⟩
  have S : FnScope ["model", "link", "end"] ["model", "link", "end"] (defScope s_is_step) := ⟨rfl, rfl, rfl, by decide +kernel, rfl, by decide +kernel, by decide +kernel⟩
  refine fd_of (N := ["model", "link", "end"]) F S (fun _ => rfl) (by decide) ?_
  intro cdv A outer s H E hr ⟨W, l, en, t⟩ G ok
  refine xss_one (xs_ret (XE.is (xe_ge (x_least T hr (x_manyAt T hr ok (xv 0) (xa_cons (xv 1) (xa_cons (xv 2) xa_nil)))) xe_int) ?_) fun _ _ _ t r => ⟨t, r⟩)
  exact congrArg vBl (decide_eq_decide.mpr (by show (1 : Int) ≤ _ ↔ _; omega))
theorem fd_is_broken_end (T : Txt K mg) : Fd P w K mg base "is_broken_end" 5 ["model", "link", "end"] [] (spP (δ := Web × Str × Bool × Tie) (fun d => [vWeb K d.1, vStr d.2.1, vStr (endS d.2.2.1)]) (fun d => NameOk d.2.1 ∧ d.1.ts.lookup d.2.1 = some d.2.2.2) (fun d => vBl (isBrk d.2.2.2 d.2.2.1))) := by
  obtain ⟨g, fd, F⟩ := T.fn i_is_broken_end d_is_broken_end rfl
  refine ⟨_, fd, [], g rfl, F.kp, .nil, F.bindsN fun _ _ _ _ _ _ us hl => match us, hl with | [_, _, _], _ => rfl, ?_⟩
  have S : FnScope ["model", "link", "end"] ["model", "link", "end"] (defScope s_is_broken_end) := ⟨rfl, rfl, rfl, by decide +kernel, rfl, by decide +kernel, by decide +kernel⟩
  refine fd_of (N := ["model", "link", "end"]) F S (fun _ => rfl) (by decide) ?_
  intro cdv A outer s H E hr ⟨W, l, en, t⟩ G ok
  refine xss_one (xs_ret (XE.is (xe_and (xe_call (fd_is_step T) (W, l, en, t) hr (xa_cons (xv 0) (xa_cons (xv 1) (xa_cons (xv 2) xa_nil))) ok) (fun _ => xe_one (xe_eq (x := optV (t.mn (!en)).2) (y := .int 0) (x_most T hr (x_manyAt T hr ok (xv 0) (xa_cons (xv 1) (xa_cons (xe_call (fd_other_end T) en hr (xa_cons (xv 2) xa_nil) trivial) xa_nil)))) xe_int ?_))) ?_) fun _ _ _ t r => ⟨t, r⟩)
  · cases (t.mn (!en)).2 <;> rfl
  · refine congrArg (fun z => vBl (isStep t en && z)) (decide_eq_decide.mpr ?_)
    cases (t.mn (!en)).2 with
    | none => exact ⟨fun h => (by cases h), fun h => (by cases h)⟩
    | some q =>
      constructor
      · intro h
        injection h with h
        have : q = 0 := by omega
        rw [this]
      · intro h
        injection h with h
        rw [h]; rfl
theorem fd_steps_of (T : Txt K mg) : Fd P w K mg base "steps_of" 5 ["model"] [] (spP (δ := Web) (fun W => [vWeb K W]) (WebOk) (fun W => vLst ((stepsOf W.ts).map vStep))) := by
  obtain ⟨g, fd, F⟩ := T.fn i_steps_of d_steps_of rfl
  refine ⟨_, fd, [], g rfl, F.kp, .nil, F.bindsN fun _ _ _ _ _ _ us hl => match us, hl with | [_], _ => rfl, ?_⟩
  have S : FnScope ["model", "found", "link", "end"] ["model"] (defScope s_steps_of) := ⟨rfl, rfl, rfl, by decide +kernel, rfl, by decide +kernel, by decide +kernel⟩
  refine fd_of (N := ["model", "found", "link", "end"]) F S (fun _ => rfl) (by decide) ?_
  intro cdv A outer s H E hr W G ok
  refine xss_expr (xe_call (fd_want_model T) W hr (xa_cons (xv 0) xa_nil) trivial) ?_
  refine xss_new (i := 1) (xn_lst xa_nil) S.nd fun a => ?_
  refine xss_cons (Γ' := [some (vWeb K W), some (vVal (.ref a)), none, none]) (M' := [(a, mLst ((stepsOf W.ts).map vStep))]) (xs_for (ds := W.ts) (f := fun x => vStr x.1) (fun _ : List Step => [some (vWeb K W), some (vVal (.ref a)), none, none]) (fun x => [(a, mLst (x.map vStep))]) (fun i x => x = stepsOf (W.ts.take i)) rfl
    (xi_lst (XE.is (xn_sortD rfl (T.free "sorted" rfl) (xn_meth0 (md_Model_links T) W hr T.model.cl (xv 0) rfl rfl ⟨ok.t.nd, ok.t.ln⟩).dic vwD ?_).lst ?_)) (fun _ _ _ s => ⟨[], rfl, s.fg (by repeat (first | exact fg_nil | apply fg_keep | apply fg_drop))⟩) (fun i x ys B hx hy => ?_) (fun G H σ ⟨x, hx, s⟩ => ?_)) ?_
  · exact ties_64 ok.t.ln
  · rw [pTies_keys, sortS_id ok.st, List.map_map]; rfl
  · have hm : x ∈ W.ts := List.mem_of_getElem? hx
    have hl : NameOk x.1 ∧ W.ts.lookup x.1 = some x.2 := ⟨ok.t.nm x hm, look_of ok.t.nd hm⟩
    subst hy
    have e1 : (stepsOf (W.ts.take i)).map vStep ++ ([false, true].filter (isStep x.2)).map (fun e => vStep (x.1, e)) = (stepsOf (W.ts.take (i + 1))).map vStep := by
      unfold stepsOf
      rw [List.take_add_one, hx, Option.toList_some, List.flatMap_append, List.map_append, List.flatMap_singleton, List.map_map]
      rfl
    refine ⟨_, _, xg_name 2 S.nd, ?_⟩
    refine xss_one (xs_extend (M1 := []) (xv 1) (xe_lc (own := [("end", 3)]) (ds := [false, true]) (f := fun e => vStr (endS e)) (b := isStep x.2) (g := fun e => vStep (x.1, e)) (fun e => [some (vWeb K W), some (vVal (.ref a)), some (vStr x.1), some (vStr (endS e))]) rfl S.nd (xi_tup (XE.is (xe_tup (xa_cons xe_str (xa_cons xe_str xa_nil))) rfl)) (blkOk_by (N := ["model", "found", "link", "end"]) (sc := defScope s_steps_of) (by decide +kernel)) (fun _ _ _ _ _ _ _ => xg_name 3 S.nd)
      (fun _ _ _ _ _ e _ => xts_one (xt_val (xe_call (fd_is_step T) (W, x.1, e, x.2) hr (xa_cons (xv 0) (xa_cons (xv 2) (xa_cons (xv 3) xa_nil))) hl))) (fun _ _ _ _ _ e _ _ => xe_tup (xa_cons (xv 2) (xa_cons (xv 3) xa_nil))) ?_) (fun _ _ _ s => ⟨_, rfl, (s.m1 (congrArg mLst e1)).fg (by repeat (first | exact fg_nil | apply fg_keep | apply fg_drop))⟩) ?_)
    · rw [sizeLine_eq]; decide
    · have h1 : ((stepsOf (W.ts.take i)).map vStep).length ≤ 16 := by
        rw [List.length_map]
        refine Nat.le_trans (stepsOf_len _) ?_
        have := ok.t.ln
        have h2 : (W.ts.take i).length ≤ W.ts.length := by rw [List.length_take]; exact Nat.min_le_right _ _
        omega
      have h2 : (([false, true].filter (isStep x.2)).map (fun e => vStep (x.1, e))).length ≤ 2 := by
        rw [List.length_map]; exact List.length_filter_le _ _
      rw [sizeLine_eq]; omega
  · rw [List.take_length] at hx
    subst hx
    exact s
  · exact xss_pub (i := 1) (M1 := []) (p := vLst ((stepsOf W.ts).map vStep)) rfl (fun G u h e => mLst_lst h e) (xss_one (xs_ret (xv 1) fun _ _ _ t r => ⟨t, r⟩))
theorem fd_factor_of (T : Txt K mg) : Fd P w K mg base "factor_of" 6 ["model", "link", "end"] [] (spP (δ := Web × Str × Bool × Tie) (fun d => [vWeb K d.1, vStr d.2.1, vStr (endS d.2.2.1)]) (fun d => NameOk d.2.1 ∧ d.1.ts.lookup d.2.1 = some d.2.2.2 ∧ TieOk d.2.2.2) (fun d => vOptR K (facOf d.2.2.2 d.2.2.1))) := by
  obtain ⟨g, fd, F⟩ := T.fn i_factor_of d_factor_of rfl
  refine ⟨_, fd, [], g rfl, F.kp, .nil, F.bindsN fun _ _ _ _ _ _ us hl => match us, hl with | [_, _, _], _ => rfl, ?_⟩
  have S : FnScope ["model", "link", "end", "most"] ["model", "link", "end"] (defScope s_factor_of) := ⟨rfl, rfl, rfl, by decide +kernel, rfl, by decide +kernel, by decide +kernel⟩
  refine fd_of (N := ["model", "link", "end", "most"]) F S (fun _ => rfl) (by decide) ?_
  intro cdv A outer s H E hr ⟨W, l, en, t⟩ G ok
  obtain ⟨o1, o2, o3⟩ : NameOk l ∧ W.ts.lookup l = some t ∧ TieOk t := ok
  have hl : NameOk l ∧ W.ts.lookup l = some t := ⟨o1, o2⟩
  refine xss_expr (xe_call (fd_want_model T) W hr (xa_cons (xv 0) xa_nil) trivial) ?_
  refine xss_expr (xe_call (fd_want_link T) (W, l, t) hr (xa_cons (xv 0) (xa_cons (xv 1) xa_nil)) hl) ?_
  refine xss_expr (xe_call (fd_want_end T) en hr (xa_cons (xv 2) xa_nil) trivial) ?_
  refine xss_set (i := 3) (x_most T hr (x_manyAt T hr hl (xv 0) (xa_cons (xv 1) (xa_cons (xe_call (fd_other_end T) en hr (xa_cons (xv 2) xa_nil) trivial) xa_nil)))) S.nd ?_
  show XSs _ _ _ _ _ (fP _ (vOptR K (facQ (isStep t en) (t.mn en).1 (t.mn (!en)).2)))
  have hq := (MnOk.of o3 (!en)).2
  generalize (t.mn (!en)).2 = q at hq ⊢
  cases q with
  | none => exact xss_ift (xw_or (u := true) (w := true) (xt_isN (xv 3) nonP_val) (fun z => nomatch z)).pt (xss_one (xs_ret xe_non fun _ _ _ t r => ⟨t, r⟩))
  | some q =>
    have hq := (hq q rfl).2
    by_cases h0 : q = 0
    · subst h0
      refine xss_ift (XT.is (xw_or (w := true) (xt_isN (xv 3) nonP_val) (fun _ => xw_or (u := true) (w := true) (XT.is (xt_eq (x := .int 0) (y := .int 0) (xv 3) xe_int) rfl) (fun z => nomatch z))).pt rfl) (xss_one (xs_ret xe_non fun _ _ _ t r => ⟨t, r⟩))
    · have e1 : decide (V.int (q : Int) = V.int 0) = false := decide_eq_false fun z => by injection z with z; omega
      have cnd : ∀ Γ : En, Γ[3]? = some (some (vOpt (some q))) → True := fun _ _ => trivial
      have e2 : facQ (isStep t en) (t.mn en).1 (some q) = if isStep t en then some (mkR (t.mn en).1 q) else none := if_neg h0
      rw [e2]
      cases hs : isStep t en with
      | false =>
        refine xss_ift (XT.is (xw_or (xt_isN (xv 3) nonP_val) (fun _ => xw_or (xt_eq (x := .int (q : Int)) (y := .int 0) (xv 3) xe_int) (fun _ => xw_or1 (xt_not (xt_val (xe_call (fd_is_step T) (W, l, en, t) hr (xa_cons (xv 0) (xa_cons (xv 1) (xa_cons (xv 2) xa_nil))) hl)))))).pt ?_) (xss_one (xs_ret xe_non fun _ _ _ t r => ⟨t, r⟩))
        rw [e1, hs]; rfl
      | true =>
        refine xss_iff (XT.is (xw_or (xt_isN (xv 3) nonP_val) (fun _ => xw_or (xt_eq (x := .int (q : Int)) (y := .int 0) (xv 3) xe_int) (fun _ => xw_or1 (xt_not (xt_val (xe_call (fd_is_step T) (W, l, en, t) hr (xa_cons (xv 0) (xa_cons (xv 1) (xa_cons (xv 2) xa_nil))) hl)))))).pt ?_) (xss_one (xs_ret (xe_ratio2 T hr (q := q) (xa_cons (x_least T hr (x_manyAt T hr hl (xv 0) (xa_cons (xv 1) (xa_cons (xv 2) xa_nil)))) (xa_cons (xv 3) xa_nil)) (by omega) (by omega)) fun _ _ _ t r => ⟨t, r⟩))
        rw [e1, hs]; rfl
theorem fd_is_known_step (T : Txt K mg) : Fd P w K mg base "is_known_step" 5 ["model", "value"] [] (spP (δ := Web × Step × Tie) (fun d => [vWeb K d.1, vStep d.2.1]) (fun d => NameOk d.2.1.1 ∧ d.1.ts.lookup d.2.1.1 = some d.2.2 ∧ WebOk d.1) (fun d => vBl (isStep d.2.2 d.2.1.2))) := by
  obtain ⟨g, fd, F⟩ := T.fn i_is_known_step d_is_known_step rfl
  refine ⟨_, fd, [], g rfl, F.kp, .nil, F.bindsN fun _ _ _ _ _ _ us hl => match us, hl with | [_, _], _ => rfl, ?_⟩
  have S : FnScope ["model", "value"] ["model", "value"] (defScope s_is_known_step) := ⟨rfl, rfl, rfl, by decide +kernel, rfl, by decide +kernel, by decide +kernel⟩
  refine fd_of (N := ["model", "value"]) F S (fun _ => rfl) (by decide) ?_
  intro cdv A outer s H E hr ⟨W, ⟨l, en⟩, t⟩ G ok
  obtain ⟨o1, o2, oW⟩ : NameOk l ∧ W.ts.lookup l = some t ∧ WebOk W := ok
  refine xss_iff (XT.is (xw_or (xt_not (xt_val (xe_isi (b := true) (T.free "isinstance" rfl) (xv 1) (xe_bt (T.free "tuple" rfl) (by decide +kernel) (x := .ty "tuple") rfl) (.ty _) (isi_tup (kit_ty (by decide +kernel)))))) (fun _ => xw_or (xt_ne (x := .int _) (y := .int 2) (xe_lenT (T.free "len" rfl) (xv 1)) xe_int)
    (fun _ => xw_or (xt_not (xt_val (xe_isi (b := true) (T.free "isinstance" rfl) (xe_ixT (i := 0) (xv 1) xe_int rfl) (xe_bt (T.free "str" rfl) (by decide +kernel) (x := .ty "str") rfl) (.ty _) (isi_str rfl)))) (fun _ => xw_or1 (xt_not (xt_val (xe_call (fd_is_end T) en hr (xa_cons (xe_ixT (i := 1) (xv 1) xe_int rfl) xa_nil) trivial))))))).pt rfl) ?_
  refine xss_one (xs_ret (XE.is (xe_and (xe_din (u1 hr) (xe_ixT (i := 0) (xv 1) xe_int rfl) (xn_meth0 (md_Model_links T) W hr T.model.cl (xv 0) rfl rfl ⟨oW.t.nd, oW.t.ln⟩).dic vwD) (fun _ => xe_one (xe_call (fd_is_step T) (W, l, en, t) hr (xa_cons (xv 0) (xa_cons (xe_ixT (i := 0) (xv 1) xe_int rfl) (xa_cons (xe_ixT (i := 1) (xv 1) xe_int rfl) xa_nil))) ⟨o1, o2⟩))) ?_) fun _ _ _ t r => ⟨t, r⟩)
  rw [pTies_look, o2]; rfl
theorem fd_is_known_stepL (T : Txt K mg) : Fd P w K mg base "is_known_step" 5 ["model", "value"] [] (spP (δ := Web × List Pv) (fun d => [vWeb K d.1, vLst d.2]) (fun _ => True) (fun _ => vBl false)) := by
  obtain ⟨g, fd, F⟩ := T.fn i_is_known_step d_is_known_step rfl
  refine ⟨_, fd, [], g rfl, F.kp, .nil, F.bindsN fun _ _ _ _ _ _ us hl => match us, hl with | [_, _], _ => rfl, ?_⟩
  have S : FnScope ["model", "value"] ["model", "value"] (defScope s_is_known_step) := ⟨rfl, rfl, rfl, by decide +kernel, rfl, by decide +kernel, by decide +kernel⟩
  refine fd_of (N := ["model", "value"]) F S (fun _ => rfl) (by decide) ?_
  intro cdv A outer s H E hr ⟨W, l⟩ G ok
  exact xss_ift (xw_or (u := true) (w := true) (xt_notf (xt_val (xe_isi (b := false) (T.free "isinstance" rfl) (xv 1) (xe_bt (T.free "tuple" rfl) (by decide +kernel) (x := .ty "tuple") rfl) (.ty _) (isi_lst (kit_ty (by decide +kernel)))))) (fun z => nomatch z)).pt (xss_one (xs_ret xe_bl fun _ _ _ t r => ⟨t, r⟩))
theorem fd_behind_step (T : Txt K mg) : Fd P w K mg base "behind_step" 4 ["model", "step"] [] (spP (δ := Web × Step × Tie) (fun d => [vWeb K d.1, vStep d.2.1]) (fun d => NameOk d.2.1.1 ∧ d.1.ts.lookup d.2.1.1 = some d.2.2) (fun d => vStr (d.2.2.kd (!d.2.1.2)))) := by
  obtain ⟨g, fd, F⟩ := T.fn i_behind_step d_behind_step rfl
  refine ⟨_, fd, [], g rfl, F.kp, .nil, F.bindsN fun _ _ _ _ _ _ us hl => match us, hl with | [_, _], _ => rfl, ?_⟩
  have S : FnScope ["model", "step"] ["model", "step"] (defScope s_behind_step) := ⟨rfl, rfl, rfl, by decide +kernel, rfl, by decide +kernel, by decide +kernel⟩
  refine fd_of (N := ["model", "step"]) F S (fun _ => rfl) (by decide) ?_
  intro cdv A outer s H E hr ⟨W, ⟨l, en⟩, t⟩ G ok
  exact xss_one (xs_ret (x_kindAt T hr ok (xv 0) (xa_cons (xe_ixT (i := 0) (xv 1) xe_int rfl) (xa_cons (xe_call (fd_other_end T) en hr (xa_cons (xe_ixT (i := 1) (xv 1) xe_int rfl) xa_nil) trivial) xa_nil))) fun _ _ _ t r => ⟨t, r⟩)
end
end K53
end MG_
section MH_
set_option maxRecDepth 100000
set_option maxHeartbeats 4000000
/-! MH: ways, rings, roads. -/
namespace K53
open PySem PySem.Spec PyProof.Rows L2
def vRoad (K : PySem.W.Frag) (r : Road) : Pv := vTup [vLst (r.1.map vStep), vRatio K r.2]
def vOptRoad (K : PySem.W.Frag) : Option Road → Pv
  | none => vNon
  | some r => vRoad K r
theorem nonP_optR {K : PySem.W.Frag} {o : Option Rt} : NonP (vOptR K o) (decide (o = none)) := by
  cases o with
  | none => exact fun G v h => by cases h; rfl
  | some r => exact nonP_slt
theorem nonP_optRoad {K : PySem.W.Frag} {o : Option Road} : NonP (vOptRoad K o) o.isNone := by
  cases o with
  | none => exact fun G v h => by cases h; rfl
  | some r => exact nonP_tup
theorem goW_cons {ts : Ties} {k g : Str} {s : Step} {r : List Step} (h : goW ts k (s :: r) = some g) : ∃ t, ts.lookup s.1 = some t ∧ isStep t s.2 = true ∧ isBrk t s.2 = false ∧ t.kd s.2 = k ∧ goW ts (t.kd (!s.2)) r = some g := by
  unfold goW at h
  cases e : ts.lookup s.1 with
  | none => rw [e] at h; cases h
  | some t =>
    rw [e] at h
    have h : (if isStep t s.2 && (!isBrk t s.2 && decide (t.kd s.2 = k)) then goW ts (t.kd (!s.2)) r else none) = some g := h
    cases h1 : isStep t s.2 with
    | false => rw [h1] at h; cases h
    | true =>
      cases h2 : isBrk t s.2 with
      | true => rw [h1, h2] at h; cases h
      | false =>
        by_cases h3 : t.kd s.2 = k
        · rw [h1, h2, decide_eq_true h3] at h
          exact ⟨t, rfl, h1, h2, h3, h⟩
        · rw [h1, h2, decide_eq_false h3] at h; cases h
section
variable {P : Program} {w : World} {K : PySem.W.Frag} {mg : Str → Option Value} {base : Heap}
theorem fd_way_goal (T : Txt K mg) : Fd P w K mg base "way_goal" 6 ["model", "kind", "value"] [] (spP (δ := Web × Str × List Step × Str) (fun d => [vWeb K d.1, vStr d.2.1, vLst (d.2.2.1.map vStep)]) (fun d => WebOk d.1 ∧ goW d.1.ts d.2.1 d.2.2.1 = some d.2.2.2) (fun d => vStr d.2.2.2)) := by
  obtain ⟨g, fd, F⟩ := T.fn i_way_goal d_way_goal rfl
  refine ⟨_, fd, [], g rfl, F.kp, .nil, F.bindsN fun _ _ _ _ _ _ us hl => match us, hl with | [_, _, _], _ => rfl, ?_⟩
  have S : FnScope ["model", "kind", "value", "here", "step"] ["model", "kind", "value"] (defScope s_way_goal) := ⟨rfl, rfl, rfl, by decide +kernel, rfl, by decide +kernel, by decide +kernel⟩
  refine fd_of (N := ["model", "kind", "value", "here", "step"]) F S (fun _ => rfl) (by decide) ?_
  intro cdv A outer s H E hr ⟨W, k, way, g'⟩ G ok
  obtain ⟨oW, og⟩ : WebOk W ∧ goW W.ts k way = some g' := ok
  refine xss_iff (XT.is (xt_not (xt_val (xe_isiQ (t := false) (r := true) (T.free "isinstance" rfl) (xv 2) (xe_bt (T.free "list" rfl) (by decide +kernel) (x := .ty "list") rfl) (xe_bt (T.free "tuple" rfl) (by decide +kernel) (x := .ty "tuple") rfl) (.ty _) (.ty _) kitQ1 kitQ2))) rfl) ?_
  refine xss_set (i := 3) (xv 1) S.nd ?_
  refine xss_cons (Γ' := [none, none, none, some (vStr g'), none]) (M' := []) (xs_for (ds := way) (f := vStep) (fun h : Str => [some (vWeb K W), some (vStr k), some (vLst (way.map vStep)), some (vStr h), none]) (fun _ => []) (fun i h => goW W.ts h (way.drop i) = some g') rfl
    (xi_lst (xv 2)) (fun _ _ _ s => ⟨k, og, s⟩) (fun i st h B hs hg => ?_) (fun G H σ ⟨h, hg, s⟩ => ?_)) (xss_one (xs_ret (xv 3) fun _ _ _ t r => ⟨t, r⟩))
  · have hlt : i < way.length := (List.getElem?_eq_some_iff.mp hs).1
    have e : way.drop i = st :: way.drop (i + 1) := by
      rw [List.drop_eq_getElem_cons hlt, (List.getElem?_eq_some_iff.mp hs).2]
    rw [e] at hg
    obtain ⟨t, h1, h2, h3, h4, h5⟩ := goW_cons hg
    have on : NameOk st.1 := oW.t.nm _ (look_mem h1)
    refine ⟨_, _, xg_name 4 S.nd, ?_⟩
    refine xss_iff (XT.is (xw_or (xt_not (xt_val (xe_call (fd_is_known_step T) (W, st, t) hr (xa_cons (xv 0) (xa_cons (xv 4) xa_nil)) ⟨on, h1, oW⟩))) (fun _ => xw_or1 (xt_val (xe_call (fd_is_broken_end T) (W, st.1, st.2, t) hr (xa_cons (xv 0) (xa_cons (xe_ixT (i := 0) (xv 4) xe_int rfl) (xa_cons (xe_ixT (i := 1) (xv 4) xe_int rfl) xa_nil))) ⟨on, h1⟩)))).pt ?_) ?_
    · rw [h2, h3]; rfl
    refine xss_iff (XT.is (xt_ne (x := .str (t.kd st.2)) (y := .str h) (x_kindAt T hr ⟨on, h1⟩ (xv 0) (xa_cons (xe_ixT (i := 0) (xv 4) xe_int rfl) (xa_cons (xe_ixT (i := 1) (xv 4) xe_int rfl) xa_nil))) (xv 3)) ?_) ?_
    · rw [h4]; simp
    refine xss_one (xs_asg (i := 3) (xe_call (fd_behind_step T) (W, st, t) hr (xa_cons (xv 0) (xa_cons (xv 4) xa_nil)) ⟨on, h1⟩) (fun _ _ _ s => ⟨t.kd (!st.2), h5, s.fg (by repeat (first | exact fg_nil | apply fg_keep | apply fg_drop))⟩) S.nd)
  · rw [List.drop_length] at hg
    cases hg
    exact s.fg (by repeat (first | exact fg_nil | apply fg_keep | apply fg_drop))
theorem fd_way_product (T : Txt K mg) : Fd P w K mg base "way_product" 8 ["model", "way"] [] (spP (δ := Web × List Step) (fun d => [vWeb K d.1, vLst (d.2.map vStep)]) (fun d => WebOk d.1 ∧ (∀ s ∈ d.2, ∃ t, d.1.ts.lookup s.1 = some t) ∧ d.2.length ≤ 10) (fun d => vRatio K (prodW d.1.ts (1, 1) d.2))) := by
  obtain ⟨g, fd, F⟩ := T.fn i_way_product d_way_product rfl
  refine ⟨_, fd, [], g rfl, F.kp, .nil, F.bindsN fun _ _ _ _ _ _ us hl => match us, hl with | [_, _], _ => rfl, ?_⟩
  have S : FnScope ["model", "way", "found", "link", "end", "factor"] ["model", "way"] (defScope s_way_product) := ⟨rfl, rfl, rfl, by decide +kernel, rfl, by decide +kernel, by decide +kernel⟩
  refine fd_of (N := ["model", "way", "found", "link", "end", "factor"]) F S (fun _ => rfl) (by decide) ?_
  intro cdv A outer s H E hr ⟨W, way⟩ G ok
  obtain ⟨oW, ol, oz⟩ : WebOk W ∧ (∀ s ∈ way, ∃ t, W.ts.lookup s.1 = some t) ∧ way.length ≤ 10 := ok
  refine xss_set (i := 2) (xe_ratio1 T hr (p := 1) xe_int) S.nd ?_
  refine xss_cons (Γ' := [none, none, some (vRatio K (prodW W.ts (1, 1) way)), none, none, none]) (M' := []) (xs_for (ds := way) (f := vStep) (fun r : Rt => [some (vWeb K W), some (vLst (way.map vStep)), some (vRatio K r), none, none, none]) (fun _ => []) (fun i r => r = prodW W.ts (1, 1) (way.take i)) rfl
    (xi_lst (xv 1)) (fun _ _ _ s => ⟨(1, 1), rfl, s⟩) (fun i st r B hs hr' => ?_) (fun G H σ ⟨r, hr', s⟩ => ?_)) (xss_one (xs_ret (xv 2) fun _ _ _ t r => ⟨t, r⟩))
  · obtain ⟨t, ht⟩ := ol st (List.mem_of_getElem? hs)
    have hm := look_mem ht
    have e1 : (facOf t st.2).getD (0, 1) = stepR W.ts st := by unfold stepR; rw [ht]
    have hb : RtB (0 + (way.take i).length) r := by rw [hr']; exact prodW_b oW.t _ one_b
    have hl : (way.take i).length ≤ 10 := by rw [List.length_take]; exact Nat.le_trans (Nat.min_le_right _ _) oz
    have e2 : mulR r (stepR W.ts st) = prodW W.ts (1, 1) (way.take (i + 1)) := by
      unfold prodW at hr' ⊢
      rw [List.take_add_one, hs, Option.toList_some, List.foldl_append, ← hr']; rfl
    refine ⟨_, _, xg_tup rfl (xgs_cons (xg_name 3 S.nd) (xgs_cons (xg_name 4 S.nd) xgs_nil)), ?_⟩
    refine xss_set (i := 5) (xe_call (fd_factor_of T) (W, st.1, st.2, t) hr (xa_cons (xv 0) (xa_cons (xv 3) (xa_cons (xv 4) xa_nil))) ⟨oW.t.nm _ hm, ht, oW.t.ok _ hm⟩) S.nd ?_
    refine xss_one (xs_asg (i := 2) (xe_binS (op := .Mult) (md_Ratio_mul T) (r, stepR W.ts st) hr (T.selfF "Ratio" (by simp)) (xv 2) (xe_if (xt_isN (xv 5) nonP_optR) (fun h => XE.is (xe_ratio1 T hr (p := 0) xe_int) (q := vRatio K (stepR W.ts st)) ?_) (fun h => XE.is (xv 5) (q := vRatio K (stepR W.ts st)) ?_)) rfl (hb.mulOk (stepR_b oW.t st) (by omega))) (fun _ _ _ s => ⟨mulR r (stepR W.ts st), e2, s.fg (by repeat (first | exact fg_nil | apply fg_keep | apply fg_drop))⟩) S.nd)
    · rw [← e1, of_decide_eq_true h]; rfl
    · show vOptR K (facOf t st.2) = _
      rw [← e1]
      cases hf : facOf t st.2 with
      | none =>
        have h : decide (facOf t st.2 = none) = false := h
        rw [hf] at h; cases h
      | some r => rfl
  · rw [List.take_length] at hr'
    subst hr'
    exact s.fg (by repeat (first | exact fg_nil | apply fg_keep | apply fg_drop))
theorem fd_is_ring (T : Txt K mg) : Fd P w K mg base "is_ring" 7 ["model", "kind", "value"] [] (spP (δ := Web × Str × List Step) (fun d => [vWeb K d.1, vStr d.2.1, vLst (d.2.2.map vStep)]) (fun d => WebOk d.1 ∧ d.2.1 ∈ d.1.ks ∧ goW d.1.ts d.2.1 d.2.2 = some d.2.1 ∧ d.2.2 ≠ []) (fun d => vBl true)) := by
  obtain ⟨g, fd, F⟩ := T.fn i_is_ring d_is_ring rfl
  refine ⟨_, fd, [], g rfl, F.kp, .nil, F.bindsN fun _ _ _ _ _ _ us hl => match us, hl with | [_, _, _], _ => rfl, ?_⟩
  have S : FnScope ["model", "kind", "value"] ["model", "kind", "value"] (defScope s_is_ring) := ⟨rfl, rfl, rfl, by decide +kernel, rfl, by decide +kernel, by decide +kernel⟩
  refine fd_of (N := ["model", "kind", "value"]) F S (fun _ => rfl) (by decide) ?_
  intro cdv A outer s H E hr ⟨W, k, way⟩ G ok
  obtain ⟨oW, ok1, og, on⟩ : WebOk W ∧ k ∈ W.ks ∧ goW W.ts k way = some k ∧ way ≠ [] := ok
  refine xss_expr (xe_call (fd_want_model T) W hr (xa_cons (xv 0) xa_nil) trivial) ?_
  refine xss_expr (xe_call (fd_want_kind T) (W, k) hr (xa_cons (xv 0) (xa_cons (xv 1) xa_nil)) ⟨oW.k.nm _ ok1, ok1⟩) ?_
  refine xss_one (xs_ret (XE.is (xe_and (xe_eq (x := .str k) (y := .str k) (xe_call (fd_way_goal T) (W, k, way, k) hr (xa_cons (xv 0) (xa_cons (xv 1) (xa_cons (xv 2) xa_nil))) ⟨oW, og⟩) (xv 1)) (fun _ => xe_one (xe_gt (xe_lenL (T.free "len" rfl) (xv 2) vwL) xe_int))) ?_) fun _ _ _ t r => ⟨t, r⟩)
  have := List.length_pos_iff.mpr on
  rw [List.length_map, decide_eq_true rfl, decide_eq_true (by omega : (0 : Int) < (way.length : Int))]
  rfl
theorem fd_best_of (T : Txt K mg) : Fd P w K mg base "best_of" 6 ["roads"] [] (spP (δ := List Road) (fun rs => [vLst (rs.map (vRoad K))]) (fun rs => ∀ r ∈ rs, RtOk r.2) (fun rs => vOptRoad K (bestR none rs))) := by
  obtain ⟨g, fd, F⟩ := T.fn i_best_of d_best_of rfl
  refine ⟨_, fd, [], g rfl, F.kp, .nil, F.bindsN fun _ _ _ _ _ _ us hl => match us, hl with | [_], _ => rfl, ?_⟩
  have S : FnScope ["roads", "best", "road"] ["roads"] (defScope s_best_of) := ⟨rfl, rfl, rfl, by decide +kernel, rfl, by decide +kernel, by decide +kernel⟩
  refine fd_of (N := ["roads", "best", "road"]) F S (fun _ => rfl) (by decide) ?_
  intro cdv A outer s H E hr rs G ok
  have ok : ∀ r ∈ rs, RtOk r.2 := ok
  refine xss_set (i := 1) xe_non S.nd ?_
  refine xss_cons (Γ' := [none, some (vOptRoad K (bestR none rs)), none]) (M' := []) (xs_for (ds := rs) (f := vRoad K) (fun b : Option Road => [some (vLst (rs.map (vRoad K))), some (vOptRoad K b), none]) (fun _ => []) (fun i b => b = bestR none (rs.take i) ∧ ∀ x, b = some x → RtOk x.2) rfl
    (xi_lst (xv 0)) (fun _ _ _ s => ⟨none, ⟨rfl, fun _ h => nomatch h⟩, s⟩) (fun i r b B hs hb => ?_) (fun G H σ ⟨b, hb, s⟩ => ?_)) (xss_one (xs_ret (xv 1) fun _ _ _ t r => ⟨t, r⟩))
  · obtain ⟨hb, hk⟩ := hb
    have okr := ok r (List.mem_of_getElem? hs)
    have e2 : bestR b [r] = bestR none (rs.take (i + 1)) := by
      unfold bestR at hb ⊢
      rw [List.take_add_one, hs, Option.toList_some, List.foldl_append, ← hb]
    refine ⟨_, _, xg_name 2 S.nd, ?_⟩
    cases b with
    | none =>
      refine xss_one (xs_if (u := true) (xw_or (u := true) (w := true) (xt_isN (xv 1) (nonP_optRoad (o := none))) (fun z => nomatch z)).pt (fun _ => xss_one (xs_asg (i := 1) (xv 2) (fun _ _ _ s => ⟨some r, ⟨e2, fun x h => by cases h; exact okr⟩, s.fg (by repeat (first | exact fg_nil | apply fg_keep | apply fg_drop))⟩) S.nd)) (fun z => nomatch z))
    | some x =>
      have okx := hk x rfl
      refine xss_one (xs_if (u := ltR x.2 r.2) (XT.is (xw_or (xt_isN (xv 1) (nonP_optRoad (o := some x))) (fun _ => xw_or1 (xt_val (xe_methS (md_Ratio_is_below T) (x.2, r.2) hr T.ratio.cl (xe_ixT (i := 1) (ps := [vLst (x.1.map vStep), vRatio K x.2]) (xv 1) xe_int rfl) (xa_cons (xe_ixT (i := 1) (ps := [vLst (r.1.map vStep), vRatio K r.2]) (xv 2) xe_int rfl) xa_nil) rfl ⟨okx, okr⟩)))).pt (by simp)) (fun h => xss_one (xs_asg (i := 1) (xv 2) (fun _ _ _ s => ⟨some r, ⟨?_, fun x h => by cases h; exact okr⟩, s.fg (by repeat (first | exact fg_nil | apply fg_keep | apply fg_drop))⟩) S.nd)) (fun h => xss_nil fun _ _ _ s => ⟨some x, ⟨?_, hk⟩, s.fg (by repeat (first | exact fg_nil | apply fg_keep | apply fg_drop))⟩))
      · rw [← e2]
        show _ = if ltR x.2 r.2 then some r else some x
        rw [h]; rfl
      · rw [← e2]
        show _ = if ltR x.2 r.2 then some r else some x
        rw [h]; rfl
  · rw [List.take_length] at hb
    obtain ⟨rfl, _⟩ := hb
    exact s.fg (by repeat (first | exact fg_nil | apply fg_keep | apply fg_drop))
end
end K53
end MH_
section MI_
set_option maxRecDepth 100000
set_option maxHeartbeats 4000000
/-! MI: maps. -/
namespace K53
open PySem PySem.Spec PyProof.Rows L2
abbrev Bst := List (K2 × Step × Rt)
abbrev Bro := List (Str × Step)
def vFound (K : PySem.W.Frag) (f : Step × Rt) : Pv := vTup [vStep f.1, vRatio K f.2]
def pBest (K : PySem.W.Frag) (b : Bst) : List (K2 × Pv) := b.map fun x => (x.1, vFound K x.2)
def pBro (b : Bro) : List (Str × Pv) := b.map fun x => (x.1, vStep x.2)
def setA (k : Str) (v : Step) (l : Bro) : Bro := if (l.lookup k).isSome then l else putA k v l
def better (o : Option (Step × Rt)) (r : Rt) : Bool := match o with
  | none => true
  | some f => ltR f.2 r
def addT (t : Tie) (s : Step) (st : Bst × Bro) : Bst × Bro :=
  if isBrk t s.2 then (st.1, setA (t.kd s.2) s st.2)
  else if better (st.1.lookup (t.kd s.2, t.kd (!s.2))) ((facOf t s.2).getD (0, 1)) then (putA (t.kd s.2, t.kd (!s.2)) (s, (facOf t s.2).getD (0, 1)) st.1, st.2) else st
theorem putD_putA {s : Str} {q : Pv} : ∀ {l : List (Str × Pv)}, putD s q l = putA s q l
  | [] => rfl
  | (k, p) :: r => by
    unfold putD putA
    rw [putD_putA]
theorem pBest_look {K : PySem.W.Frag} {b : Bst} {k : K2} : (pBest K b).lookup k = (b.lookup k).map (vFound K) := lookA_map
theorem pBro_look {b : Bro} {k : Str} : (pBro b).lookup k = (b.lookup k).map vStep := lookA_map
theorem pBest_put {K : PySem.W.Frag} {b : Bst} {k : K2} {f : Step × Rt} : putA k (vFound K f) (pBest K b) = pBest K (putA k f b) := putA_map
theorem setD_pBro {b : Bro} {k : Str} {s : Step} : setD k (vStep s) (pBro b) = pBro (setA k s b) := by
  unfold setD setA
  rw [pBro_look, Option.isSome_map]
  by_cases h : (b.lookup k).isSome = true
  · rw [if_pos h, if_pos h]
  · rw [if_neg h, if_neg h, putD_putA]
    exact putA_map
structure MapI (st : Bst × Bro) (n : Nat) : Prop where
  n1 : (st.1.map (·.1)).Nodup
  n2 : (st.2.map (·.1)).Nodup
  l1 : st.1.length ≤ n
  l2 : st.2.length ≤ n
  b : ∀ k f, st.1.lookup k = some f → RtB 1 f.2
theorem facD_b {t : Tie} {e : Bool} (h : TieOk t) : RtB 1 ((facOf t e).getD (0, 1)) := by
  cases e2 : facOf t e with
  | none => exact zero_b.mono (by decide)
  | some r => exact facOf_b h e2
theorem MapI.add {st : Bst × Bro} {n : Nat} (h : MapI st n) {t : Tie} {s : Step} (ht : TieOk t) : MapI (addT t s st) (n + 1) := by
  unfold addT
  cases h1 : isBrk t s.2 with
  | true =>
    rw [if_pos rfl]
    refine ⟨h.n1, ?_, Nat.le_succ_of_le h.l1, ?_, h.b⟩
    · show ((setA (t.kd s.2) s st.2).map (·.1)).Nodup
      unfold setA
      split
      · exact h.n2
      · exact (putA_keys h.n2).1
    · show (setA (t.kd s.2) s st.2).length ≤ n + 1
      unfold setA
      split
      · exact Nat.le_succ_of_le h.l2
      · exact Nat.le_trans putA_len (Nat.succ_le_succ h.l2)
  | false =>
    rw [if_neg (by simp)]
    split
    · refine ⟨(putA_keys h.n1).1, h.n2, Nat.le_trans putA_len (Nat.succ_le_succ h.l1), Nat.le_succ_of_le h.l2, fun k f hf => ?_⟩
      have hf : (putA (t.kd s.2, t.kd (!s.2)) (s, (facOf t s.2).getD (0, 1)) st.1).lookup k = some f := hf
      rw [putA_look] at hf
      by_cases e : k = (t.kd s.2, t.kd (!s.2))
      · rw [if_pos e] at hf
        cases hf
        exact facD_b ht
      · rw [if_neg e] at hf
        exact h.b k f hf
    · exact ⟨h.n1, h.n2, Nat.le_succ_of_le h.l1, Nat.le_succ_of_le h.l2, h.b⟩
theorem Sta.mm {e0 : Eb} {G H : Hp} {σ : L2.St} {Γ : En} {M M' : Mu} (s : Sta e0 G H σ Γ M) (h : M = M') : Sta e0 G H σ Γ M' := h ▸ s
section
variable {P : Program} {w : World} {K : PySem.W.Frag} {mg : Str → Option Value} {base : Heap}
def fsMapU (K : PySem.W.Frag) (W : Web) (d1 d2 : Addr) : List (Str × Pv) := [("own_model", vWeb K W), ("own_kinds", vLst (W.ks.map fun s => vStr s)), ("own_best", vVal (.ref d1)), ("own_broken", vVal (.ref d2))]
def muMap (K : PySem.W.Frag) (W : Web) (x d1 d2 : Addr) (st : Bst × Bro) : Mu := [(d2, mDic (pBro st.2)), (d1, mDicT (pBest K st.1)), (x, mIns (He.ga K "Map") (fsMapU K W d1 d2))]
structure AddD where
  W : Web
  st : Bst × Bro
  s : Step
  t : Tie
  x : Addr
  d1 : Addr
  d2 : Addr
theorem md_Map_add_step (T : Txt K mg) : Md P w K mg base (He.ga K "Map") "add_step" 7 ["self", "link", "end"] (spM (δ := AddD) (fun d => [vVal (.ref d.x), vStr d.s.1, vStr (endS d.s.2)]) (fun d => WebOk d.W ∧ d.W.ts.lookup d.s.1 = some d.t ∧ MapI d.st 100) (fun d => muMap K d.W d.x d.d1 d.d2 d.st) (fun d => muMap K d.W d.x d.d1 d.d2 (addT d.t d.s d.st))) := by
  obtain ⟨g, fd, F⟩ := T.fn i_Map_add_step d_Map_add_step rfl
  refine ⟨_, fd, T.map.me "add_step" (by simp), F.bindsN fun _ _ _ _ _ _ us hl => match us, hl with | [_, _, _], _ => rfl, ?_⟩
  have S : FnScope ["self", "link", "end", "tail", "ends", "factor", "found"] ["self", "link", "end"] (defScope s_Map_add_step) := ⟨rfl, rfl, rfl, by decide +kernel, rfl, by decide +kernel, by decide +kernel⟩
  refine fdm_of (N := ["self", "link", "end", "tail", "ends", "factor", "found"]) F S (fun _ => rfl) (by decide) ?_
  intro cdv A outer s0 H E hr ⟨W, st, ⟨l, en⟩, t, x, d1, d2⟩ G ok
  obtain ⟨oW, hl, oI⟩ : WebOk W ∧ W.ts.lookup l = some t ∧ MapI st 100 := ok
  have hm := look_mem hl
  have on : NameOk l := oW.t.nm _ hm
  have ot : TieOk t := oW.t.ok _ hm
  have mod : ∀ {X : Cx} {Γ : En} {p1 p2 : Pos}, X.K = K → True := fun _ => trivial
  have mx : (x, mIns (He.ga K "Map") (fsMapU K W d1 d2)) ∈ muMap K W x d1 d2 st := by simp [muMap]
  have m1 : (d1, mDicT (pBest K st.1)) ∈ muMap K W x d1 d2 st := by simp [muMap]
  refine xss_set (i := 3) (x_kindAt T hr ⟨on, hl⟩ (xe_fld (xv 0) (vwI_mu mx) (q := vWeb K W) rfl T.map.cl (T.map.na "own_model" (by simp))) (xa_cons (xv 1) (xa_cons (xv 2) xa_nil))) S.nd ?_
  refine xss_one (xs_if (u := isBrk t en) (xt_val (xe_call (fd_is_broken_end T) (W, l, en, t) hr (xa_cons (xe_fld (xv 0) (vwI_mu mx) (q := vWeb K W) rfl T.map.cl (T.map.na "own_model" (by simp))) (xa_cons (xv 1) (xa_cons (xv 2) xa_nil))) ⟨on, hl⟩)) (fun h => ?_) (fun h => ?_))
  · refine xss_one (xs_setdef (M1 := []) (sd := t.kd en) (p := vStep (l, en)) (xe_fld (xv 0) (vwI_mu mx) (q := vVal (.ref d2)) rfl T.map.cl (T.map.na "own_broken" (by simp))) (xv 3) (xe_tup (xa_cons (xv 1) (xa_cons (xv 2) xa_nil))) (fun _ _ _ s => ⟨_, s.mm ?_⟩) ?_ ?_ ⟨rfl, rfl, rfl, rfl⟩)
    · show (d2, mDic (setD (t.kd en) (vStep (l, en)) (pBro st.2))) :: _ = muMap K W x d1 d2 (addT t (l, en) st)
      unfold addT
      rw [if_pos h, setD_pBro]
      rfl
    · unfold pBro; rw [List.map_map]; exact oI.n2
    · exact Nat.lt_of_le_of_lt (show (pBro st.2).length ≤ 100 by unfold pBro; rw [List.length_map]; exact oI.l2) (by rw [sizeLine_eq]; decide)
  · refine xss_set (i := 4) (xe_tup (xa_cons (xv 3) (xa_cons (xe_call (fd_behind_step T) (W, (l, en), t) hr (xa_cons (xe_fld (xv 0) (vwI_mu mx) (q := vWeb K W) rfl T.map.cl (T.map.na "own_model" (by simp))) (xa_cons (xe_tup (xa_cons (xv 1) (xa_cons (xv 2) xa_nil))) xa_nil)) ⟨on, hl⟩) xa_nil))) S.nd ?_
    refine xss_set (i := 5) (xe_call (fd_factor_of T) (W, l, en, t) hr (xa_cons (xe_fld (xv 0) (vwI_mu mx) (q := vWeb K W) rfl T.map.cl (T.map.na "own_model" (by simp))) (xa_cons (xv 1) (xa_cons (xv 2) xa_nil))) ⟨on, hl, ot⟩) S.nd ?_
    refine xss_set (i := 6) (p := vFound K ((l, en), (facOf t en).getD (0, 1))) (xe_tup (xa_cons (xe_tup (xa_cons (xv 1) (xa_cons (xv 2) xa_nil))) (xa_cons (xe_if (xt_isN (xv 5) nonP_optR) (fun h => XE.is (xe_ratio1 T hr (p := 0) xe_int) ?_) (fun h => XE.is (xv 5) ?_)) xa_nil))) S.nd ?_
    · show _ = vRatio K ((facOf t en).getD (0, 1))
      rw [of_decide_eq_true h]; rfl
    · show vOptR K (facOf t en) = vRatio K ((facOf t en).getD (0, 1))
      cases hf : facOf t en with
      | none =>
        have h : decide (facOf t en = none) = false := h
        rw [hf] at h; cases h
      | some r => rfl
    · have fb : RtOk ((facOf t en).getD (0, 1)) := (facD_b ot).ok (by decide)
      have hx : addT t (l, en) st = if better (st.1.lookup (t.kd en, t.kd (!en))) ((facOf t en).getD (0, 1)) then (putA (t.kd en, t.kd (!en)) ((l, en), (facOf t en).getD (0, 1)) st.1, st.2) else st := by
        unfold addT
        rw [if_neg (by rw [h]; simp)]
      refine xss_one (xs_if (u := better (st.1.lookup (t.kd en, t.kd (!en))) ((facOf t en).getD (0, 1))) (XT.is (xw_or (u := !((pBest K st.1).lookup (t.kd en, t.kd (!en))).isSome) (w := ltR ((st.1.lookup (t.kd en, t.kd (!en))).getD ((l, en), (0, 1))).2 ((facOf t en).getD (0, 1))) (xt_dninT (s := (t.kd en, t.kd (!en))) (u1 hr) (xv 4) (xe_fld (xv 0) (vwI_mu mx) (q := vVal (.ref d1)) rfl T.map.cl (T.map.na "own_best" (by simp))) (vwT_mu m1)) (fun h => ?_)).pt ?_) (fun h2 => ?_) (fun h2 => ?_))
      · refine xw_or1 (xt_val (xe_methS (md_Ratio_is_below T) (((st.1.lookup (t.kd en, t.kd (!en))).getD ((l, en), (0, 1))).2, (facOf t en).getD (0, 1)) hr T.ratio.cl (xe_ixT (i := 1) (ps := [vStep ((st.1.lookup (t.kd en, t.kd (!en))).getD ((l, en), (0, 1))).1, vRatio K ((st.1.lookup (t.kd en, t.kd (!en))).getD ((l, en), (0, 1))).2]) (xe_dgetT (s := (t.kd en, t.kd (!en))) (u1 hr) (xe_fld (xv 0) (vwI_mu mx) (q := vVal (.ref d1)) rfl T.map.cl (T.map.na "own_best" (by simp))) (xv 4) (vwT_mu m1) ?_) xe_int rfl) (xa_cons (xe_ixT (i := 1) (ps := [vStep (l, en), vRatio K ((facOf t en).getD (0, 1))]) (xv 6) xe_int rfl) xa_nil) rfl ⟨?_, fb⟩))
        · rw [pBest_look] at h ⊢
          cases e : st.1.lookup (t.kd en, t.kd (!en)) with
          | none => rw [e] at h; simp at h
          | some f => rfl
        · cases e : st.1.lookup (t.kd en, t.kd (!en)) with
          | none => rw [pBest_look, e] at h; simp at h
          | some f => exact (oI.b _ f e).ok (by decide)
      · rw [pBest_look]
        cases e : st.1.lookup (t.kd en, t.kd (!en)) with
        | none => rfl
        | some f => rfl
      · rw [if_pos h2] at hx
        refine xss_one (xs_dputT (M1 := [(d2, mDic (pBro st.2))]) (s := (t.kd en, t.kd (!en))) (p := vFound K ((l, en), (facOf t en).getD (0, 1))) (u1 hr) (xv 6) (xe_fld (xv 0) (vwI_mu mx) (q := vVal (.ref d1)) rfl T.map.cl (T.map.na "own_best" (by simp))) (xv 4) (fun _ _ _ s => ⟨_, s.mm ?_⟩) ?_ ?_)
        · show (d2, mDic (pBro st.2)) :: (d1, mDicT (putA (t.kd en, t.kd (!en)) (vFound K ((l, en), (facOf t en).getD (0, 1))) (pBest K st.1))) :: _ = muMap K W x d1 d2 (addT t (l, en) st)
          rw [hx, pBest_put]
          rfl
        · unfold pBest; rw [List.map_map]; exact oI.n1
        · exact Nat.lt_of_le_of_lt (show (pBest K st.1).length ≤ 100 by unfold pBest; rw [List.length_map]; exact oI.l1) (by rw [sizeLine_eq]; decide)
      · rw [if_neg (by rw [h2]; simp)] at hx
        refine xss_nil fun _ _ _ s => ⟨_, s.mm ?_⟩
        show muMap K W x d1 d2 st = muMap K W x d1 d2 (addT t (l, en) st)
        rw [hx]
end
end K53
end MI_
section MJ_
set_option maxRecDepth 100000
set_option maxHeartbeats 4000000
/-! MJ: making maps; roads. -/
namespace K53
open PySem PySem.Spec PyProof.Rows L2
def fsMap (K : PySem.W.Frag) (W : Web) (st : Bst × Bro) : List (Str × Pv) := [("own_model", vWeb K W), ("own_kinds", vLst (W.ks.map fun s => vStr s)), ("own_best", vDicT (pBest K st.1)), ("own_broken", vDic (pBro st.2))]
def vMap (K : PySem.W.Frag) (W : Web) (st : Bst × Bro) : Pv := vIns (He.ga K "Map") (fsMap K W st)
def addS (ts : Ties) (st : Bst × Bro) (s : Step) : Bst × Bro := match ts.lookup s.1 with
  | some t => addT t s st
  | none => st
def mapOf (ts : Ties) : Bst × Bro := (stepsOf ts).foldl (addS ts) ([], [])
theorem addS_i {ks : List Str} {ts : Ties} (h : TsOk ks ts) : ∀ (l : List Step) {st : Bst × Bro} {n : Nat}, MapI st n → MapI (l.foldl (addS ts) st) (n + l.length)
  | [], _, _, hi => hi
  | s :: l, st, n, hi => by
    have h1 : MapI (addS ts st s) (n + 1) := by
      unfold addS
      cases e : ts.lookup s.1 with
      | none => exact ⟨hi.n1, hi.n2, Nat.le_succ_of_le hi.l1, Nat.le_succ_of_le hi.l2, hi.b⟩
      | some t => exact hi.add (h.ok _ (look_mem e))
    have := addS_i h l h1
    rw [List.length_cons, Nat.add_comm l.length, ← Nat.add_assoc]
    exact this
theorem map0 : MapI ([], []) 0 := ⟨List.nodup_nil, List.nodup_nil, Nat.le_refl _, Nat.le_refl _, fun k f h => by simp at h⟩
theorem MapI.le {st : Bst × Bro} {n m : Nat} (h : MapI st n) (k : n ≤ m) : MapI st m := ⟨h.n1, h.n2, Nat.le_trans h.l1 k, Nat.le_trans h.l2 k, h.b⟩
theorem steps_look {ts : Ties} (nd : (ts.map (·.1)).Nodup) {s : Step} (h : s ∈ stepsOf ts) : ∃ t, ts.lookup s.1 = some t ∧ isStep t s.2 = true := by
  unfold stepsOf at h
  obtain ⟨x, hx, h⟩ := List.mem_flatMap.mp h
  obtain ⟨e, he, rfl⟩ := List.mem_map.mp h
  exact ⟨x.2, look_of nd hx, (List.mem_filter.mp he).2⟩
theorem xss_pubMap {X : Cx} {e0 : Eb} {sts : List Stmt} {Γ : En} {P : Pst} {K : PySem.W.Frag} {W : Web} {x d1 d2 : Addr} {st : Bst × Bro} (k : XSs X e0 sts Γ [(x, mIns (He.ga K "Map") (fsMap K W st))] P) : XSs X e0 sts Γ (muMap K W x d1 d2 st) P := fun G H σ s D F => by
  obtain ⟨ob2, r2, h2, g2, s2⟩ := Sta.pub (M1 := []) s
  have g2' : (upd G d2 ob2) d2 = some ob2 := upd_same
  obtain ⟨ob1, r1, h1, g1, s1⟩ := Sta.pub (M1 := []) s2
  have ne : d2 ≠ d1 := fun z => by rw [← z, g2'] at g1; cases g1
  have gd2 : (upd (upd G d2 ob2) d1 ob1) d2 = some ob2 := by rw [upd_ne ne]; exact g2'
  have gd1 : (upd (upd G d2 ob2) d1 ob1) d1 = some ob1 := upd_same
  have l1 : Le (upd G d2 ob2) (upd (upd G d2 ob2) d1 ob1) := le_same (same_new g1)
  have l0 : Le G (upd (upd G d2 ob2) d1 ob1) := (le_same (same_new g2)).trans l1
  refine k _ H σ ⟨s1.t, s1.b, ⟨s1.s.i, s1.s.a, s1.s.nd, fun q hq => ?_⟩, fun q hq => ?_⟩ D F
  · obtain rfl : q = (x, mIns (He.ga K "Map") (fsMap K W st)) := by simpa using hq
    obtain ⟨z1, ob, z2, dx, fv, rfl, al⟩ := s1.s.m (x, mIns (He.ga K "Map") (fsMapU K W d1 d2)) (by simp)
    refine ⟨z1, _, z2, dx, fv, rfl, ?_⟩
    cases al with
    | cons a1 al =>
      cases al with
      | cons a2 al =>
        cases al with
        | cons a3 al =>
          cases al with
          | cons a4 al =>
            cases al
            obtain rfl := a3
            obtain rfl := a4
            exact .cons a1 (.cons a2 (.cons (mDicT_dic (Mo.mono _ l1 r1) gd1) (.cons (mDic_dic (Mo.mono _ l0 r2) gd2) .nil)))
  · obtain rfl : q = (x, mIns (He.ga K "Map") (fsMap K W st)) := by simpa using hq
    exact s1.f (x, mIns (He.ga K "Map") (fsMapU K W d1 d2)) (by simp)
section
variable {P : Program} {w : World} {K : PySem.W.Frag} {mg : Str → Option Value} {base : Heap}
theorem fi_Map (T : Txt K mg) : ∃ fd, FunD K "__init__" "Map.__init__" (defArgs s_Map_init) (defBody s_Map_init) (defScope s_Map_init) [] [] (He.ma K (He.ga K "Map") "__init__") fd ∧ FnOk P w K mg base CX0 8 (He.ma K (He.ga K "Map") "__init__") fd ["self", "model"] (spI (He.ga K "Map") (δ := Web) (fun W => [vWeb K W]) (WebOk) (fun W => fsMap K W (mapOf W.ts))) := by
  obtain ⟨g, fd, F⟩ := T.fn i_Map_init d_Map_init rfl
  refine ⟨fd, F, ?_⟩
  have S : FnScope ["self", "model", "link", "end"] ["self", "model"] (defScope s_Map_init) := ⟨rfl, rfl, rfl, by decide +kernel, rfl, by decide +kernel, by decide +kernel⟩
  refine fdi_of (N := ["self", "model", "link", "end"]) F S (fun _ => rfl) (by decide) ?_
  intro cdv A outer s H E hr W G x ok
  have ok : WebOk W := ok
  refine xss_cons (xs_fld (M1 := []) (xv 1) (xv 0) (fun _ _ _ s => s) T.map.cl (T.map.na "own_model" (by simp))) ?_
  refine xss_cons (xs_fld (M1 := []) (xe_meth0 (md_Model_kinds T) W hr T.model.cl (xv 1) rfl rfl trivial) (xv 0) (fun _ _ _ s => s) T.map.cl (T.map.na "own_kinds" (by simp))) ?_
  refine xss_fldN (M1 := []) xn_dicT (fun _ => xv 0) (fun d1 => ?_) T.map.cl (T.map.na "own_best" (by simp))
  refine xss_fldN (M1 := [(d1, mDicT [])]) xn_dic (fun _ => xv 0) (fun d2 => ?_) T.map.cl (T.map.na "own_broken" (by simp))
  refine xss_cons (Γ' := [none, none, none, none]) (M' := muMap K W x d1 d2 (mapOf W.ts)) (xs_for (ds := stepsOf W.ts) (f := vStep) (fun _ : Bst × Bro => [some (vVal (.ref x)), some (vWeb K W), none, none]) (fun st => muMap K W x d1 d2 st) (fun i st => st = ((stepsOf W.ts).take i).foldl (addS W.ts) ([], [])) rfl
    (xi_lst (xe_call (fd_steps_of T) W hr (xa_cons (xv 1) xa_nil) ok)) (fun _ _ _ s => ⟨([], []), rfl, s⟩) (fun i s st B hs hst => ?_) (fun G H σ ⟨st, hst, s⟩ => ?_)) ?_
  · have hm : s ∈ stepsOf W.ts := List.mem_of_getElem? hs
    obtain ⟨t, ht, _⟩ := steps_look ok.t.nd hm
    have hl : (stepsOf W.ts).length ≤ 16 := Nat.le_trans (stepsOf_len _) (by have := ok.t.ln; omega)
    have hi : MapI st 100 := by
      rw [hst]
      exact (addS_i ok.t _ map0).le (by rw [List.length_take]; omega)
    have e2 : addT t s st = ((stepsOf W.ts).take (i + 1)).foldl (addS W.ts) ([], []) := by
      rw [List.take_add_one, hs, Option.toList_some, List.foldl_append, ← hst]
      show _ = addS W.ts st s
      unfold addS
      rw [ht]
    refine ⟨_, _, xg_tup rfl (xgs_cons (xg_name 2 S.nd) (xgs_cons (xg_name 3 S.nd) xgs_nil)), ?_⟩
    refine xss_methM (md_Map_add_step T) ⟨W, st, s, t, x, d1, d2⟩ hr T.map.cl (xv 0) (x := x) (fs := fsMapU K W d1 d2) (List.mem_cons_of_mem _ (List.mem_cons_of_mem _ List.mem_cons_self)) rfl (xa_cons (xv 2) (xa_cons (xv 3) xa_nil)) rfl ⟨ok, ht, hi⟩ rfl (xss_nil fun _ _ _ s' => ⟨addT t s st, e2, s'.fg (by repeat (first | exact fg_nil | apply fg_keep | apply fg_drop))⟩)
  · rw [List.take_length] at hst
    subst hst
    exact s.fg (by repeat (first | exact fg_nil | apply fg_keep | apply fg_drop))
  · exact xss_pubMap (xss_nil fun _ _ _ s => ⟨_, [], s⟩)
theorem id_Map (T : Txt K mg) : Id P w K mg base (He.ga K "Map") 8 ["self", "model"] [] (spI (He.ga K "Map") (δ := Web) (fun W => [vWeb K W]) (WebOk) (fun W => fsMap K W (mapOf W.ts))) := by
  obtain ⟨fd, F, ok⟩ := fi_Map (P := P) (w := w) (base := base) T
  obtain ⟨ds, hds, hb⟩ : ∃ ds, Vals [] ds ∧ Binds K fd ["self", "model"] ds := ⟨[], .nil, F.bindsN fun _ _ _ _ _ _ us hl => match us, hl with | [_, _], _ => rfl⟩
  exact ⟨⟨_, fd, ds, T.map.mak, hds, hb, ok⟩⟩
end
/-! ### roads -/
def extR (f : Step × Rt) (r : Road) : Road := (f.1 :: r.1, mulR f.2 r.2)
def roadsN (b : Bst) (ks : List Str) : Nat → Str → Str → List Str → List Road
  | 0, k, g, _ => if k = g then [([], (1, 1))] else []
  | n + 1, k, g, ps => if k = g then [([], (1, 1))] else ks.flatMap fun o => if o ∈ ps then [] else match b.lookup (k, o) with
    | none => []
    | some f => (roadsN b ks n o g (ps ++ [o])).map (extR f)
theorem flatMap_len {α β : Type} {f : α → List β} {m : Nat} : ∀ {l : List α}, (∀ x ∈ l, (f x).length ≤ m) → (l.flatMap f).length ≤ l.length * m
  | [], _ => by simp
  | x :: l, h => by
    rw [List.flatMap_cons, List.length_append, List.length_cons, Nat.succ_mul, Nat.add_comm]
    exact Nat.add_le_add (flatMap_len fun y hy => h y (List.mem_cons_of_mem _ hy)) (h x List.mem_cons_self)
theorem roadsN_len {b : Bst} {ks : List Str} (hk : ks.length ≤ 5) : ∀ (n : Nat) (k g : Str) (ps : List Str), (roadsN b ks n k g ps).length ≤ 5 ^ n
  | 0, k, g, ps => by unfold roadsN; split <;> simp
  | n + 1, k, g, ps => by
    have p1 : 1 ≤ 5 ^ n := Nat.pow_pos (by decide)
    unfold roadsN
    split
    · rw [Nat.pow_succ]; show 1 ≤ _; omega
    · refine Nat.le_trans (flatMap_len (m := 5 ^ n) fun o _ => ?_) ?_
      · split
        · exact Nat.zero_le _
        · cases b.lookup (k, o) with
          | none => exact Nat.zero_le _
          | some f =>
            show ((roadsN b ks n o g (ps ++ [o])).map (extR f)).length ≤ _
            rw [List.length_map]; exact roadsN_len hk n o g _
      · rw [Nat.pow_succ, Nat.mul_comm]; exact Nat.mul_le_mul_left _ hk
theorem roadsN_b {b : Bst} {ks : List Str} (hb : ∀ k f, b.lookup k = some f → RtB 1 f.2) : ∀ (n : Nat) (k g : Str) (ps : List Str) (r : Road), r ∈ roadsN b ks n k g ps → RtB n r.2 ∧ r.1.length ≤ n
  | 0, k, g, ps, r, h => by
    unfold roadsN at h
    split at h
    · obtain rfl : r = ([], (1, 1)) := by simpa using h
      exact ⟨one_b, Nat.le_refl _⟩
    · simp at h
  | n + 1, k, g, ps, r, h => by
    unfold roadsN at h
    split at h
    · obtain rfl : r = ([], (1, 1)) := by simpa using h
      exact ⟨one_b.mono (Nat.zero_le _), Nat.zero_le _⟩
    · obtain ⟨o, ho, h⟩ := List.mem_flatMap.mp h
      split at h
      · simp at h
      · cases e : b.lookup (k, o) with
        | none => rw [e] at h; simp at h
        | some f =>
          rw [e] at h
          obtain ⟨r', hr', rfl⟩ := List.mem_map.mp h
          obtain ⟨h1, h2⟩ := roadsN_b hb n o g _ r' hr'
          refine ⟨?_, Nat.succ_le_succ h2⟩
          have := (hb _ _ e).mul h1
          rw [Nat.add_comm] at this
          exact this
theorem road_ratio {n : Nat} {f : Step × Rt} {r : Road} (h1 : RtB 1 f.2) (h2 : RtB n r.2) (hn : n ≤ 10) : RtOk f.2 ∧ RtOk r.2 ∧ f.2.2 * r.2.2 < 1073741824 := h1.mulOk h2 (by omega)
structure RdOk (n : Nat) (W : Web) (st : Bst × Bro) (ps : List Str) : Prop where
  ln : W.ks.length ≤ 5
  b : ∀ k f, st.1.lookup k = some f → RtB 1 f.2
  fl : (W.ks.filter fun o => decide (o ∉ ps)).length ≤ n
  n5 : n ≤ 5
  pl : ps.length + n ≤ 100
theorem RdOk.next {n : Nat} {W : Web} {st : Bst × Bro} {ps : List Str} {o : Str} (h : RdOk (n + 1) W st ps) (ho : o ∈ W.ks) (hp : o ∉ ps) : RdOk n W st (ps ++ [o]) := by
  refine ⟨h.ln, h.b, ?_, by have := h.n5; omega, by rw [List.length_append]; have := h.pl; simp; omega⟩
  have h1 : (W.ks.filter fun x => decide (x ∉ ps ++ [o])).length < (W.ks.filter fun x => decide (x ∉ ps)).length := by
    have e : (W.ks.filter fun x => decide (x ∉ ps ++ [o])) = (W.ks.filter fun x => decide (x ∉ ps)).filter fun x => decide (x ≠ o) := by
      rw [List.filter_filter]
      refine List.filter_congr fun x _ => ?_
      rw [← Bool.decide_and]
      refine decide_eq_decide.mpr ?_
      rw [List.mem_append, List.mem_singleton, not_or]
      exact and_comm
    rw [e]
    refine List.length_filter_lt_length_iff_exists.mpr ⟨o, List.mem_filter.mpr ⟨ho, decide_eq_true hp⟩, by simp⟩
  have := h.fl
  omega
theorem RdOk.zero {W : Web} {st : Bst × Bro} {ps : List Str} (h : RdOk 0 W st ps) {o : Str} (ho : o ∈ W.ks) : o ∈ ps := by
  have h0 := List.length_eq_zero_iff.mp (Nat.le_zero.mp h.fl)
  rcases Decidable.em (o ∈ ps) with q | q
  · exact q
  · have : o ∈ W.ks.filter fun o => decide (o ∉ ps) := List.mem_filter.mpr ⟨ho, decide_eq_true q⟩
    rw [h0] at this; cases this
abbrev roadsSp (K : PySem.W.Frag) (n : Nat) : Sp := spP (δ := Web × (Bst × Bro) × Str × Str × List Str) (fun d => [vMap K d.1 d.2.1, vStr d.2.2.1, vStr d.2.2.2.1, vLst (d.2.2.2.2.map fun s => vStr s)]) (fun d => RdOk n d.1 d.2.1 d.2.2.2.2) (fun d => vLst ((roadsN d.2.1.1 d.1.ks n d.2.2.1 d.2.2.2.1 d.2.2.2.2).map (vRoad K)))
/-- what one other kind gives -/
def viaR (b : Bst) (ks : List Str) (n : Nat) (k g : Str) (ps : List Str) (o : Str) : List Road := if o ∈ ps then [] else match b.lookup (k, o) with
  | none => []
  | some f => match n with
    | 0 => []
    | m + 1 => (roadsN b ks m o g (ps ++ [o])).map (extR f)
theorem viaR_len {b : Bst} {ks : List Str} (hk : ks.length ≤ 5) {n : Nat} (hn : n ≤ 5) (k g : Str) (ps : List Str) (o : Str) : (viaR b ks n k g ps o).length ≤ 625 := by
  unfold viaR
  by_cases h : o ∈ ps
  · rw [if_pos h]; exact Nat.zero_le _
  · rw [if_neg h]
    cases b.lookup (k, o) with
    | none => exact Nat.zero_le _
    | some f =>
      cases n with
      | zero => exact Nat.zero_le _
      | succ m =>
        show ((roadsN b ks m o g (ps ++ [o])).map (extR f)).length ≤ 625
        rw [List.length_map]
        refine Nat.le_trans (roadsN_len hk _ _ _ _) ?_
        have : 5 ^ m ≤ 5 ^ 4 := Nat.pow_le_pow_right (by decide) (by omega)
        have e4 : 5 ^ 4 = 625 := by decide
        omega
theorem roadsN_via {W : Web} {st : Bst × Bro} {n : Nat} {k g : Str} {ps : List Str} (h : RdOk n W st ps) (hk : k ≠ g) : roadsN st.1 W.ks n k g ps = W.ks.flatMap (viaR st.1 W.ks n k g ps) := by
  cases n with
  | zero =>
    have e : roadsN st.1 W.ks 0 k g ps = [] := if_neg hk
    rw [e]
    symm
    rw [List.flatMap_eq_nil_iff]
    intro o ho
    exact if_pos (h.zero ho)
  | succ n => exact if_neg hk
section
variable {P : Program} {w : World} {K : PySem.W.Frag} {mg : Str → Option Value} {base : Heap}
theorem md_Map_roads (T : Txt K mg) (n : Nat) (ih : ∀ (P : Program) (w : World) (base : Heap) (m : Nat), n = m + 1 → Md P w K mg base (He.ga K "Map") "roads" (m + 12) ["self", "kind", "goal", "passed"] (roadsSp K m)) : Md P w K mg base (He.ga K "Map") "roads" (n+12) ["self", "kind", "goal", "passed"] (spP (δ := Web × (Bst × Bro) × Str × Str × List Str) (fun d => [vMap K d.1 d.2.1, vStr d.2.2.1, vStr d.2.2.2.1, vLst (d.2.2.2.2.map fun s => vStr s)]) (fun d => RdOk n d.1 d.2.1 d.2.2.2.2) (fun d => vLst ((roadsN d.2.1.1 d.1.ks n d.2.2.1 d.2.2.2.1 d.2.2.2.2).map (vRoad K)))) := by
  obtain ⟨g, fd, F⟩ := T.fn i_Map_roads d_Map_roads rfl
  refine ⟨_, fd, T.map.me "roads" (by simp), F.bindsN fun _ _ _ _ _ _ us hl => match us, hl with | [_, _, _, _], _ => rfl, ?_⟩
  have S : FnScope ["self", "kind", "goal", "passed", "found", "other", "step", "factor", "way", "product"] ["self", "kind", "goal", "passed"] (defScope s_Map_roads) := ⟨rfl, rfl, rfl, by decide +kernel, rfl, by decide +kernel, by decide +kernel⟩
  refine fd_of (N := ["self", "kind", "goal", "passed", "found", "other", "step", "factor", "way", "product"]) F S (fun _ => rfl) (by decide) ?_
  intro cdv A outer s H E hr ⟨W, st, kk, gg, ps⟩ G ok
  have ok : RdOk n W st ps := ok
  have sz : ∀ {m : Nat}, m ≤ 3200 → m < sizeLine := fun {m} h => by rw [sizeLine_eq]; omega
  by_cases hk : kk = gg
  · subst hk
    refine xss_ift (XT.is (xt_eq (x := .str kk) (y := .str kk) (xv 1) (xv 2)) (decide_eq_true rfl)) (xss_one (xs_ret (XE.is (xe_lst (xa_cons (xe_tup (xa_cons (xe_lst xa_nil) (xa_cons (xe_ratio1 T hr (p := 1) xe_int (hj := by omega)) xa_nil))) xa_nil)) ?_) fun _ _ _ t r => ⟨t, r⟩))
    have e : roadsN st.1 W.ks n kk kk ps = [([], (1, 1))] := by cases n <;> exact if_pos rfl
    show _ = vLst ((roadsN st.1 W.ks n kk kk ps).map (vRoad K))
    rw [e]; rfl
  · refine xss_iff (XT.is (xt_eq (x := .str kk) (y := .str gg) (xv 1) (xv 2)) (decide_eq_false fun z => hk (by injection z))) ?_
    have e : roadsN st.1 W.ks n kk gg ps = W.ks.flatMap (viaR st.1 W.ks n kk gg ps) := roadsN_via ok hk
    have len : ∀ i, ((W.ks.take i).flatMap (viaR st.1 W.ks n kk gg ps)).length ≤ 3200 := fun i => by
      refine Nat.le_trans (flatMap_len (m := 625) fun o _ => viaR_len ok.ln ok.n5 kk gg ps o) ?_
      · have h1 : (W.ks.take i).length ≤ 5 := by rw [List.length_take]; have := ok.ln; omega
        exact Nat.le_trans (Nat.mul_le_mul_right _ h1) (by decide)
    refine xss_new (i := 4) (xn_lst xa_nil) S.nd fun a => ?_
    show XSs _ _ _ _ _ (fP _ (vLst ((roadsN st.1 W.ks n kk gg ps).map (vRoad K))))
    rw [e]
    refine xss_cons (Γ' := [none, none, none, none, some (vVal (.ref a)), none, none, none, none, none]) (M' := [(a, mLst ((W.ks.flatMap (viaR st.1 W.ks n kk gg ps)).map (vRoad K)))]) (xs_for (ds := W.ks) (f := fun s => vStr s) (fun _ : List Road => [some (vMap K W st), some (vStr kk), some (vStr gg), some (vLst (ps.map fun s => vStr s)), some (vVal (.ref a)), none, none, none, none, none]) (fun rs => [(a, mLst (rs.map (vRoad K)))]) (fun i rs => rs = (W.ks.take i).flatMap (viaR st.1 W.ks n kk gg ps)) rfl
      (xi_lst (xe_fld (xv 0) vwI (q := vLst (W.ks.map fun s => vStr s)) rfl T.map.cl (T.map.na "own_kinds" (by simp)))) (fun _ _ _ s => ⟨[], rfl, s⟩) (fun i o rs B ho hrs => ?_) (fun G H σ ⟨rs, hrs, s⟩ => ?_)) ?_
    · have hom : o ∈ W.ks := List.mem_of_getElem? ho
      have e2 : rs ++ viaR st.1 W.ks n kk gg ps o = (W.ks.take (i + 1)).flatMap (viaR st.1 W.ks n kk gg ps) := by
        rw [List.take_add_one, ho, Option.toList_some, List.flatMap_append, ← hrs, List.flatMap_singleton]
      have ln2 := len (i + 1)
      rw [← e2, List.length_append] at ln2
      refine ⟨_, _, xg_name 5 S.nd, ?_⟩
      refine xss_one (xs_if (u := decide (o ∉ ps) && (st.1.lookup (kk, o)).isSome) (XT.is (xw_and (u := !decide (o ∈ ps)) (w := ((pBest K st.1).lookup (kk, o)).isSome) (xt_ninS (t := false) (xv 5) (xv 3)) (fun _ => xw_and1 (xt_dinT (s := (kk, o)) (u1 hr) (xe_tup (xa_cons (xv 1) (xa_cons (xv 5) xa_nil))) (xe_fld (xv 0) vwI (q := vDicT (pBest K st.1)) rfl T.map.cl (T.map.na "own_best" (by simp))) vwT))).pt ?_) (fun h => ?_) (fun h => ?_))
      · rw [pBest_look, Option.isSome_map, decide_not]
      · rw [Bool.and_eq_true, decide_eq_true_eq, Option.isSome_iff_exists] at h
        obtain ⟨hop, f, hf⟩ := h
        cases n with
        | zero => exact absurd (ok.zero hom) hop
        | succ m =>
          have ok' := ok.next hom hop
          have ev : viaR st.1 W.ks (m + 1) kk gg ps o = (roadsN st.1 W.ks m o gg (ps ++ [o])).map (extR f) := by unfold viaR; rw [if_neg hop, hf]
          rw [ev] at e2 ln2
          refine xss_tup (xe_dgetT (s := (kk, o)) (q := vFound K f) (u1 hr) (xe_fld (xv 0) vwI (q := vDicT (pBest K st.1)) rfl T.map.cl (T.map.na "own_best" (by simp))) (xe_tup (xa_cons (xv 1) (xa_cons (xv 5) xa_nil))) vwT (by rw [pBest_look, hf]; rfl)) (xg_tup rfl (xgs_cons (xg_name 6 S.nd) (xgs_cons (xg_name 7 S.nd) xgs_nil))) ?_
          refine xss_one (xs_for (ds := roadsN st.1 W.ks m o gg (ps ++ [o])) (f := vRoad K) (fun _ : List Road => [some (vMap K W st), some (vStr kk), some (vStr gg), some (vLst (ps.map fun s => vStr s)), some (vVal (.ref a)), some (vStr o), some (vStep f.1), some (vRatio K f.2), none, none]) (fun rs => [(a, mLst (rs.map (vRoad K)))]) (fun j rs' => rs' = rs ++ ((roadsN st.1 W.ks m o gg (ps ++ [o])).take j).map (extR f)) rfl
            (xi_lst ?_) (fun _ _ _ s => ⟨rs, by simp, s.fg (by repeat (first | exact fg_nil | apply fg_keep | apply fg_drop))⟩) (fun j r rs' B' hr' hrs' => ?_) (fun G H σ ⟨rs', hrs', s⟩ => ⟨(W.ks.take (i + 1)).flatMap (viaR st.1 W.ks (m + 1) kk gg ps), rfl, (s.mm ?_).fg (by repeat (first | exact fg_nil | apply fg_keep | apply fg_drop))⟩))
          · refine XE.is (xe_meth (ps := [vStr o, vStr gg, vLst ((ps ++ [o]).map fun s => vStr s)]) (ih _ _ _ m rfl) (W, st, o, gg, ps ++ [o]) hr T.map.cl (xv 0) rfl (xa_cons (xv 5) (xa_cons (xv 2) (xa_cons (XE.is (xn_catL (xv 3) vwL (xe_lst (xa_cons (xv 5) xa_nil)) ?_).lst ?_) xa_nil))) rfl ok' (by omega)) rfl
            · rw [List.length_map, sizeLine_eq]; have := ok.pl; simp; omega
            · rw [List.map_append]; rfl
          · have hmem := List.mem_of_getElem? hr'
            obtain ⟨hb1, hb2⟩ := roadsN_b ok.b m o gg _ r hmem
            have hj : j < (roadsN st.1 W.ks m o gg (ps ++ [o])).length := (List.getElem?_eq_some_iff.mp hr').1
            refine ⟨_, _, xg_tup rfl (xgs_cons (xg_name 8 S.nd) (xgs_cons (xg_name 9 S.nd) xgs_nil)), ?_⟩
            refine xss_one (xs_append (M1 := []) (p := vRoad K (extR f r)) (xv 4) (xe_tup (xa_cons (xn_catL (ps := [vStep f.1]) (qs := r.1.map vStep) (xe_lst (xa_cons (xv 6) xa_nil)) vwL (xv 8) ?_).lst (xa_cons (xe_binS (op := .Mult) (md_Ratio_mul T) (f.2, r.2) hr (T.selfF "Ratio" (by simp)) (xv 7) (xv 9) rfl (road_ratio (ok.b _ _ hf) hb1 (by have := ok.n5; omega)) (hj := by omega)) xa_nil))) (fun _ _ _ s => ⟨rs' ++ [extR f r], ?_, (s.mm ?_).fg (by repeat (first | exact fg_nil | apply fg_keep | apply fg_drop))⟩) ?_)
            · rw [List.length_map, sizeLine_eq]; have := ok.n5; simp; omega
            · rw [hrs', List.take_add_one, hr', Option.toList_some, List.map_append, List.append_assoc]; rfl
            · show [(a, mLst (rs'.map (vRoad K) ++ [vRoad K (extR f r)]))] = [(a, mLst ((rs' ++ [extR f r]).map (vRoad K)))]
              rw [List.map_append]; rfl
            · rw [List.length_map, hrs']
              refine sz ?_
              rw [List.length_append, List.length_map, List.length_take]
              rw [List.length_map] at ln2
              omega
          · rw [List.take_length] at hrs'
            show [(a, mLst (rs'.map (vRoad K)))] = _
            rw [hrs', e2]
      · have ev : viaR st.1 W.ks n kk gg ps o = [] := by
          unfold viaR
          split
          · rfl
          · rename_i hop
            cases hf : st.1.lookup (kk, o) with
            | none => rfl
            | some f => rw [hf, decide_eq_true hop] at h; cases h
        rw [ev, List.append_nil] at e2
        exact xss_nil fun _ _ _ s => ⟨rs, e2, s.fg (by repeat (first | exact fg_nil | apply fg_keep | apply fg_drop))⟩
    · rw [List.take_length] at hrs
      subst hrs
      exact s.fg (by repeat (first | exact fg_nil | apply fg_keep | apply fg_drop))
    · exact xss_pub (i := 4) (M1 := []) (p := vLst ((W.ks.flatMap (viaR st.1 W.ks n kk gg ps)).map (vRoad K))) rfl (fun G u h e => mLst_lst h e) (xss_one (xs_ret (xv 4) fun _ _ _ t r => ⟨t, r⟩))
end
theorem md_roads {K : PySem.W.Frag} {mg : Str → Option Value} (T : Txt K mg) : ∀ (n : Nat) {P : Program} {w : World} {base : Heap}, Md P w K mg base (He.ga K "Map") "roads" (n + 12) ["self", "kind", "goal", "passed"] (roadsSp K n)
  | 0, _, _, _ => md_Map_roads T 0 fun _ _ _ m h => nomatch h
  | n + 1, _, _, _ => md_Map_roads T (n + 1) fun _ _ _ m h => by cases h; exact md_roads T n
end K53
end MJ_
section ML_
set_option maxRecDepth 100000
set_option maxHeartbeats 4000000
/-! ML: circles, reasons, papers. -/
namespace K53
open PySem PySem.Spec PyProof.Rows L2
abbrev Rea := Step ⊕ List Step
def viaC (b : Bst) (ks : List Str) (k o : Str) : List Road := match b.lookup (k, o) with
  | none => []
  | some f => (roadsN b ks 4 o k [o]).map (extR f)
def circR (b : Bst) (ks : List Str) (k : Str) : List Road := ks.flatMap (viaC b ks k)
def reasonAt (st : Bst × Bro) (ks : List Str) (k : Str) : Option Rea := match st.2.lookup k with
  | some s => some (.inl s)
  | none => match bestR none (circR st.1 ks k) with
    | some c => if ltR (1, 1) c.2 then some (.inr c.1) else none
    | none => none
abbrev Paper := List Step × Rea
def paperAt (st : Bst × Bro) (ks : List Str) (k g : Str) : Option Paper := match roadsN st.1 ks 4 k g [k] with
  | [] => none
  | r :: _ => (reasonAt st ks g).map fun x => (r.1, x)
def paperOf (st : Bst × Bro) (ks : List Str) (k : Str) : Option Paper := ks.findSome? (paperAt st ks k)
def vRea : Rea → Pv
  | .inl s => vStep s
  | .inr w => vLst (w.map vStep)
def vOptRea : Option Rea → Pv
  | none => vNon
  | some r => vRea r
def vPaper (p : Paper) : Pv := vTup [vLst (p.1.map vStep), vRea p.2]
def vOptPaper : Option Paper → Pv
  | none => vNon
  | some p => vPaper p
theorem nonP_optRea {o : Option Rea} : NonP (vOptRea o) o.isNone := by
  cases o with
  | none => exact fun G v h => by cases h; rfl
  | some r =>
    cases r with
    | inl s => exact nonP_tup
    | inr w => exact nonP_lst
structure MpOk (W : Web) (st : Bst × Bro) : Prop where
  w : WebOk W
  b : ∀ k f, st.1.lookup k = some f → RtB 1 f.2
theorem MpOk.rd {W : Web} {st : Bst × Bro} (h : MpOk W st) {o : Str} (ho : o ∈ W.ks) : RdOk 4 W st [o] := by
  refine ⟨h.w.k.ln, h.b, ?_, by decide, by simp⟩
  have h1 : (W.ks.filter fun x => decide (x ∉ [o])).length < W.ks.length := List.length_filter_lt_length_iff_exists.mpr ⟨o, ho, by simp⟩
  have := h.w.k.ln
  omega
theorem viaC_len {W : Web} {st : Bst × Bro} (h : MpOk W st) (k o : Str) : (viaC st.1 W.ks k o).length ≤ 625 := by
  unfold viaC
  cases st.1.lookup (k, o) with
  | none => exact Nat.zero_le _
  | some f =>
    show ((roadsN st.1 W.ks 4 o k [o]).map (extR f)).length ≤ 625
    rw [List.length_map]
    exact Nat.le_trans (roadsN_len h.w.k.ln _ _ _ _) (by decide)
theorem circR_b {W : Web} {st : Bst × Bro} (h : MpOk W st) {k : Str} {r : Road} (hr : r ∈ circR st.1 W.ks k) : RtB 5 r.2 ∧ r.1.length ≤ 5 := by
  obtain ⟨o, ho, hr⟩ := List.mem_flatMap.mp hr
  unfold viaC at hr
  cases e : st.1.lookup (k, o) with
  | none => rw [e] at hr; simp at hr
  | some f =>
    rw [e] at hr
    obtain ⟨r', hr', rfl⟩ := List.mem_map.mp hr
    obtain ⟨h1, h2⟩ := roadsN_b h.b 4 o k _ r' hr'
    exact ⟨(h.b _ _ e).mul h1, Nat.succ_le_succ h2⟩
theorem bestR_mem : ∀ (rs : List Road) (b : Option Road) (x : Road), bestR b rs = some x → b = some x ∨ x ∈ rs
  | [], b, x, h => .inl h
  | r :: rs, b, x, h => by
    have h : bestR (bestS b r) rs = some x := h
    rcases bestR_mem rs _ x h with h | h
    · cases b with
      | none =>
        have h : some r = some x := h
        cases h
        exact .inr List.mem_cons_self
      | some y =>
        have h : (if ltR y.2 r.2 then some r else some y) = some x := h
        split at h
        · cases h; exact .inr List.mem_cons_self
        · exact .inl h
    · exact .inr (List.mem_cons_of_mem _ h)
theorem atI_nat {α : Type} {xs : List α} {i : Nat} : atI xs (i : Int) = xs[i]? := by
  unfold atI ixN
  rw [if_pos (by omega)]
  by_cases h : i < xs.length
  · rw [if_pos (by omega)]; simp
  · rw [if_neg (by omega)]
    exact (List.getElem?_eq_none (by omega)).symm
theorem atI_zero {α : Type} (x : α) (xs : List α) : atI (x :: xs) 0 = some x := atI_nat (i := 0)
theorem findSome_take {α β : Type} {f : α → Option β} {l : List α} {i : Nat} {p : β} (h : (l.take i).findSome? f = some p) : l.findSome? f = some p := by
  have e := List.findSome?_append (xs := l.take i) (ys := l.drop i) (f := f)
  rw [List.take_append_drop] at e
  rw [e, h]; rfl
section
variable {P : Program} {w : World} {K : PySem.W.Frag} {mg : Str → Option Value} {base : Heap}
theorem md_Map_best_circle (T : Txt K mg) : Md P w K mg base (He.ga K "Map") "best_circle" 17 ["self", "kind"] (spP (δ := Web × (Bst × Bro) × Str) (fun d => [vMap K d.1 d.2.1, vStr d.2.2]) (fun d => MpOk d.1 d.2.1) (fun d => vOptRoad K (bestR none (circR d.2.1.1 d.1.ks d.2.2)))) := by
  obtain ⟨g, fd, F⟩ := T.fn i_Map_best_circle d_Map_best_circle rfl
  refine ⟨_, fd, T.map.me "best_circle" (by simp), F.bindsN fun _ _ _ _ _ _ us hl => match us, hl with | [_, _], _ => rfl, ?_⟩
  have S : FnScope ["self", "kind", "found", "other", "step", "factor", "way", "product"] ["self", "kind"] (defScope s_Map_best_circle) := ⟨rfl, rfl, rfl, by decide +kernel, rfl, by decide +kernel, by decide +kernel⟩
  refine fd_of (N := ["self", "kind", "found", "other", "step", "factor", "way", "product"]) F S (fun _ => rfl) (by decide) ?_
  intro cdv A outer s H E hr ⟨W, st, kk⟩ G ok
  have ok : MpOk W st := ok
  have len : ∀ i, ((W.ks.take i).flatMap (viaC st.1 W.ks kk)).length ≤ 3200 := fun i => by
    refine Nat.le_trans (flatMap_len (m := 625) fun o _ => viaC_len ok kk o) ?_
    have h1 : (W.ks.take i).length ≤ 5 := by rw [List.length_take]; have := ok.w.k.ln; omega
    exact Nat.le_trans (Nat.mul_le_mul_right _ h1) (by decide)
  refine xss_new (i := 2) (xn_lst xa_nil) S.nd fun a => ?_
  refine xss_cons (Γ' := [none, none, some (vVal (.ref a)), none, none, none, none, none]) (M' := [(a, mLst ((circR st.1 W.ks kk).map (vRoad K)))]) (xs_for (ds := W.ks) (f := fun s => vStr s) (fun _ : List Road => [some (vMap K W st), some (vStr kk), some (vVal (.ref a)), none, none, none, none, none]) (fun rs => [(a, mLst (rs.map (vRoad K)))]) (fun i rs => rs = (W.ks.take i).flatMap (viaC st.1 W.ks kk)) rfl
    (xi_lst (xe_fld (xv 0) vwI (q := vLst (W.ks.map fun s => vStr s)) rfl T.map.cl (T.map.na "own_kinds" (by simp)))) (fun _ _ _ s => ⟨[], rfl, s⟩) (fun i o rs B ho hrs => ?_) (fun G H σ ⟨rs, hrs, s⟩ => ?_)) ?_
  · have hom : o ∈ W.ks := List.mem_of_getElem? ho
    have e2 : rs ++ viaC st.1 W.ks kk o = (W.ks.take (i + 1)).flatMap (viaC st.1 W.ks kk) := by
      rw [List.take_add_one, ho, Option.toList_some, List.flatMap_append, ← hrs, List.flatMap_singleton]
    have ln2 := len (i + 1)
    rw [← e2, List.length_append] at ln2
    refine ⟨_, _, xg_name 3 S.nd, ?_⟩
    refine xss_one (xs_if (u := (st.1.lookup (kk, o)).isSome) (XT.is (xt_dinT (s := (kk, o)) (u1 hr) (xe_tup (xa_cons (xv 1) (xa_cons (xv 3) xa_nil))) (xe_fld (xv 0) vwI (q := vDicT (pBest K st.1)) rfl T.map.cl (T.map.na "own_best" (by simp))) vwT) (by rw [pBest_look, Option.isSome_map])) (fun h => ?_) (fun h => ?_))
    · obtain ⟨f, hf⟩ := Option.isSome_iff_exists.mp h
      have ev : viaC st.1 W.ks kk o = (roadsN st.1 W.ks 4 o kk [o]).map (extR f) := by unfold viaC; rw [hf]
      rw [ev] at e2 ln2
      refine xss_tup (xe_dgetT (s := (kk, o)) (q := vFound K f) (u1 hr) (xe_fld (xv 0) vwI (q := vDicT (pBest K st.1)) rfl T.map.cl (T.map.na "own_best" (by simp))) (xe_tup (xa_cons (xv 1) (xa_cons (xv 3) xa_nil))) vwT (by rw [pBest_look, hf]; rfl)) (xg_tup rfl (xgs_cons (xg_name 4 S.nd) (xgs_cons (xg_name 5 S.nd) xgs_nil))) ?_
      refine xss_one (xs_for (ds := roadsN st.1 W.ks 4 o kk [o]) (f := vRoad K) (fun _ : List Road => [some (vMap K W st), some (vStr kk), some (vVal (.ref a)), some (vStr o), some (vStep f.1), some (vRatio K f.2), none, none]) (fun rs => [(a, mLst (rs.map (vRoad K)))]) (fun j rs' => rs' = rs ++ ((roadsN st.1 W.ks 4 o kk [o]).take j).map (extR f)) rfl
        (xi_lst ?_) (fun _ _ _ s => ⟨rs, by simp, s.fg (by repeat (first | exact fg_nil | apply fg_keep | apply fg_drop))⟩) (fun j r rs' B' hr' hrs' => ?_) (fun G H σ ⟨rs', hrs', s⟩ => ⟨(W.ks.take (i + 1)).flatMap (viaC st.1 W.ks kk), rfl, (s.mm ?_).fg (by repeat (first | exact fg_nil | apply fg_keep | apply fg_drop))⟩))
      · exact XE.is (xe_meth (ps := [vStr o, vStr kk, vLst ([o].map fun s => vStr s)]) (md_roads T 4) (W, st, o, kk, [o]) hr T.map.cl (xv 0) rfl (xa_cons (xv 3) (xa_cons (xv 1) (xa_cons (xe_lst (xa_cons (xv 3) xa_nil)) xa_nil))) rfl (ok.rd hom)) rfl
      · have hmem := List.mem_of_getElem? hr'
        obtain ⟨hb1, hb2⟩ := roadsN_b ok.b 4 o kk _ r hmem
        have hj : j < (roadsN st.1 W.ks 4 o kk [o]).length := (List.getElem?_eq_some_iff.mp hr').1
        refine ⟨_, _, xg_tup rfl (xgs_cons (xg_name 6 S.nd) (xgs_cons (xg_name 7 S.nd) xgs_nil)), ?_⟩
        refine xss_one (xs_append (M1 := []) (p := vRoad K (extR f r)) (xv 2) (xe_tup (xa_cons (xn_catL (ps := [vStep f.1]) (qs := r.1.map vStep) (xe_lst (xa_cons (xv 4) xa_nil)) vwL (xv 6) ?_).lst (xa_cons (xe_binS (op := .Mult) (md_Ratio_mul T) (f.2, r.2) hr (T.selfF "Ratio" (by simp)) (xv 5) (xv 7) rfl (road_ratio (ok.b _ _ hf) hb1 (by decide))) xa_nil))) (fun _ _ _ s => ⟨rs' ++ [extR f r], ?_, (s.mm ?_).fg (by repeat (first | exact fg_nil | apply fg_keep | apply fg_drop))⟩) ?_)
        · rw [List.length_map, sizeLine_eq]; simp; omega
        · rw [hrs', List.take_add_one, hr', Option.toList_some, List.map_append, List.append_assoc]; rfl
        · show [(a, mLst (rs'.map (vRoad K) ++ [vRoad K (extR f r)]))] = [(a, mLst ((rs' ++ [extR f r]).map (vRoad K)))]
          rw [List.map_append]; rfl
        · rw [List.length_map, hrs', sizeLine_eq]
          rw [List.length_append, List.length_map, List.length_take]
          rw [List.length_map] at ln2
          omega
      · rw [List.take_length] at hrs'
        show [(a, mLst (rs'.map (vRoad K)))] = _
        rw [hrs', e2]
    · have ev : viaC st.1 W.ks kk o = [] := by
        unfold viaC
        cases hf : st.1.lookup (kk, o) with
        | none => rfl
        | some f => rw [hf] at h; cases h
      rw [ev, List.append_nil] at e2
      exact xss_nil fun _ _ _ s => ⟨rs, e2, s.fg (by repeat (first | exact fg_nil | apply fg_keep | apply fg_drop))⟩
  · rw [List.take_length] at hrs
    subst hrs
    exact s.fg (by repeat (first | exact fg_nil | apply fg_keep | apply fg_drop))
  · refine xss_pub (i := 2) (M1 := []) (p := vLst ((circR st.1 W.ks kk).map (vRoad K))) rfl (fun G u h e => mLst_lst h e) (xss_one (xs_ret (XE.is (xe_call (fd_best_of T) (circR st.1 W.ks kk) hr (xa_cons (xv 2) xa_nil) (fun r hr => (circR_b ok hr).1.ok (by decide))) rfl) fun _ _ _ t r => ⟨t, r⟩))
theorem md_Map_reason_at (T : Txt K mg) : Md P w K mg base (He.ga K "Map") "reason_at" 18 ["self", "kind"] (spP (δ := Web × (Bst × Bro) × Str) (fun d => [vMap K d.1 d.2.1, vStr d.2.2]) (fun d => MpOk d.1 d.2.1) (fun d => vOptRea (reasonAt d.2.1 d.1.ks d.2.2))) := by
  obtain ⟨g, fd, F⟩ := T.fn i_Map_reason_at d_Map_reason_at rfl
  refine ⟨_, fd, T.map.me "reason_at" (by simp), F.bindsN fun _ _ _ _ _ _ us hl => match us, hl with | [_, _], _ => rfl, ?_⟩
  have S : FnScope ["self", "kind", "circle"] ["self", "kind"] (defScope s_Map_reason_at) := ⟨rfl, rfl, rfl, by decide +kernel, rfl, by decide +kernel, by decide +kernel⟩
  refine fd_of (N := ["self", "kind", "circle"]) F S (fun _ => rfl) (by decide) ?_
  intro cdv A outer s H E hr ⟨W, st, kk⟩ G ok
  have ok : MpOk W st := ok
  show XSs _ _ _ _ _ (fP _ (vOptRea (reasonAt st W.ks kk)))
  cases e : st.2.lookup kk with
  | some s =>
    have e2 : reasonAt st W.ks kk = some (.inl s) := by unfold reasonAt; rw [e]
    rw [e2]
    exact xss_ift (XT.is (xt_din (u1 hr) (xv 1) (xe_fld (xv 0) vwI (q := vDic (pBro st.2)) rfl T.map.cl (T.map.na "own_broken" (by simp))) vwD) (by rw [pBro_look, e]; rfl)) (xss_one (xs_ret (xe_dget (u1 hr) (xe_fld (xv 0) vwI (q := vDic (pBro st.2)) rfl T.map.cl (T.map.na "own_broken" (by simp))) (xv 1) vwD (by rw [pBro_look, e]; rfl)) fun _ _ _ t r => ⟨t, r⟩))
  | none =>
    have e2 : reasonAt st W.ks kk = match bestR none (circR st.1 W.ks kk) with
      | some c => if ltR (1, 1) c.2 then some (.inr c.1) else none
      | none => none := by unfold reasonAt; rw [e]
    rw [e2]
    refine xss_iff (XT.is (xt_din (u1 hr) (xv 1) (xe_fld (xv 0) vwI (q := vDic (pBro st.2)) rfl T.map.cl (T.map.na "own_broken" (by simp))) vwD) (by rw [pBro_look, e]; rfl)) ?_
    refine xss_set (i := 2) (p := vOptRoad K (bestR none (circR st.1 W.ks kk))) (XE.is (xe_meth (ps := [vStr kk]) (md_Map_best_circle T) (W, st, kk) hr T.map.cl (xv 0) rfl (xa_cons (xv 1) xa_nil) rfl ok) rfl) S.nd ?_
    cases h : bestR none (circR st.1 W.ks kk) with
    | none => exact xss_one (xs_ret (xe_if (u := false) (xw_and (u := false) (w := false) (XT.is (xt_notN (xv 2) (nonP_optRoad (o := none))) rfl) (fun z => nomatch z)).pt (fun z => nomatch z) (fun _ => xe_non)) fun _ _ _ t r => ⟨t, r⟩)
    | some c =>
      have hc : RtB 5 c.2 := by
        rcases bestR_mem _ _ _ h with h | h
        · cases h
        · exact (circR_b ok h).1
      refine xss_one (xs_ret (xe_if (u := ltR (1, 1) c.2) (XT.is (xw_and (xt_notN (xv 2) (nonP_optRoad (o := some c))) (fun _ => xw_and1 (xt_val (xe_methS (md_Ratio_is_below T) ((1, 1), c.2) hr T.ratio.cl (xe_ratio1 T hr (p := 1) xe_int) (xa_cons (xe_ixT (i := 1) (ps := [vLst (c.1.map vStep), vRatio K c.2]) (xv 2) xe_int rfl) xa_nil) rfl ⟨one_b.ok (by decide), hc.ok (by decide)⟩)))).pt (by simp)) (fun hl => XE.is (xe_ixT (i := 0) (ps := [vLst (c.1.map vStep), vRatio K c.2]) (xv 2) xe_int rfl) ?_) (fun hl => XE.is xe_non ?_)) fun _ _ _ t r => ⟨t, r⟩)
      · show _ = vOptRea (if ltR (1, 1) c.2 then some (.inr c.1) else none)
        rw [hl]; rfl
      · show _ = vOptRea (if ltR (1, 1) c.2 then some (.inr c.1) else none)
        rw [hl]; rfl
theorem md_Map_paper_of (T : Txt K mg) : Md P w K mg base (He.ga K "Map") "paper_of" 19 ["self", "kind"] (spP (δ := Web × (Bst × Bro) × Str) (fun d => [vMap K d.1 d.2.1, vStr d.2.2]) (fun d => MpOk d.1 d.2.1 ∧ d.2.2 ∈ d.1.ks) (fun d => vOptPaper (paperOf d.2.1 d.1.ks d.2.2))) := by
  obtain ⟨g, fd, F⟩ := T.fn i_Map_paper_of d_Map_paper_of rfl
  refine ⟨_, fd, T.map.me "paper_of" (by simp), F.bindsN fun _ _ _ _ _ _ us hl => match us, hl with | [_, _], _ => rfl, ?_⟩
  have S : FnScope ["self", "kind", "goal", "roads", "reason"] ["self", "kind"] (defScope s_Map_paper_of) := ⟨rfl, rfl, rfl, by decide +kernel, rfl, by decide +kernel, by decide +kernel⟩
  refine fd_of (N := ["self", "kind", "goal", "roads", "reason"]) F S (fun _ => rfl) (by decide) ?_
  intro cdv A outer s H E hr ⟨W, st, kk⟩ G ok
  obtain ⟨ok, hk⟩ : MpOk W st ∧ kk ∈ W.ks := ok
  show XSs _ _ _ _ _ (fP _ (vOptPaper (paperOf st W.ks kk)))
  refine xss_consP (φ := paperOf st W.ks kk = none) (Γ' := [none, none, none, none, none]) (M' := []) (xs_for (ds := W.ks) (f := fun s => vStr s) (fun _ : Unit => [some (vMap K W st), some (vStr kk), none, none, none]) (fun _ => []) (fun i _ => (W.ks.take i).findSome? (paperAt st W.ks kk) = none) rfl
    (xi_lst (xe_fld (xv 0) vwI (q := vLst (W.ks.map fun s => vStr s)) rfl T.map.cl (T.map.na "own_kinds" (by simp)))) (fun _ _ _ s => ⟨(), rfl, s⟩) (fun i g _ B hg hi => ?_) (fun G H σ ⟨_, hi, s⟩ => ⟨s.fg (by repeat (first | exact fg_nil | apply fg_keep | apply fg_drop)), by rw [List.take_length] at hi; exact hi⟩)) (fun hn => ?_)
  · have hgm : g ∈ W.ks := List.mem_of_getElem? hg
    have hlt : i < W.ks.length := (List.getElem?_eq_some_iff.mp hg).1
    have e1 : (W.ks.take (i + 1)).findSome? (paperAt st W.ks kk) = paperAt st W.ks kk g := by
      rw [List.take_add_one, hg, Option.toList_some, List.findSome?_append, hi, Option.none_or]
      simp
    have e3 : ∀ p, paperAt st W.ks kk g = some p → paperOf st W.ks kk = some p := fun p hp => by
      exact findSome_take (e1.trans hp)
    refine ⟨_, _, xg_name 2 S.nd, ?_⟩
    refine xss_set (i := 3) (p := vLst ((roadsN st.1 W.ks 4 kk g [kk]).map (vRoad K))) (XE.is (xe_meth (ps := [vStr kk, vStr g, vLst ([kk].map fun s => vStr s)]) (md_roads T 4) (W, st, kk, g, [kk]) hr T.map.cl (xv 0) rfl (xa_cons (xv 1) (xa_cons (xv 2) (xa_cons (xe_lst (xa_cons (xv 1) xa_nil)) xa_nil))) rfl (ok.rd hk)) rfl) S.nd ?_
    cases hr' : roadsN st.1 W.ks 4 kk g [kk] with
    | nil =>
      have e2 : paperAt st W.ks kk g = none := by unfold paperAt; rw [hr']
      refine xss_set (i := 4) (xe_if (u := true) (XT.is (xt_eqNil hr (xv 3) vwL) rfl) (fun _ => xe_non) (fun z => nomatch z)) S.nd ?_
      exact xss_one (xs_if (u := false) (XT.is (xt_notN (xv 4) nonP_val) rfl) (fun z => nomatch z) (fun _ => xss_nil fun _ _ _ s => ⟨(), by rw [e1]; exact e2, s.fg (by repeat (first | exact fg_nil | apply fg_keep | apply fg_drop))⟩))
    | cons r rs =>
      have e2 : paperAt st W.ks kk g = (reasonAt st W.ks g).map fun x => (r.1, x) := by unfold paperAt; rw [hr']
      refine xss_set (i := 4) (p := vOptRea (reasonAt st W.ks g)) (xe_if (u := false) (XT.is (xt_eqNil hr (xv 3) vwL) rfl) (fun z => nomatch z) (fun _ => XE.is (xe_meth (ps := [vStr g]) (md_Map_reason_at T) (W, st, g) hr T.map.cl (xv 0) rfl (xa_cons (xv 2) xa_nil) rfl ok) rfl)) S.nd ?_
      cases hq : reasonAt st W.ks g with
      | none =>
        exact xss_one (xs_if (u := false) (XT.is (xt_notN (xv 4) (nonP_optRea (o := none))) rfl) (fun z => nomatch z) (fun _ => xss_nil fun _ _ _ s => ⟨(), by rw [e1, e2, hq]; rfl, s.fg (by repeat (first | exact fg_nil | apply fg_keep | apply fg_drop))⟩))
      | some x =>
        have e4 := e3 (r.1, x) (by rw [e2, hq]; rfl)
        refine xss_one (xs_if (u := true) (XT.is (xt_notN (xv 4) (nonP_optRea (o := some x))) rfl) (fun _ => xss_one (xs_ret (XE.is (xe_tup (xa_cons (xe_ixT (i := 0) (ps := [vLst (r.1.map vStep), vRatio K r.2]) (xe_ixL (i := 0) (ps := (r :: rs).map (vRoad K)) (xv 3) xe_int vwL (atI_zero _ _)) xe_int rfl) (xa_cons (xv 4) xa_nil))) ?_) (fun _ _ _ t r => ⟨t, r⟩))) (fun z => nomatch z))
        rw [e4]; rfl
  · exact xss_one (xs_ret (XE.is xe_non (by rw [hn]; rfl)) fun _ _ _ t r => ⟨t, r⟩)
end
end K53
end ML_
section MM_
set_option maxRecDepth 100000
set_option maxHeartbeats 4000000
/-! MM: the check of a paper. -/
namespace K53
open PySem PySem.Spec PyProof.Rows L2
def ReaOk (ts : Ties) (g : Str) : Rea → Prop
  | .inl s => ∃ t, ts.lookup s.1 = some t ∧ isBrk t s.2 = true ∧ t.kd s.2 = g
  | .inr w => goW ts g w = some g ∧ w ≠ [] ∧ w.length ≤ 10 ∧ ltR (1, 1) (prodW ts (1, 1) w) = true
structure PaperOk (W : Web) (k : Str) (p : Paper) : Prop where
  ex : ∃ g, goW W.ts k p.1 = some g ∧ g ∈ W.ks ∧ ReaOk W.ts g p.2
theorem goW_known {ts : Ties} : ∀ (w : List Step) (k g : Str), goW ts k w = some g → ∀ s ∈ w, ∃ t, ts.lookup s.1 = some t
  | [], _, _, _, s, hs => by simp at hs
  | s :: w, k, g, h, s', hs => by
    obtain ⟨t, h1, _, _, _, h5⟩ := goW_cons h
    rcases List.mem_cons.mp hs with rfl | hs
    · exact ⟨t, h1⟩
    · exact goW_known w _ _ h5 s' hs
section
variable {P : Program} {w : World} {K : PySem.W.Frag} {mg : Str → Option Value} {base : Heap}
theorem fd_is_empty_paper (T : Txt K mg) : Fd P w K mg base "is_empty_paper" 9 ["model", "kind", "value"] [] (spP (δ := Web × Str × Paper) (fun d => [vWeb K d.1, vStr d.2.1, vPaper d.2.2]) (fun d => WebOk d.1 ∧ d.2.1 ∈ d.1.ks ∧ PaperOk d.1 d.2.1 d.2.2) (fun d => vBl true)) := by
  obtain ⟨g, fd, F⟩ := T.fn i_is_empty_paper d_is_empty_paper rfl
  refine ⟨_, fd, [], g rfl, F.kp, .nil, F.bindsN fun _ _ _ _ _ _ us hl => match us, hl with | [_, _, _], _ => rfl, ?_⟩
  have S : FnScope ["model", "kind", "value", "goal", "reason"] ["model", "kind", "value"] (defScope s_is_empty_paper) := ⟨rfl, rfl, rfl, by decide +kernel, rfl, by decide +kernel, by decide +kernel⟩
  refine fd_of (N := ["model", "kind", "value", "goal", "reason"]) F S (fun _ => rfl) (by decide) ?_
  intro cdv A outer s H E hr ⟨W, k, ⟨way, rea⟩⟩ G ok
  obtain ⟨oW, hk, g', hg1, hg2, hr'⟩ : WebOk W ∧ k ∈ W.ks ∧ PaperOk W k (way, rea) := ok
  refine xss_expr (xe_call (fd_want_model T) W hr (xa_cons (xv 0) xa_nil) trivial) ?_
  refine xss_expr (xe_call (fd_want_kind T) (W, k) hr (xa_cons (xv 0) (xa_cons (xv 1) xa_nil)) ⟨oW.k.nm _ hk, hk⟩) ?_
  refine xss_iff (XT.is (xw_or (xt_not (xt_val (xe_isi (b := true) (T.free "isinstance" rfl) (xv 2) (xe_bt (T.free "tuple" rfl) (by decide +kernel) (x := .ty "tuple") rfl) (.ty _) (isi_tup (kit_ty (by decide +kernel)))))) (fun _ => xw_or1 (xt_ne (x := .int _) (y := .int 2) (xe_lenT (T.free "len" rfl) (xv 2)) xe_int))).pt rfl) ?_
  refine xss_set (i := 3) (xe_call (fd_way_goal T) (W, k, way, g') hr (xa_cons (xv 0) (xa_cons (xv 1) (xa_cons (xe_ixT (i := 0) (xv 2) xe_int rfl) xa_nil))) ⟨oW, hg1⟩) S.nd ?_
  refine xss_iff (XT.is (xt_isN (xv 3) nonP_val) rfl) ?_
  refine xss_set (i := 4) (xe_ixT (i := 1) (xv 2) xe_int rfl) S.nd ?_
  cases rea with
  | inl s =>
    obtain ⟨t, h1, h2, h3⟩ := hr'
    have on : NameOk s.1 := oW.t.nm _ (look_mem h1)
    have hs : isStep t s.2 = true := by unfold isBrk at h2; rw [Bool.and_eq_true] at h2; exact h2.1
    refine xss_ift (XT.is (xt_val (xe_call (fd_is_known_step T) (W, s, t) hr (xa_cons (xv 0) (xa_cons (xv 4) xa_nil)) ⟨on, h1, oW⟩)) hs) (xss_one (xs_ret (XE.is (xe_and (xe_call (fd_is_broken_end T) (W, s.1, s.2, t) hr (xa_cons (xv 0) (xa_cons (xe_ixT (i := 0) (ps := [vStr s.1, vStr (endS s.2)]) (xv 4) xe_int rfl) (xa_cons (xe_ixT (i := 1) (ps := [vStr s.1, vStr (endS s.2)]) (xv 4) xe_int rfl) xa_nil))) ⟨on, h1⟩)
      (fun _ => xe_one (xe_eq (x := .str (t.kd s.2)) (y := .str g') (x_kindAt T hr ⟨on, h1⟩ (xv 0) (xa_cons (xe_ixT (i := 0) (ps := [vStr s.1, vStr (endS s.2)]) (xv 4) xe_int rfl) (xa_cons (xe_ixT (i := 1) (ps := [vStr s.1, vStr (endS s.2)]) (xv 4) xe_int rfl) xa_nil))) (xv 3)))) ?_) fun _ _ _ t r => ⟨t, r⟩))
    show vBl (isBrk t s.2 && decide (V.str (t.kd s.2) = V.str g')) = vBl true
    rw [h2, h3]; simp
  | inr wy =>
    obtain ⟨h1, h2, h3, h4⟩ := hr'
    have kn := goW_known wy g' g' h1
    refine xss_iff (xt_val (xe_call (fd_is_known_stepL T) (W, wy.map vStep) hr (xa_cons (xv 0) (xa_cons (xv 4) xa_nil)) trivial)) ?_
    refine xss_one (xs_ret (XE.is (xe_and (xe_call (fd_is_ring T) (W, g', wy) hr (xa_cons (xv 0) (xa_cons (xv 3) (xa_cons (xv 4) xa_nil))) ⟨oW, hg2, h1, h2⟩) (fun _ => xe_one (xe_methS (md_Ratio_is_below T) ((1, 1), prodW W.ts (1, 1) wy) hr T.ratio.cl (xe_ratio1 T hr (p := 1) xe_int) (xa_cons (xe_call (fd_way_product T) (W, wy) hr (xa_cons (xv 0) (xa_cons (xv 4) xa_nil)) ⟨oW, kn, h3⟩) xa_nil) rfl ⟨one_b.ok (by decide), (prodW_b oW.t wy one_b).ok (by omega)⟩))) ?_) fun _ _ _ t r => ⟨t, r⟩)
    show vBl (true && ltR (1, 1) (prodW W.ts (1, 1) wy)) = vBl true
    rw [h4]; rfl
end
end K53
end MM_
section MN_
set_option maxRecDepth 100000
set_option maxHeartbeats 4000000
/-! MN: sizes. -/
namespace K53
open PySem PySem.Spec PyProof.Rows L2
abbrev Cnt := List (Str × Nat)
def pCnt (c : Cnt) : List (Str × Pv) := c.map fun x => (x.1, vInt (x.2 : Int))
def sortC (c : Cnt) : Cnt := (sortS (c.map (·.1))).map fun s => (s, (c.lookup s).getD 0)
def fsSizes (c : Cnt) : List (Str × Pv) := [("own_counts", vDic (pCnt c))]
def vSizes (K : PySem.W.Frag) (c : Cnt) : Pv := vIns (He.ga K "Sizes") (fsSizes c)
structure CntOk (c : Cnt) : Prop where
  ne : c ≠ []
  nm : ∀ x ∈ c, NameOk x.1
  nd : (c.map (·.1)).Nodup
  ln : c.length ≤ 5
theorem pCnt_keys {c : Cnt} : (pCnt c).map (·.1) = c.map (·.1) := by unfold pCnt; rw [List.map_map]; rfl
theorem pCnt_look {c : Cnt} {s : Str} : (pCnt c).lookup s = (c.lookup s).map (fun n : Nat => vInt (n : Int)) := lookup_map (f := fun n : Nat => vInt (n : Int))
theorem pCnt_len {c : Cnt} : (pCnt c).length = c.length := by unfold pCnt; rw [List.length_map]
theorem pCnt_64 {c : Cnt} (h : CntOk c) : (pCnt c).length < 64 := by rw [pCnt_len]; have := h.ln; omega
theorem pCnt_small {c : Cnt} (h : CntOk c) : (pCnt c).length < sizeLine := by rw [pCnt_len, sizeLine_eq]; have := h.ln; omega
theorem sortC_keys (c : Cnt) : (sortC c).map (·.1) = sortS (c.map (·.1)) := by unfold sortC; rw [List.map_map]; exact List.map_id _
theorem sortC_len (c : Cnt) : (sortC c).length = c.length := by unfold sortC; rw [List.length_map, sortS_length, List.length_map]
theorem sortC_mem {c : Cnt} (nd : (c.map (·.1)).Nodup) {x : Str × Nat} : x ∈ sortC c ↔ x ∈ c := by
  unfold sortC
  rw [List.mem_map]
  constructor
  · rintro ⟨s, hs, rfl⟩
    obtain ⟨y, hy, rfl⟩ := List.mem_map.mp (mem_sortS.mp hs)
    rw [look_of nd hy]; exact hy
  · intro h
    refine ⟨x.1, mem_sortS.mpr (List.mem_map_of_mem h), ?_⟩
    rw [look_of nd h]; rfl
theorem sortC_ok {c : Cnt} (h : CntOk c) : CntOk (sortC c) := by
  refine ⟨fun z => ?_, fun x hx => h.nm x ((sortC_mem h.nd).mp hx), ?_, by rw [sortC_len]; exact h.ln⟩
  · have := sortC_len c
    rw [z] at this
    exact h.ne (List.length_eq_zero_iff.mp this.symm)
  · rw [sortC_keys]; exact sortS_nodup h.nd
theorem sortC_look {c : Cnt} (nd : (c.map (·.1)).Nodup) {s : Str} : (sortC c).lookup s = c.lookup s := by
  have nd2 : ((sortC c).map (·.1)).Nodup := by rw [sortC_keys]; exact sortS_nodup nd
  cases h : c.lookup s with
  | some t => exact look_of nd2 ((sortC_mem nd).mpr (look_mem h))
  | none =>
    cases h2 : (sortC c).lookup s with
    | none => rfl
    | some t =>
      have := look_of nd ((sortC_mem nd).mp (look_mem h2))
      rw [this] at h; cases h
theorem pCnt_sortC {c : Cnt} : pCnt (sortC c) = (sortS (c.map (·.1))).map fun s => (s, vInt (((c.lookup s).getD 0 : Nat) : Int)) := by unfold pCnt sortC; rw [List.map_map]; rfl
def vSizesAt (K : PySem.W.Frag) (d : Addr) (c : Cnt) : Pv := vIns (He.ga K "Sizes") [("own_counts", vDicAt d (pCnt c))]
theorem vSizes_open {K : PySem.W.Frag} {c : Cnt} (G : Hp) (v : V) (h : (vSizes K c).r G v) : ∃ d, (vSizesAt K d c).r G v := by
  obtain ⟨a, dx, fv, e, h1, al⟩ := h
  cases al with
  | cons r1 t =>
    obtain ⟨d, hd⟩ := r1
    exact ⟨d, a, dx, _, e, h1, .cons hd t⟩
theorem hvSz {K : PySem.W.Frag} {c : Cnt} {i d : Nat} {Γ : En} {M : Mu} (hi : Γ[i]? = some (some (vSizesAt K d c))) : ∀ G H σ, St0 G H σ Γ M → ∃ kv, Rd G d (.dK kv) ∧ AlD G kv (pCnt c) := fun G H σ s => by
  obtain ⟨v, h1, a, dx, fv, e, h2, al⟩ := s.a.2 i _ hi
  cases al with
  | cons r1 t =>
    obtain ⟨_, kv, h3, h4⟩ := r1
    exact ⟨kv, h3, h4⟩
section
variable {P : Program} {w : World} {K : PySem.W.Frag} {mg : Str → Option Value} {base : Heap}
theorem isi_sizes (T : Txt K mg) {c : Cnt} : IsiP K (vSizes K c) (.ref (He.ga K "Sizes")) true := isi_ins T.sizes.cl T.sizes.ci (T.kit ("Sizes", "Sizes", true) (by simp))
theorem fd_are_counts (T : Txt K mg) : Fd P w K mg base "are_counts" 3 ["value"] [] (spP (δ := Cnt) (fun c => [vDic (pCnt c)]) (CntOk) (fun _ => vBl true)) := by
  obtain ⟨g, fd, F⟩ := T.fn i_are_counts d_are_counts rfl
  refine ⟨_, fd, [], g rfl, F.kp, .nil, F.bindsN fun _ _ _ _ _ _ us hl => match us, hl with | [_], _ => rfl, ?_⟩
  have S : FnScope ["value", "kind"] ["value"] (defScope s_are_counts) := ⟨rfl, rfl, rfl, by decide +kernel, rfl, by decide +kernel, by decide +kernel⟩
  refine fd_of (N := ["value", "kind"]) F S (fun _ => rfl) (by decide) ?_
  intro cdv A outer s H E hr c G ok
  have ok : CntOk c := ok
  refine xss_open (i := 0) (g := fun d => vDicAt d (pCnt c)) rfl vDic_open fun d => ?_
  refine xss_iff (XT.is (xw_or (xt_not (xt_val (xe_isi (b := true) (T.free "isinstance" rfl) (xv 0) (xe_bt (T.free "dict" rfl) (by decide +kernel) (x := .ty "dict") rfl) (.ty _) (isi_dicAt (kit_ty (by decide +kernel)))))) (fun _ => xw_or1 (xt_eq (x := .int _) (y := .int 0) (xe_lenD (T.free "len" rfl) (xv 0) vwD_at) xe_int))).pt ?_) ?_
  · have h0 := List.length_pos_iff.mpr ok.ne
    have e : decide (V.int ((pCnt c).length : Int) = V.int 0) = false := by
      rw [pCnt_len]
      exact decide_eq_false fun z => by injection z with z; omega
    rw [e]; rfl
  · refine xss_one (xs_ret (XE.is (xe_all (bs := (pCnt c).map fun _ => true) rfl (T.free "all" rfl) (XE.is (xe_lcD0 (d := d) (kp := pCnt c) (own := [("kind", 1)]) (g := fun _ => vBl true) (fun x => [some (vDicAt d (pCnt c)), some (vStr x.1)]) rfl S.nd (hvD (i := 0) rfl) ((xv 0).weak vDicAt_ref) (blkOk_by (N := ["value", "kind"]) (sc := defScope s_are_counts) (by decide +kernel)) (fun _ _ _ _ _ _ _ => xg_name 1 S.nd) (fun _ _ _ _ _ x hx => ?_) (pCnt_small ok)) ?_)) ?_) fun _ _ _ t r => ⟨t, r⟩)
    · obtain ⟨y, hy, rfl⟩ := List.mem_map.mp hx
      refine XE.is (xe_and (u := true) (w := true) (xe_call (fd_is_name T) y.1 hr (xa_cons (xv 1) xa_nil) (ok.nm y hy)) (fun _ => xe_one (xe_call (fd_is_count T) (vInt (y.2 : Int), true) hr (xa_cons (xe_dget (u1 hr) (xv 0) (xv 1) vwD_at (by rw [pCnt_look, look_of ok.nd hy]; rfl)) xa_nil) (.inl ⟨y.2, rfl, by simp⟩)))) rfl
    · rw [List.map_map]; rfl
    · rw [show ((pCnt c).map fun _ => true).all id = true from List.all_eq_true.mpr fun b hb => by obtain ⟨_, _, rfl⟩ := List.mem_map.mp hb; rfl]
theorem fi_Sizes (T : Txt K mg) : ∃ fd, FunD K "__init__" "Sizes.__init__" (defArgs s_Sizes_init) (defBody s_Sizes_init) (defScope s_Sizes_init) [] [] (He.ma K (He.ga K "Sizes") "__init__") fd ∧ FnOk P w K mg base CX0 4 (He.ma K (He.ga K "Sizes") "__init__") fd ["self", "counts"] (spI (He.ga K "Sizes") (δ := Cnt) (fun c => [vDic (pCnt c)]) (CntOk) (fun c => fsSizes (sortC c))) := by
  obtain ⟨g, fd, F⟩ := T.fn i_Sizes_init d_Sizes_init rfl
  refine ⟨fd, F, ?_⟩
  have S : FnScope ["self", "counts", "kind"] ["self", "counts"] (defScope s_Sizes_init) := ⟨rfl, rfl, rfl, by decide +kernel, rfl, by decide +kernel, by decide +kernel⟩
  refine fdi_of (N := ["self", "counts", "kind"]) F S (fun _ => rfl) (by decide) ?_
  intro cdv A outer s H E hr c G x ok
  have ok : CntOk c := ok
  refine xss_iff (xt_nott (xt_val (xe_call (fd_are_counts T) c hr (xa_cons (xv 1) xa_nil) ok))) ?_
  refine xss_one (xs_fld (M1 := []) (XE.is (XN.dic (xn_dc0 (ds := sortS (c.map (·.1))) (f := fun s => vStr s) (k := fun s => s) (g := fun s => vInt (((c.lookup s).getD 0 : Nat) : Int)) (own := [("kind", 2)]) (fun s => [some (vVal (.ref x)), some (vDic (pCnt c)), some (vStr s)]) rfl S.nd
    (xi_lst (XE.is (xn_sortD rfl (T.free "sorted" rfl) (xv 1) vwD (pCnt_64 ok)).lst (by rw [pCnt_keys]))) (blkOk_by (N := ["self", "counts", "kind"]) (sc := defScope s_Sizes_init) (by decide +kernel)) (fun _ _ _ _ _ _ _ => xg_name 2 S.nd) (fun _ _ _ _ _ _ _ => xv 2) (fun _ _ _ _ _ s hs => ?_) ?_ ?_)) (by rw [← pCnt_sortC])) (xv 0) (fun _ _ _ s => ⟨_, [], s⟩) T.sizes.cl (T.sizes.na "own_counts" (by simp)))
  · obtain ⟨y, hy, rfl⟩ := List.mem_map.mp (mem_sortS.mp hs)
    refine xe_dget (u1 hr) (xv 1) (xv 2) vwD ?_
    rw [pCnt_look, look_of ok.nd hy]; rfl
  · rw [List.map_id']; exact sortS_nodup ok.nd
  · rw [sortS_length, List.length_map, sizeLine_eq]; have := ok.ln; omega
theorem id_Sizes (T : Txt K mg) : Id P w K mg base (He.ga K "Sizes") 4 ["self", "counts"] [] (spI (He.ga K "Sizes") (δ := Cnt) (fun c => [vDic (pCnt c)]) (CntOk) (fun c => fsSizes (sortC c))) := by
  obtain ⟨fd, F, ok⟩ := fi_Sizes (P := P) (w := w) (base := base) T
  obtain ⟨ds, hds, hb⟩ : ∃ ds, Vals [] ds ∧ Binds K fd ["self", "counts"] ds := ⟨[], .nil, F.bindsN fun _ _ _ _ _ _ us hl => match us, hl with | [_, _], _ => rfl⟩
  exact ⟨⟨_, fd, ds, T.sizes.mak, hds, hb, ok⟩⟩
theorem md_Sizes_kinds (T : Txt K mg) : Md P w K mg base (He.ga K "Sizes") "kinds" 1 ["self"] (spP (δ := Cnt) (fun c => [vSizes K c]) (fun _ => True) (fun c => vLst ((c.map (·.1)).map fun s => vStr s))) := by
  obtain ⟨g, fd, F⟩ := T.fn i_Sizes_kinds d_Sizes_kinds rfl
  refine ⟨_, fd, T.sizes.me "kinds" (by simp), F.bindsN fun _ _ _ _ _ _ us hl => match us, hl with | [_], _ => rfl, ?_⟩
  have S : FnScope ["self"] ["self"] (defScope s_Sizes_kinds) := ⟨rfl, rfl, rfl, by decide +kernel, rfl, by decide +kernel, by decide +kernel⟩
  refine fd_of (N := ["self"]) F S (fun _ => rfl) (by decide) ?_
  intro cdv A outer s H E hr c G ok
  refine xss_one (xs_ret (XE.is (xn_listD rfl (T.free "list" rfl) (xe_fld (xv 0) vwI (q := vDic (pCnt c)) rfl T.sizes.cl (T.sizes.na "own_counts" (by simp))) vwD).lst ?_) fun _ _ _ t r => ⟨t, r⟩)
  show _ = vLst ((c.map (·.1)).map fun s => vStr s)
  rw [← pCnt_keys, List.map_map]; rfl
theorem md_Sizes_counts (T : Txt K mg) : Md P w K mg base (He.ga K "Sizes") "counts" 1 ["self"] (spP (δ := Cnt) (fun c => [vSizes K c]) (fun _ => True) (fun c => vDic (pCnt c))) := by
  obtain ⟨g, fd, F⟩ := T.fn i_Sizes_counts d_Sizes_counts rfl
  refine ⟨_, fd, T.sizes.me "counts" (by simp), F.bindsN fun _ _ _ _ _ _ us hl => match us, hl with | [_], _ => rfl, ?_⟩
  have S : FnScope ["self"] ["self"] (defScope s_Sizes_counts) := ⟨rfl, rfl, rfl, by decide +kernel, rfl, by decide +kernel, by decide +kernel⟩
  refine fd_of (N := ["self"]) F S (fun _ => rfl) (by decide) ?_
  intro cdv A outer s H E hr c G ok
  exact xss_one (xs_ret (xn_dictD (T.free "dict" rfl) (xe_fld (xv 0) vwI (q := vDic (pCnt c)) rfl T.sizes.cl (T.sizes.na "own_counts" (by simp))) vwD).dic fun _ _ _ t r => ⟨t, r⟩)
theorem fd_counts_like (T : Txt K mg) : Fd P w K mg base "counts_like" 2 ["sizes", "value"] [] (spP (δ := Cnt × Cnt) (fun d => [vSizes K d.1, vSizes K d.2]) (fun d => d.1.map (·.1) = d.2.map (·.1)) (fun d => vDic (pCnt d.2))) := by
  obtain ⟨g, fd, F⟩ := T.fn i_counts_like d_counts_like rfl
  refine ⟨_, fd, [], g rfl, F.kp, .nil, F.bindsN fun _ _ _ _ _ _ us hl => match us, hl with | [_, _], _ => rfl, ?_⟩
  have S : FnScope ["sizes", "value"] ["sizes", "value"] (defScope s_counts_like) := ⟨rfl, rfl, rfl, by decide +kernel, rfl, by decide +kernel, by decide +kernel⟩
  refine fd_of (N := ["sizes", "value"]) F S (fun _ => rfl) (by decide) ?_
  intro cdv A outer s H E hr ⟨c, d⟩ G ok
  have ok : c.map (·.1) = d.map (·.1) := ok
  refine xss_iff (XT.is (xw_or (w := false) (xt_not (xt_val (xe_isi (T.free "isinstance" rfl) (xv 1) (xe_gl (x := .ref (He.ga K "Sizes")) T.sizes.g rfl) (.own _) (isi_sizes T)))) (fun _ => xw_or1 (xt_neS (ss := d.map (·.1)) hr (xe_meth0 (md_Sizes_kinds T) d hr T.sizes.cl (xv 1) rfl rfl trivial) (XE.is (xe_meth0 (md_Sizes_kinds T) c hr T.sizes.cl (xv 0) rfl rfl trivial) (by rw [ok]))))).pt rfl) ?_
  exact xss_one (xs_ret (xe_meth0 (md_Sizes_counts T) d hr T.sizes.cl (xv 1) rfl rfl trivial) fun _ _ _ t r => ⟨t, r⟩)
def leC (c d : Cnt) : Bool := c.all fun x => decide (x.2 ≤ (d.lookup x.1).getD 0)
theorem md_Sizes_is_within (T : Txt K mg) : Md P w K mg base (He.ga K "Sizes") "is_within" 3 ["self", "other"] (spP (δ := Cnt × Cnt) (fun d => [vSizes K d.1, vSizes K d.2]) (fun d => d.1.map (·.1) = d.2.map (·.1) ∧ CntOk d.1 ∧ CntOk d.2) (fun d => vBl (leC d.1 d.2))) := by
  obtain ⟨g, fd, F⟩ := T.fn i_Sizes_is_within d_Sizes_is_within rfl
  refine ⟨_, fd, T.sizes.me "is_within" (by simp), F.bindsN fun _ _ _ _ _ _ us hl => match us, hl with | [_, _], _ => rfl, ?_⟩
  have S : FnScope ["self", "other", "others", "kind", "count"] ["self", "other"] (defScope s_Sizes_is_within) := ⟨rfl, rfl, rfl, by decide +kernel, rfl, by decide +kernel, by decide +kernel⟩
  refine fd_of (N := ["self", "other", "others", "kind", "count"]) F S (fun _ => rfl) (by decide) ?_
  intro cdv A outer s H E hr ⟨c, d⟩ G ok
  obtain ⟨ok, okc, okd⟩ : c.map (·.1) = d.map (·.1) ∧ CntOk c ∧ CntOk d := ok
  refine xss_set (i := 2) (xe_call (fd_counts_like T) (c, d) hr (xa_cons (xv 0) (xa_cons (xv 1) xa_nil)) ok) S.nd ?_
  refine xss_open (i := 0) (g := fun a => vSizesAt K a c) rfl vSizes_open fun a => ?_
  refine xss_one (xs_ret (XE.is (xe_all (bs := c.map fun x => decide (x.2 ≤ (d.lookup x.1).getD 0)) rfl (T.free "all" rfl) (XE.is (xe_lcI0 (d := a) (kp := pCnt c) (own := [("kind", 3), ("count", 4)]) (g := fun x => vBl (decide ((((c.lookup x.1).getD 0 : Nat) : Int) ≤ (((d.lookup x.1).getD 0 : Nat) : Int)))) (fun x => [some (vSizesAt K a c), some (vSizes K d), some (vDic (pCnt d)), some (vStr x.1), some x.2]) rfl S.nd (hvSz (i := 0) rfl) ((xe_fld (xv 0) vwI (q := vDicAt a (pCnt c)) rfl T.sizes.cl (T.sizes.na "own_counts" (by simp))).weak vDicAt_ref) (blkOk_by (N := ["self", "other", "others", "kind", "count"]) (sc := defScope s_Sizes_is_within) (by decide +kernel)) (fun _ _ _ _ _ _ _ => xg_tup rfl (xgs_cons (xg_name 3 S.nd) (xgs_cons (xg_name 4 S.nd) xgs_nil))) (fun _ _ _ _ _ x hx => ?_) (pCnt_small okc)) ?_)) ?_) fun _ _ _ t r => ⟨t, r⟩)
  · obtain ⟨y, hy, rfl⟩ := List.mem_map.mp hx
    have h1 : y.1 ∈ d.map (·.1) := by rw [← ok]; exact List.mem_map_of_mem hy
    obtain ⟨z, hz, ez⟩ := List.mem_map.mp h1
    have h2 : d.lookup y.1 = some z.2 := by rw [← ez]; exact look_of okd.nd hz
    have h3 : c.lookup y.1 = some y.2 := look_of okc.nd hy
    show XE _ _ _ _ (vBl (decide ((((c.lookup y.1).getD 0 : Nat) : Int) ≤ (((d.lookup y.1).getD 0 : Nat) : Int))))
    rw [h3]
    exact xe_le (xv 4) (xe_dget (u1 hr) (xv 2) (xv 3) vwD (by rw [pCnt_look, h2]; rfl))
  · unfold pCnt
    rw [List.map_map, List.map_map]
    refine congrArg vLst (List.map_congr_left fun x hx => ?_)
    show vBl (decide ((((c.lookup x.1).getD 0 : Nat) : Int) ≤ _)) = vBl (decide (x.2 ≤ _))
    rw [look_of okc.nd hx]
    exact congrArg vBl (decide_eq_decide.mpr Int.ofNat_le)
  · show vBl (List.all _ id) = vBl (leC c d)
    unfold leC
    rw [List.all_map]; rfl
def addC (c d : Cnt) : Cnt := c.map fun x => (x.1, x.2 + (d.lookup x.1).getD 0)
theorem addC_keys {c d : Cnt} : (addC c d).map (·.1) = c.map (·.1) := by unfold addC; rw [List.map_map]; rfl
theorem addC_ok {c d : Cnt} (h : CntOk c) : CntOk (addC c d) := by
  refine ⟨fun z => h.ne ?_, fun x hx => ?_, by rw [addC_keys]; exact h.nd, by unfold addC; rw [List.length_map]; exact h.ln⟩
  · unfold addC at z; simpa using z
  · obtain ⟨y, hy, rfl⟩ := List.mem_map.mp hx
    exact h.nm y hy
theorem md_Sizes_add (T : Txt K mg) : Md P w K mg base (He.ga K "Sizes") "__add__" 6 ["self", "other"] (spP (δ := Cnt × Cnt) (fun d => [vSizes K d.1, vSizes K d.2]) (fun d => d.1.map (·.1) = d.2.map (·.1) ∧ CntOk d.1 ∧ CntOk d.2) (fun d => vSizes K (sortC (addC d.1 d.2)))) := by
  obtain ⟨g, fd, F⟩ := T.fn i_Sizes_add d_Sizes_add rfl
  refine ⟨_, fd, T.sizes.me "__add__" (by simp), F.bindsN fun _ _ _ _ _ _ us hl => match us, hl with | [_, _], _ => rfl, ?_⟩
  have S : FnScope ["self", "other", "others", "kind", "count"] ["self", "other"] (defScope s_Sizes_add) := ⟨rfl, rfl, rfl, by decide +kernel, rfl, by decide +kernel, by decide +kernel⟩
  refine fd_of (N := ["self", "other", "others", "kind", "count"]) F S (fun _ => rfl) (by decide) ?_
  intro cdv A outer s H E hr ⟨c, d⟩ G ok
  obtain ⟨ok, okc, okd⟩ : c.map (·.1) = d.map (·.1) ∧ CntOk c ∧ CntOk d := ok
  refine xss_set (i := 2) (xe_call (fd_counts_like T) (c, d) hr (xa_cons (xv 0) (xa_cons (xv 1) xa_nil)) ok) S.nd ?_
  refine xss_open (i := 0) (g := fun a => vSizesAt K a c) rfl vSizes_open fun a => ?_
  refine xss_one (xs_ret (xe_make (id_Sizes T) (addC c d) hr T.sizes.g (xa_cons (XE.is (xn_dcI0 (d := a) (kp := pCnt c) (own := [("kind", 3), ("count", 4)]) (k := fun x => x.1) (g := fun x => vInt ((((c.lookup x.1).getD 0 + (d.lookup x.1).getD 0) : Nat) : Int)) (fun x => [some (vSizesAt K a c), some (vSizes K d), some (vDic (pCnt d)), some (vStr x.1), some x.2]) rfl S.nd (hvSz (i := 0) rfl) ((xe_fld (xv 0) vwI (q := vDicAt a (pCnt c)) rfl T.sizes.cl (T.sizes.na "own_counts" (by simp))).weak vDicAt_ref) (blkOk_by (N := ["self", "other", "others", "kind", "count"]) (sc := defScope s_Sizes_add) (by decide +kernel)) (fun _ _ _ _ _ _ _ => xg_tup rfl (xgs_cons (xg_name 3 S.nd) (xgs_cons (xg_name 4 S.nd) xgs_nil))) (fun _ _ _ _ _ _ _ => xv 3) (fun _ _ _ _ _ x hx => ?_) ?_ (pCnt_small okc)).dic ?_) xa_nil) (addC_ok okc)) fun _ _ _ t r => ⟨t, r⟩)
  · obtain ⟨y, hy, rfl⟩ := List.mem_map.mp hx
    have h1 : y.1 ∈ d.map (·.1) := by rw [← ok]; exact List.mem_map_of_mem hy
    obtain ⟨z, hz, ez⟩ := List.mem_map.mp h1
    have h2 : d.lookup y.1 = some z.2 := by rw [← ez]; exact look_of okd.nd hz
    have h3 : c.lookup y.1 = some y.2 := look_of okc.nd hy
    refine XE.is (xe_add (i := (y.2 : Int)) (j := (z.2 : Int)) (xv 4) (xe_dget (u1 hr) (xv 2) (xv 3) vwD (by rw [pCnt_look, h2]; rfl))) ?_
    show _ = vInt ((((c.lookup y.1).getD 0 + (d.lookup y.1).getD 0) : Nat) : Int)
    rw [h2, h3]; rfl
  · rw [pCnt_keys]; exact okc.nd
  · unfold pCnt addC
    rw [List.map_map, List.map_map]
    refine congrArg vDic (List.map_congr_left fun x hx => ?_)
    show (x.1, vInt ((((c.lookup x.1).getD 0 + _) : Nat) : Int)) = _
    rw [look_of okc.nd hx]; rfl
theorem fd_checked_counts (T : Txt K mg) : Fd P w K mg base "checked_counts" 4 ["model", "value"] [] (spP (δ := Web × Cnt × Bool) (fun d => [vWeb K d.1, if d.2.2 then vSizes K d.2.1 else vDic (pCnt d.2.1)]) (fun d => CntOk d.2.1 ∧ sortS (d.2.1.map (·.1)) = d.1.ks) (fun d => vDic (pCnt (sortC d.2.1)))) := by
  obtain ⟨g, fd, F⟩ := T.fn i_checked_counts d_checked_counts rfl
  refine ⟨_, fd, [], g rfl, F.kp, .nil, F.bindsN fun _ _ _ _ _ _ us hl => match us, hl with | [_, _], _ => rfl, ?_⟩
  have S : FnScope ["model", "value", "counts", "kind"] ["model", "value"] (defScope s_checked_counts) := ⟨rfl, rfl, rfl, by decide +kernel, rfl, by decide +kernel, by decide +kernel⟩
  refine fd_of (N := ["model", "value", "counts", "kind"]) F S (fun _ => rfl) (by decide) ?_
  intro cdv A outer s H E hr ⟨W, c, b⟩ G ok
  obtain ⟨ok, hk⟩ : CntOk c ∧ sortS (c.map (·.1)) = W.ks := ok
  refine xss_set (i := 2) (p := vDic (pCnt c)) (xe_if (u := b) (XT.is (xt_val (xe_isi (b := b) (T.free "isinstance" rfl) (xv 1) (xe_gl (x := .ref (He.ga K "Sizes")) T.sizes.g rfl) (.own _) ?_)) rfl) (fun h => ?_) (fun h => XE.is (xv 1) ?_)) S.nd ?_
  · cases b
    · exact isi_dic T.kitT
    · exact isi_sizes T
  · subst h
    exact xe_meth0 (md_Sizes_counts T) c hr T.sizes.cl (xv 1) rfl rfl trivial
  · subst h; rfl
  · refine xss_iff (XT.is (xw_or (w := false) (xt_not (xt_val (xe_call (fd_are_counts T) c hr (xa_cons (xv 2) xa_nil) ok))) (fun _ => xw_or1 (xt_neS (ss := W.ks) hr (XE.is (xn_sortD rfl (T.free "sorted" rfl) (xv 2) vwD (pCnt_64 ok)).lst (by rw [pCnt_keys, hk])) (xe_meth0 (md_Model_kinds T) W hr T.model.cl (xv 0) rfl rfl trivial)))).pt rfl) ?_
    refine xss_one (xs_ret (XE.is (XN.dic (xn_dc0 (ds := sortS (c.map (·.1))) (f := fun s => vStr s) (k := fun s => s) (g := fun s => vInt (((c.lookup s).getD 0 : Nat) : Int)) (own := [("kind", 3)]) (fun s => [some (vWeb K W), some (if b then vSizes K c else vDic (pCnt c)), some (vDic (pCnt c)), some (vStr s)]) rfl S.nd
      (xi_lst (XE.is (xn_sortD rfl (T.free "sorted" rfl) (xv 2) vwD (pCnt_64 ok)).lst (by rw [pCnt_keys]))) (blkOk_by (N := ["model", "value", "counts", "kind"]) (sc := defScope s_checked_counts) (by decide +kernel)) (fun _ _ _ _ _ _ _ => xg_name 3 S.nd) (fun _ _ _ _ _ _ _ => xv 3) (fun _ _ _ _ _ s hs => ?_) ?_ ?_)) (by rw [← pCnt_sortC])) fun _ _ _ t r => ⟨t, r⟩)
    · obtain ⟨y, hy, rfl⟩ := List.mem_map.mp (mem_sortS.mp hs)
      refine xe_dget (u1 hr) (xv 2) (xv 3) vwD ?_
      rw [pCnt_look, look_of ok.nd hy]; rfl
    · rw [List.map_id']; exact sortS_nodup ok.nd
    · rw [sortS_length, List.length_map, sizeLine_eq]; have := ok.ln; omega
end
end K53
end MN_
section MO_
set_option maxRecDepth 100000
set_option maxHeartbeats 4000000
/-! MO: lines. -/
namespace K53
open PySem PySem.Spec PyProof.Rows L2
structure Ln where
  prod : Bool
  asking : Str
  asked : Str
  least : Nat
  most : Option Nat
def lineOf (t : Tie) (n : Nat) : Ln := if n % 2 = 0 then ⟨decide (n < 2), t.a, t.b, t.m.1, t.n.2⟩ else ⟨decide (n < 2), t.b, t.a, t.n.1, t.m.2⟩
def fsLine (l : Ln) : List (Str × Pv) := [("own_is_product", vBl l.prod), ("own_asking", vStr l.asking), ("own_asked", vStr l.asked), ("own_least", vInt (l.least : Int)), ("own_most", vOpt l.most)]
def vLine (K : PySem.W.Frag) (l : Ln) : Pv := vIns (He.ga K "Line") (fsLine l)
def cnt (c : Cnt) (k : Str) : Nat := (c.lookup k).getD 0
def need (l : Ln) (c : Cnt) : Option Nat :=
  if l.prod then match l.most with
    | none => some 0
    | some q => if cnt c l.asking * l.least = 0 then some 0 else if q = 0 then none else some ((cnt c l.asking * l.least + q - 1) / q)
  else some (if 0 < cnt c l.asking then l.least else 0)
def met (l : Ln) (c : Cnt) : Bool := match need l c with
  | none => false
  | some n => decide (n ≤ cnt c l.asked)
structure LnOk (l : Ln) (c : Cnt) : Prop where
  a : l.asking ∈ c.map (·.1)
  b : l.asked ∈ c.map (·.1)
  p : l.least ≤ 6
  q : ∀ z, l.most = some z → z ≤ 6
theorem cnt_look {c : Cnt} {k : Str} (h : k ∈ c.map (·.1)) : c.lookup k = some (cnt c k) := by
  unfold cnt
  cases e : c.lookup k with
  | some n => rfl
  | none =>
    obtain ⟨y, hy, rfl⟩ := List.mem_map.mp h
    exfalso
    rw [List.lookup_eq_none_iff] at e
    have := e y hy
    simp at this
def linesOf (ts : Ties) : List (Str × Nat × Ln) := ts.flatMap fun x => [0, 1, 2, 3].map fun n => (x.1, n, lineOf x.2 n)
def vLineT (K : PySem.W.Frag) (x : Str × Nat × Ln) : Pv := vTup [vStr x.1, vInt (x.2.1 : Int), vLine K x.2.2]
section
variable {P : Program} {w : World} {K : PySem.W.Frag} {mg : Str → Option Value} {base : Heap}
theorem fi_Line (T : Txt K mg) : ∃ fd, FunD K "__init__" "Line.__init__" (defArgs s_Line_init) (defBody s_Line_init) (defScope s_Line_init) [] [] (He.ma K (He.ga K "Line") "__init__") fd ∧ FnOk P w K mg base CX0 4 (He.ma K (He.ga K "Line") "__init__") fd ["self", "ends", "number"] (spI (He.ga K "Line") (δ := Tie × Nat) (fun d => [vTie K d.1, vInt (d.2 : Int)]) (fun _ => True) (fun d => fsLine (lineOf d.1 d.2))) := by
  obtain ⟨g, fd, F⟩ := T.fn i_Line_init d_Line_init rfl
  refine ⟨fd, F, ?_⟩
  have S : FnScope ["self", "ends", "number", "near", "near_many", "far", "far_many"] ["self", "ends", "number"] (defScope s_Line_init) := ⟨rfl, rfl, rfl, by decide +kernel, rfl, by decide +kernel, by decide +kernel⟩
  refine fdi_of (N := ["self", "ends", "number", "near", "near_many", "far", "far_many"]) F S (fun _ => rfl) (by decide) ?_
  intro cdv A outer s H E hr ⟨t, n⟩ G x ok
  refine xss_tup (xv 1) (xg_tup rfl (xgs_cons (xg_name 3 S.nd) (xgs_cons (xg_name 4 S.nd) (xgs_cons (xg_name 5 S.nd) (xgs_cons (xg_name 6 S.nd) xgs_nil))))) ?_
  refine xss_cons (xs_fld (M1 := []) (XE.is (xe_lt (i := (n : Int)) (xv 2) xe_int) (q := vBl (decide (n < 2))) ?_) (xv 0) (fun _ _ _ s => s) T.line.cl (T.line.na "own_is_product" (by simp))) ?_
  · exact congrArg vBl (decide_eq_decide.mpr (by constructor <;> intro h <;> omega))
  refine xss_one (xs_if (u := decide (n % 2 = 0)) (XT.is (xt_eq (x := .int ((n : Int) % 2)) (y := .int 0) (xe_mod (xv 2) xe_int (by decide)) xe_int) ?_) (fun h => ?_) (fun h => ?_))
  · refine decide_eq_decide.mpr ⟨fun h => ?_, fun h => ?_⟩
    · injection h with h; omega
    · exact congrArg V.int (by omega)
  · have e : lineOf t n = ⟨decide (n < 2), t.a, t.b, t.m.1, t.n.2⟩ := if_pos (of_decide_eq_true h)
    show XSs _ _ _ _ _ (iP _ x _ (fsLine (lineOf t n)))
    rw [e]
    refine xss_cons (xs_fld2 (M1 := []) (xe_tup (xa_cons (xv 3) (xa_cons (xv 5) xa_nil))) (fun _ => xv 0) (fun _ => xv 0) (fun _ _ _ s => s) rfl T.line.cl (T.line.na "own_asking" (by simp)) (T.line.na "own_asked" (by simp))) ?_
    exact xss_one (xs_fld2 (M1 := []) (xe_tup (xa_cons (x_least T hr (xv 4)) (xa_cons (x_most T hr (xv 6)) xa_nil))) (fun _ => xv 0) (fun _ => xv 0) (fun _ _ _ s => ⟨_, [], s⟩) rfl T.line.cl (T.line.na "own_least" (by simp)) (T.line.na "own_most" (by simp)))
  · have e : lineOf t n = ⟨decide (n < 2), t.b, t.a, t.n.1, t.m.2⟩ := if_neg (of_decide_eq_false h)
    show XSs _ _ _ _ _ (iP _ x _ (fsLine (lineOf t n)))
    rw [e]
    refine xss_cons (xs_fld2 (M1 := []) (xe_tup (xa_cons (xv 5) (xa_cons (xv 3) xa_nil))) (fun _ => xv 0) (fun _ => xv 0) (fun _ _ _ s => s) rfl T.line.cl (T.line.na "own_asking" (by simp)) (T.line.na "own_asked" (by simp))) ?_
    exact xss_one (xs_fld2 (M1 := []) (xe_tup (xa_cons (x_least T hr (xv 6)) (xa_cons (x_most T hr (xv 4)) xa_nil))) (fun _ => xv 0) (fun _ => xv 0) (fun _ _ _ s => ⟨_, [], s⟩) rfl T.line.cl (T.line.na "own_least" (by simp)) (T.line.na "own_most" (by simp)))
theorem id_Line (T : Txt K mg) : Id P w K mg base (He.ga K "Line") 4 ["self", "ends", "number"] [] (spI (He.ga K "Line") (δ := Tie × Nat) (fun d => [vTie K d.1, vInt (d.2 : Int)]) (fun _ => True) (fun d => fsLine (lineOf d.1 d.2))) := by
  obtain ⟨fd, F, ok⟩ := fi_Line (P := P) (w := w) (base := base) T
  obtain ⟨ds, hds, hb⟩ : ∃ ds, Vals [] ds ∧ Binds K fd ["self", "ends", "number"] ds := ⟨[], .nil, F.bindsN fun _ _ _ _ _ _ us hl => match us, hl with | [_, _, _], _ => rfl⟩
  exact ⟨⟨_, fd, ds, T.line.mak, hds, hb, ok⟩⟩
theorem md_Line_needed (T : Txt K mg) : Md P w K mg base (He.ga K "Line") "needed" 1 ["self", "counts"] (spP (δ := Ln × Cnt) (fun d => [vLine K d.1, vDic (pCnt d.2)]) (fun d => LnOk d.1 d.2) (fun d => vOpt (need d.1 d.2))) := by
  obtain ⟨g, fd, F⟩ := T.fn i_Line_needed d_Line_needed rfl
  refine ⟨_, fd, T.line.me "needed" (by simp), F.bindsN fun _ _ _ _ _ _ us hl => match us, hl with | [_, _], _ => rfl, ?_⟩
  have S : FnScope ["self", "counts", "total"] ["self", "counts"] (defScope s_Line_needed) := ⟨rfl, rfl, rfl, by decide +kernel, rfl, by decide +kernel, by decide +kernel⟩
  refine fd_of (N := ["self", "counts", "total"]) F S (fun _ => rfl) (by decide) ?_
  intro cdv A outer s H E hr ⟨l, c⟩ G ok
  have ok : LnOk l c := ok
  have ha : (pCnt c).lookup l.asking = some (vInt (cnt c l.asking : Int)) := by rw [pCnt_look, cnt_look ok.a]; rfl
  show XSs _ _ _ _ _ (fP _ (vOpt (need l c)))
  cases hp : l.prod with
  | false =>
    have e : need l c = some (if 0 < cnt c l.asking then l.least else 0) := by unfold need; rw [hp]; rfl
    rw [e]
    refine xss_ift (XT.is (xt_not (xt_val (xe_fld (xv 0) vwI (q := vBl l.prod) rfl T.line.cl (T.line.na "own_is_product" (by simp))))) (by rw [hp]; rfl)) (xss_one (xs_ret (xe_if (u := decide (0 < cnt c l.asking)) (XT.is (xt_gt (xe_dget (u1 hr) (xv 1) (xe_fld (xv 0) vwI (q := vStr l.asking) rfl T.line.cl (T.line.na "own_asking" (by simp))) vwD ha) xe_int) ?_) (fun h => XE.is (xe_fld (xv 0) vwI (q := vInt (l.least : Int)) rfl T.line.cl (T.line.na "own_least" (by simp))) ?_) (fun h => XE.is xe_int ?_)) fun _ _ _ t r => ⟨t, r⟩))
    · exact decide_eq_decide.mpr (by constructor <;> intro h <;> omega)
    · rw [if_pos (of_decide_eq_true h)]; rfl
    · rw [if_neg (of_decide_eq_false h)]; rfl
  | true =>
    refine xss_iff (XT.is (xt_not (xt_val (xe_fld (xv 0) vwI (q := vBl l.prod) rfl T.line.cl (T.line.na "own_is_product" (by simp))))) (by rw [hp]; rfl)) ?_
    refine xss_set (i := 2) (p := vInt ((cnt c l.asking * l.least : Nat) : Int)) (XE.is (xe_mul (xe_dget (u1 hr) (xv 1) (xe_fld (xv 0) vwI (q := vStr l.asking) rfl T.line.cl (T.line.na "own_asking" (by simp))) vwD ha) (xe_fld (xv 0) vwI (q := vInt (l.least : Int)) rfl T.line.cl (T.line.na "own_least" (by simp))) (.inr ?_)) (by rw [Int.natCast_mul])) S.nd ?_
    · have := ok.p
      exact ⟨by rw [two64]; omega, by rw [two64]; omega⟩
    have e : need l c = match l.most with
      | none => some 0
      | some q => if cnt c l.asking * l.least = 0 then some 0 else if q = 0 then none else some ((cnt c l.asking * l.least + q - 1) / q) := by unfold need; rw [hp]; rfl
    rw [e]
    have fm : ∀ {X : Cx}, True := trivial
    generalize hT : cnt c l.asking * l.least = tt
    cases hq : l.most with
    | none =>
      exact xss_ift (xw_or (u := true) (w := true) (XT.is (xt_isN (xe_fld (xv 0) vwI (q := vOpt l.most) rfl T.line.cl (T.line.na "own_most" (by simp))) nonP_val) (by rw [hq]; rfl)) (fun z => nomatch z)).pt (xss_one (xs_ret xe_int fun _ _ _ t r => ⟨t, r⟩))
    | some q =>
      have hq6 := ok.q q hq
      by_cases h0 : tt = 0
      · subst h0
        show XSs _ _ _ _ _ (fP _ (vOpt (if (0 : Nat) = 0 then some 0 else _)))
        rw [if_pos rfl]
        exact xss_ift (XT.is (xw_or (w := true) (xt_isN (xe_fld (xv 0) vwI (q := vOpt l.most) rfl T.line.cl (T.line.na "own_most" (by simp))) nonP_val) (fun _ => xw_or1 (XT.is (xt_eq (x := .int 0) (y := .int 0) (xv 2) xe_int) rfl))).pt (by simp)) (xss_one (xs_ret xe_int fun _ _ _ t r => ⟨t, r⟩))
      · show XSs _ _ _ _ _ (fP _ (vOpt (if tt = 0 then some 0 else if q = 0 then none else some ((tt + q - 1) / q))))
        rw [if_neg h0]
        refine xss_iff (XT.is (xw_or (xt_isN (xe_fld (xv 0) vwI (q := vOpt l.most) rfl T.line.cl (T.line.na "own_most" (by simp))) nonP_val) (fun _ => xw_or1 (xt_eq (x := .int (tt : Int)) (y := .int 0) (xv 2) xe_int))).pt ?_) ?_
        · rw [hq, decide_eq_false (fun z => h0 (by injection z with z; omega) : ¬ V.int (tt : Int) = V.int 0)]; rfl
        · refine xss_one (xs_ret (xe_if (u := decide (q = 0)) (XT.is (xt_eq (x := .int (q : Int)) (y := .int 0) (XE.is (xe_fld (xv 0) vwI (q := vOpt l.most) rfl T.line.cl (T.line.na "own_most" (by simp))) (by rw [hq]; rfl)) xe_int) ?_) (fun h => XE.is xe_non ?_) (fun h => XE.is (xe_fdiv (i := (tt : Int) + (q : Int) - 1) (j := (q : Int)) (xe_sub (xe_add (xv 2) (XE.is (xe_fld (xv 0) vwI (q := vOpt l.most) rfl T.line.cl (T.line.na "own_most" (by simp))) (by rw [hq]; rfl))) xe_int) (XE.is (xe_fld (xv 0) vwI (q := vOpt l.most) rfl T.line.cl (T.line.na "own_most" (by simp))) (by rw [hq]; rfl)) ?_) ?_)) fun _ _ _ t r => ⟨t, r⟩)
          · exact decide_eq_decide.mpr ⟨fun h => by injection h with h; omega, fun h => by rw [h]; rfl⟩
          · rw [if_pos (of_decide_eq_true h)]; rfl
          · have := of_decide_eq_false h
            exact ⟨by omega, by omega⟩
          · have hz := of_decide_eq_false h
            rw [if_neg hz]
            refine congrArg (fun z => vVal (V.int z)) ?_
            have e1 : (tt : Int) + (q : Int) - 1 = ((tt + q - 1 : Nat) : Int) := by omega
            rw [e1, Int.natCast_ediv]
theorem md_Line_is_met (T : Txt K mg) : Md P w K mg base (He.ga K "Line") "is_met" 2 ["self", "counts"] (spP (δ := Ln × Cnt) (fun d => [vLine K d.1, vDic (pCnt d.2)]) (fun d => LnOk d.1 d.2) (fun d => vBl (met d.1 d.2))) := by
  obtain ⟨g, fd, F⟩ := T.fn i_Line_is_met d_Line_is_met rfl
  refine ⟨_, fd, T.line.me "is_met" (by simp), F.bindsN fun _ _ _ _ _ _ us hl => match us, hl with | [_, _], _ => rfl, ?_⟩
  have S : FnScope ["self", "counts", "needed"] ["self", "counts"] (defScope s_Line_is_met) := ⟨rfl, rfl, rfl, by decide +kernel, rfl, by decide +kernel, by decide +kernel⟩
  refine fd_of (N := ["self", "counts", "needed"]) F S (fun _ => rfl) (by decide) ?_
  intro cdv A outer s H E hr ⟨l, c⟩ G ok
  have ok : LnOk l c := ok
  refine xss_set (i := 2) (p := vOpt (need l c)) (XE.is (xe_meth (ps := [vDic (pCnt c)]) (md_Line_needed T) (l, c) hr T.line.cl (xv 0) rfl (xa_cons (xv 1) xa_nil) rfl ok) rfl) S.nd ?_
  show XSs _ _ _ _ _ (fP _ (vBl (met l c)))
  unfold met
  cases need l c with
  | none => exact xss_one (xs_ret (XE.is (xe_and (u := false) (w := false) (XE.is (xe_notN (xv 2) nonP_val) rfl) (fun z => nomatch z)) rfl) fun _ _ _ t r => ⟨t, r⟩)
  | some n =>
    refine xss_one (xs_ret (XE.is (xe_and (xe_notN (xv 2) nonP_val) (fun _ => xe_one (xe_le (i := (n : Int)) (xv 2) (xe_dget (u1 hr) (xv 1) (xe_fld (xv 0) vwI (q := vStr l.asked) rfl T.line.cl (T.line.na "own_asked" (by simp))) vwD (by rw [pCnt_look, cnt_look ok.b]; rfl))))) ?_) fun _ _ _ t r => ⟨t, r⟩)
    show vBl (true && _) = vBl (decide (n ≤ cnt c l.asked))
    rw [Bool.true_and]
    exact congrArg vBl (decide_eq_decide.mpr Int.ofNat_le)
end
end K53
end MO_
section MP_
set_option maxRecDepth 100000
set_option maxHeartbeats 4000000
/-! MP: the lines of a model; raising. -/
namespace K53
open PySem PySem.Spec PyProof.Rows L2
theorem met_need {l : Ln} {c V : Cnt} (h : cnt c l.asking ≤ cnt V l.asking) (hV : met l V = true) : ∃ n, need l c = some n ∧ n ≤ cnt V l.asked := by
  unfold met at hV
  cases hm : need l V with
  | none => rw [hm] at hV; cases hV
  | some m =>
    rw [hm] at hV
    have hm2 : m ≤ cnt V l.asked := of_decide_eq_true hV
    unfold need at hm ⊢
    cases hp : l.prod with
    | false =>
      rw [hp] at hm
      have hm : some (if 0 < cnt V l.asking then l.least else 0) = some m := hm
      refine ⟨_, rfl, Nat.le_trans ?_ hm2⟩
      injection hm with hm
      rw [← hm]
      by_cases h0 : 0 < cnt c l.asking
      · rw [if_pos h0, if_pos (by omega)]; exact Nat.le_refl _
      · rw [if_neg h0]; exact Nat.zero_le _
    | true =>
      rw [hp] at hm
      cases hq : l.most with
      | none => exact ⟨0, rfl, Nat.zero_le _⟩
      | some q =>
        rw [hq] at hm
        have hm : (if cnt V l.asking * l.least = 0 then some 0 else if q = 0 then none else some ((cnt V l.asking * l.least + q - 1) / q)) = some m := hm
        show ∃ n, (if cnt c l.asking * l.least = 0 then some 0 else if q = 0 then none else some ((cnt c l.asking * l.least + q - 1) / q)) = some n ∧ _
        have hle : cnt c l.asking * l.least ≤ cnt V l.asking * l.least := Nat.mul_le_mul_right _ h
        by_cases h0 : cnt c l.asking * l.least = 0
        · rw [if_pos h0]; exact ⟨0, rfl, Nat.zero_le _⟩
        · rw [if_neg h0]
          rw [if_neg (by omega)] at hm
          by_cases hq0 : q = 0
          · rw [if_pos hq0] at hm; cases hm
          · rw [if_neg hq0] at hm ⊢
            refine ⟨_, rfl, Nat.le_trans ?_ hm2⟩
            injection hm with hm
            rw [← hm]
            exact Nat.div_le_div_right (by omega)
def Closed (ls : List (Str × Nat × Ln)) (V : Cnt) : Prop := ∀ x ∈ ls, met x.2.2 V = true
structure Up (ls : List (Str × Nat × Ln)) (c0 c : Cnt) : Prop where
  ks : c.map (·.1) = c0.map (·.1)
  ge : ∀ k, cnt c0 k ≤ cnt c k
  le : ∀ V, Closed ls V → (∀ k, cnt c0 k ≤ cnt V k) → ∀ k, cnt c k ≤ cnt V k
def gapS (ks : List Str) (c U : Cnt) : Nat := (ks.map fun k => cnt U k - cnt c k).sum
theorem putA_keysE {κ α : Type} [DecidableEq κ] {s : κ} {q : α} : ∀ {l : List (κ × α)}, s ∈ l.map (·.1) → (putA s q l).map (·.1) = l.map (·.1)
  | [], h => by simp at h
  | (k, p) :: r, h => by
    unfold putA
    by_cases e : k = s
    · rw [if_pos e]; rfl
    · rw [if_neg e, List.map_cons, List.map_cons, putA_keysE]
      rw [List.map_cons] at h
      rcases List.mem_cons.mp h with h | h
      · exact absurd h.symm e
      · exact h
theorem cnt_put {c : Cnt} {k k' : Str} {n : Nat} : cnt (putA k n c) k' = if k' = k then n else cnt c k' := by
  unfold cnt
  rw [putA_look]
  split <;> rfl
theorem sum_le {f g : Str → Nat} : ∀ {ks : List Str}, (∀ k ∈ ks, f k ≤ g k) → (ks.map f).sum ≤ (ks.map g).sum
  | [], _ => Nat.le_refl _
  | k :: ks, h => by
    rw [List.map_cons, List.map_cons, List.sum_cons, List.sum_cons]
    exact Nat.add_le_add (h k List.mem_cons_self) (sum_le fun x hx => h x (List.mem_cons_of_mem _ hx))
theorem sum_lt {f g : Str → Nat} {k0 : Str} : ∀ {ks : List Str}, (∀ k ∈ ks, f k ≤ g k) → k0 ∈ ks → f k0 < g k0 → (ks.map f).sum < (ks.map g).sum
  | [], _, h, _ => by simp at h
  | k :: ks, h, hm, hl => by
    rw [List.map_cons, List.map_cons, List.sum_cons, List.sum_cons]
    have h1 := h k List.mem_cons_self
    have h2 : ∀ x ∈ ks, f x ≤ g x := fun x hx => h x (List.mem_cons_of_mem _ hx)
    rcases List.mem_cons.mp hm with rfl | hm
    · exact Nat.add_lt_add_of_lt_of_le hl (sum_le h2)
    · exact Nat.add_lt_add_of_le_of_lt h1 (sum_lt h2 hm hl)
theorem gap_put {ks : List Str} {c U : Cnt} {k : Str} {n : Nat} (hk : k ∈ ks) (h1 : cnt c k < n) (h2 : n ≤ cnt U k) : gapS ks (putA k n c) U < gapS ks c U := by
  unfold gapS
  refine sum_lt (k0 := k) (fun x _ => ?_) hk ?_
  · rw [cnt_put]
    by_cases e : x = k
    · rw [if_pos e, e]; omega
    · rw [if_neg e]; exact Nat.le_refl _
  · show cnt U k - cnt (putA k n c) k < cnt U k - cnt c k
    rw [cnt_put, if_pos rfl]; omega
theorem Up.refl (ls : List (Str × Nat × Ln)) (c : Cnt) : Up ls c c := ⟨rfl, fun _ => Nat.le_refl _, fun V _ h => h⟩
theorem Up.step {ls : List (Str × Nat × Ln)} {c0 c : Cnt} (u : Up ls c0 c) {x : Str × Nat × Ln} (hx : x ∈ ls) (ok : LnOk x.2.2 c) (hm : met x.2.2 c = false) {U : Cnt} (hU : Closed ls U) (hc : ∀ k, cnt c0 k ≤ cnt U k) :
    ∃ n, need x.2.2 c = some n ∧ cnt c x.2.2.asked < n ∧ n ≤ cnt U x.2.2.asked ∧ Up ls c0 (putA x.2.2.asked n c) := by
  obtain ⟨n, h1, h2⟩ := met_need (u.le U hU hc _) (hU x hx)
  have h3 : cnt c x.2.2.asked < n := by
    unfold met at hm
    rw [h1] at hm
    have := of_decide_eq_false hm
    omega
  refine ⟨n, h1, h3, h2, by rw [putA_keysE ok.b]; exact u.ks, fun k => ?_, fun V hV hcV k => ?_⟩
  · rw [cnt_put]
    by_cases e : k = x.2.2.asked
    · rw [if_pos e]
      have := u.ge k
      rw [e] at this
      rw [e]; omega
    · rw [if_neg e]; exact u.ge k
  · rw [cnt_put]
    by_cases e : k = x.2.2.asked
    · rw [if_pos e, e]
      obtain ⟨n', h1', h2'⟩ := met_need (u.le V hV hcV _) (hV x hx)
      rw [h1] at h1'
      cases h1'
      exact h2'
    · rw [if_neg e]; exact u.le V hV hcV k
theorem LnOk.keys {l : Ln} {c c' : Cnt} (h : LnOk l c) (e : c'.map (·.1) = c.map (·.1)) : LnOk l c' := ⟨by rw [e]; exact h.a, by rw [e]; exact h.b, h.p, h.q⟩
theorem pCnt_put {c : Cnt} {k : Str} {n : Nat} : putD k (vInt (n : Int)) (pCnt c) = pCnt (putA k n c) := by
  rw [putD_putA]
  exact putA_map (f := fun n : Nat => vInt (n : Int))
section
variable {P : Program} {w : World} {K : PySem.W.Frag} {mg : Str → Option Value} {base : Heap}
theorem fd_lines_of (T : Txt K mg) : Fd P w K mg base "lines_of" 6 ["model"] [] (spP (δ := Web) (fun W => [vWeb K W]) (fun W => (W.ts.map (·.1)).Nodup ∧ W.ts.length ≤ 8) (fun W => vLst ((linesOf W.ts).map (vLineT K)))) := by
  obtain ⟨g, fd, F⟩ := T.fn i_lines_of d_lines_of rfl
  refine ⟨_, fd, [], g rfl, F.kp, .nil, F.bindsN fun _ _ _ _ _ _ us hl => match us, hl with | [_], _ => rfl, ?_⟩
  have S : FnScope ["model", "found", "link", "ends", "number"] ["model"] (defScope s_lines_of) := ⟨rfl, rfl, rfl, by decide +kernel, rfl, by decide +kernel, by decide +kernel⟩
  refine fd_of (N := ["model", "found", "link", "ends", "number"]) F S (fun _ => rfl) (by decide) ?_
  intro cdv A outer s H E hr W G ok
  have ok : (W.ts.map (·.1)).Nodup ∧ W.ts.length ≤ 8 := ok
  refine xss_new (i := 1) (xn_lst xa_nil) S.nd fun a => ?_
  refine xss_cons (Γ' := [none, some (vVal (.ref a)), none, none, none]) (M' := [(a, mLst ((linesOf W.ts).map (vLineT K)))]) (xs_for (ds := pTies K W.ts) (f := fun x => vTup [vStr x.1, x.2]) (fun _ : List (Str × Nat × Ln) => [some (vWeb K W), some (vVal (.ref a)), none, none, none]) (fun x => [(a, mLst (x.map (vLineT K)))]) (fun i x => x = linesOf (W.ts.take i)) rfl
    (xi_itemsN (xn_meth0 (md_Model_links T) W hr T.model.cl (xv 0) rfl rfl ok)) (fun _ _ _ s => ⟨[], rfl, s⟩) (fun i x ys B hx hy => ?_) (fun G H σ ⟨x, hx, s⟩ => ?_)) ?_
  · obtain ⟨y, hy1, rfl⟩ : ∃ y, W.ts[i]? = some y ∧ x = (y.1, vTie K y.2) := by
      unfold pTies at hx
      rw [List.getElem?_map] at hx
      cases e : W.ts[i]? with
      | none => rw [e] at hx; cases hx
      | some y => rw [e] at hx; cases hx; exact ⟨y, rfl, rfl⟩
    subst hy
    have e1 : (linesOf (W.ts.take i)).map (vLineT K) ++ ([0, 1, 2, 3].map fun n : Nat => vLineT K (y.1, n, lineOf y.2 n)) = (linesOf (W.ts.take (i + 1))).map (vLineT K) := by
      unfold linesOf
      rw [List.take_add_one, hy1, Option.toList_some, List.flatMap_append, List.map_append, List.flatMap_singleton, List.map_map]
      rfl
    refine ⟨_, _, xg_tup rfl (xgs_cons (xg_name 2 S.nd) (xgs_cons (xg_name 3 S.nd) xgs_nil)), ?_⟩
    refine xss_one (xs_extend (M1 := []) (xv 1) (xe_lc0 (own := [("number", 4)]) (ds := [0, 1, 2, 3]) (f := fun n : Nat => vVal (V.int (n : Int))) (g := fun n => vLineT K (y.1, n, lineOf y.2 n)) (fun n => [some (vWeb K W), some (vVal (.ref a)), some (vStr y.1), some (vTie K y.2), some (vInt (n : Int))]) rfl S.nd (xi_tupK (ad := He.ga K "LINES") (f := fun n : Nat => V.int (n : Int)) (xe_gl (x := .ref (He.ga K "LINES")) T.lines.1 rfl) T.lines.2) (blkOk_by (N := ["model", "found", "link", "ends", "number"]) (sc := defScope s_lines_of) (by decide +kernel)) (fun _ _ _ _ _ _ _ => xg_name 4 S.nd)
      (fun _ _ _ _ _ n _ => xe_tup (xa_cons (xv 2) (xa_cons (xv 4) (xa_cons (xe_make (id_Line T) (y.2, n) hr T.line.g (xa_cons (xv 3) (xa_cons (xv 4) xa_nil)) trivial) xa_nil)))) ?_) (fun _ _ _ s => ⟨_, rfl, (s.m1 (congrArg mLst e1)).fg (by repeat (first | exact fg_nil | apply fg_keep | apply fg_drop))⟩) ?_)
    · rw [sizeLine_eq]; decide
    · have h1 : (linesOf (W.ts.take i)).length ≤ 32 := by
        unfold linesOf
        refine Nat.le_trans (flatMap_len (m := 4) fun _ _ => Nat.le_refl _) ?_
        have h2 : (W.ts.take i).length ≤ W.ts.length := by rw [List.length_take]; exact Nat.min_le_right _ _
        have := ok.2
        omega
      rw [List.length_map, sizeLine_eq]
      show _ + 4 ≤ _
      omega
  · rw [show (pTies K W.ts).length = W.ts.length from List.length_map _, List.take_length] at hx
    subst hx
    exact s.fg (by repeat (first | exact fg_nil | apply fg_keep | apply fg_drop))
  · exact xss_pub (i := 1) (M1 := []) (p := vLst ((linesOf W.ts).map (vLineT K))) rfl (fun G u h e => mLst_lst h e) (xss_one (xs_ret (xv 1) fun _ _ _ t r => ⟨t, r⟩))
end
end K53
end MP_
section MQ_
set_option maxRecDepth 100000
set_option maxHeartbeats 4000000
/-! MQ: raised. -/
namespace K53
open PySem PySem.Spec PyProof.Rows L2
structure RaOk (ls : List (Str × Nat × Ln)) (c U : Cnt) : Prop where
  co : CntOk c
  l : ∀ x ∈ ls, LnOk x.2.2 c
  u : Closed ls U
  cu : ∀ k, cnt c k ≤ cnt U k
  g : gapS (c.map (·.1)) c U ≤ 16000000
structure RaI (ls : List (Str × Nat × Ln)) (c0 U : Cnt) (c : Cnt) (rs : List Pv) : Prop where
  up : Up ls c0 c
  g : rs.length + gapS (c0.map (·.1)) c U ≤ 16000000
section
variable {P : Program} {w : World} {K : PySem.W.Frag} {mg : Str → Option Value} {base : Heap}
theorem fd_raised (T : Txt K mg) : Fd P w K mg base "raised" 4 ["lines", "counts"] [] (spP (δ := List (Str × Nat × Ln) × Cnt × Cnt) (fun d => [vLst (d.1.map (vLineT K)), vDic (pCnt d.2.1)]) (fun d => RaOk d.1 d.2.1 d.2.2) (fun d => vEx (fun c => Up d.1 d.2.1 c ∧ Closed d.1 c) (fun c => vTup [vDic (pCnt c), vAny]))) := by
  obtain ⟨g, fd, F⟩ := T.fn i_raised d_raised rfl
  refine ⟨_, fd, [], g rfl, F.kp, .nil, F.bindsN fun _ _ _ _ _ _ us hl => match us, hl with | [_, _], _ => rfl, ?_⟩
  have S : FnScope ["lines", "counts", "found", "raises", "is_done", "link", "number", "line"] ["lines", "counts"] (defScope s_raised) := ⟨rfl, rfl, rfl, by decide +kernel, rfl, by decide +kernel, by decide +kernel⟩
  refine fd_of (N := ["lines", "counts", "found", "raises", "is_done", "link", "number", "line"]) F S (fun _ => rfl) (by decide) ?_
  intro cdv A outer s H E hr ⟨ls, c0, U⟩ G ok
  have ok : RaOk ls c0 U := ok
  have small : ∀ {c : Cnt}, c.map (·.1) = c0.map (·.1) → (pCnt c).length < sizeLine ∧ ((pCnt c).map (·.1)).Nodup := fun {c} e => by
    have h : c.length = c0.length := by have := congrArg List.length e; rwa [List.length_map, List.length_map] at this
    refine ⟨?_, by rw [pCnt_keys, e]; exact ok.co.nd⟩
    rw [pCnt_len, h, sizeLine_eq]; have := ok.co.ln; omega
  refine xss_par3NN (i := 2) (j := 3) (l := 4) rfl S.nd (xn_dictD (T.free "dict" rfl) (xv 1) vwD) (fun _ => xn_lst xa_nil) (fun _ _ => xe_bl) (fun a1 a2 => ?_)
  let Ga : Bool → En := fun b => [some (vLst (ls.map (vLineT K))), some (vDic (pCnt c0)), some (vVal (.ref a1)), some (vVal (.ref a2)), some (vBl b), none, none, none]
  let Ms : Cnt → List Pv → Mu := fun c rs => [(a2, mLst rs), (a1, mDic (pCnt c))]
  refine xss_consI (M := Ms c0 []) (fun x : Cnt × List Pv => Ga true) (fun x => Ms x.1 x.2) (fun x => Up ls c0 x.1 ∧ Closed ls x.1) (xs_while (fun x : Cnt × Bool × List Pv => Ga x.2.1) (fun x => Ms x.1 x.2.2) (fun m x => RaI ls c0 U x.1 x.2.2 ∧ (x.2.1 = true → Closed ls x.1) ∧ m = if x.2.1 then 0 else gapS (c0.map (·.1)) x.1 U + 1) (fun x => !x.2.1) (fun _ _ _ s => ⟨_, (c0, false, []), ⟨⟨Up.refl _ _, by simpa using ok.g⟩, fun z => (nomatch z), rfl⟩, s⟩) (fun m x hx => xt_not (xt_val (xv 4))) (fun m x hx hb => ?_) (fun m x G H σ hx hb s => ?_)) ?_
  · obtain ⟨c, b, rs⟩ := x
    obtain ⟨hI, hC, hm⟩ := hx
    have hb : b = false := by simpa using hb
    subst hb
    have hI : RaI ls c0 U c rs := hI
    have hm : m = gapS (c0.map (·.1)) c U + 1 := hm
    refine xss_set (i := 4) xe_bl S.nd ?_
    refine xss_one (xs_for (ds := ls) (f := vLineT K) (fun x : Cnt × Bool × List Pv => Ga x.2.1) (fun x => Ms x.1 x.2.2) (fun i x => RaI ls c0 U x.1 x.2.2 ∧ (x.2.1 = true → x.1 = c ∧ ∀ y ∈ ls.take i, met y.2.2 c = true) ∧ (x.2.1 = false → gapS (c0.map (·.1)) x.1 U < gapS (c0.map (·.1)) c U) ∧ gapS (c0.map (·.1)) x.1 U ≤ gapS (c0.map (·.1)) c U) rfl
      (xi_lst (xv 0)) (fun _ _ _ s => ⟨(c, true, rs), ⟨hI, fun _ => ⟨rfl, fun y hy => by simp at hy⟩, fun z => (nomatch z), Nat.le_refl _⟩, s⟩) (fun i x y B hx hy => ?_) (fun G H σ ⟨x, hx, s⟩ => ?_))
    · obtain ⟨c', b', rs'⟩ := y
      obtain ⟨hI', h1, h2, h3⟩ := hy
      have hI' : RaI ls c0 U c' rs' := hI'
      have h1 : b' = true → c' = c ∧ ∀ y ∈ ls.take i, met y.2.2 c = true := h1
      have h2 : b' = false → gapS (c0.map (·.1)) c' U < gapS (c0.map (·.1)) c U := h2
      have h3 : gapS (c0.map (·.1)) c' U ≤ gapS (c0.map (·.1)) c U := h3
      have hxm : x ∈ ls := List.mem_of_getElem? hx
      have okl : LnOk x.2.2 c' := (ok.l x hxm).keys hI'.up.ks
      have sm := small hI'.up.ks
      refine ⟨_, _, xg_tup rfl (xgs_cons (xg_name 5 S.nd) (xgs_cons (xg_name 6 S.nd) (xgs_cons (xg_name 7 S.nd) xgs_nil))), ?_⟩
      refine xss_one (xs_if (u := !met x.2.2 c') (xt_not (xt_val (XE.tmp (M1 := [(a2, mLst rs')]) 2 (vDic (pCnt c')) rfl (fun _ _ h e => mDic_dic h e) (XE.is (xe_meth (ps := [vDic (pCnt c')]) (md_Line_is_met T) (x.2.2, c') hr T.line.cl (xv 7) rfl (xa_cons (xv 2) xa_nil) rfl okl) rfl)))) (fun hmet => ?_) (fun hmet => ?_))
      · have hmet : met x.2.2 c' = false := by simpa using hmet
        obtain ⟨n, n1, n2, n3, n4⟩ := hI'.up.step hxm okl hmet ok.u ok.cu
        have hga : gapS (c0.map (·.1)) (putA x.2.2.asked n c') U < gapS (c0.map (·.1)) c' U := gap_put (by rw [← hI'.up.ks]; exact okl.b) n2 n3
        have e1 : putD x.2.2.asked (vInt (n : Int)) (pCnt c') = pCnt (putA x.2.2.asked n c') := pCnt_put
        refine xss_cons (Γ' := [some (vLst (ls.map (vLineT K))), some (vDic (pCnt c0)), some (vVal (.ref a1)), some (vVal (.ref a2)), some (vBl b'), some (vStr x.1), some (vInt (x.2.1 : Int)), some (vLine K x.2.2)]) (M' := Ms (putA x.2.2.asked n c') rs') (xs_dput (M1 := [(a2, mLst rs')]) (s := x.2.2.asked) (p := vInt (n : Int)) (u1 hr) (XE.tmp (M1 := [(a2, mLst rs')]) 2 (vDic (pCnt c')) rfl (fun _ _ h e => mDic_dic h e) (XE.is (xe_meth (ps := [vDic (pCnt c')]) (md_Line_needed T) (x.2.2, c') hr T.line.cl (xv 7) rfl (xa_cons (xv 2) xa_nil) rfl okl) (congrArg (fun z => vOpt z) n1))) (xv 2) (xe_fld (xv 7) vwI (q := vStr x.2.2.asked) rfl T.line.cl (T.line.na "own_asked" (by simp))) (fun _ _ _ s => s.mm ?_) sm.2 sm.1) ?_
        · show (a2, mLst rs') :: (a1, mDic (putD x.2.2.asked (vInt (n : Int)) (pCnt c'))) :: [] = _
          rw [e1]
        · refine xss_cons (xs_append (M1 := []) (p := vTup [vStr x.1, vInt (x.2.1 : Int), vInt (n : Int)]) (xv 3) (xe_tup (xa_cons (xv 5) (xa_cons (xv 6) (xa_cons (xe_dget (u1 hr) (xv 2) (xe_fld (xv 7) vwI (q := vStr x.2.2.asked) rfl T.line.cl (T.line.na "own_asked" (by simp))) (vwD_mu (a := a1) (kp := pCnt (putA x.2.2.asked n c')) (List.mem_cons_of_mem _ List.mem_cons_self)) ?_) xa_nil)))) (fun _ _ _ s => s) ?_) ?_
          · rw [pCnt_look, cnt_look (by rw [putA_keysE okl.b]; exact okl.b), cnt_put, if_pos rfl]; rfl
          · have := hI'.g
            rw [sizeLine_eq]; omega
          · refine xss_one (xs_asg (i := 4) xe_bl (fun _ _ _ s => ⟨(putA x.2.2.asked n c', false, rs' ++ [vTup [vStr x.1, vInt (x.2.1 : Int), vInt (n : Int)]]), ⟨⟨n4, ?_⟩, fun z => (nomatch z), fun _ => ?_, ?_⟩, s.fg (by repeat (first | exact fg_nil | apply fg_keep | apply fg_drop))⟩) S.nd)
            · have := hI'.g
              rw [List.length_append]
              show rs'.length + 1 + gapS (c0.map (·.1)) (putA x.2.2.asked n c') U ≤ _
              omega
            · show gapS (c0.map (·.1)) (putA x.2.2.asked n c') U < _
              omega
            · show gapS (c0.map (·.1)) (putA x.2.2.asked n c') U ≤ _
              omega
      · have hmet : met x.2.2 c' = true := by simpa using hmet
        refine xss_nil fun _ _ _ s => ⟨(c', b', rs'), ⟨hI', fun hb => ⟨(h1 hb).1, fun y hy => ?_⟩, h2, h3⟩, s.fg (by repeat (first | exact fg_nil | apply fg_keep | apply fg_drop))⟩
        rw [List.take_add_one, hx, Option.toList_some, List.mem_append, List.mem_singleton] at hy
        rcases hy with hy | rfl
        · exact (h1 hb).2 y hy
        · rw [← (h1 hb).1]; exact hmet
    · obtain ⟨c', b', rs'⟩ := x
      obtain ⟨hI', h1, h2, h3⟩ := hx
      rw [List.take_length] at h1
      cases b' with
      | true =>
        obtain ⟨e, h1⟩ := h1 rfl
        have e : c' = c := e
        subst e
        exact ⟨0, by omega, (c', true, rs'), ⟨hI', fun _ => h1, rfl⟩, s⟩
      | false =>
        have h2 : gapS (c0.map (·.1)) c' U < gapS (c0.map (·.1)) c U := h2 rfl
        exact ⟨gapS (c0.map (·.1)) c' U + 1, by omega, (c', false, rs'), ⟨hI', fun z => (nomatch z), rfl⟩, s⟩
  · obtain ⟨c, b, rs⟩ := x
    obtain ⟨hI, hC, hm⟩ := hx
    have hb : b = true := by simpa using hb
    subst hb
    exact ⟨(c, rs), ⟨hI.up, hC rfl⟩, s⟩
  · rintro ⟨c, rs⟩ hcr
    refine xss_pub (i := 3) (M1 := []) (p := vLst rs) rfl (fun G u h e => mLst_lst h e) ?_
    refine xss_pub (i := 2) (M1 := []) (p := vDic (pCnt c)) rfl (fun G u h e => mDic_dic h e) ?_
    refine xss_one (xs_ret (XE.weak (q := vEx (fun c => Up ls c0 c ∧ Closed ls c) (fun c => vTup [vDic (pCnt c), vAny])) (xe_tup (xa_cons (xv 2) (xa_cons (xv 3) xa_nil))) fun G v h => ⟨c, hcr, ?_⟩) fun _ _ _ t r => ⟨t, r⟩)
    obtain ⟨a, xs, e, h1, h2⟩ := h
    obtain ⟨u, w, rfl, r1, r2⟩ := alA2 h2
    exact ⟨a, _, e, h1, .cons r1 (.cons trivial .nil)⟩
end
end K53
end MQ_
section MR_
set_option maxRecDepth 100000
set_option maxHeartbeats 4000000
/-! MR: draws from pots. -/
namespace K53
open PySem PySem.Spec PyProof.Rows L2
def vDig (n : Nat) : Pv := vEx (fun d : Nat => d < n) (fun d => vInt (d : Int))
def vOne (ps : List Pv) : Pv := ⟨fun G v => ∃ p ∈ ps, p.r G v, fun l ⟨p, h, r⟩ => ⟨p, h, Pv.mono _ l r⟩⟩
section
variable {X : Cx} {e a b c o k' : Expr} {es : List Expr} {Γ : En} {M : Mu} {p q z : Pv} {ps : List Pv} {x y : V} {pos pp apos cpos : Pos} {e0 : Eb} {P : Pst} {kp : List (Str × Pv)}
theorem xs_retS (he : XE X e Γ M p) (k : ∀ v G H σ, Sta e0 G H σ Γ M → p.r G v → P.rt v G H) : XS X e0 (.Return (some e) pos) Γ M P := fun G H σ s D f =>
  ⟨_, ps_ret pe_w, he G H σ s.s _ fun v G1 H1 t1 r1 => f.rt v G1 H1 (k v G1 H1 σ (s.stp t1) r1)⟩
theorem xe_divmod {i j : Int} (hm : X.mg "divmod" = none) (ha : XE X a Γ M (vInt i)) (hb : XE X b Γ M (vInt j)) (hc : CDiv i j) (hg : Gl X "divmod" := by rfl)
    (h1 : starEach [a, b] X.env = (false, eval a X.env) :: starEach [b] X.env := by rfl) (h2 : starEach [b] X.env = (false, eval b X.env) :: starEach [] X.env := by rfl) (hpl : (backTo pos (starEach [b] X.env)).any (·.1) = false := by rfl) : XE X (.Call (.Name "divmod" pp) [a, b] [] pos) Γ M (vTup [vInt (i / j), vInt (i % j)]) :=
  xe_cb call_divmod hm (by decide +kernel) (xa_cons ha (xa_cons hb xa_nil h2) h1) (fun G H vs s av Q k => by
    obtain ⟨v, w, rfl, rv, rw⟩ := alA2 av
    cases rv; cases rw
    exact ⟨i, j, rfl, hc, fun p hp => k _ (upd G p (.tup [.int (i / j), .int (i % j)])) _ (Stp.new s hp) ⟨p, _, rfl, upd_same, .cons rfl (.cons rfl .nil)⟩⟩) hg (by decide) (by decide) h1 hpl
theorem xe_abs {i : Int} (hm : X.mg "abs" = none) (h : XE X e Γ M (vInt i)) (hg : Gl X "abs" := by rfl) (he : starEach [e] X.env = (false, eval e X.env) :: starEach [] X.env := by rfl) : XE X (.Call (.Name "abs" pp) [e] [] pos) Γ M (vInt (if i < 0 then -i else i)) :=
  xe_cb1 call_abs hm (by decide +kernel) h (fun G H σ Γ v st rv Q k => by cases rv; exact ⟨i, rfl, k _ G H (.refl st.i) rfl⟩) hg (by decide) (by decide) he
theorem xe_max2 {i j : Int} (hcal : X.calm = true) (hm : X.mg "max" = none) (ha : XE X a Γ M (vInt i)) (hb : XE X b Γ M (vInt j)) (hg : Gl X "max" := by rfl)
    (h1 : starEach [a, b] X.env = (false, eval a X.env) :: starEach [b] X.env := by rfl) (h2 : starEach [b] X.env = (false, eval b X.env) :: starEach [] X.env := by rfl) (hpl : (backTo pos (starEach [b] X.env)).any (·.1) = false := by rfl) : XE X (.Call (.Name "max" pp) [a, b] [] pos) Γ M (vInt (if j > i then j else i)) :=
  xe_cb (call_max2 hcal) hm (by decide +kernel) (xa_cons ha (xa_cons hb xa_nil h2) h1) (fun G H vs s av Q k => by
    obtain ⟨v, w, rfl, rv, rw⟩ := alA2 av
    cases rv; cases rw
    exact ⟨i, j, rfl, k _ G H (.refl s) rfl⟩) hg (by decide) (by decide) h1 hpl
theorem xe_min2 {i j : Int} (hcal : X.calm = true) (hm : X.mg "min" = none) (ha : XE X a Γ M (vInt i)) (hb : XE X b Γ M (vInt j)) (hg : Gl X "min" := by rfl)
    (h1 : starEach [a, b] X.env = (false, eval a X.env) :: starEach [b] X.env := by rfl) (h2 : starEach [b] X.env = (false, eval b X.env) :: starEach [] X.env := by rfl) (hpl : (backTo pos (starEach [b] X.env)).any (·.1) = false := by rfl) : XE X (.Call (.Name "min" pp) [a, b] [] pos) Γ M (vInt (if j < i then j else i)) :=
  xe_cb (call_min2 hcal) hm (by decide +kernel) (xa_cons ha (xa_cons hb xa_nil h2) h1) (fun G H vs s av Q k => by
    obtain ⟨v, w, rfl, rv, rw⟩ := alA2 av
    cases rv; cases rw
    exact ⟨i, j, rfl, k _ G H (.refl s) rfl⟩) hg (by decide) (by decide) h1 hpl
/-- xs[drawn] -/
theorem xe_ixD (ho : XE X o Γ M p) (hk : XE X k' Γ M (vDig ps.length)) (vw : VwL M p ps) (hs : PlainIx k' := by exact fun _ _ => rfl) : XE X (.Subscript o k' pos) Γ M (vOne ps) := fun G H σ st Q w =>
  ⟨_, pe_ix ix_list pe_w pe_w hs, x2s ho hk st fun v u G' H' s' t rv ru => by
    obtain ⟨d, xs, rfl, rd, al⟩ := vw _ _ _ _ s' v rv
    obtain ⟨i, hi, rfl⟩ := ru
    have hi' : ps[i]? = some ps[i] := List.getElem?_eq_getElem hi
    obtain ⟨v, h1, h2⟩ := al.get hi'
    exact ⟨d, xs, i, v, rfl, rfl, SqL.of rd, by rw [atI_nat]; exact h1, w v G' H' t ⟨ps[i], List.getElem_mem hi, h2⟩⟩⟩
end
theorem isPot_of {e0 : Eb} {G H : Hp} {σ : L2.St} {Γ : En} {a : Addr} {i j : Nat} (s : Sta e0 G H σ Γ [(a, mLst [vInt (i : Int), vInt (j : Int)])]) (hj : j < 4294967296) : IsPot H a := by
  obtain ⟨_, ob, h1, xs, rfl, al⟩ := s.s.m (a, mLst [vInt (i : Int), vInt (j : Int)]) List.mem_cons_self
  obtain ⟨_, _, rfl, rfl, rfl⟩ := alA2 al
  exact ⟨i, j, hj, h1⟩
section
variable {P : Program} {w : World} {K : PySem.W.Frag} {mg : Str → Option Value} {base : Heap}
theorem fd_law_draw (T : Txt K mg) : Fd P w K mg base "_law_draw" 1 ["_law_pot_here", "_law_size"] [] (spP (δ := Nat) (fun n => [vPot, vInt (n : Int)]) (fun n => 0 < n ∧ n < 1073741824) (fun n => vDig n)) := by
  obtain ⟨g, fd, F⟩ := T.fn i_law_draw d_law_draw rfl
  refine ⟨_, fd, [], g rfl, F.kp, .nil, F.bindsN fun _ _ _ _ _ _ us hl => match us, hl with | [_, _], _ => rfl, ?_⟩
  have S : FnScope ["_law_pot_here", "_law_size", "_law_digit"] ["_law_pot_here", "_law_size"] (defScope s_law_draw) := ⟨rfl, rfl, rfl, by decide +kernel, rfl, by decide +kernel, by decide +kernel⟩
  refine fdpot_of (δ := Nat) (as := fun n => [V.int (n : Int)]) (ok := fun n => 0 < n ∧ n < 1073741824) (φ := fun n v => ∃ d : Nat, d < n ∧ v = V.int (d : Int)) (N := ["_law_pot_here", "_law_size", "_law_digit"]) F S (fun _ => rfl) (by decide) ?_
  intro cdv A outer s H E hr n G a i j ok hj
  obtain ⟨h1, h2⟩ : 0 < n ∧ n < 1073741824 := ok
  have vw : VwL [(a, mLst [vInt (i : Int), vInt (j : Int)])] (vVal (.ref a)) [vInt (i : Int), vInt (j : Int)] := vwL_mu List.mem_cons_self
  have fin : ∀ {z : Int}, 0 ≤ z → z < n → ∃ d : Nat, d < n ∧ V.int z = V.int (d : Int) := fun {z} ha hb => ⟨z.toNat, by omega, by rw [Int.toNat_of_nonneg ha]⟩
  by_cases h0 : 0 < i
  · refine xss_ift (XT.is (xt_gt (xe_ixL (i := 0) (xv 0) xe_int vw rfl) xe_int) (decide_eq_true (by omega))) ?_
    refine xss_ixName (M1 := []) (l := 2) (j := 0) (p := vInt ((i / n : Nat) : Int)) (q := vInt ((i : Int) % (n : Int))) rfl S.nd (XE.is (xe_divmod (T.free "divmod" rfl) (xe_ixL (i := 0) (xv 0) xe_int vw rfl) (xv 1) ⟨by omega, by omega⟩) (by rw [Int.natCast_ediv])) (xv 0) (xe_int (i := 0)) rfl ?_
    exact xss_one (xs_retS (xv 2) fun v G' H' σ st r => ⟨by rw [show v = V.int ((i : Int) % (n : Int)) from r]; exact fin (Int.emod_nonneg _ (by omega)) (Int.emod_lt_of_pos _ (by omega)), st.t, isPot_of st hj⟩)
  · refine xss_iff (XT.is (xt_gt (xe_ixL (i := 0) (xv 0) xe_int vw rfl) xe_int) (decide_eq_false (by omega))) ?_
    have hj2 : (j * 39373 + 12227) % 2147483629 < 4294967296 := by omega
    refine xss_cons (xs_ix (M1 := []) (j := 1) (p := vInt (((j * 39373 + 12227) % 2147483629 : Nat) : Int)) (XE.is (xe_mod (i := (j : Int) * 39373 + 12227) (xe_intI (T.free "int" rfl) (xe_add (xe_mul (xe_ixL (i := 1) (xv 0) xe_int vw rfl) xe_int (.inl ⟨by rw [two64]; omega, by rw [two64]; omega⟩)) xe_int)) xe_int (by decide)) (congrArg (fun z => vVal (V.int z)) (by omega))) (xv 0) (xe_int (i := 1)) rfl (fun _ _ _ s => s)) ?_
    generalize (j * 39373 + 12227) % 2147483629 = y at hj2 ⊢
    have vw2 : VwL [(a, mLst [vInt (i : Int), vInt (y : Int)])] (vVal (.ref a)) [vInt (i : Int), vInt (y : Int)] := vwL_mu List.mem_cons_self
    refine xss_one (xs_retS (p := vInt ((((y : Int) * (y : Int)) % 2147483563 / 13) % (n : Int))) (xe_mod (xe_intI (T.free "int" rfl) (xe_fdiv (xe_mod (xe_intI (T.free "int" rfl) (xe_mul (xe_ixL (i := 1) (xv 0) xe_int vw2 rfl) (xe_ixL (i := 1) (xv 0) xe_int vw2 rfl) (.inl ⟨by rw [two64]; omega, by rw [two64]; omega⟩))) xe_int (by decide)) xe_int ⟨by decide, by decide⟩)) (xv 1) (by show (0 : Int) < (n : Int); omega)) fun v G' H' σ st r => ⟨by rw [show v = V.int _ from r]; exact fin (Int.emod_nonneg _ (by omega)) (Int.emod_lt_of_pos _ (by omega)), st.t, isPot_of st hj2⟩)
theorem fd_law_pick (T : Txt K mg) : Fd P w K mg base "_law_pick" 2 ["_law_pot_here", "_law_some"] [] (spP (δ := List Pv) (fun ps => [vPot, vLst ps]) (fun ps => ps ≠ [] ∧ ps.length < 1073741824) (fun ps => vOne ps)) := by
  obtain ⟨g, fd, F⟩ := T.fn i_law_pick d_law_pick rfl
  refine ⟨_, fd, [], g rfl, F.kp, .nil, F.bindsN fun _ _ _ _ _ _ us hl => match us, hl with | [_, _], _ => rfl, ?_⟩
  have S : FnScope ["_law_pot_here", "_law_some"] ["_law_pot_here", "_law_some"] (defScope s_law_pick) := ⟨rfl, rfl, rfl, by decide +kernel, rfl, by decide +kernel, by decide +kernel⟩
  refine fd_of (N := ["_law_pot_here", "_law_some"]) F S (fun _ => rfl) (by decide) ?_
  intro cdv A outer s H E hr ps G ok
  obtain ⟨h1, h2⟩ : ps ≠ [] ∧ ps.length < 1073741824 := ok
  exact xss_one (xs_ret (xe_ixD (xv 1) (xe_call (fd_law_draw T) ps.length hr (xa_cons (xv 0) (xa_cons (xe_lenL (T.free "len" rfl) (xv 1) vwL) xa_nil)) ⟨List.length_pos_iff.mpr h1, h2⟩) vwL) fun _ _ _ t r => ⟨t, r⟩)
end
end K53
end MR_
section KFm_
set_option maxRecDepth 100000
set_option maxHeartbeats 4000000
/-! KFm: walks of unknown length; moves from list to list; joins. -/
namespace K53
open PySem PySem.Spec PyProof.Rows L2
theorem lc_coreE {X : Cx} {tg it : Expr} {Γ : En} {M : Mu} {pos : Pos} {α ι : Type} {φ : ι → Prop} {ds : ι → List α} {f g : α → Pv} {elt : Expr} {ifs : List Expr} {scope : Scope} (own : List (Str × Nat)) {b : α → Bool} (Γ' : α → En) (hc : X.calm = true) (hN : X.N.Nodup) {G H : Hp} {σ : L2.St} (s : St0 G H σ Γ M) (hi : ∀ R : It → Hp → Prop, (∀ x J G' H', φ x → Stp G H G' H' → Wk J G' (ds x) f → R J H') → wI X tg it σ H R) (ok : BlkOk X.N X.env.scope scope own)
    (hg : ∀ s H C cl fp, ∀ x, φ x → ∀ d ∈ ds x, XG (Bk X scope s H C cl fp) tg (f d) (wipeE Γ (own.map (·.2))) (Γ' d) (own.map (·.2))) (ht : ∀ s H C cl fp, ∀ x, φ x → ∀ d ∈ ds x, XTs (Bk X scope s H C cl fp) ifs (Γ' d) M (b d))
    (he : ∀ s H C cl fp, ∀ x, φ x → ∀ d ∈ ds x, b d = true → XE (Bk X scope s H C cl fp) elt (Γ' d) M (g d)) (hz : ∀ x, φ x → (ds x).length < sizeLine) (hs : ∀ x, foldedSetIterable it X.env x = pure x := by intro _; rfl) :
    ∀ Q : VK, (∀ x p ob G' H', φ x → Stp G H G' H' → H p = none → G' p = none → H' p = some ob → (mLst (((ds x).filter b).map g)).r G' ob → Q (.ref p) H') → wE X (.ListComp elt [⟨tg, it, ifs, 0⟩] scope pos) σ H Q := fun Q k => by
  refine ⟨_, pe_lc (g := fun v σ H Q => ∀ s H0 C cl fp, wG (Bk X scope s H0 C cl fp) tg v σ H Q) (tt := fun σ H Q => ∀ s H0 C cl fp, wTs (Bk X scope s H0 C cl fp) ifs σ H Q) (te := fun σ H Q => ∀ s H0 C cl fp, wE (Bk X scope s H0 C cl fp) elt σ H Q) hc hN pi_w ok
    (fun s H C cl fp => ⟨fun pins s1 σ1 H1 v u Q I r q => pg_w.run pins s1 σ1 H1 v u Q I r (q s H C cl fp)⟩) (fun s H C cl fp => ⟨fun pins s1 σ1 H1 Q I q => pts_w.run pins s1 σ1 H1 Q I (q s H C cl fp)⟩) (fun s H C cl fp => ⟨fun pins s1 σ1 H1 Q I q => pe_w.run pins s1 σ1 H1 Q I (q s H C cl fp)⟩) hs, ?_⟩
  refine hi _ fun x J G1 H1 hx t1 wk D hD => ?_
  have s1 := s.stp t1
  have hg1 : G1 D = none := t1.i.free hD
  refine ⟨fun i m H' => m = (ds x).length - i ∧ i ≤ (ds x).length ∧ ∃ G', Stp G1 H1 G' H' ∧ St0 G' H' (L2.wipe σ (own.map (·.2))) (wipeE Γ (own.map (·.2))) ((D, mLst ((((ds x).take i).filter b).map g)) :: M),
    ⟨_, rfl, Nat.zero_le _, G1, Stp.tmp t1.i hD, (s1.wipe _).add (o := mLst ((((ds x).take 0).filter b).map g)) (Stp.tmp t1.i hD) hD hg1 upd_same ⟨[], rfl, .nil⟩⟩, ?_⟩
  rintro i m H' ⟨rfl, hle, G', t', s'⟩
  rcases Nat.lt_or_ge i (ds x).length with hlt | hge
  · right
    have hd' : (ds x)[i]? = some (ds x)[i] := List.getElem?_eq_getElem hlt
    have hmem : (ds x)[i] ∈ (ds x) := List.getElem_mem hlt
    have tk := take_succ_filter (b := b) (g := g) hd'
    refine ⟨wk.go i G' H' _ t'.g s'.i hd', fun H2 => ∃ G2, Stp G1 H1 G2 H2 ∧ St0 G2 H2 (L2.wipe σ (own.map (·.2))) (wipeE Γ (own.map (·.2))) ((D, mLst ((((ds x).take (i + 1)).filter b).map g)) :: M), ?_, ?_⟩
    · rintro H2 ⟨G2, t2, s2⟩
      exact ⟨(ds x).length - (i + 1), by omega, rfl, hlt, G2, t2, s2⟩
    · intro v H2 hy
      obtain ⟨G2, t2, rv⟩ := wk.yl i G' H' _ v H2 t'.g s'.i hd' hy
      have s2 := s'.stp t2
      intro cs cH cC ccl cfp
      refine hg cs cH cC ccl cfp x hx _ hmem G2 H2 _ v s2.a s2.i rv _ fun σ3 a3 l3 o3 => ⟨(wipe_ext l3 o3).trans (wipe_wipe σ), ?_⟩
      have s3 : St0 G2 H2 σ3 (Γ' (ds x)[i]) ((D, mLst ((((ds x).take i).filter b).map g)) :: M) := ⟨s2.i, a3, s2.nd, s2.m⟩
      intro cs cH cC ccl cfp
      refine ht cs cH cC ccl cfp x hx _ hmem G2 H2 σ3 (s3.sub (List.sublist_cons_self _ _)) _ fun G4 H4 t4 => ?_
      cases hb : b (ds x)[i] with
      | false =>
        rw [if_neg (by simp)]
        rw [hb, if_neg (by simp), List.append_nil] at tk
        exact ⟨G4, (t'.trans t2).trans t4, by rw [tk]; exact (s2.stp t4)⟩
      | true =>
        rw [if_pos rfl]
        rw [hb, if_pos rfl] at tk
        intro cs cH cC ccl cfp
        refine he cs cH cC ccl cfp x hx _ hmem hb G4 H4 σ3 ((s3.stp t4).sub (List.sublist_cons_self _ _)) _ fun y G5 H5 t5 ry => ?_
        have s5 := (s2.stp t4).stp t5
        obtain ⟨hG5, ob, hH5, acc, rfl, al⟩ := s5.m (D, _) List.mem_cons_self
        refine ⟨acc, hH5, ?_, G5, (((t'.trans t2).trans t4).trans t5).wr hD hG5, ?_⟩
        · rw [al.len, List.length_map]
          exact Nat.lt_of_le_of_lt (Nat.le_trans (List.length_filter_le _ _) (by rw [List.length_take]; exact Nat.min_le_right _ _)) (hz x hx)
        · refine s5.write ⟨_, rfl, ?_⟩
          rw [tk]
          exact al.app (.cons ry .nil)
  · left
    have e : i = (ds x).length := Nat.le_antisymm hle hge
    subst e
    obtain ⟨hG, ob, hH, r⟩ := s'.m (D, _) List.mem_cons_self
    rw [List.take_length] at r
    exact ⟨wk.st G' H' t'.g s'.i, k x D ob G' H' hx (t1.trans t') (t1.h.free hD) hG hH r⟩

theorem AlA.erase {G : Hp} : ∀ {vs : List V} {ps : List Pv} (i : Nat), AlA G vs ps → AlA G (vs.eraseIdx i) (ps.eraseIdx i)
  | _, _, _, .nil => .nil
  | _, _, 0, .cons _ t => t
  | _, _, i + 1, .cons h1 t => .cons h1 (t.erase i)
section
variable {X : Cx} {e a b c o o2 k' it tg : Expr} {es : List Expr} {Γ : En} {M : Mu} {p q z : Pv} {ps qs : List Pv} {x y : V} {pos pp px py pt pt2 apos bpos cpos dpos : Pos} {e0 : Eb} {P : Pst} {kp : List (Str × Pv)} {M1 M2 : Mu} {mo mo2 : Mo} {i j kt k2 : Nat} {n m : Str} {rest : List Stmt}
theorem xi_rangeD {nn : Nat} {G H : Hp} {σ : L2.St} (s : St0 G H σ Γ M) (hm : X.mg "range" = none) (h : XE X e Γ M (vDig nn)) (hn : nn < 1000000) (hg : Gl X "range" := by rfl) (hs : starEach [e] X.env = [(false, eval e X.env)] := by rfl) :
    ∀ R : It → Hp → Prop, (∀ (d : Nat) J G' H', d < nn → Stp G H G' H' → Wk J G' (List.range d) (fun i : Nat => vInt (i : Int)) → R J H') → wI X tg (.Call (.Name "range" pp) [e] [] pos) σ H R := fun R k =>
  ⟨_, pi_range1 hg hm (pa_cons pe_w pa_nil (by rw [hs]; rfl)) hs, h G H σ s _ fun v G' H' t r => by
    obtain ⟨d, hd, rfl⟩ := r
    have hp : (2:Int)^62 = 4611686018427387904 := by decide
    have hb : (d : Int) < 2^62 := by rw [hp]; omega
    refine ⟨(d : Int), rfl, by omega, hb, k d _ G' H' hd t ⟨fun i G H x sg si hx => ?_, fun i G H x y H2 sg si hx ⟨e1, e2⟩ => ?_, fun G H sg si => ?_⟩⟩
    · have := (List.getElem?_eq_some_iff.mp hx).1
      rw [List.length_range] at this
      show i < (d : Int).toNat
      omega
    · subst e1
      obtain ⟨hi, e⟩ := List.getElem?_eq_some_iff.mp hx
      rw [List.getElem_range] at e
      subst e
      refine ⟨G, .refl si, ?_⟩
      show y = _
      rw [e2]; simp
    · show (d : Int).toNat ≤ (List.range d).length
      rw [List.length_range]; omega⟩
/-- x, y = two new objects -/
theorem xss_par2NN (hc : X.calm = true) (hN : X.N.Nodup) (ha : XN X a Γ M mo) (hb : ∀ a1, XN X b Γ ((a1, mo) :: M) mo2) (k : ∀ a1 a2, XSs X e0 rest ((Γ.set i (some (vVal (.ref a1)))).set j (some (vVal (.ref a2)))) ((a2, mo2) :: (a1, mo) :: M) P) (hij : i ≠ j := by decide) (hi : X.N[i]? = some n := by rfl) (hj : X.N[j]? = some m := by rfl)
    (hx : X.env.scope.names.lookup n = some .local := by rfl) (hy : X.env.scope.names.lookup m = some .local := by rfl)
    (hw : swappedStores [.Tuple [.Name n px, .Name m py] kt pt] (.Tuple [a, b] k2 pt2) X.env = pure (some [n, m]) := by rfl) (hs : swapsWithSole [.Tuple [.Name n px, .Name m py] kt pt] (.Tuple [a, b] k2 pt2) pos.line X.env = pure false := by rfl)
    (hs1 : starEach [a, b] X.env = (false, eval a X.env) :: starEach [b] X.env := by rfl) (hs2 : starEach [b] X.env = (false, eval b X.env) :: starEach [] X.env := by rfl) :
    XSs X e0 (.Assign [.Tuple [.Name n px, .Name m py] kt pt] (.Tuple [a, b] k2 pt2) pos :: rest) Γ M P := fun G H σ s D f =>
  ⟨_, pss_cons (ps_par hc hN hi hj hij hx hy (pa_cons pe_w (pa_cons pe_w pa_nil hs2) hs1) hw hs) pss_w, ha G H σ s.s _ fun a1 ob1 G1 H1 t1 h1 h2 h3 h4 => by
    have s1 := s.add t1 h1 h2 h3 h4
    refine hb a1 G1 H1 σ s1.s _ fun a2 ob2 G2 H2 t2 g1 g2 g3 g4 => ?_
    have s2 := s1.add t2 g1 g2 g3 g4
    exact ⟨_, _, rfl, k a1 a2 G2 H2 _ ((s2.set (p := vVal (.ref a1)) rfl).set (p := vVal (.ref a2)) rfl) D f⟩⟩
/-- o.append(o2.pop(drawn)) -/
theorem xs_appendPop {a1 a2 : Addr} (ho : XE X o Γ ((a2, mLst ps) :: (a1, mLst qs) :: M) (vVal (.ref a2))) (ho2 : XE X o2 Γ ((a2, mLst ps) :: (a1, mLst qs) :: M) (vVal (.ref a1))) (hk : XE X k' Γ ((a2, mLst ps) :: (a1, mLst qs) :: M) (vDig qs.length))
    (kq : ∀ d (hd : d < qs.length) G H σ, Sta e0 G H σ Γ ((a2, mLst (ps ++ [qs[d]])) :: (a1, mLst (qs.eraseIdx d)) :: M) → P.nx G H σ) (hz : ps.length + qs.length < 1000000)
    (hbase : attributeBase o "append" X.env (eval o X.env) = eval o X.env := by rfl)
    (hfew : ((backTo cpos (starEach [.Call (.Attribute o2 "pop" bpos) [k'] [] dpos] X.env)).all (fun x => !x.1) && (backToKw cpos (keywordEach [] X.env)).all (fun x => x.1.isSome) && decide (([.Call (.Attribute o2 "pop" bpos) [k'] [] dpos] : List Expr).length + ([] : List Keyword).length + (if ([] : List Keyword).isEmpty then 0 else 1) < 30)) = true := by rfl)
    (hline : (apos.endLine == cpos.line) = true := by rfl) (hst : starEach [.Call (.Attribute o2 "pop" bpos) [k'] [] dpos] X.env = (false, eval (.Call (.Attribute o2 "pop" bpos) [k'] [] dpos) X.env) :: starEach [] X.env := by rfl) (hs : swapsWith (.Call (.Attribute o "append" apos) [.Call (.Attribute o2 "pop" bpos) [k'] [] dpos] [] cpos) none pos.line X.env = pure false := by rfl)
    (hbase2 : attributeBase o2 "pop" X.env (eval o2 X.env) = eval o2 X.env := by rfl)
    (hfew2 : ((backTo dpos (starEach [k'] X.env)).all (fun x => !x.1) && (backToKw dpos (keywordEach [] X.env)).all (fun x => x.1.isSome) && decide (([k'] : List Expr).length + ([] : List Keyword).length + (if ([] : List Keyword).isEmpty then 0 else 1) < 30)) = true := by rfl)
    (hline2 : (bpos.endLine == dpos.line) = true := by rfl) (hst2 : starEach [k'] X.env = (false, eval k' X.env) :: starEach [] X.env := by rfl) :
    XS X e0 (.Expr (.Call (.Attribute o "append" apos) [.Call (.Attribute o2 "pop" bpos) [k'] [] dpos] [] cpos) pos) Γ ((a2, mLst ps) :: (a1, mLst qs) :: M) P := fun G H σ s D f =>
  ⟨_, ps_expr (pe_bm PySem.F.plainAttrs_list PySem.F.slot_list_append PySem.F.type_list_append mt_append pe_w (pa_cons (pe_bm PySem.F.plainAttrs_list PySem.F.slot_list_pop PySem.F.type_list_pop mt_popAt pe_w (pa_cons pe_w pa_nil hst2) hbase2 hfew2 hline2 hst2 rfl) pa_nil hst) hbase hfew hline hst rfl) hs, ho G H σ s.s _ fun v G1 H1 t1 r1 => by
    obtain rfl : v = .ref a2 := r1
    have s1 := s.stp t1
    obtain ⟨hg, ob, hh, xs, rfl, al⟩ := s1.s.m (a2, mLst ps) (by simp)
    refine ⟨.inl ⟨rfl, xs, SqL.of hh⟩, ho2 G1 H1 σ s1.s _ fun v G2 H2 t2 r2 => ?_⟩
    obtain rfl : v = .ref a1 := r2
    have s2 := s1.stp t2
    obtain ⟨hg, ob, hh2, ys, rfl, al2⟩ := s2.s.m (a1, mLst qs) (by simp)
    refine ⟨.inl ⟨rfl, ys, SqL.of hh2⟩, hk G2 H2 σ s2.s _ fun v G3 H3 t3 r3 => ?_⟩
    obtain ⟨d, hd, rfl⟩ := r3
    have s3 := s2.stp t3
    obtain ⟨hg, ob, hh3, ys, rfl, al3⟩ := s3.s.m (a1, mLst qs) (by simp)
    have hd' : d < ys.length := by rw [al3.len]; exact hd
    have hy : ys[d]? = some ys[d] := List.getElem?_eq_getElem hd'
    obtain ⟨p, hp1, hp2⟩ := al3.getV hy
    have hp : p = qs[d] := by rw [List.getElem?_eq_getElem hd] at hp1; exact (Option.some.inj hp1).symm
    subst hp
    have ix : seqIndex? (d : Int) ys.length = some d := by rw [seqIndex_of (by omega) (by omega)]; simp
    have hp : (2:Int)^63 = 9223372036854775808 := by decide
    have hb1 : -(2:Int)^63 ≤ (d : Int) := by rw [hp]; omega
    have hb2 : (d : Int) < (2:Int)^63 := by rw [hp]; omega
    refine ⟨a1, ys, (d : Int), d, ys[d], rfl, rfl, hh3, hb1, hb2, ix, hy, ?_⟩
    have s4 := Sta.write (M1 := [(a2, mLst ps)]) (o' := mLst (qs.eraseIdx d)) s3 (ob := .lst (ys.eraseIdx d)) ⟨_, rfl, al3.erase d⟩
    obtain ⟨hg, ob, hh4, xs, rfl, al4⟩ := s4.s.m (a2, mLst ps) (by simp)
    exact ⟨a2, xs, ys[d], rfl, rfl, hh4, by rw [al4.len, sizeLine_eq]; omega, f.nx _ _ _ (kq d hd _ _ _ (Sta.write (M1 := []) s4 ⟨_, rfl, al4.app (.cons hp2 .nil)⟩))⟩⟩
end
end K53
end KFm_
section MS_
set_option maxRecDepth 100000
set_option maxHeartbeats 4000000
/-! MS: mixed lists. -/
namespace K53
open PySem PySem.Spec PyProof.Rows L2
theorem perm_erase {α : Type} : ∀ {l : List α} {i : Nat} (h : i < l.length), (l[i] :: l.eraseIdx i).Perm l
  | a :: l, 0, _ => .refl _
  | a :: l, i + 1, h => by
    have h' : i < l.length := by simpa using h
    exact (List.Perm.swap _ _ _).trans ((perm_erase h').cons a)
theorem XE.ex {X : Cx} {e : Expr} {Γ : En} {M : Mu} {ι : Type} {φ : ι → Prop} {g : ι → Pv} (x : ι) (hx : φ x) (h : XE X e Γ M (g x)) : XE X e Γ M (vEx φ g) := h.weak fun G v r => ⟨x, hx, r⟩
theorem vOneEx {ps : List Pv} (G : Hp) (v : V) (h : (vOne ps).r G v) : ∃ x : {p // p ∈ ps}, x.1.r G v := by
  obtain ⟨p, hp, r⟩ := h
  exact ⟨⟨p, hp⟩, r⟩
section
variable {P : Program} {w : World} {K : PySem.W.Frag} {mg : Str → Option Value} {base : Heap}
theorem fd_law_mixed (T : Txt K mg) : Fd P w K mg base "_law_mixed" 2 ["_law_pot_here", "_law_some"] [] (spP (δ := List Pv) (fun ps => [vPot, vLst ps]) (fun ps => ps.length < 1000) (fun ps => vEx (fun qs => qs.Perm ps) vLst)) := by
  obtain ⟨g, fd, F⟩ := T.fn i_law_mixed d_law_mixed rfl
  refine ⟨_, fd, [], g rfl, F.kp, .nil, F.bindsN fun _ _ _ _ _ _ us hl => match us, hl with | [_, _], _ => rfl, ?_⟩
  have S : FnScope ["_law_pot_here", "_law_some", "_law_left", "_law_found", "_law_turn"] ["_law_pot_here", "_law_some"] (defScope s_law_mixed) := ⟨rfl, rfl, rfl, by decide +kernel, rfl, by decide +kernel, by decide +kernel⟩
  refine fd_of (N := ["_law_pot_here", "_law_some", "_law_left", "_law_found", "_law_turn"]) F S (fun _ => rfl) (by decide) ?_
  intro cdv A outer s H E hr ps G ok
  have ok : ps.length < 1000 := ok
  have p62 : (2:Int)^62 = 4611686018427387904 := by decide
  have hb62 : ((ps.length : Nat) : Int) < 2^62 := by rw [p62]; omega
  refine xss_par2NN (i := 2) (j := 3) rfl S.nd (xn_listL (T.free "list" rfl) (xv 1) vwL) (fun _ => xn_lst xa_nil) (fun a1 a2 => ?_)
  let Ga : Bool → En := fun b => [some vPot, some (vLst ps), some (vVal (.ref a1)), some (vVal (.ref a2)), none]
  let Ms : List Pv × List Pv → Mu := fun x => [(a2, mLst x.2), (a1, mLst x.1)]
  refine xss_consI (M := Ms (ps, [])) (fun x : List Pv × List Pv => Ga true) (fun x => Ms x) (fun x => x.2.Perm ps) (xs_for (ds := List.range ps.length) (f := fun i : Nat => vInt (i : Int)) (fun x : List Pv × List Pv => Ga true) (fun x => Ms x) (fun i x => (x.2 ++ x.1).Perm ps ∧ x.2.length = i) rfl
    (xi_range (T.free "range" rfl) (xe_lenL (T.free "len" rfl) (xv 1) vwL) hb62) (fun _ _ _ s => ⟨(ps, []), ⟨.refl _, rfl⟩, s⟩) (fun i x y B hx hy => ?_) (fun G H σ ⟨x, hx, s⟩ => ?_)) ?_
  · obtain ⟨ls, fs⟩ := y
    obtain ⟨h1, h2⟩ := hy
    have h1 : (fs ++ ls).Perm ps := h1
    have h2 : fs.length = i := h2
    have hi : i < ps.length := by have := (List.getElem?_eq_some_iff.mp hx).1; simpa using this
    have hl : fs.length + ls.length = ps.length := by rw [← List.length_append]; exact h1.length_eq
    refine ⟨_, _, xg_name 4 S.nd, ?_⟩
    refine xss_one (xs_appendPop (a1 := a1) (a2 := a2) (ps := fs) (qs := ls) (xv 3) (xv 2) (xe_call (fd_law_draw T) ls.length hr (xa_cons (xv 0) (xa_cons (xe_lenL (T.free "len" rfl) (xv 2) (vwL_mu (by simp))) xa_nil)) ⟨by omega, by omega⟩) (fun d hd G H σ s => ⟨(ls.eraseIdx d, fs ++ [ls[d]]), ⟨?_, by simp [h2]⟩, s.fg (by repeat (first | exact fg_nil | apply fg_keep | apply fg_drop))⟩) (by omega))
    show ((fs ++ [ls[d]]) ++ ls.eraseIdx d).Perm ps
    rw [List.append_assoc]
    exact ((perm_erase hd).append_left fs).trans h1
  · obtain ⟨ls, fs⟩ := x
    obtain ⟨h1, h2⟩ := hx
    have h1 : (fs ++ ls).Perm ps := h1
    have h2 : fs.length = (List.range ps.length).length := h2
    rw [List.length_range] at h2
    have hl : fs.length + ls.length = ps.length := by rw [← List.length_append]; exact h1.length_eq
    have : ls = [] := List.length_eq_zero_iff.mp (by omega)
    subst this
    rw [List.append_nil] at h1
    exact ⟨(_, fs), h1, s⟩
  · rintro ⟨ls, fs⟩ hx
    have hx : fs.Perm ps := hx
    exact xss_pub (M1 := []) (i := 3) (a := a2) (p := vLst fs) rfl (fun G u r e => mLst_lst r e) (xss_one (xs_ret (XE.ex fs hx (xv 3)) fun _ _ _ t r => ⟨t, r⟩))
end
end K53
end MS_
section MT_
set_option maxRecDepth 100000
set_option maxHeartbeats 4000000
/-! MT: drawn ends. -/
namespace K53
open PySem PySem.Spec PyProof.Rows L2
section
variable {X : Cx} {e a b : Expr} {es : List Expr} {Γ : En} {M : Mu} {p q : Pv} {pos : Pos}
/-- a known number and a drawn one -/
theorem xe_addD {i : Int} {n : Nat} (ha : XE X a Γ M (vInt i)) (hb : XE X b Γ M (vDig n)) : XE X (.BinOp a .Add b pos) Γ M (vEx (fun d : Nat => d < n) fun d => vInt (i + (d : Int))) :=
  xe_opG op_add ha hb fun G H v w s rv rw Q k => by
    obtain ⟨d, hd, rfl⟩ := rw
    obtain rfl : v = .int i := rv
    exact ⟨_, _, rfl, rfl, k _ G H (.refl s) ⟨d, hd, rfl⟩⟩
theorem vTupEx {ι : Type} {φ : ι → Prop} {g : ι → Pv} (G : Hp) (v : V) (h : (vTup [p, vEx φ g]).r G v) : (vEx φ fun x => vTup [p, g x]).r G v := by
  obtain ⟨a, xs, rfl, h1, h2⟩ := h
  obtain ⟨v, w, rfl, rv, x, hx, rw⟩ := alA2 h2
  exact ⟨x, hx, a, _, rfl, h1, .cons rv (.cons rw .nil)⟩
end
/-- the ends that the law draws -/
structure EndOk (m : Mn) : Prop where
  l : m.1 ≤ 2
  m : ∀ q, m.2 = some q → m.1 ≤ q ∧ q ≤ 4
def vEnd (m : Mn) : Pv := vTup [vInt (m.1 : Int), vOpt m.2]
section
variable {P : Program} {w : World} {K : PySem.W.Frag} {mg : Str → Option Value} {base : Heap}
theorem fd_law_ends (T : Txt K mg) : Fd P w K mg base "_law_ends" 2 ["_law_pot_here", "_law_great"] [] (spP (δ := Unit) (fun _ => [vPot, vInt 4]) (fun _ => True) (fun _ => vEx EndOk vEnd)) := by
  obtain ⟨g, fd, F⟩ := T.fn i_law_ends d_law_ends rfl
  refine ⟨_, fd, [], g rfl, F.kp, .nil, F.bindsN fun _ _ _ _ _ _ us hl => match us, hl with | [_, _], _ => rfl, ?_⟩
  have S : FnScope ["_law_pot_here", "_law_great", "_law_way", "_law_small"] ["_law_pot_here", "_law_great"] (defScope s_law_ends) := ⟨rfl, rfl, rfl, by decide +kernel, rfl, by decide +kernel, by decide +kernel⟩
  refine fd_of (N := ["_law_pot_here", "_law_great", "_law_way", "_law_small"]) F S (fun _ => rfl) (by decide) ?_
  intro cdv A outer s H E hr d G ok
  refine xss_par (i := 2) (j := 3) (p := vDig 6) (q := vDig 3) rfl S.nd (xe_call (fd_law_draw T) 6 hr (xa_cons (xv 0) (xa_cons xe_int xa_nil)) ⟨by decide, by decide⟩) (xe_call (fd_law_draw T) 3 hr (xa_cons (xv 0) (xa_cons xe_int xa_nil)) ⟨by decide, by decide⟩) ?_
  refine xss_open (i := 2) rfl vEx_open ?_
  rintro ⟨y, hy⟩
  refine xss_open (i := 3) rfl vEx_open ?_
  rintro ⟨z, hz⟩
  have hz : z < 3 := hz
  by_cases h0 : y = 0
  · subst h0
    refine xss_ift (XT.is (xt_eq (xv 2) xe_int) (decide_eq_true rfl)) (xss_one (xs_ret (XE.ex (g := vEnd) (z, none) ⟨by omega, fun q h => (nomatch h)⟩ (xe_tup (xa_cons (xv 3) (xa_cons xe_non xa_nil)))) fun _ _ _ t r => ⟨t, r⟩))
  refine xss_iff (XT.is (xt_eq (xv 2) xe_int) (decide_eq_false fun h => h0 (by have h : (y : Int) = 0 := V.int.inj h; omega))) ?_
  by_cases h1 : y = 1
  · subst h1
    have e : (1 : Int) + (z : Int) / 2 = ((1 + z / 2 : Nat) : Int) := by omega
    refine xss_ift (XT.is (xt_eq (xv 2) xe_int) (decide_eq_true rfl)) (xss_one (xs_ret (XE.ex (g := vEnd) (1 + z / 2, some (1 + z / 2)) ⟨by show 1 + z / 2 ≤ 2; omega, fun q h => by cases h; exact ⟨Nat.le_refl _, by omega⟩⟩ (xe_tup (xa_cons (XE.is (xe_add xe_int (xe_fdiv (xv 3) xe_int ⟨by decide, by decide⟩)) (congrArg (fun z => vInt z) e)) (xa_cons (XE.is (xe_add xe_int (xe_fdiv (xv 3) xe_int ⟨by decide, by decide⟩)) (congrArg (fun z => vInt z) e)) xa_nil)))) fun _ _ _ t r => ⟨t, r⟩))
  refine xss_iff (XT.is (xt_eq (xv 2) xe_int) (decide_eq_false fun h => h1 (by have h : (y : Int) = 1 := V.int.inj h; omega))) ?_
  by_cases h2 : y = 2
  · subst h2
    refine xss_ift (XT.is (xt_eq (xv 2) xe_int) (decide_eq_true rfl)) (xss_one (xs_ret ((xe_tup (xa_cons xe_int (xa_cons (xe_call (fd_law_draw T) 5 hr (xa_cons (xv 0) (xa_cons (XE.is (xe_add (xv 1) xe_int) rfl) xa_nil)) ⟨by decide, by decide⟩) xa_nil))).weak fun G v r => ?_) fun _ _ _ t r => ⟨t, r⟩))
    obtain ⟨d, hd, r⟩ := vTupEx G v r
    exact ⟨(0, some d), ⟨Nat.zero_le _, fun q h => by cases h; exact ⟨Nat.zero_le _, by omega⟩⟩, r⟩
  refine xss_iff (XT.is (xt_eq (xv 2) xe_int) (decide_eq_false fun h => h2 (by have h : (y : Int) = 2 := V.int.inj h; omega))) ?_
  have e5 : (4 : Int) - (z : Int) + 1 = ((5 - z : Nat) : Int) := by omega
  refine xss_one (xs_ret ((xe_tup (xa_cons (xv 3) (xa_cons (xe_addD (xv 3) (xe_call (fd_law_draw T) (5 - z) hr (xa_cons (xv 0) (xa_cons (XE.is (xe_add (xe_sub (xv 1) (xv 3)) xe_int) (congrArg (fun z => vInt z) e5)) xa_nil)) ⟨by omega, by omega⟩)) xa_nil))).weak fun G v r => ?_) fun _ _ _ t r => ⟨t, r⟩)
  obtain ⟨d, hd, r⟩ := vTupEx G v r
  have hd : d < 5 - z := hd
  refine ⟨(z, some (z + d)), ⟨by show z ≤ 2; omega, fun q h => by cases h; exact ⟨by show z ≤ z + d; omega, by omega⟩⟩, ?_⟩
  have r : (vTup [vInt (z : Int), vInt ((z : Int) + (d : Int))]).r G v := r
  rw [show (z : Int) + (d : Int) = ((z + d : Nat) : Int) by omega] at r
  exact r
end
end K53
end MT_
section KFn_
set_option maxRecDepth 100000
set_option maxHeartbeats 4000000
/-! KFn: drawn texts. -/
namespace K53
open PySem PySem.Spec PyProof.Rows L2 TL
theorem joinL_nil : ∀ l : List (List Nat), joinL [] l = l.flatten
  | [] => rfl
  | [p] => by simp [joinL]
  | p :: q :: r => by
    show p ++ ([] ++ joinL [] (q :: r)) = _
    rw [joinL_nil (q :: r)]; simp
/-- a text of the letters cs, fewer than n -/
def LetS (cs : List Nat) (n : Nat) (s : Str) : Prop := s.cps.toList.length < n ∧ ∀ c ∈ s.cps.toList, c ∈ cs
theorem letS_join {cs : List Nat} {n : Nat} {ys : List Str} (hl : ys.length < n) (h : ∀ y ∈ ys, ∃ c ∈ cs, y = ⟨#[c]⟩) : LetS cs n (Txt.join ⟨#[]⟩ ys) ∧ (ys.map (·.length)).sum ≤ ys.length := by
  have e : (Txt.join ⟨#[]⟩ ys).cps.toList = (ys.map tl).flatten := by
    rw [join_eq]
    exact (tl_join ⟨#[]⟩ ys).trans (joinL_nil _)
  have key : ∀ zs : List Str, (∀ y ∈ zs, ∃ c ∈ cs, y = (⟨#[c]⟩ : Str)) → (zs.map tl).flatten.length = zs.length ∧ (∀ c ∈ (zs.map tl).flatten, c ∈ cs) ∧ (zs.map (·.length)).sum = zs.length := by
    intro zs
    induction zs with
    | nil => exact fun _ => ⟨rfl, fun c h => by simp at h, rfl⟩
    | cons y r ih =>
      intro h
      obtain ⟨c, hc, rfl⟩ := h y List.mem_cons_self
      obtain ⟨h1, h2, h3⟩ := ih fun z hz => h z (List.mem_cons_of_mem _ hz)
      refine ⟨?_, ?_, ?_⟩
      · rw [List.map_cons, List.flatten_cons, List.length_append, h1]
        show 1 + _ = _
        rw [List.length_cons]; omega
      · intro d hd
        rw [List.map_cons, List.flatten_cons, List.mem_append] at hd
        rcases hd with hd | hd
        · have hd : d ∈ [c] := hd
          rw [List.mem_singleton] at hd
          subst hd; exact hc
        · exact h2 d hd
      · rw [List.map_cons, List.sum_cons, h3]
        show 1 + _ = _
        rw [List.length_cons]; omega
  obtain ⟨h1, h2, h3⟩ := key ys h
  exact ⟨⟨by rw [e, h1]; exact hl, by rw [e]; exact h2⟩, by rw [h3]; exact Nat.le_refl _⟩
theorem alA_letters {G : Hp} {cs : List Nat} : ∀ {d : Nat} {vs : List V}, AlA G vs (List.replicate d (vOne (cs.map fun c => vStr ⟨#[c]⟩))) → ∃ ys : List Str, vs = ys.map V.str ∧ ys.length = d ∧ ∀ y ∈ ys, ∃ c ∈ cs, y = ⟨#[c]⟩
  | 0, _, .nil => ⟨[], rfl, rfl, fun _ h => by simp at h⟩
  | d + 1, _, .cons h t => by
    obtain ⟨ys, rfl, h2, h3⟩ := alA_letters (d := d) t
    obtain ⟨p, hp, r⟩ := h
    obtain ⟨c, hc, rfl⟩ := List.mem_map.mp hp
    have r : _ = V.str ⟨#[c]⟩ := r
    subst r
    refine ⟨⟨#[c]⟩ :: ys, rfl, by simp [h2], fun y hy => ?_⟩
    rcases List.mem_cons.mp hy with rfl | hy
    · exact ⟨c, hc, rfl⟩
    · exact h3 y hy
theorem stp_pub {G H G' H' : Hp} {a : Addr} {ob : HO} (t : Stp G H G' H') (ha : H a = none) (hg : G' a = none) (hh : H' a = some ob) : Stp G H (upd G' a ob) H' := ⟨t.g.trans (same_new hg), t.h, fun b u e => by
    by_cases z : b = a
    · subst z; rw [upd_same] at e; cases e; exact hh
    · rw [upd_ne z] at e; exact t.i _ _ e, fun b u e n => by
    by_cases z : b = a
    · subst z; exact ha
    · rw [upd_ne z] at e; exact t.n _ _ e n⟩
theorem perm_map {α β : Type} {f : α → β} {qs m : List β} (h : qs.Perm m) : ∀ {l : List α}, m = l.map f → ∃ l' : List α, l'.Perm l ∧ qs = l'.map f := by
  induction h with
  | nil => intro l e; exact ⟨l, .refl _, e⟩
  | cons x _ ih =>
    intro l e
    match l, e with
    | a :: l, e =>
      rw [List.map_cons] at e
      injection e with e1 e2
      obtain ⟨l', h1, h2⟩ := ih e2
      exact ⟨a :: l', h1.cons a, by rw [List.map_cons, h2, e1]⟩
  | swap x y r =>
    intro l e
    match l, e with
    | a :: b :: l, e =>
      rw [List.map_cons, List.map_cons] at e
      injection e with e1 e2
      injection e2 with e2 e3
      exact ⟨b :: a :: l, List.Perm.swap _ _ _, by rw [List.map_cons, List.map_cons, e1, e2, e3]⟩
  | trans _ _ ih1 ih2 =>
    intro l e
    obtain ⟨l2, h1, h2⟩ := ih2 e
    obtain ⟨l3, h3, h4⟩ := ih1 h2
    exact ⟨l3, h3.trans h1, h4⟩
section
variable {X : Cx} {e a b o : Expr} {es : List Expr} {Γ : En} {M : Mu} {p q : Pv} {pos apos : Pos} {cs : List Nat} {n : Nat}
theorem xe_joinD (ho : XE X o Γ M (vStr ⟨#[]⟩)) (he : XE X e Γ M (vEx (fun d : Nat => d < n) fun d => vLst (List.replicate d (vOne (cs.map fun c => vStr ⟨#[c]⟩))))) (hn : n < 1000)
    (hs : starEach [e] X.env = [(false, eval e X.env)] := by rfl) (hbase : attributeBase o "join" X.env (eval o X.env) = eval o X.env := by rfl) (hline : (apos.endLine == pos.line) = true := by rfl) : XE X (.Call (.Attribute o "join" apos) [e] [] pos) Γ M (vEx (LetS cs n) vStr) := fun G H σ st Q k =>
  ⟨_, pe_join pe_w pe_w hs hbase hline, ho G H σ st _ fun v G1 H1 t1 r1 => by
    obtain rfl : v = .str ⟨#[]⟩ := r1
    refine ⟨⟨_, rfl⟩, he G1 H1 σ (st.stp t1) _ fun u G2 H2 t2 r2 => ?_⟩
    obtain ⟨d, hd, a, xs, rfl, h1, h2⟩ := r2
    have hd : d < n := hd
    obtain ⟨ys, rfl, h3, h4⟩ := alA_letters h2
    obtain ⟨h5, h6⟩ := letS_join (n := n) (by omega) h4
    refine ⟨⟨#[]⟩, a, ys, rfl, rfl, .inl (SqL.of (t2.i _ _ h1)), ?_, k _ G2 H2 (t1.trans t2) ⟨_, h5, rfl⟩⟩
    have : (⟨#[]⟩ : Str).length = 0 := rfl
    rw [this]; omega⟩

/-- [elt for tg in range(drawn)] -/
theorem xe_lcD {tg elt : Expr} {scope : Scope} {pp pos' : Pos} (own : List (Str × Nat)) (Γ' : Nat → En) (hc : X.calm = true) (hN : X.N.Nodup) (hm : X.mg "range" = none) (h : XE X e Γ M (vDig n)) (hn : n < 1000) (ok : BlkOk X.N X.env.scope scope own)
    (hg : ∀ s H C cl fp, ∀ d < n, XG (Bk X scope s H C cl fp) tg (vInt (d : Int)) (wipeE Γ (own.map (·.2))) (Γ' d) (own.map (·.2)))
    (he : ∀ s H C cl fp, ∀ d < n, XE (Bk X scope s H C cl fp) elt (Γ' d) M q) (hgl : Gl X "range" := by rfl) (hs : starEach [e] X.env = [(false, eval e X.env)] := by rfl)
    (hs' : ∀ x, foldedSetIterable (.Call (.Name "range" pp) [e] [] pos') X.env x = pure x := by intro _; rfl) :
    XE X (.ListComp elt [⟨tg, .Call (.Name "range" pp) [e] [] pos', [], 0⟩] scope pos) Γ M (vEx (fun d : Nat => d < n) fun d => vLst (List.replicate d q)) := fun G H σ s Q k => by
  refine lc_coreE (ι := Nat) (φ := fun d => d < n) (ds := fun d => List.range d) (f := fun i : Nat => vInt (i : Int)) (g := fun _ => q) (b := fun _ => true) own Γ' hc hN s (fun R hR => xi_rangeD s hm h (by omega) hgl hs R hR) ok
    (fun s H C cl fp x hx d hd => hg s H C cl fp d (by have := List.mem_range.mp hd; omega)) (fun _ _ _ _ _ _ _ _ _ => xts_nil) (fun s H C cl fp x hx d hd _ => he s H C cl fp d (by have := List.mem_range.mp hd; omega)) (fun x hx => by rw [List.length_range, sizeLine_eq]; omega) hs' Q fun x p ob G' H' hx t hp hg' hh r => ?_
  refine k (.ref p) (upd G' p ob) H' (stp_pub t hp hg' hh) ⟨x, hx, mLst_lst (Mo.mono _ (le_same (same_new hg')) ?_) upd_same⟩
  have e : ((List.range x).filter fun _ => true).map (fun _ : Nat => q) = List.replicate x q := by
    rw [List.filter_eq_self.mpr fun _ _ => rfl, List.map_const', List.length_range]
  rw [e] at r
  exact r
end
end K53
end KFn_
section MU_
set_option maxRecDepth 100000
set_option maxHeartbeats 4000000
/-! MU: drawn names. -/
namespace K53
open PySem PySem.Spec PyProof.Rows L2
def FAR : Str := "cdefghijklmn"
theorem far_at {i : Nat} (h : i < 12) : atI FAR.cps.toList (i : Int) = some (99 + i) := by
  rw [atI_nat]
  match i, h with
  | 0, _ => decide +kernel
  | 1, _ => decide +kernel
  | 2, _ => decide +kernel
  | 3, _ => decide +kernel
  | 4, _ => decide +kernel
  | 5, _ => decide +kernel
  | 6, _ => decide +kernel
  | 7, _ => decide +kernel
  | 8, _ => decide +kernel
  | 9, _ => decide +kernel
  | 10, _ => decide +kernel
  | 11, _ => decide +kernel
/-- the names drawn so far -/
def NmI : List Str → Prop := fun ss => ∀ i s, ss[i]? = some s → ∃ t : Str, LetS [97, 98, 122] 4 t ∧ s = t ++ (⟨#[99 + i]⟩ : Str)
structure NmOk (lo hi : Nat) (ss : List Str) : Prop where
  nd : ss.Nodup
  ok : ∀ s ∈ ss, NameOk s
  lo : lo ≤ ss.length
  hi : ss.length < hi
theorem nmI_ok {ss : List Str} {lo hi : Nat} (h : NmI ss) (hl : lo ≤ ss.length) (hh : ss.length < hi) (h6 : hi ≤ 6) : NmOk lo hi ss := by
  refine ⟨?_, fun s hs => ?_, hl, hh⟩
  · refine List.pairwise_iff_getElem.mpr fun i j hi' hj hij e => ?_
    obtain ⟨t, _, e1⟩ := h i _ (List.getElem?_eq_getElem hi')
    obtain ⟨u, _, e2⟩ := h j _ (List.getElem?_eq_getElem hj)
    rw [e1, e2] at e
    have e := congrArg (fun s : Str => s.cps.toList.getLast?) e
    have la : ∀ (t : Str) (n : Nat), (t ++ (⟨#[n]⟩ : Str)).cps.toList.getLast? = some n := fun t n => by
      show (t.cps ++ #[n]).toList.getLast? = _
      simp
    simp only [la, Option.some.injEq] at e
    omega
  · obtain ⟨i, hi'⟩ := List.getElem?_of_mem hs
    obtain ⟨t, ⟨h1, h2⟩, rfl⟩ := h i s hi'
    have hi2 := (List.getElem?_eq_some_iff.mp hi').1
    have el : (t ++ (⟨#[99 + i]⟩ : Str)).cps.toList = t.cps.toList ++ [99 + i] := by
      show (t.cps ++ #[99 + i]).toList = _
      simp
    have el2 : (t ++ (⟨#[99 + i]⟩ : Str)).length = t.cps.toList.length + 1 := by
      rw [TL.len_tl]; show (t ++ (⟨#[99 + i]⟩ : Str)).cps.toList.length = _
      rw [el]; simp
    refine ⟨by omega, by omega, fun c hc => ?_⟩
    rw [el, List.mem_append, List.mem_singleton] at hc
    rcases hc with hc | rfl
    · have := h2 c hc
      simp only [List.mem_cons, List.not_mem_nil, or_false] at this
      omega
    · omega
section
variable {P : Program} {w : World} {K : PySem.W.Frag} {mg : Str → Option Value} {base : Heap}
theorem fd_law_names (T : Txt K mg) : Fd P w K mg base "_law_names" 3 ["_law_pot_here", "_law_amount"] [] (spP (δ := Nat × Nat) (fun d => [vPot, vEx (fun n : Nat => d.1 ≤ n ∧ n < d.2) (fun n => vInt (n : Int))]) (fun d => d.2 ≤ 6) (fun d => vEx (NmOk d.1 d.2) (fun ss => vLst (ss.map fun s => vStr s)))) := by
  obtain ⟨g, fd, F⟩ := T.fn i_law_names d_law_names rfl
  refine ⟨_, fd, [], g rfl, F.kp, .nil, F.bindsN fun _ _ _ _ _ _ us hl => match us, hl with | [_, _], _ => rfl, ?_⟩
  have S : FnScope ["_law_pot_here", "_law_amount", "_law_found", "_law_at", "_law_start", "_law_turn"] ["_law_pot_here", "_law_amount"] (defScope s_law_names) := ⟨rfl, rfl, rfl, by decide +kernel, rfl, by decide +kernel, by decide +kernel⟩
  refine fd_of (N := ["_law_pot_here", "_law_amount", "_law_found", "_law_at", "_law_start", "_law_turn"]) F S (fun _ => rfl) (by decide) ?_
  intro cdv A outer s H E hr ⟨lo, hi⟩ G ok
  have ok : hi ≤ 6 := ok
  refine xss_open (i := 1) rfl vEx_open ?_
  rintro ⟨n, hn⟩
  obtain ⟨hn1, hn2⟩ : lo ≤ n ∧ n < hi := hn
  have p62 : (2:Int)^62 = 4611686018427387904 := by decide
  have hb62 : (n : Int) < 2^62 := by rw [p62]; omega
  refine xss_new (i := 2) (xn_lst xa_nil) S.nd fun a1 => ?_
  let Ga : En := [some vPot, some (vInt (n : Int)), some (vVal (.ref a1)), none, none, none]
  let Ms : List Str → Mu := fun ss => [(a1, mLst (ss.map fun s => vStr s))]
  refine xss_consI (M := Ms []) (fun _ : List Str => Ga) (fun ss => Ms ss) (fun ss => NmI ss ∧ ss.length = n) (xs_for (ds := List.range n) (f := fun i : Nat => vInt (i : Int)) (fun _ : List Str => Ga) (fun ss => Ms ss) (fun i ss => NmI ss ∧ ss.length = i) rfl
    (xi_range (T.free "range" rfl) (xv 1) hb62) (fun _ _ _ s => ⟨[], ⟨fun i s h => by simp at h, rfl⟩, s⟩) (fun i x ss B hx hy => ?_) (fun G H σ ⟨x, hx, s⟩ => ?_)) ?_
  · obtain ⟨h1, h2⟩ := hy
    have h2 : ss.length = i := h2
    have hx' := List.getElem?_eq_some_iff.mp hx
    have hi1 : i < n := by have := hx'.1; simpa using this
    have hix : i = x := by have := hx'.2; rwa [List.getElem_range] at this
    subst hix
    refine ⟨_, _, xg_name 3 S.nd, ?_⟩
    refine xss_set (i := 4) (p := vEx (LetS [97, 98, 122] 4) vStr) (xe_joinD (cs := [97, 98, 122]) (xe_str (i := ⟨#[]⟩)) (xe_lcD (own := [("_law_turn", 5)]) (n := 4) (fun d => [some vPot, some (vInt (n : Int)), some (vVal (.ref a1)), some (vInt (i : Int)), none, some (vInt (d : Int))]) rfl S.nd (T.free "range" rfl) (xe_call (fd_law_draw T) 4 hr (xa_cons (xv 0) (xa_cons xe_int xa_nil)) ⟨by decide, by decide⟩) (by decide) (blkOk_by (N := ["_law_pot_here", "_law_amount", "_law_found", "_law_at", "_law_start", "_law_turn"]) (sc := defScope s_law_names) (by decide +kernel)) (fun _ _ _ _ _ _ _ => xg_name 5 S.nd) (fun _ _ _ _ _ d hd => ?_)) (by decide)) S.nd ?_
    · have ea : ∀ {c : Str} {k : Nat}, c = ⟨#[k]⟩ → vStr c = vStr ⟨#[k]⟩ := fun h => by rw [h]
      exact xe_call (fd_law_pick T) ([97, 98, 122].map fun c => vStr ⟨#[c]⟩) hr (xa_cons (xv 0) (xa_cons (XN.lst (xn_lst (xa_cons (XE.is xe_str (ea (k := 97) (by decide +kernel))) (xa_cons (XE.is xe_str (ea (k := 98) (by decide +kernel))) (xa_cons (XE.is xe_str (ea (k := 122) (by decide +kernel))) xa_nil))))) xa_nil)) ⟨by simp, by show 3 < _; decide⟩
    · refine xss_open (i := 4) rfl vEx_open ?_
      rintro ⟨t, ht⟩
      have htl : t.length < 4 := by rw [TL.len_tl]; exact ht.1
      refine xss_one (xs_append (M1 := []) (xv 2) (xe_cat (xv 4) (xe_ixS (n := 99 + i) (xe_str (i := FAR)) (xv 3) (by show 12 ≤ sizeLine; rw [sizeLine_eq]; decide) (far_at (by omega))) (by show t.length + 1 ≤ sizeLine; rw [sizeLine_eq]; omega)) (fun G H σ s => ⟨ss ++ [t ++ ⟨#[99 + i]⟩], ⟨fun j z hz => ?_, by simp [h2]⟩, ?_⟩) (by rw [List.length_map, sizeLine_eq]; omega))
      · rcases Nat.lt_or_ge j ss.length with hj | hj
        · rw [List.getElem?_append_left hj] at hz
          exact h1 j z hz
        · rw [List.getElem?_append_right hj] at hz
          have hj0 : j - ss.length = 0 := by
            have := (List.getElem?_eq_some_iff.mp hz).1
            simp at this; omega
          rw [hj0] at hz
          have hz : t ++ (⟨#[99 + i]⟩ : Str) = z := by simpa using hz
          have : j = i := by omega
          subst this
          exact ⟨t, ht, hz.symm⟩
      · have s := s.fg (Γ' := Ga) (by repeat (first | exact fg_nil | apply fg_keep | apply fg_drop))
        show Sta _ G H σ Ga [(a1, mLst ((ss ++ [t ++ (⟨#[99 + i]⟩ : Str)]).map fun s => vStr s))]
        rw [List.map_append]
        exact s
  · exact ⟨x, ⟨hx.1, by have := hx.2; rwa [List.length_range] at this⟩, s⟩
  · rintro ss ⟨h1, h2⟩
    refine xss_pub (M1 := []) (i := 2) (a := a1) (p := vLst (ss.map fun s => vStr s)) rfl (fun G u r e => mLst_lst r e) (xss_one (xs_ret ((xe_call (fd_law_mixed T) (ss.map fun s => vStr s) hr (xa_cons (xv 0) (xa_cons (xv 2) xa_nil)) (by show (List.map _ ss).length < 1000; rw [List.length_map]; omega)).weak fun G v r => ?_) fun _ _ _ t r => ⟨t, r⟩))
    obtain ⟨qs, hq, r⟩ := r
    obtain ⟨ss', h3, h4⟩ : ∃ ss' : List Str, ss'.Perm ss ∧ qs = ss'.map fun s => vStr s := perm_map hq rfl
    subst h4
    have ok := nmI_ok (lo := lo) (hi := hi) h1 (by omega) (by omega) ok
    exact ⟨ss', ⟨h3.nodup_iff.mpr ok.nd, fun s hs => ok.ok s (h3.mem_iff.mp hs), by rw [h3.length_eq]; exact ok.lo, by rw [h3.length_eq]; exact ok.hi⟩, r⟩
end
end K53
end MU_
section KFo_
set_option maxRecDepth 100000
set_option maxHeartbeats 4000000
/-! KFo: walks over drawn lists. -/
namespace K53
open PySem PySem.Spec PyProof.Rows L2
section
variable {X : Cx} {e a b c o k' it tg : Expr} {es : List Expr} {Γ : En} {M : Mu} {p q : Pv} {ps : List Pv} {pos pp apos cpos : Pos} {e0 : Eb} {P : Pst} {kp : List (Str × Pv)} {M1 M2 : Mu} {α : Type} {f : α → Pv} {s : Str}
theorem for_coreE {κ : Type} {φ : κ → Prop} {ds : κ → List α} {ι : Type} {body : List Stmt} (Γs : ι → En) (Ms : ι → Mu) (I : κ → Nat → ι → Prop) (hc : X.calm = true) {G H : Hp} {σ : L2.St} (s : Sta e0 G H σ Γ M) (hi : ∀ R : It → Hp → Prop, (∀ z J G' H', φ z → Stp G H G' H' → Wk J G' (ds z) f → R J H') → wI X tg it σ H R)
    (h0 : ∀ z, φ z → ∀ G H σ, Sta e0 G H σ Γ M → StaI e0 Γs Ms (I z 0) G H σ)
    (hb : ∀ z, φ z → ∀ (i : Nat) d x B, (ds z)[i]? = some d → I z i x → ∃ Γ' vs, XG X tg (f d) (Γs x) Γ' vs ∧ XSs X { e0 with B := B } body Γ' (Ms x) { P with nx := StaI { e0 with B := B } Γs Ms (I z (i + 1)), ct := StaI { e0 with B := B } Γs Ms (I z (i + 1)), bk := P.nx })
    (hd : ∀ z, φ z → ∀ G H σ, StaI e0 Γs Ms (I z (ds z).length) G H σ → P.nx G H σ) (hp : PassesOwn (model X.prog X.w) X.A X.env X.xe := by exact PassesOwn.never) (hs : ∀ x, foldedSetIterable it X.env x = pure x := by intro _; rfl) : ∀ D, Fit P D → wS X (.For tg it body [] pos) D σ H := fun D F => by
  refine ⟨_, ps_for hp hc pi_w pg_w pss_w hs, hi _ fun z J G1 H1 hz t1 wk => ?_⟩
  have s1 := s.stp t1
  obtain ⟨x0, hx0, s0⟩ := h0 z hz G1 H1 σ s1
  refine ⟨fun i m σ' H' => m = (ds z).length - i ∧ i ≤ (ds z).length ∧ ∃ G' x, Same G1 G' ∧ I z i x ∧ Sta e0 G' H' σ' (Γs x) (Ms x), ⟨_, rfl, Nat.zero_le _, G1, x0, .refl _, hx0, s0⟩, ?_⟩
  rintro i m σ' H' ⟨rfl, hle, G', x, sg, hx, s'⟩
  rcases Nat.lt_or_ge i (ds z).length with hlt | hge
  · right
    have hd' : (ds z)[i]? = some (ds z)[i] := List.getElem?_eq_getElem hlt
    refine ⟨wk.go i G' H' _ sg s'.s.i hd', fun σ2 H2 => ∃ G2 x2, Same G1 G2 ∧ I z (i + 1) x2 ∧ Sta e0 G2 H2 σ2 (Γs x2) (Ms x2), ?_, ?_⟩
    · rintro σ2 H2 ⟨G2, x2, sg2, hx2, s2⟩
      exact ⟨(ds z).length - (i + 1), by omega, rfl, hlt, G2, x2, sg2, hx2, s2⟩
    · intro v H2 hy
      obtain ⟨G2, t2, rv⟩ := wk.yl i G' H' _ v H2 sg s'.s.i hd' hy
      have s2 := s'.stp t2
      obtain ⟨Γ', vs, hg, hbd⟩ := hb z hz i _ x G1 hd' hx
      refine hg G2 H2 σ' v s2.s.a s2.s.i rv _ fun σ3 a3 l3 o3 => ?_
      have s3 : Sta { e0 with B := G1 } G2 H2 σ3 Γ' (Ms x) := ⟨s2.t, sg.trans t2.g, ⟨s2.s.i, a3, s2.s.nd, s2.s.m⟩, s2.f⟩
      have hB : Same e0.B G1 := s1.b
      have back : ∀ G4 H4 σ4, StaI { e0 with B := G1 } Γs Ms (I z (i + 1)) G4 H4 σ4 → ∃ G2 x2, Same G1 G2 ∧ I z (i + 1) x2 ∧ Sta e0 G2 H4 σ4 (Γs x2) (Ms x2) := fun G4 H4 σ4 ⟨x4, hx4, s4⟩ => ⟨G4, x4, s4.b, hx4, s4.t, hB.trans s4.b, s4.s, s4.f⟩
      exact hbd G2 H2 σ3 s3 _ ⟨back, F.rt, fun G4 H4 σ4 q => F.nx G4 H4 σ4 q, back⟩
  · left
    have e : i = (ds z).length := Nat.le_antisymm hle hge
    subst e
    exact ⟨wk.st G' H' sg s'.s.i, F.nx G' H' σ' (hd z hz G' H' σ' ⟨x, hx, s'⟩)⟩
theorem xs_forE {κ : Type} {φ : κ → Prop} {ds : κ → List α} {ι : Type} {body : List Stmt} (Γs : ι → En) (Ms : ι → Mu) (I : κ → Nat → ι → Prop) (hc : X.calm = true) (he : XE X it Γ M (vEx φ fun z => vLst ((ds z).map f)))
    (h0 : ∀ z, φ z → ∀ G H σ, Sta e0 G H σ Γ M → StaI e0 Γs Ms (I z 0) G H σ)
    (hb : ∀ z, φ z → ∀ (i : Nat) d x B, (ds z)[i]? = some d → I z i x → ∃ Γ' vs, XG X tg (f d) (Γs x) Γ' vs ∧ XSs X { e0 with B := B } body Γ' (Ms x) { P with nx := StaI { e0 with B := B } Γs Ms (I z (i + 1)), ct := StaI { e0 with B := B } Γs Ms (I z (i + 1)), bk := P.nx })
    (hd : ∀ z, φ z → ∀ G H σ, StaI e0 Γs Ms (I z (ds z).length) G H σ → P.nx G H σ) (hp : PassesOwn (model X.prog X.w) X.A X.env X.xe := by exact PassesOwn.never) (hs : ∀ x, foldedSetIterable it X.env x = pure x := by intro _; rfl) : XS X e0 (.For tg it body [] pos) Γ M P := fun G H σ s D F =>
  for_coreE (φ := φ) (ds := ds) Γs Ms I hc s (fun R k => ⟨_, pi_list pe_w, he G H σ s.s _ fun v G' H' t r => by
    obtain ⟨z, hz, a, xs, rfl, h1, h2⟩ := r
    refine ⟨a, rfl, ⟨xs, SqL.of (t.i _ _ h1)⟩, k z _ G' H' hz t ⟨fun i G H d sg si hd => ?_, fun i G H d x H2 sg si hd ⟨e1, e2⟩ => ?_, fun G H sg si => ⟨xs, SqL.of (si _ _ (sg _ _ h1)), by rw [h2.len, List.length_map]; exact Nat.le_refl _⟩⟩⟩
    · obtain ⟨v, e1, _⟩ := h2.get (i := i) (p := f d) (by rw [List.getElem?_map, hd]; rfl)
      exact ⟨xs, v, SqL.of (si _ _ (sg _ _ h1)), e1⟩
    · subst e1
      exact ⟨G, .refl si, (h2.mono (le_same sg)).at' hd (e2 xs (SqL.of (si _ _ (sg _ _ h1))))⟩⟩) h0 hb hd hp hs D F
theorem xs_dputE {ι : Type} {φ : ι → Prop} {g : ι → Pv} {a : Addr} (hu : X.A.units + 1 < cLine) (he : XE X e Γ (M1 ++ (a, mDic kp) :: M2) (vEx φ g)) (ho : XE X o Γ (M1 ++ (a, mDic kp) :: M2) (vVal (.ref a))) (hk : XE X k' Γ (M1 ++ (a, mDic kp) :: M2) (vStr s)) (k : ∀ x, φ x → ∀ G H σ, Sta e0 G H σ Γ (M1 ++ (a, mDic (putD s (g x) kp)) :: M2) → P.nx G H σ)
    (hn : (kp.map (·.1)).Nodup) (hz : kp.length < sizeLine) (hs : swapsWith e (some (.Subscript o k' apos)) pos.line X.env = pure false := by rfl) :
    XS X e0 (.Assign [.Subscript o k' apos] e pos) Γ (M1 ++ (a, mDic kp) :: M2) P := fun G H σ st D f =>
  ⟨_, ps_dput hu pe_w pe_w pe_w hs, he G H σ st.s _ fun v G1 H1 t1 r1 => ho G1 H1 σ (st.stp t1).s _ fun u G2 H2 t2 r2 => hk G2 H2 σ ((st.stp t1).stp t2).s _ fun w G3 H3 t3 r3 => by
    obtain rfl : u = .ref a := r2
    obtain ⟨x, hx, r1⟩ := r1
    obtain rfl : w = .str s := r3
    have s3 := ((st.stp t1).stp t2).stp t3
    obtain ⟨hg, ob, hh, xs, rfl, al⟩ := s3.s.m (a, mDic kp) (by simp)
    exact ⟨a, _, rfl, DPut.k (k := .inr s) hh (by rw [al.len]; exact hz), f.nx _ _ _ (k x hx _ _ _ (s3.write ⟨_, rfl, al.put (Pv.mono _ (le_same (t2.g.trans t3.g)) r1) hn⟩))⟩⟩
theorem xs_appendE {ι : Type} {φ : ι → Prop} {g : ι → Pv} {a : Addr} (ho : XE X o Γ (M1 ++ (a, mLst ps) :: M2) (vVal (.ref a))) (he : XE X e Γ (M1 ++ (a, mLst ps) :: M2) (vEx φ g)) (k : ∀ x, φ x → ∀ G H σ, Sta e0 G H σ Γ (M1 ++ (a, mLst (ps ++ [g x])) :: M2) → P.nx G H σ) (hz : ps.length < sizeLine)
    (hbase : attributeBase o "append" X.env (eval o X.env) = eval o X.env := by rfl)
    (hfew : ((backTo cpos (starEach [e] X.env)).all (fun x => !x.1) && (backToKw cpos (keywordEach [] X.env)).all (fun x => x.1.isSome) && decide (([e] : List Expr).length + ([] : List Keyword).length + (if ([] : List Keyword).isEmpty then 0 else 1) < 30)) = true := by rfl)
    (hline : (apos.endLine == cpos.line) = true := by rfl) (hst : starEach [e] X.env = (false, eval e X.env) :: starEach [] X.env := by rfl) (hs : swapsWith (.Call (.Attribute o "append" apos) [e] [] cpos) none pos.line X.env = pure false := by rfl) :
    XS X e0 (.Expr (.Call (.Attribute o "append" apos) [e] [] cpos) pos) Γ (M1 ++ (a, mLst ps) :: M2) P := fun G H σ s D f =>
  ⟨_, ps_expr (pe_bm PySem.F.plainAttrs_list PySem.F.slot_list_append PySem.F.type_list_append mt_append pe_w (pa_cons pe_w pa_nil hst) hbase hfew hline hst rfl) hs, ho G H σ s.s _ fun v G1 H1 t1 r1 => by
    obtain rfl : v = .ref a := r1
    have s1 := s.stp t1
    obtain ⟨hg, ob, hh, xs, rfl, al⟩ := s1.s.m (a, mLst ps) (by simp)
    refine ⟨.inl ⟨rfl, xs, SqL.of hh⟩, he G1 H1 σ s1.s _ fun u G2 H2 t2 r2 => ?_⟩
    have s2 := s1.stp t2
    obtain ⟨x, hx, r2⟩ := r2
    obtain ⟨hg, ob, hh, xs, rfl, al⟩ := s2.s.m (a, mLst ps) (by simp)
    exact ⟨a, xs, u, rfl, rfl, hh, by rw [al.len]; exact hz, f.nx _ _ _ (k x hx _ _ _ (s2.write ⟨_, rfl, al.app (.cons r2 .nil)⟩))⟩⟩
end
end K53
end KFo_
section MV_
set_option maxRecDepth 100000
set_option maxHeartbeats 4000000
/-! MV: drawn ties. -/
namespace K53
open PySem PySem.Spec PyProof.Rows L2
def vLTie (t : Tie) : Pv := vTup [vStr t.a, vEnd t.m, vStr t.b, vEnd t.n]
def pLTs (ts : Ties) : List (Str × Pv) := ts.map fun x => (x.1, vLTie x.2)
structure LTie (ks : List Str) (t : Tie) : Prop where
  a : t.a ∈ ks
  b : t.b ∈ ks
  m : EndOk t.m
  n : EndOk t.n
structure LTs (ks : List Str) (ts : Ties) : Prop where
  nm : NmOk 0 6 (ts.map (·.1))
  t : ∀ x ∈ ts, LTie ks x.2
theorem pLTs_keys {ts : Ties} : (pLTs ts).map (·.1) = ts.map (·.1) := by unfold pLTs; rw [List.map_map]; rfl
theorem vTup4Ex {ι κ : Type} {p q : Pv} {φ : ι → Prop} {g : ι → Pv} {ψ : κ → Prop} {h : κ → Pv} (G : Hp) (v : V) (r : (vTup [p, vEx φ g, q, vEx ψ h]).r G v) : (vEx (fun x : ι × κ => φ x.1 ∧ ψ x.2) fun x => vTup [p, g x.1, q, h x.2]).r G v := by
  obtain ⟨a, xs, rfl, h1, h2⟩ := r
  match xs, h2 with
  | [_, _, _, _], .cons r1 (.cons r2 (.cons r3 (.cons r4 .nil))) =>
    obtain ⟨x, hx, r2⟩ := r2
    obtain ⟨y, hy, r4⟩ := r4
    exact ⟨(x, y), ⟨hx, hy⟩, a, _, rfl, h1, .cons r1 (.cons r2 (.cons r3 (.cons r4 .nil)))⟩
section
variable {P : Program} {w : World} {K : PySem.W.Frag} {mg : Str → Option Value} {base : Heap}
theorem fd_law_ties (T : Txt K mg) : Fd P w K mg base "_law_ties" 4 ["_law_pot_here", "_law_sorts", "_law_few", "_law_great"] [] (spP (δ := List Str) (fun ks => [vPot, vLst (ks.map fun s => vStr s), vInt 5, vInt 4]) (fun ks => ks ≠ [] ∧ ks.length < 1000) (fun ks => vEx (LTs ks) (fun ts => vDic (pLTs ts)))) := by
  obtain ⟨g, fd, F⟩ := T.fn i_law_ties d_law_ties rfl
  refine ⟨_, fd, [], g rfl, F.kp, .nil, F.bindsN fun _ _ _ _ _ _ us hl => match us, hl with | [_, _, _, _], _ => rfl, ?_⟩
  have S : FnScope ["_law_pot_here", "_law_sorts", "_law_few", "_law_great", "_law_found", "_law_word", "_law_here", "_law_there"] ["_law_pot_here", "_law_sorts", "_law_few", "_law_great"] (defScope s_law_ties) := ⟨rfl, rfl, rfl, by decide +kernel, rfl, by decide +kernel, by decide +kernel⟩
  refine fd_of (N := ["_law_pot_here", "_law_sorts", "_law_few", "_law_great", "_law_found", "_law_word", "_law_here", "_law_there"]) F S (fun _ => rfl) (by decide) ?_
  intro cdv A outer s H E hr ks G ok
  obtain ⟨ok1, ok2⟩ : ks ≠ [] ∧ ks.length < 1000 := ok
  have pk : (ks.map fun s => vStr s) ≠ [] ∧ (ks.map fun s => vStr s).length < 1073741824 := ⟨by simpa using ok1, by rw [List.length_map]; omega⟩
  have opn : ∀ (G : Hp) (v : V), (vOne (ks.map fun s => vStr s)).r G v → ∃ x : {x // x ∈ ks}, (vStr x.1).r G v := fun G v h => by
    obtain ⟨p, hp, r⟩ := h
    obtain ⟨c, hc, rfl⟩ := List.mem_map.mp hp
    exact ⟨⟨c, hc⟩, r⟩
  refine xss_new (i := 4) xn_dic S.nd fun a1 => ?_
  let Ga : En := [some vPot, some (vLst (ks.map fun s => vStr s)), some (vInt 5), some (vInt 4), some (vVal (.ref a1)), none, none, none]
  let Ms : Ties → Mu := fun ts => [(a1, mDic (pLTs ts))]
  refine xss_consI (M := Ms []) (fun _ : Ties => Ga) (fun ts => Ms ts) (LTs ks) (xs_forE (κ := List Str) (φ := NmOk 0 6) (ds := fun ss => ss) (f := fun s => vStr s) (fun _ : Ties => Ga) (fun ts => Ms ts) (fun ss i ts => ts.map (·.1) = ss.take i ∧ ∀ x ∈ ts, LTie ks x.2) rfl
    (xe_call (fd_law_names T) (0, 6) hr (xa_cons (xv 0) (xa_cons ((xe_call (fd_law_draw T) 6 hr (xa_cons (xv 0) (xa_cons (XE.is (xe_add (xv 2) xe_int) rfl) xa_nil)) ⟨by decide, by decide⟩).weak fun G v ⟨d, hd, r⟩ => ⟨d, ⟨Nat.zero_le _, hd⟩, r⟩) xa_nil)) (Nat.le_refl 6)) (fun ss hs _ _ _ s => ⟨[], ⟨rfl, fun x h => by simp at h⟩, s⟩) (fun ss hs i d ts B hix hy => ?_) (fun ss hs G H σ ⟨ts, hx, s⟩ => ?_)) ?_
  · obtain ⟨h1, h2⟩ := hy
    have h1 : ts.map (·.1) = ss.take i := h1
    have hi : i < ss.length := (List.getElem?_eq_some_iff.mp hix).1
    have hd : ss[i] = d := (List.getElem?_eq_some_iff.mp hix).2
    have hz := hs.hi
    have hlen : ts.length = i := by have := congrArg List.length h1; rw [List.length_map, List.length_take] at this; omega
    have hnew : d ∉ (pLTs ts).map (·.1) := by
      rw [pLTs_keys, h1]
      intro hm
      obtain ⟨j, hj, e⟩ := List.mem_take_iff_getElem.mp hm
      have := (List.getElem_inj hs.nd).mp (e.trans hd.symm)
      omega
    refine ⟨_, _, xg_name 5 S.nd, ?_⟩
    refine xss_par (i := 6) (j := 7) (p := vOne (ks.map fun s => vStr s)) (q := vOne (ks.map fun s => vStr s)) rfl S.nd (xe_call (fd_law_pick T) (ks.map fun s => vStr s) hr (xa_cons (xv 0) (xa_cons (xv 1) xa_nil)) pk) (xe_call (fd_law_pick T) (ks.map fun s => vStr s) hr (xa_cons (xv 0) (xa_cons (xv 1) xa_nil)) pk) ?_
    refine xss_open (i := 6) rfl opn ?_
    rintro ⟨ka, hka⟩
    refine xss_open (i := 7) rfl opn ?_
    rintro ⟨kb, hkb⟩
    refine xss_one (xs_dputE (M1 := []) (φ := fun x : Mn × Mn => EndOk x.1 ∧ EndOk x.2) (g := fun x => vTup [vStr ka, vEnd x.1, vStr kb, vEnd x.2]) (u1 hr) ((xe_tup (xa_cons (xv 6) (xa_cons (xe_call (fd_law_ends T) () hr (xa_cons (xv 0) (xa_cons (xv 3) xa_nil)) trivial) (xa_cons (xv 7) (xa_cons (xe_call (fd_law_ends T) () hr (xa_cons (xv 0) (xa_cons (xv 3) xa_nil)) trivial) xa_nil))))).weak vTup4Ex) (xv 4) (xv 5) (fun x hx G H σ s => ⟨ts ++ [(d, ⟨ka, x.1, kb, x.2⟩)], ⟨?_, fun y hy => ?_⟩, ?_⟩) (by rw [pLTs_keys, h1]; exact hs.nd.sublist (List.take_sublist _ _)) (by unfold pLTs; rw [List.length_map, sizeLine_eq]; omega))
    · rw [List.map_append, h1]
      show ss.take i ++ [d] = _
      rw [List.take_add_one, hix]; rfl
    · rcases List.mem_append.mp hy with hy | hy
      · exact h2 y hy
      · rw [List.mem_singleton] at hy
        subst hy
        exact ⟨hka, hkb, hx.1, hx.2⟩
    · have s := s.fg (Γ' := Ga) (by repeat (first | exact fg_nil | apply fg_keep | apply fg_drop))
      rw [putD_new hnew] at s
      show Sta _ G H σ Ga [(a1, mDic (pLTs (ts ++ [(d, ⟨ka, x.1, kb, x.2⟩)])))]
      unfold pLTs
      rw [List.map_append]
      exact s
  · obtain ⟨h1, h2⟩ := hx
    have h1 : ts.map (·.1) = ss.take ss.length := h1
    rw [List.take_length] at h1
    exact ⟨ts, ⟨by rw [h1]; exact hs, h2⟩, s⟩
  · intro ts hts
    exact xss_pub (M1 := []) (i := 4) (a := a1) (p := vDic (pLTs ts)) rfl (fun G u r e => mDic_dic r e) (xss_one (xs_ret (XE.ex ts hts (xv 4)) fun _ _ _ t r => ⟨t, r⟩))
end
end K53
end MV_
section KFp_
set_option maxRecDepth 100000
set_option maxHeartbeats 4000000
/-! KFp: a fresh list of two numbers, handed out as a pot. -/
namespace K53
open PySem PySem.Spec PyProof.Rows L2
section
variable {X : Cx} {e : Expr} {te : TE} {Γ : En} {M : Mu}
def tAsPot (te : TE) : TE := fun σ H Q => te σ H fun v H' => ∃ a, v = .ref a ∧ IsPot H' a ∧ Q v (upd H' a (.ext (potAt a)))
theorem pe_asPot (h : PE X e te) : PE X e (tAsPot te) := by
  refine ⟨fun pins s σ H Q I hw => ?_⟩
  refine thn (h.run pins s σ _ _ I hw) fun v s1 q => ?_
  obtain ⟨x, H', I2, r, a, e, ⟨i', j', hj', e'⟩, q⟩ := q
  exact ⟨x, _, asPot I2 hj' e', r, q⟩
theorem xe_asPot {i j : Nat} (hj : j < 4294967296) (h : XN X e Γ M (mLst [vInt (i : Int), vInt (j : Int)])) : XE X e Γ M vPot := fun G H σ s Q k =>
  ⟨_, pe_asPot pe_w, h G H σ s _ fun p ob G' H' t hp hg hh r => by
    obtain ⟨xs, rfl, al⟩ := r
    obtain ⟨_, _, rfl, rfl, rfl⟩ := alA2 al
    refine ⟨p, rfl, ⟨i, j, hj, hh⟩, k _ (upd G' p (.ext (potAt p))) _ ⟨t.g.trans (same_new hg), fun b u e => ?_, fun b u e => ?_, fun b u e n => ?_⟩ ⟨p, rfl, upd_same⟩⟩
    · by_cases z : b = p
      · subst z; rw [hp] at e; cases e
      · rw [upd_ne z]; exact t.h _ _ e
    · by_cases z : b = p
      · subst z; rw [upd_same] at e ⊢; exact e
      · rw [upd_ne z] at e ⊢; exact t.i _ _ e
    · by_cases z : b = p
      · subst z; exact hp
      · rw [upd_ne z] at e; exact t.n _ _ e n⟩
end
end K53
end KFp_
section MW_
set_option maxRecDepth 100000
set_option maxHeartbeats 4000000
/-! MW: pots. -/
namespace K53
open PySem PySem.Spec PyProof.Rows L2
section
variable {P : Program} {w : World} {K : PySem.W.Frag} {mg : Str → Option Value} {base : Heap}
theorem fd_law_pot (T : Txt K mg) : Fd P w K mg base "_law_pot" 1 ["_law_script", "_law_k"] [] (spP (δ := List Int × Nat) (fun d => [vLst (d.1.map vInt), vInt (d.2 : Int)]) (fun d => d.2 < 4 ∧ d.1.length ≤ 1000) (fun _ => vPot)) := by
  obtain ⟨g, fd, F⟩ := T.fn i_law_pot d_law_pot rfl
  refine ⟨_, fd, [], g rfl, F.kp, .nil, F.bindsN fun _ _ _ _ _ _ us hl => match us, hl with | [_, _], _ => rfl, ?_⟩
  have S : FnScope ["_law_script", "_law_k", "_law_cell"] ["_law_script", "_law_k"] (defScope s_law_pot) := ⟨rfl, rfl, rfl, by decide +kernel, rfl, by decide +kernel, by decide +kernel⟩
  refine fd_of (N := ["_law_script", "_law_k", "_law_cell"]) F S (fun _ => rfl) (by decide) ?_
  intro cdv A outer s H E hr ⟨is, k⟩ G ok
  obtain ⟨h1, h2⟩ : k < 4 ∧ is.length ≤ 1000 := ok
  have fin : ∀ {c : Int}, ∃ i j : Nat, j < 4294967296 ∧ (if c - 10 ^ 18 > 0 then c - 10 ^ 18 else 0) = (i : Int) ∧ (c % 2147483587 * 48271 + 60013 * (k : Int) + 531) % 2147483647 = (j : Int) := fun {c} => by
    refine ⟨(if c - 10 ^ 18 > 0 then c - 10 ^ 18 else 0).toNat, ((c % 2147483587 * 48271 + 60013 * (k : Int) + 531) % 2147483647).toNat, ?_, ?_, ?_⟩
    · omega
    · split <;> omega
    · omega
  let c : Int := if k < is.length then (if is.getD k 0 < 0 then -(is.getD k 0) else is.getD k 0) else 37 * (k : Int) + 3
  have vw : VwL [] (vLst (is.map vInt)) (is.map vInt) := vwL
  have ik : k < is.length → atI (is.map vInt) (k : Int) = some (vInt (is.getD k 0)) := fun h => by
    rw [atI_nat, List.getElem?_map, List.getD_eq_getElem?_getD, List.getElem?_eq_getElem h]; rfl
  refine xss_set (i := 2) (p := vInt c) (xe_if (u := decide (k < is.length)) (XT.is (xt_lt (xv 1) (xe_lenL (T.free "len" rfl) (xv 0) vwL)) (by rw [List.length_map]; exact decide_eq_decide.mpr (by show (k : Int) < (is.length : Int) ↔ k < is.length; omega))) (fun h => XE.is (xe_abs (T.free "abs" rfl) (xe_ixL (xv 0) (xv 1) vw (ik (of_decide_eq_true h)))) (by show _ = vInt (if _ then _ else _); rw [if_pos (of_decide_eq_true h)])) (fun h => XE.is (xe_add (xe_mul xe_int (xv 1) (.inl ⟨by rw [two64]; omega, by rw [two64]; omega⟩)) xe_int) (by show _ = vInt (if _ then _ else _); rw [if_neg (of_decide_eq_false h)]))) S.nd ?_
  obtain ⟨i, j, hj, e1, e2⟩ := fin (c := c)
  exact xss_one (xs_ret (xe_asPot hj (xn_lst (xa_cons (XE.is (xe_max2 rfl (T.free "max" rfl) xe_int (xe_sub (xv 2) (xe_pow xe_int xe_int ⟨by decide, by decide, by decide⟩))) (congrArg (fun z => vInt z) e1)) (xa_cons (XE.is (xe_mod (xe_intI (T.free "int" rfl) (xe_add (xe_add (xe_mul (xe_mod (xe_intI (T.free "int" rfl) (xv 2)) xe_int (by decide)) xe_int (.inr ⟨by rw [two64]; omega, by rw [two64]; omega⟩)) (xe_mul xe_int (xv 1) (.inl ⟨by rw [two64]; omega, by rw [two64]; omega⟩))) xe_int)) xe_int (by decide)) (congrArg (fun z => vInt z) e2)) xa_nil)))) fun _ _ _ t r => ⟨t, r⟩)
end
end K53
end MW_
section MX_
set_option maxRecDepth 100000
set_option maxHeartbeats 4000000
/-! MX: models made of drawn ties. -/
namespace K53
open PySem PySem.Spec PyProof.Rows L2
theorem EndOk.mn {m : Mn} (h : EndOk m) : MnOk m := ⟨by have := h.l; omega, fun q e => ⟨(h.m q e).1, by have := (h.m q e).2; omega⟩⟩
theorem NmOk.ks {lo hi : Nat} {ss : List Str} (h : NmOk lo hi ss) (h0 : 0 < lo) (h6 : hi ≤ 6) : KsOk ss := ⟨fun e => by have := h.lo; rw [e] at this; simp at this; omega, h.ok, h.nd, by have := h.hi; omega⟩
theorem LTs.ok {ks : List Str} {ts : Ties} (h : LTs ks ts) (hk : ∀ k ∈ ks, NameOk k) : TsOk ks ts := ⟨fun x hx => h.nm.ok _ (List.mem_map_of_mem (f := (·.1)) hx), fun x hx => ⟨hk _ (h.t x hx).a, hk _ (h.t x hx).b, (h.t x hx).m.mn, (h.t x hx).n.mn⟩, fun x hx => (h.t x hx).a, fun x hx => (h.t x hx).b, h.nm.nd, by have := h.nm.hi; rw [List.length_map] at this; omega⟩
section
variable {P : Program} {w : World} {K : PySem.W.Frag} {mg : Str → Option Value} {base : Heap}
theorem fd_law_made (T : Txt K mg) : Fd P w K mg base "_law_made" 8 ["_law_sorts", "_law_ties_here"] [] (spP (δ := List Str × Ties) (fun d => [vLst (d.1.map fun s => vStr s), vDic (pLTs d.2)]) (fun d => KsOk d.1 ∧ TsOk d.1 d.2) (fun d => vWeb K (mkWeb d.1 d.2))) := by
  obtain ⟨g, fd, F⟩ := T.fn i_law_made d_law_made rfl
  refine ⟨_, fd, [], g rfl, F.kp, .nil, F.bindsN fun _ _ _ _ _ _ us hl => match us, hl with | [_, _], _ => rfl, ?_⟩
  have S : FnScope ["_law_sorts", "_law_ties_here", "_law_found", "_law_word", "_law_here", "_law_first", "_law_there", "_law_last"] ["_law_sorts", "_law_ties_here"] (defScope s_law_made) := ⟨rfl, rfl, rfl, by decide +kernel, rfl, by decide +kernel, by decide +kernel⟩
  refine fd_of (N := ["_law_sorts", "_law_ties_here", "_law_found", "_law_word", "_law_here", "_law_first", "_law_there", "_law_last"]) F S (fun _ => rfl) (by decide) ?_
  intro cdv A outer s H E hr ⟨ks, ts⟩ G ok
  obtain ⟨ok1, ok2⟩ : KsOk ks ∧ TsOk ks ts := ok
  have hln := ok2.ln
  refine xss_open (i := 1) (g := fun d => vDicAt d (pLTs ts)) rfl vDic_open fun d => ?_
  refine xss_new (i := 2) xn_dic S.nd fun a1 => ?_
  let Ga : En := [some (vLst (ks.map fun s => vStr s)), some (vDicAt d (pLTs ts)), some (vVal (.ref a1)), none, none, none, none, none]
  let Ms : Nat → Mu := fun j => [(a1, mDic ((pTies K ts).take j))]
  refine xss_consI (M := Ms 0) (fun _ : Nat => Ga) Ms (fun j => j = ts.length) (xs_lockFor (d := d) (kp := pLTs ts) (f := fun x => vStr x.1) (fun _ : Nat => Ga) Ms (fun i j => j = i) rfl (hvD (i := 1) rfl) (fun G H σ od kv s hf al R k => xi_keysAt s hf al ((xv 1).weak vDicAt_ref) R k) (fun e0 G H σ s => ⟨0, rfl, s⟩) (fun e0 i x y hix hy => ?_) (fun G H σ ⟨j, hj, s⟩ => ⟨j, by rw [hj]; exact List.length_map _, s⟩)) ?_
  · have hy : y = i := hy
    subst hy
    have hi : y < ts.length := by have := (List.getElem?_eq_some_iff.mp hix).1; unfold pLTs at this; rwa [List.length_map] at this
    obtain ⟨t, ht⟩ : ∃ t, t = ts[y] := ⟨_, rfl⟩
    obtain ⟨s, t⟩ := t
    have hx : x = (s, vLTie t) := by
      have := (List.getElem?_eq_some_iff.mp hix).2
      unfold pLTs at this
      rw [List.getElem_map, ← ht] at this
      exact this.symm
    subst hx
    have hmem : (s, t) ∈ ts := by rw [ht]; exact List.getElem_mem hi
    have tok := ok2.ok _ hmem
    have tok : TieOk t := tok
    refine ⟨_, _, xg_name 3 S.nd, ?_⟩
    refine xss_tup (xe_dget (u1 hr) (xv 1) (xv 3) vwD_at (q := vTup [vStr t.a, vEnd t.m, vStr t.b, vEnd t.n]) (by unfold pLTs; rw [lookup_map, look_of ok2.nd hmem]; rfl)) (xg_tup rfl (xgs_cons (xg_name 4 S.nd) (xgs_cons (xg_name 5 S.nd) (xgs_cons (xg_name 6 S.nd) (xgs_cons (xg_name 7 S.nd) xgs_nil))))) ?_
    have tk : (pTies K ts).take (y + 1) = (pTies K ts).take y ++ [(s, vTie K t)] := by
      rw [List.take_add_one]
      unfold pTies
      rw [List.getElem?_map, List.getElem?_eq_getElem hi, ← ht]
      rfl
    have hnew : s ∉ ((pTies K ts).take y).map (·.1) := fun hm => by
      rw [List.map_take, pTies_keys] at hm
      obtain ⟨j, hj, e⟩ := List.mem_take_iff_getElem.mp hm
      have e2 : s = (ts.map (·.1))[y]'(by rw [List.length_map]; exact hi) := by rw [List.getElem_map, ← ht]
      have := (List.getElem_inj ok2.nd).mp (e.trans e2)
      omega
    refine xss_one (xs_dput (M1 := []) (s := s) (p := vTie K t) (u1 hr) (xe_tup (xa_cons (xv 4) (xa_cons (xe_makeS (id_Many T) t.m hr T.many.g (xa_cons (xe_ixT (ps := [vInt (t.m.1 : Int), vOpt t.m.2]) (i := 0) (xv 5) xe_int rfl) (xa_cons (xe_ixT (ps := [vInt (t.m.1 : Int), vOpt t.m.2]) (i := 1) (xv 5) xe_int rfl) xa_nil)) rfl ?_) (xa_cons (xv 6) (xa_cons (xe_makeS (id_Many T) t.n hr T.many.g (xa_cons (xe_ixT (ps := [vInt (t.n.1 : Int), vOpt t.n.2]) (i := 0) (xv 7) xe_int rfl) (xa_cons (xe_ixT (ps := [vInt (t.n.1 : Int), vOpt t.n.2]) (i := 1) (xv 7) xe_int rfl) xa_nil)) rfl ?_) xa_nil))))) (xv 2) (xv 3) (fun G H σ s => ⟨y + 1, rfl, ?_⟩) ?_ ?_)
    · exact fun q h => (tok.m.2 q h).1
    · exact fun q h => (tok.n.2 q h).1
    · have s := s.fg (Γ' := Ga) (by repeat (first | exact fg_nil | apply fg_keep | apply fg_drop))
      rw [putD_new hnew, ← tk] at s
      exact s
    · rw [List.map_take, pTies_keys]; exact ok2.nd.sublist (List.take_sublist _ _)
    · rw [List.length_take, sizeLine_eq]; unfold pTies; rw [List.length_map]; omega
  · intro j hj
    have hj : j = ts.length := hj
    subst hj
    have e : (pTies K ts).take ts.length = pTies K ts := by rw [List.take_of_length_le]; unfold pTies; rw [List.length_map]; exact Nat.le_refl _
    refine xss_pub (M1 := []) (i := 2) (a := a1) (p := vDic (pTies K ts)) rfl (fun G u r h => mDic_dic (e ▸ r) h) (xss_one (xs_ret (xe_make (id_Model T) (false, ks, ts) hr T.model.g (xa_cons (xv 0) (xa_cons (xv 2) xa_nil)) ⟨ok1, ok2⟩) fun _ _ _ t r => ⟨t, r⟩))
end
end K53
end MX_
section MY_
set_option maxRecDepth 100000
set_option maxHeartbeats 4000000
/-! MY: the law's lines. -/
namespace K53
open PySem PySem.Spec PyProof.Rows L2
theorem firstF : ∀ {bs : List Bool}, false ∈ bs → ∃ j : Nat, bs[j]? = some false ∧ ∀ m : Nat, m < j → bs[m]? = some true
  | false :: _, _ => ⟨0, rfl, fun m h => by omega⟩
  | true :: r, h => by
    have h' : false ∈ r := by
      rcases List.mem_cons.mp h with h | h
      · cases h
      · exact h
    obtain ⟨j, h1, h2⟩ := firstF h'
    refine ⟨j + 1, h1, fun m hm => ?_⟩
    match m, hm with
    | 0, _ => rfl
    | m + 1, hm => exact h2 m (by omega)
section
variable {X : Cx} {e a b c o k' : Expr} {Γ : En} {M : Mu} {p q : Pv} {ps qs : List Pv} {pos apos cpos : Pos}
theorem xe_catT (ha : XE X a Γ M (vTup ps)) (hb : XE X b Γ M (vTup qs)) (h1 : ps ≠ []) (h2 : qs ≠ []) (hz : ps.length + qs.length ≤ sizeLine) : XE X (.BinOp a .Add b pos) Γ M (vTup (ps ++ qs)) :=
  xe_opG op_catT ha hb fun G H v w s ⟨x, xs, e1, g1, l1⟩ ⟨y, ys, e2, g2, l2⟩ Q k => by
    have n1 : xs ≠ [] := fun z => by subst z; cases l1; exact h1 rfl
    have n2 : ys ≠ [] := fun z => by subst z; cases l2; exact h2 rfl
    exact ⟨x, y, xs, ys, e1, e2, SqT.of (s _ _ g1), SqT.of (s _ _ g2), n1, by rw [l1.len, l2.len]; exact hz, fun z => absurd z n2, fun _ p hp => k _ (upd G p (.tup (xs ++ ys))) _ (Stp.new s hp) ⟨p, _, rfl, upd_same, (l1.mono (le_same (same_new (s.free hp)))).app (l2.mono (le_same (same_new (s.free hp))))⟩⟩
/-- xs.index(False) -/
theorem xe_indexF {bs : List Bool} (ho : XE X o Γ M (vLst (bs.map fun b => vBl b))) (hk : XE X k' Γ M (vBl false)) (h : false ∈ bs)
    (hbase : attributeBase o "index" X.env (eval o X.env) = eval o X.env := by rfl)
    (hfew : ((backTo cpos (starEach [k'] X.env)).all (fun x => !x.1) && (backToKw cpos (keywordEach [] X.env)).all (fun x => x.1.isSome) && decide (([k'] : List Expr).length + ([] : List Keyword).length + (if ([] : List Keyword).isEmpty then 0 else 1) < 30)) = true := by rfl)
    (hline : (apos.endLine == cpos.line) = true := by rfl) (hst : starEach [k'] X.env = (false, eval k' X.env) :: starEach [] X.env := by rfl) : XE X (.Call (.Attribute o "index" apos) [k'] [] cpos) Γ M (vEx (fun _ : Nat => True) fun n => vInt (n : Int)) := fun G H σ s Q k =>
  ⟨_, pe_bm PySem.F.plainAttrs_list PySem.F.slot_list_index PySem.F.type_list_index mt_index pe_w (pa_cons pe_w pa_nil hst) hbase hfew hline hst rfl, ho G H σ s _ fun v G1 H1 t1 r1 => by
    obtain ⟨x, xs, rfl, h1, h2⟩ := r1
    refine ⟨.inl ⟨rfl, xs, SqL.of (t1.i _ _ h1)⟩, hk G1 H1 σ (s.stp t1) _ fun u G2 H2 t2 r2 => ?_⟩
    obtain rfl : u = .bl false := r2
    have e : xs = bs.map V.bl := h2.vals
    subst e
    obtain ⟨j, hj, hb, hno⟩ : ∃ j, ∃ (hj : j < bs.length), bs[j] = false ∧ ∀ m (hm : m < j), bs[m]'(by omega) = true := by
      obtain ⟨j, h1, h2⟩ := firstF h
      obtain ⟨hj, e⟩ := List.getElem?_eq_some_iff.mp h1
      exact ⟨j, hj, e, fun m hm => (List.getElem?_eq_some_iff.mp (h2 m hm)).2⟩
    refine ⟨x, bs.map V.bl, .bl false, j, .bl false, rfl, rfl, SqL.of (t2.i _ _ (t2.g _ _ h1)), rfl, ?_, ?_, rfl, fun m z hm hz => ?_, k _ G2 H2 (t1.trans t2) ⟨j, trivial, rfl⟩⟩
    · rw [List.all_map]; exact List.all_eq_true.mpr fun _ _ => rfl
    · rw [List.getElem?_map, List.getElem?_eq_getElem hj, hb]; rfl
    · rw [List.getElem?_map, List.getElem?_eq_getElem (by omega), hno m hm] at hz
      cases hz; rfl⟩
def geO : Option Nat → Nat → Nat → Bool
  | none, _, _ => true
  | some s, u, x => decide (u ≤ x * s)
theorem xe_orN {es es' ex ey ez : Expr} {q : Option Nat} {x y z j : Nat} {p0 p1 p2 p3 p4 : Pos} (h1 : XE X es Γ M (vOpt q)) (hx : XE X ex Γ M (vInt (x : Int))) (hy : XE X ey Γ M (vInt (y : Int))) (hz : XE X ez Γ M (vInt (z : Int))) (hq : ∀ s, q = some s → s ≤ 6) (h6 : z ≤ 6)
    (hs : ∀ s, q = some s → XE X es' Γ M (vInt (s : Int))) : XE X (.BoolOp .Or [.Compare es [.Is] [.Constant .none j p0] p1, .Compare (.BinOp ex .Mult es' p2) [.GtE] [.BinOp ey .Mult ez p3] p4] pos) Γ M (vBl (geO q (y * z) x)) := by
  cases q with
  | none => exact XE.is (xe_or (u := true) (w := true) (xe_isN h1 nonP_val) (fun z => nomatch z)) rfl
  | some s =>
    have := hq s rfl
    refine XE.is (xe_or (u := false) (xe_isN h1 nonP_val) (fun _ => xe_one (xe_ge (xe_mul hx (hs s rfl) (.inr ⟨by rw [two64]; omega, by rw [two64]; omega⟩)) (xe_mul hy hz (.inr ⟨by rw [two64]; omega, by rw [two64]; omega⟩))))) ?_
    rw [Bool.false_or]
    exact congrArg (fun b => vBl b) (decide_eq_decide.mpr (by rw [← Int.natCast_mul, ← Int.natCast_mul]; omega))
theorem xe_orZ {ex ey ez : Expr} {x y z : Nat} {j : Nat} {p0 p1 p2 : Pos} (hx : XE X ex Γ M (vInt (x : Int))) (hy : XE X ey Γ M (vInt (y : Int))) (hz : XE X ez Γ M (vInt (z : Int))) (hm : behindInMarks .GtE ez = false := by first | exact nobehind _ (by decide) (by decide) | rfl) : XE X (.BoolOp .Or [.Compare ex [.Eq] [.Constant (.int 0) j p0] p1, .Compare ey [.GtE] [ez] p2] pos) Γ M (vBl (decide (x = 0) || decide (z ≤ y))) := by
  refine XE.is (xe_or (xe_eq hx xe_int) (fun _ => xe_one (xe_ge hy hz))) (congrArg (fun b => vBl b) ?_)
  rw [show decide (V.int (x : Int) = V.int 0) = decide (x = 0) from decide_eq_decide.mpr ⟨fun h => by have h : (x : Int) = 0 := V.int.inj h; omega, fun h => by rw [h]; rfl⟩, show decide ((z : Int) ≤ (y : Int)) = decide (z ≤ y) from decide_eq_decide.mpr (by omega)]
end
def lawBs (t : Tie) (a b : Nat) : List Bool :=
  [geO t.n.2 (a * t.m.1) b, geO t.m.2 (b * t.n.1) a, decide (a = 0) || decide (t.m.1 ≤ b), decide (b = 0) || decide (t.n.1 ≤ a)]
section
variable {P : Program} {w : World} {K : PySem.W.Frag} {mg : Str → Option Value} {base : Heap}
theorem fd_law_lines (T : Txt K mg) : Fd P w K mg base "_law_lines" 1 ["_law_tie", "_law_a", "_law_b"] [] (spP (δ := Tie × Nat × Nat) (fun d => [vLTie d.1, vInt (d.2.1 : Int), vInt (d.2.2 : Int)]) (fun d => MnOk d.1.m ∧ MnOk d.1.n) (fun d => vLst ((lawBs d.1 d.2.1 d.2.2).map fun b => vBl b))) := by
  obtain ⟨g, fd, F⟩ := T.fn i_law_lines d_law_lines rfl
  refine ⟨_, fd, [], g rfl, F.kp, .nil, F.bindsN fun _ _ _ _ _ _ us hl => match us, hl with | [_, _, _], _ => rfl, ?_⟩
  have S : FnScope ["_law_tie", "_law_a", "_law_b", "_law_p", "_law_q", "_law_r", "_law_s"] ["_law_tie", "_law_a", "_law_b"] (defScope s_law_lines) := ⟨rfl, rfl, rfl, by decide +kernel, rfl, by decide +kernel, by decide +kernel⟩
  refine fd_of (N := ["_law_tie", "_law_a", "_law_b", "_law_p", "_law_q", "_law_r", "_law_s"]) F S (fun _ => rfl) (by decide) ?_
  intro cdv A outer s H E hr ⟨t, x, y⟩ G ok
  obtain ⟨ka, ⟨mp, mq⟩, kb, ⟨nr, ns⟩⟩ := t
  obtain ⟨⟨o1, o2⟩, o3, o4⟩ : MnOk (mp, mq) ∧ MnOk (nr, ns) := ok
  have o1 : mp ≤ 6 := o1
  have o3 : nr ≤ 6 := o3
  refine xss_tup (xe_catT (ps := [vInt (mp : Int), vOpt mq]) (qs := [vInt (nr : Int), vOpt ns]) (xe_ixT (ps := [vStr ka, vEnd (mp, mq), vStr kb, vEnd (nr, ns)]) (i := 1) (xv 0) xe_int rfl) (xe_ixT (ps := [vStr ka, vEnd (mp, mq), vStr kb, vEnd (nr, ns)]) (i := 3) (xv 0) xe_int rfl) (by simp) (by simp) (by show 4 ≤ sizeLine; rw [sizeLine_eq]; decide)) (xg_tup rfl (xgs_cons (xg_name 3 S.nd) (xgs_cons (xg_name 4 S.nd) (xgs_cons (xg_name 5 S.nd) (xgs_cons (xg_name 6 S.nd) xgs_nil))))) ?_
  refine xss_one (xs_ret (XE.is (XN.lst (xn_lst (xa_cons (p := vBl (geO ns (x * mp) y)) ?_ (xa_cons (p := vBl (geO mq (y * nr) x)) ?_ (xa_cons (xe_orZ (x := x) (y := y) (z := mp) (xv 1) (xv 2) (xv 3)) (xa_cons (xe_orZ (x := y) (y := x) (z := nr) (xv 2) (xv 1) (xv 5)) xa_nil)))))) rfl) fun _ _ _ t r => ⟨t, r⟩)
  · exact xe_orN (xv 6) (xv 2) (xv 1) (xv 3) (fun s h => (o4 s h).2) o1 (fun s h => XE.is (p := vOpt ns) (xv 6) (by rw [h]; rfl))
  · exact xe_orN (xv 4) (xv 1) (xv 2) (xv 5) (fun s h => (o2 s h).2) o3 (fun s h => XE.is (p := vOpt mq) (xv 4) (by rw [h]; rfl))
end
end K53
end MY_
section MZ_
set_option maxRecDepth 100000
set_option maxHeartbeats 4000000
/-! MZ: the law's gap. -/
namespace K53
open PySem PySem.Spec PyProof.Rows L2
def vSm : Pv := ⟨fun _ v => decide (v = V.non) = false, fun _ h => h⟩
def vGap (b : Bool) : Pv := if b then vNon else vSm
theorem nonP_gap {b : Bool} : NonP (vGap b) b := fun G v h => by
  cases b with
  | false => exact h
  | true => have h : v = .non := h; subst h; rfl
def lnT (c : Cnt) (t : Tie) : Bool := (lawBs t (cnt c t.a) (cnt c t.b)).all id
def lawC (ts : Ties) (c : Cnt) : Bool := ts.all fun x => lnT c x.2
structure GapOk (ts : Ties) (c : Cnt) : Prop where
  ok : ∀ x ∈ ts, TieOk x.2
  ka : ∀ x ∈ ts, x.2.a ∈ c.map (·.1)
  kb : ∀ x ∈ ts, x.2.b ∈ c.map (·.1)
  nd : (ts.map (·.1)).Nodup
  ln : ts.length ≤ 8
theorem cntP {c : Cnt} {k : Str} (h : k ∈ c.map (·.1)) : (pCnt c).lookup k = some (vInt ((cnt c k : Nat) : Int)) := by
  rw [pCnt_look, cnt_look h]; rfl
section
variable {P : Program} {w : World} {K : PySem.W.Frag} {mg : Str → Option Value} {base : Heap}
theorem fd_law_gap (T : Txt K mg) : Fd P w K mg base "_law_gap" 2 ["_law_ties_here", "_law_held"] [] (spP (δ := Ties × Cnt) (fun d => [vDic (pLTs d.1), vDic (pCnt d.2)]) (fun d => GapOk d.1 d.2) (fun d => vGap (lawC d.1 d.2))) := by
  obtain ⟨g, fd, F⟩ := T.fn i_law_gap d_law_gap rfl
  refine ⟨_, fd, [], g rfl, F.kp, .nil, F.bindsN fun _ _ _ _ _ _ us hl => match us, hl with | [_, _], _ => rfl, ?_⟩
  have S : FnScope ["_law_ties_here", "_law_held", "_law_word", "_law_lines_here"] ["_law_ties_here", "_law_held"] (defScope s_law_gap) := ⟨rfl, rfl, rfl, by decide +kernel, rfl, by decide +kernel, by decide +kernel⟩
  refine fd_of (N := ["_law_ties_here", "_law_held", "_law_word", "_law_lines_here"]) F S (fun _ => rfl) (by decide) ?_
  intro cdv A outer s H E hr ⟨ts, c⟩ G ok
  have ok : GapOk ts c := ok
  have l64 : (pLTs ts).length < 64 := by unfold pLTs; rw [List.length_map]; have := ok.ln; omega
  let Ga : En := [some (vDic (pLTs ts)), some (vDic (pCnt c)), none, none]
  refine xss_consP (φ := lawC ts c = true) (Γ' := Ga) (M' := []) (xs_for (ds := sortS (ts.map (·.1))) (f := fun s => vStr s) (fun _ : Unit => Ga) (fun _ => []) (fun i _ => ∀ s ∈ (sortS (ts.map (·.1))).take i, ∀ t, ts.lookup s = some t → lnT c t = true) rfl (xi_lst (XE.is (XN.lst (xn_sortD rfl (T.free "sorted" rfl) (xv 0) vwD l64)) (by rw [pLTs_keys]))) (fun _ _ _ s => ⟨(), fun s h => by simp at h, s⟩) (fun i s y B his hy => ?_) (fun G H σ ⟨_, hx, s⟩ => ⟨s, ?_⟩)) (fun h => ?_)
  · have hm : s ∈ sortS (ts.map (·.1)) := List.mem_of_getElem? his
    obtain ⟨⟨s', t⟩, hmem, e⟩ := List.mem_map.mp (mem_sortS.mp hm)
    have e : s' = s := e
    subst e
    have hl : ts.lookup s' = some t := look_of ok.nd hmem
    have hlp : (pLTs ts).lookup s' = some (vTup [vStr t.a, vEnd t.m, vStr t.b, vEnd t.n]) := by unfold pLTs; rw [lookup_map, hl]; rfl
    have tk : TieOk t := ok.ok _ hmem
    have ka : t.a ∈ c.map (·.1) := ok.ka _ hmem
    have kb : t.b ∈ c.map (·.1) := ok.kb _ hmem
    refine ⟨_, _, xg_name 2 S.nd, ?_⟩
    refine xss_set (i := 3) (p := vLst ((lawBs t (cnt c t.a) (cnt c t.b)).map fun b => vBl b)) (xe_call (fd_law_lines T) (t, cnt c t.a, cnt c t.b) hr (xa_cons (xe_dget (u1 hr) (xv 0) (xv 2) vwD hlp) (xa_cons (xe_dget (u1 hr) (xv 1) (xe_ixT (i := 0) (q := vStr t.a) (xe_dget (u1 hr) (xv 0) (xv 2) vwD hlp) xe_int rfl) vwD (cntP ka)) (xa_cons (xe_dget (u1 hr) (xv 1) (xe_ixT (i := 2) (q := vStr t.b) (xe_dget (u1 hr) (xv 0) (xv 2) vwD hlp) xe_int rfl) vwD (cntP kb)) xa_nil))) ⟨tk.m, tk.n⟩) S.nd ?_
    by_cases hc : lnT c t = true
    · refine xss_iff (XT.is (xt_not (xt_val (xe_all rfl (T.free "all" rfl) (xv 3)))) (by show (!lnT c t) = false; rw [hc]; rfl)) ?_
      refine xss_nil fun G H σ st => ⟨(), fun z hz u hu => ?_, st.fg (by repeat (first | exact fg_nil | apply fg_keep | apply fg_drop))⟩
      rw [List.take_add_one, his] at hz
      rcases List.mem_append.mp hz with hz | hz
      · exact hy z hz u hu
      · have hz : z = s' := by simpa using hz
        subst hz
        rw [hl] at hu
        cases hu
        exact hc
    · have hc : lnT c t = false := by simpa using hc
      have hf : lawC ts c = false := by
        cases h : lawC ts c with
        | false => rfl
        | true => rw [List.all_eq_true.mp h _ hmem] at hc; cases hc
      refine xss_ift (XT.is (xt_not (xt_val (xe_all rfl (T.free "all" rfl) (xv 3)))) (by show (!lnT c t) = true; rw [hc]; rfl)) (xss_one (xs_ret ((xe_tup (xa_cons (xv 2) (xa_cons (xe_indexF (xv 3) xe_bl ?_) xa_nil))).weak fun G v r => ?_) fun _ _ _ t r => ⟨t, r⟩))
      · unfold lnT at hc
        have hc := List.all_eq_false.mp hc
        obtain ⟨b, hb, e⟩ := hc
        have : b = false := by simpa using e
        subst this
        exact hb
      · show (vGap (lawC ts c)).r G v
        rw [hf]
        obtain ⟨a, xs, rfl, _⟩ := r
        rfl
  · refine List.all_eq_true.mpr fun x hx' => hx x.1 ?_ x.2 (look_of ok.nd hx')
    rw [List.take_length]
    exact mem_sortS.mpr (List.mem_map_of_mem hx')
  · exact xss_one (xs_ret (XE.is xe_non (by show _ = vGap (lawC ts c); rw [h]; rfl)) fun _ _ _ t r => ⟨t, r⟩)
end
end K53
end MZ_
section NA_
set_option maxRecDepth 100000
set_option maxHeartbeats 4000000
/-! NA: the law's leads. -/
namespace K53
open PySem PySem.Spec PyProof.Rows L2
theorem AlA.rep {G : Hp} {vs : List V} {ps : List Pv} (h : AlA G vs ps) : ∀ k : Nat, AlA G (List.replicate k vs).flatten (List.replicate k ps).flatten
  | 0 => .nil
  | k + 1 => by
    rw [List.replicate_succ, List.replicate_succ, List.flatten_cons, List.flatten_cons]
    exact h.app (AlA.rep h k)
section
variable {X : Cx} {e a b c o k' : Expr} {Γ : En} {M : Mu} {p q : Pv} {ps qs : List Pv} {pos apos cpos : Pos}
theorem xe_rep {k : Nat} (ha : XE X a Γ M (vLst ps)) (hb : XE X b Γ M (vInt (k : Int))) (hk : k < 1000) (hz : ps.length < 1000) : XE X (.BinOp a .Mult b pos) Γ M (vLst (List.replicate k ps).flatten) :=
  xe_opG op_rep ha hb fun G H v w s ⟨x, xs, e1, g1, l1⟩ rw Q q => by
    obtain rfl : w = .int (k : Int) := rw
    have hp : (2:Int)^63 = 9223372036854775808 := by decide
    have hl : xs.length < 1000 := by rw [l1.len]; exact hz
    have hm : xs.length * k ≤ 1000 * 1000 := Nat.mul_le_mul (by omega) (by omega)
    exact ⟨x, (k : Int), xs, e1, rfl, s _ _ g1, by rw [hp]; omega, by rw [hp]; omega, by rw [Int.toNat_natCast, sizeLine_eq]; omega, fun p hp => q _ (upd G p (.lst (List.replicate k xs).flatten)) _ (Stp.new s hp) ⟨p, _, rfl, upd_same, (l1.mono (le_same (same_new (s.free hp)))).rep k⟩⟩
end
/-- tail, head, least here, most there -/
abbrev Ld := Str × Str × Nat × Option Nat
def vLd (l : Ld) : Pv := vTup [vStr l.1, vStr l.2.1, vInt (l.2.2.1 : Int), vOpt l.2.2.2]
def ldsT (t : Tie) : List Ld := (if 0 < t.m.1 then [(t.a, t.b, t.m.1, t.n.2)] else []) ++ (if 0 < t.n.1 then [(t.b, t.a, t.n.1, t.m.2)] else [])
def ldsS (ts : Ties) (ss : List Str) : List Ld := ss.flatMap fun s => ((ts.lookup s).map ldsT).getD []
def leads (ts : Ties) : List Ld := ldsS ts (sortS (ts.map (·.1)))
theorem ldsT_len (t : Tie) : (ldsT t).length ≤ 2 := by
  unfold ldsT
  split <;> split <;> simp
theorem ldsS_len (ts : Ties) : ∀ ss : List Str, (ldsS ts ss).length ≤ 2 * ss.length
  | [] => Nat.le_refl _
  | s :: r => by
    unfold ldsS
    rw [List.flatMap_cons, List.length_append, List.length_cons]
    have h1 := ldsS_len ts r
    unfold ldsS at h1
    have h2 : (((ts.lookup s).map ldsT).getD []).length ≤ 2 := by
      cases ts.lookup s with
      | none => simp
      | some t => exact ldsT_len t
    omega
section
variable {P : Program} {w : World} {K : PySem.W.Frag} {mg : Str → Option Value} {base : Heap}
theorem fd_law_leads (T : Txt K mg) : Fd P w K mg base "_law_leads" 1 ["_law_ties_here"] [] (spP (δ := Ties) (fun ts => [vDic (pLTs ts)]) (fun ts => (ts.map (·.1)).Nodup ∧ ts.length ≤ 8) (fun ts => vLst ((leads ts).map vLd))) := by
  obtain ⟨g, fd, F⟩ := T.fn i_law_leads d_law_leads rfl
  refine ⟨_, fd, [], g rfl, F.kp, .nil, F.bindsN fun _ _ _ _ _ _ us hl => match us, hl with | [_], _ => rfl, ?_⟩
  have S : FnScope ["_law_ties_here", "_law_found", "_law_word", "_law_here", "_law_first", "_law_there", "_law_last"] ["_law_ties_here"] (defScope s_law_leads) := ⟨rfl, rfl, rfl, by decide +kernel, rfl, by decide +kernel, by decide +kernel⟩
  refine fd_of (N := ["_law_ties_here", "_law_found", "_law_word", "_law_here", "_law_first", "_law_there", "_law_last"]) F S (fun _ => rfl) (by decide) ?_
  intro cdv A outer s H E hr ts G ok
  obtain ⟨ok1, ok2⟩ : (ts.map (·.1)).Nodup ∧ ts.length ≤ 8 := ok
  have l64 : (pLTs ts).length < 64 := by unfold pLTs; rw [List.length_map]; omega
  refine xss_new (i := 1) (xn_lst xa_nil) S.nd fun a1 => ?_
  let Ga : En := [some (vDic (pLTs ts)), some (vVal (.ref a1)), none, none, none, none, none]
  let Ms : Nat → Mu := fun j => [(a1, mLst ((ldsS ts ((sortS (ts.map (·.1))).take j)).map vLd))]
  refine xss_consI (M := Ms 0) (fun _ : Nat => Ga) Ms (fun j => j = ts.length) (xs_for (ds := sortS (ts.map (·.1))) (f := fun s => vStr s) (fun _ : Nat => Ga) Ms (fun i j => j = i) rfl (xi_lst (XE.is (XN.lst (xn_sortD rfl (T.free "sorted" rfl) (xv 0) vwD l64)) (by rw [pLTs_keys]))) (fun _ _ _ s => ⟨0, rfl, s⟩) (fun i s y B his hy => ?_) (fun G H σ ⟨j, hx, s⟩ => ⟨j, by rw [hx, sortS_length, List.length_map], s⟩)) ?_
  · have hy : y = i := hy
    subst hy
    have hm : s ∈ sortS (ts.map (·.1)) := List.mem_of_getElem? his
    obtain ⟨⟨s', t⟩, hmem, e⟩ := List.mem_map.mp (mem_sortS.mp hm)
    have e : s' = s := e
    subst e
    have hl : ts.lookup s' = some t := look_of ok1 hmem
    have hlp : (pLTs ts).lookup s' = some (vTup [vStr t.a, vEnd t.m, vStr t.b, vEnd t.n]) := by unfold pLTs; rw [lookup_map, hl]; rfl
    have small := ldsS_len ts ((sortS (ts.map (·.1))).take y)
    have tl : ((sortS (ts.map (·.1))).take y).length ≤ 8 := by rw [List.length_take, sortS_length, List.length_map]; omega
    refine ⟨_, _, xg_name 2 S.nd, ?_⟩
    refine xss_tup (xe_dget (u1 hr) (xv 0) (xv 2) vwD hlp) (xg_tup rfl (xgs_cons (xg_name 3 S.nd) (xgs_cons (xg_name 4 S.nd) (xgs_cons (xg_name 5 S.nd) (xgs_cons (xg_name 6 S.nd) xgs_nil))))) ?_
    have rp : ∀ (n : Nat) (l : Ld), (List.replicate (if decide ((0 : Int) < (n : Int)) = true then 1 else 0) [vLd l]).flatten = (if 0 < n then [l] else []).map vLd := fun n l => by
      by_cases h : 0 < n
      · rw [if_pos (decide_eq_true (by omega)), if_pos h]; rfl
      · rw [if_neg (by rw [decide_eq_false (by omega)]; decide), if_neg h]; rfl
    have pi : ∀ (u : Bool), (vInt (if u = true then 1 else 0) : Pv) = vInt (((if u = true then 1 else 0 : Nat) : Nat) : Int) := fun u => by cases u <;> rfl
    have nx : (ldsS ts ((sortS (ts.map (·.1))).take (y + 1))).map vLd = ((ldsS ts ((sortS (ts.map (·.1))).take y)).map vLd ++ (if 0 < t.m.1 then [(t.a, t.b, t.m.1, t.n.2)] else []).map vLd) ++ (if 0 < t.n.1 then [(t.b, t.a, t.n.1, t.m.2)] else []).map vLd := by
      rw [List.take_add_one, his, Option.toList_some]
      unfold ldsS
      rw [List.flatMap_append, List.map_append, List.append_assoc]
      congr 1
      rw [List.flatMap_cons, List.flatMap_nil, List.append_nil, hl]
      show List.map vLd (ldsT t) = _
      unfold ldsT
      rw [List.map_append]
    have i1 : ∀ (n : Nat) (l : Ld), ((if 0 < n then [l] else []).map vLd).length ≤ 1 := fun n l => by split <;> simp
    have r1 := rp t.m.1 (t.a, t.b, t.m.1, t.n.2)
    have r2 := rp t.n.1 (t.b, t.a, t.n.1, t.m.2)
    generalize hq1 : (if 0 < t.m.1 then [(t.a, t.b, t.m.1, t.n.2)] else []).map vLd = q1 at nx r1
    generalize hq2 : (if 0 < t.n.1 then [(t.b, t.a, t.n.1, t.m.2)] else []).map vLd = q2 at nx r2
    have l1 : q1.length ≤ 1 := by rw [← hq1]; exact i1 _ _
    have l2 : q2.length ≤ 1 := by rw [← hq2]; exact i1 _ _
    refine xss_cons (xs_extend (M1 := []) (qs := q1) (xv 1) (XE.is (xe_rep (ps := [vLd (t.a, t.b, t.m.1, t.n.2)]) (k := if decide ((0 : Int) < (t.m.1 : Int)) = true then 1 else 0) (XN.lst (xn_lst (xa_cons (xe_tup (xa_cons (xv 3) (xa_cons (xv 5) (xa_cons (xe_ixT (ps := [vInt (t.m.1 : Int), vOpt t.m.2]) (i := 0) (xv 4) xe_int rfl) (xa_cons (xe_ixT (ps := [vInt (t.n.1 : Int), vOpt t.n.2]) (i := 1) (xv 6) xe_int rfl) xa_nil))))) xa_nil))) (XE.is (xe_intB (T.free "int" rfl) (xe_gt (xe_ixT (ps := [vInt (t.m.1 : Int), vOpt t.m.2]) (q := vInt (t.m.1 : Int)) (i := 0) (xv 4) xe_int rfl) xe_int)) (pi _)) (by split <;> omega) (by show 1 < 1000; decide)) (congrArg vLst r1)) (fun _ _ _ s => s) (by rw [List.length_map, sizeLine_eq]; omega)) ?_
    refine xss_one (xs_extend (M1 := []) (qs := q2) (xv 1) (XE.is (xe_rep (ps := [vLd (t.b, t.a, t.n.1, t.m.2)]) (k := if decide ((0 : Int) < (t.n.1 : Int)) = true then 1 else 0) (XN.lst (xn_lst (xa_cons (xe_tup (xa_cons (xv 5) (xa_cons (xv 3) (xa_cons (xe_ixT (ps := [vInt (t.n.1 : Int), vOpt t.n.2]) (i := 0) (xv 6) xe_int rfl) (xa_cons (xe_ixT (ps := [vInt (t.m.1 : Int), vOpt t.m.2]) (i := 1) (xv 4) xe_int rfl) xa_nil))))) xa_nil))) (XE.is (xe_intB (T.free "int" rfl) (xe_gt (xe_ixT (ps := [vInt (t.n.1 : Int), vOpt t.n.2]) (q := vInt (t.n.1 : Int)) (i := 0) (xv 6) xe_int rfl) xe_int)) (pi _)) (by split <;> omega) (by show 1 < 1000; decide)) (congrArg vLst r2)) (fun G H σ s => ⟨y + 1, rfl, ?_⟩) (by rw [List.length_append, List.length_map, sizeLine_eq]; omega))
    have s := s.fg (Γ' := Ga) (by repeat (first | exact fg_nil | apply fg_keep | apply fg_drop))
    show Sta _ G H σ Ga [(a1, mLst ((ldsS ts ((sortS (ts.map (·.1))).take (y + 1))).map vLd))]
    rw [nx]
    exact s
  · intro j hj
    have hj : j = ts.length := hj
    subst hj
    have e : (ldsS ts ((sortS (ts.map (·.1))).take ts.length)) = leads ts := by
      rw [List.take_of_length_le (by rw [sortS_length, List.length_map]; exact Nat.le_refl _)]; rfl
    exact xss_pub (M1 := []) (i := 1) (a := a1) (p := vLst ((leads ts).map vLd)) rfl (fun G u r h => mLst_lst (e ▸ r) h) (xss_one (xs_ret (xv 1) fun _ _ _ t r => ⟨t, r⟩))
end
end K53
end NA_
section NB_
set_option maxRecDepth 100000
set_option maxHeartbeats 4000000
/-! NB: the law's walk above one. -/
namespace K53
open PySem PySem.Spec PyProof.Rows L2
theorem nd_len : ∀ {l m : List Str}, l.Nodup → (∀ x ∈ l, x ∈ m) → l.length ≤ m.length
  | [], _, _, _ => Nat.zero_le _
  | a :: l, m, h, hs => by
    have ha : a ∈ m := hs a List.mem_cons_self
    have hn := List.nodup_cons.mp h
    have := nd_len (m := m.erase a) hn.2 fun x hx => (List.mem_erase_of_ne (fun e : x = a => hn.1 (by rw [← e]; exact hx))).mpr (hs x (List.mem_cons_of_mem _ hx))
    rw [List.length_erase_of_mem ha] at this
    have := List.length_pos_of_mem ha
    rw [List.length_cons]; omega
/-- one lead of the walk: does it end it -/
def abvS (rec : Str → List Str → Nat × Nat → Bool) (st here : Str) (passed : List Str) (pr : Nat × Nat) (l : Ld) : Bool :=
  match l.2.2.2 with
  | none => false
  | some s => decide (l.1 = here) && decide (0 < s) && ((decide (l.2.1 = st) && decide (pr.2 * s < pr.1 * l.2.2.1)) || (!decide (l.2.1 ∈ passed) && rec l.2.1 (passed ++ [l.2.1]) (pr.1 * l.2.2.1, pr.2 * s)))
def abv (ls : List Ld) (st : Str) : Nat → Str → List Str → Nat × Nat → Bool
  | 0, _, _, _ => false
  | n + 1, here, passed, pr => ls.any (abvS (abv ls st n) st here passed pr)
structure AbvOk (n : Nat) (ks : List Str) (ls : List Ld) (passed : List Str) : Prop where
  nd : passed.Nodup
  su : ∀ x ∈ passed, x ∈ ks
  hd : ∀ l ∈ ls, l.2.1 ∈ ks
  sm : ∀ l ∈ ls, l.2.2.1 ≤ 6 ∧ ∀ s, l.2.2.2 = some s → s ≤ 6
  fu : ks.length ≤ passed.length + n
  kl : ks.length ≤ 5
abbrev AbvD := List Str × List Ld × Str × Str × List Str × (Nat × Nat)
def spAbv (n : Nat) : Sp := spP (δ := AbvD) (fun d => [vLst (d.2.1.map vLd), vStr d.2.2.1, vStr d.2.2.2.1, vLst (d.2.2.2.2.1.map fun s => vStr s), vTup [vInt (d.2.2.2.2.2.1 : Int), vInt (d.2.2.2.2.2.2 : Int)]]) (fun d => AbvOk n d.1 d.2.1 d.2.2.2.2.1) (fun d => vBl (abv d.2.1 d.2.2.1 (n + 1) d.2.2.2.1 d.2.2.2.2.1 d.2.2.2.2.2))
section
variable {P : Program} {w : World} {K : PySem.W.Frag} {mg : Str → Option Value} {base : Heap}
theorem fd_law_is_aboveS (T : Txt K mg) (n : Nat) (hrec : ∀ m, n = m + 1 → Fd P w K mg base "_law_is_above" (m + 1) ["_law_leads_here", "_law_start", "_law_here", "_law_passed", "_law_product"] [] (spAbv m)) : Fd P w K mg base "_law_is_above" (n + 1) ["_law_leads_here", "_law_start", "_law_here", "_law_passed", "_law_product"] [] (spAbv n) := by
  obtain ⟨g, fd, F⟩ := T.fn i_law_is_above d_law_is_above rfl
  refine ⟨_, fd, [], g rfl, F.kp, .nil, F.bindsN fun _ _ _ _ _ _ us hl => match us, hl with | [_, _, _, _, _], _ => rfl, ?_⟩
  have S : FnScope ["_law_leads_here", "_law_start", "_law_here", "_law_passed", "_law_product", "_law_tail", "_law_head", "_law_p", "_law_s", "_law_longer"] ["_law_leads_here", "_law_start", "_law_here", "_law_passed", "_law_product"] (defScope s_law_is_above) := ⟨rfl, rfl, rfl, by decide +kernel, rfl, by decide +kernel, by decide +kernel⟩
  refine fd_of (N := ["_law_leads_here", "_law_start", "_law_here", "_law_passed", "_law_product", "_law_tail", "_law_head", "_law_p", "_law_s", "_law_longer"]) F S (fun _ => rfl) (by decide) ?_
  intro cdv A outer s H E hr ⟨ks, ls, st, here, passed, u, v⟩ G ok
  have ok : AbvOk n ks ls passed := ok
  let Ga : En := [some (vLst (ls.map vLd)), some (vStr st), some (vStr here), some (vLst (passed.map fun s => vStr s)), some (vTup [vInt (u : Int), vInt (v : Int)]), none, none, none, none, none]
  let stp := abvS (abv ls st n) st here passed (u, v)
  refine xss_consP (φ := ls.any stp = false) (Γ' := Ga) (M' := []) (xs_for (ds := ls) (f := vLd) (fun _ : Unit => Ga) (fun _ => []) (fun i _ => ∀ l ∈ ls.take i, stp l = false) rfl (xi_lst (xv 0)) (fun _ _ _ s => ⟨(), fun s h => by simp at h, s⟩) (fun i l y B hil hy => ?_) (fun G H σ ⟨_, hx, s⟩ => ⟨s, ?_⟩)) (fun h => ?_)
  · obtain ⟨a, b, p, q⟩ := l
    have hm : (a, b, p, q) ∈ ls := List.mem_of_getElem? hil
    have hb : b ∈ ks := ok.hd _ hm
    obtain ⟨hp, hq⟩ := ok.sm _ hm
    have hp : p ≤ 6 := hp
    have fin : ∀ {x : Unit}, stp (a, b, p, q) = false → ∀ l ∈ ls.take (i + 1), stp l = false := fun {_} hs l hl => by
      rw [List.take_add_one, hil] at hl
      rcases List.mem_append.mp hl with hl | hl
      · exact hy l hl
      · have hl : l = (a, b, p, q) := by simpa using hl
        rw [hl]; exact hs
    have yes : stp (a, b, p, q) = true → abv ls st (n + 1) here passed (u, v) = true := fun h => List.any_eq_true.mpr ⟨_, hm, h⟩
    refine ⟨_, _, xg_tup rfl (xgs_cons (xg_name 5 S.nd) (xgs_cons (xg_name 6 S.nd) (xgs_cons (xg_name 7 S.nd) (xgs_cons (xg_name 8 S.nd) xgs_nil)))), ?_⟩
    have nil : ∀ {M : Mu} {Γ1 : En} {e1 : Eb} {P1 : Pst}, stp (a, b, p, q) = false → Fg Ga Γ1 → (∀ G H σ, StaI e1 (fun _ : Unit => Ga) (fun _ => []) (fun _ => ∀ l ∈ ls.take (i + 1), stp l = false) G H σ → P1.nx G H σ) → XSs (cxOf CX0 P w K mg base ["_law_leads_here", "_law_start", "_law_here", "_law_passed", "_law_product", "_law_tail", "_law_head", "_law_p", "_law_s", "_law_longer"] "_law_is_above" (defScope s_law_is_above) (He.fAd K d_law_is_above.at_) cdv A outer s H E).nox e1 [] Γ1 [] P1 := fun hs fg k => xss_nil fun G H σ st => k G H σ ⟨(), fin (x := ()) hs, st.fg fg⟩
    cases q with
    | none =>
      exact xss_one (xs_if (u := false) (XT.is (xw_and (xt_eq (xv 5) (xv 2)) (fun _ => xw_and (u := false) (w := false) (XT.is (xt_notN (xv 8) nonP_val) rfl) (fun z => nomatch z))).pt (by simp)) (fun z => nomatch z) (fun _ => nil (M := []) rfl (by repeat (first | exact fg_nil | apply fg_keep | apply fg_drop)) fun _ _ _ z => z))
    | some s' =>
      have hs6 : s' ≤ 6 := hq s' rfl
      refine xss_one (xs_if (u := decide (a = here) && decide (0 < s')) (XT.is (xw_and (xt_eq (xv 5) (xv 2)) (fun _ => xw_and (u := true) (XT.is (xt_notN (xv 8) nonP_val) rfl) (fun _ => xw_and1 (xt_gt (xv 8) xe_int)))).pt ?_) (fun h => ?_) (fun h => nil (M := []) ?_ (by repeat (first | exact fg_nil | apply fg_keep | apply fg_drop)) fun _ _ _ z => z))
      · rw [Bool.true_and, show decide (V.str a = V.str here) = decide (a = here) from decide_eq_decide.mpr ⟨fun h => V.str.inj h, fun h => by rw [h]⟩, show decide ((0 : Int) < (s' : Int)) = decide (0 < s') from decide_eq_decide.mpr (by omega)]
      · have h : (decide (a = here) && decide (0 < s')) = true := h
        have e1 : (u : Int) * (p : Int) = ((u * p : Nat) : Int) := by rw [Int.natCast_mul]
        have e2 : (v : Int) * (s' : Int) = ((v * s' : Nat) : Int) := by rw [Int.natCast_mul]
        refine xss_set (i := 9) (p := vTup [vInt ((u * p : Nat) : Int), vInt ((v * s' : Nat) : Int)]) (xe_tup (xa_cons (XE.is (xe_mul (xe_ixT (q := vInt (u : Int)) (i := 0) (xv 4) xe_int rfl) (xv 7) (.inr ⟨by rw [two64]; omega, by rw [two64]; omega⟩)) (congrArg (fun z => vInt z) e1)) (xa_cons (XE.is (xe_mul (xe_ixT (q := vInt (v : Int)) (i := 1) (xv 4) xe_int rfl) (xv 8) (.inr ⟨by rw [two64]; omega, by rw [two64]; omega⟩)) (congrArg (fun z => vInt z) e2)) xa_nil))) S.nd ?_
        have cond : ∀ {z : Bool}, (decide (b = st) && decide (v * s' < u * p)) = z → (decide (V.str b = V.str st) && decide (((v * s' : Nat) : Int) < ((u * p : Nat) : Int))) = z := fun h => by
          rw [← h, show decide (V.str b = V.str st) = decide (b = st) from decide_eq_decide.mpr ⟨fun h => V.str.inj h, fun h => by rw [h]⟩, show decide (((v * s' : Nat) : Int) < ((u * p : Nat) : Int)) = decide (v * s' < u * p) from decide_eq_decide.mpr (by omega)]
        have sv : stp (a, b, p, some s') = ((decide (b = st) && decide (v * s' < u * p)) || (!decide (b ∈ passed) && abv ls st n b (passed ++ [b]) (u * p, v * s'))) := by
          show (decide (a = here) && decide (0 < s') && _) = _
          rw [h, Bool.true_and]
        cases hz : (decide (b = st) && decide (v * s' < u * p)) with
        | true =>
          rw [hz, Bool.true_or] at sv
          exact xss_ift (XT.is (xw_and (xt_eq (xv 6) (xv 1)) (fun _ => xw_and1 (xt_gt (xe_ixT (q := vInt ((u * p : Nat) : Int)) (i := 0) (xv 9) xe_int rfl) (xe_ixT (q := vInt ((v * s' : Nat) : Int)) (i := 1) (xv 9) xe_int rfl)))).pt (cond hz)) (xss_one (xs_ret (XE.is xe_bl (by show _ = vBl (abv ls st (n + 1) here passed (u, v)); rw [yes sv])) fun _ _ _ t r => ⟨t, r⟩))
        | false =>
          rw [hz, Bool.false_or] at sv
          refine xss_iff (XT.is (xw_and (xt_eq (xv 6) (xv 1)) (fun _ => xw_and1 (xt_gt (xe_ixT (q := vInt ((u * p : Nat) : Int)) (i := 0) (xv 9) xe_int rfl) (xe_ixT (q := vInt ((v * s' : Nat) : Int)) (i := 1) (xv 9) xe_int rfl)))).pt (cond hz)) ?_
          by_cases hbp : b ∈ passed
          · exact xss_one (xs_if (u := false) (XT.is (xw_and (w := false) (xt_ninS (t := false) (xv 6) (xv 3)) (fun z => by simp [hbp] at z)).pt (by simp)) (fun z => nomatch z) (fun _ => nil (M := []) (by rw [sv]; simp [hbp]) (by repeat (first | exact fg_nil | apply fg_keep | apply fg_drop)) fun _ _ _ z => z))
          · have nd' : (passed ++ [b]).Nodup := List.nodup_append.mpr ⟨ok.nd, by simp, fun x hx y hy e => by
              have hy : y = b := by simpa using hy
              exact hbp (by rw [← hy, ← e]; exact hx)⟩
            have su' : ∀ x ∈ passed ++ [b], x ∈ ks := fun x hx => by
              rcases List.mem_append.mp hx with hx | hx
              · exact ok.su x hx
              · have hx : x = b := by simpa using hx
                rw [hx]; exact hb
            have hlen := nd_len nd' su'
            rw [List.length_append] at hlen
            have hlen : passed.length + 1 ≤ ks.length := hlen
            have hfu := ok.fu
            have hkl := ok.kl
            cases n with
            | zero => omega
            | succ m =>
              have okm : AbvOk m ks ls (passed ++ [b]) := ⟨nd', su', ok.hd, ok.sm, by rw [List.length_append]; show ks.length ≤ passed.length + 1 + m; omega, hkl⟩
              refine xss_one (xs_if (u := stp (a, b, p, some s')) (XT.is (XW.pt (xw_and (xt_ninS (t := false) (xv 6) (xv 3)) (fun _ => xw_and1 (xt_val (XE.is (xe_call (hrec m rfl) (ks, ls, st, b, passed ++ [b], (u * p, v * s')) hr (xa_cons (xv 0) (xa_cons (xv 1) (xa_cons (xv 6) (xa_cons (XE.is (XN.lst (xn_catL (ps := passed.map fun s => vStr s) (qs := [vStr b]) (xv 3) vwL (XN.lst (xn_lst (xa_cons (xv 6) xa_nil))) (by rw [List.length_map, sizeLine_eq]; show passed.length + 1 ≤ _; omega))) (by rw [List.map_append]; rfl)) (xa_cons (xv 9) xa_nil))))) okm (hj := by omega)) rfl))))) sv.symm) (fun h => ?_) (fun h => nil (M := []) h (by repeat (first | exact fg_nil | apply fg_keep | apply fg_drop)) fun _ _ _ z => z))
              exact xss_one (xs_ret (XE.is xe_bl (by show _ = vBl (abv ls st (m + 1 + 1) here passed (u, v)); rw [yes h])) fun _ _ _ t r => ⟨t, r⟩)
      · have h : (decide (a = here) && decide (0 < s')) = false := h
        show (decide (a = here) && decide (0 < s') && _) = false
        rw [h]; rfl
  · rw [List.take_length] at hx
    exact List.any_eq_false.mpr fun l hl => by rw [hx l hl]; decide
  · exact xss_one (xs_ret (XE.is xe_bl (by show _ = vBl (ls.any stp); rw [h])) fun _ _ _ t r => ⟨t, r⟩)
theorem fd_law_is_above (T : Txt K mg) : ∀ n, Fd P w K mg base "_law_is_above" (n + 1) ["_law_leads_here", "_law_start", "_law_here", "_law_passed", "_law_product"] [] (spAbv n)
  | 0 => fd_law_is_aboveS T 0 fun m h => by omega
  | n + 1 => fd_law_is_aboveS T (n + 1) fun m h => by
    have : m = n := by omega
    rw [this]; exact fd_law_is_above T n
end
end K53
end NB_
section KFq_
set_option maxRecDepth 100000
set_option maxHeartbeats 4000000
/-! KFq: list(d.items()), the dict locked or not. -/
namespace K53
open PySem PySem.Spec PyProof.Rows L2 LiI
def rItemsR : V → Hp → VK → Prop := fun x H Q => ∃ (d : Addr) (kvs : List (Key × V)), x = .ref d ∧ Rd H d (.dK kvs) ∧
  ∀ (H' : Hp) (p : Addr) (ts : List Addr), (∀ b o, H b = some o → H' b = some o) → H p = none → (∀ t ∈ ts, H t = none) → p ∉ ts → H' p = some (.lst (ts.map V.ref)) → Paired (fun (t : Addr) (q : Key × V) => H' t = some (.tup [kV q.1, q.2])) ts kvs → Q (.ref p) H'
def tListItemsR (te : TE) : TE := fun σ H Q => te σ H fun x H1 => rItemsR x H1 Q
section
variable {X : Cx} {e : Expr} {te : TE} {p apos cpos pos : Pos}
theorem pe_listItemsR (hc : X.calm = true) (he : PE X e te) (hg : Gl X "list") (hm : X.mg "list" = none) (hv : bootBuiltins "list" = some (.type "list")) (hbase : attributeBase e "items" X.env (eval e X.env) = eval e X.env := by rfl) (hline : (apos.endLine == cpos.line) = true := by rfl)
    (hs : starEach [.Call (.Attribute e "items" apos) [] [] cpos] X.env = (false, eval (.Call (.Attribute e "items" apos) [] [] cpos) X.env) :: starEach [] X.env := by rfl) :
    PE X (.Call (.Name "list" p) [.Call (.Attribute e "items" apos) [] [] cpos] [] pos) (tListItemsR te) := by
  refine ⟨fun pins s σ H Q I hq => ?_⟩
  refine wpAny_Call_Name_kw (ld_blt I hg hm hv ?_)
  refine PyProof.Rows.callWith_type1 ?_ hs rfl
  rw [hs]
  show wpAny _ _ (spliced ((false, eval (.Call (.Attribute e "items" apos) [] [] cpos) X.env) :: backTo pos (starEach [] X.env))) _ _ s
  refine Calls.spliced_cons ?_
  refine wpAny_Call_method (T := "dict") (id := "dict.items") hbase rfl hline F.plainAttrs_dict F.slot_dict_items F.type_dict_items (thn (he.run pins s σ H _ I hq) fun u s1 ⟨x, H1, I1, rx, d, kvs, ex, hd, q⟩ => ?_)
  subst ex
  obtain rfl : u = Value.ref d := rx
  obtain ⟨hz, hs0, vs, kv, hdo⟩ := dk_rd I1.hok hd
  obtain ⟨ep, hat⟩ := hdo.dictAt
  have lk : kvs.length = vs.length := Paired.length kv
  have I2 : Inv X pins σ H1 { s1 with heap := s1.heap.push { cls := .type "dict_items", data := .fields #[.ref d] } } := I1.kept (t' := s1.toks) fun b ob q => Heap.get?_push_of_some _ q
  refine ⟨hdo.typeIs, hdo.mapOf.noDict, ?_⟩
  show wpAny _ _ (callWith cpos (.builtin "dict.items") [.ref d] [] []) _ X.xe s1
  refine method_meetsIn F.slot_dict_items F.entry_dict_items rfl (PySem.evalArgs_none ⟨rfl, hdo.typeIs, F.args_dict_items_1 _, _, meets_dict_items (mixKind X.prog X.w) d hs0, ⟨vs, hdo⟩, ?_⟩)
  refine Calls.spliced_nil ?_
  refine PySem.W.kdx_call (knd := mixKind X.prog X.w) (kvs := vs) (ep := ep) (I1.ok.hd hc) ⟨_, Heap.get?_push_size _ rfl, rfl, rfl⟩ (hat.push _) (by omega) fun h' tk acc c as hk hS hl hG hacc => ?_
  obtain ⟨H', k1, k2, k3, k4, k5, k6, J⟩ := items_laid (tk := tk) I2 hz kv hk hS hl hG hacc
  exact ⟨.ref _, H', J, rfl, q H' _ as k1 k2 k3 k4 k5 k6⟩
end
theorem AlD.merge {G : Hp} : ∀ {more : List (Key × V)} {km : List (Str × Pv)} {kv : List (Key × V)} {kp : List (Str × Pv)}, AlD G more km → AlD G kv kp → ((kp ++ km).map (·.1)).Nodup → AlD G (mergeK kv more) (kp ++ km)
  | _, _, _, _, .nil, h, _ => by rw [List.append_nil]; exact h
  | _, _, kv, kp, .cons (k := k) (v := v) (p := p) (vs := vs) (ps := ps) hv t, h, nd => by
    have nd1 : (kp.map (·.1)).Nodup := by rw [List.map_append] at nd; exact (List.nodup_append.mp nd).1
    have hk : k ∉ kp.map (·.1) := fun z => by
      rw [List.map_append] at nd
      exact (List.nodup_append.mp nd).2.2 _ z _ (by rw [List.map_cons]; exact List.mem_cons_self) rfl
    have h2 := h.put (s := k) hv nd1
    rw [putD_new hk] at h2
    have e : kp ++ (k, p) :: ps = (kp ++ [(k, p)]) ++ ps := by rw [List.append_assoc]; rfl
    rw [e] at nd ⊢
    show AlD G (mergeK (putK kv (Sum.inr k) v) vs) _
    exact AlD.merge t h2 nd
theorem alA_pairs {G H : Hp} (s : Same G H) {K : PySem.W.Frag} : ∀ {xs : List V} {kp : List (Str × Pv)}, AlA G xs (kp.map fun x => vTup [vStr x.1, x.2]) → ∃ (ps : List Addr) (kvs : List (Key × V)), xs = ps.map V.ref ∧ Paired (fun p kv => SqT K H p [kV kv.1, kv.2]) ps kvs ∧ AlD G kvs kp
  | [], [], _ => ⟨[], [], rfl, .nil, .nil⟩
  | x :: xs, (k, q) :: kp, .cons h t => by
    obtain ⟨ps, kvs, rfl, h2, h3⟩ := alA_pairs s t
    obtain ⟨a, ys, rfl, g1, g2⟩ := h
    obtain ⟨v, w, rfl, rv, rw⟩ := alA2 g2
    obtain rfl : v = .str k := rv
    exact ⟨a :: ps, (.inr k, w) :: kvs, rfl, .cons (SqT.of (s _ _ g1)) h2, .cons rw h3⟩
theorem alA_of_items {G : Hp} : ∀ {ts : List Addr} {kvs : List (Key × V)} {kp : List (Str × Pv)}, Paired (fun (t : Addr) (q : Key × V) => G t = some (.tup [kV q.1, q.2])) ts kvs → AlD G kvs kp → AlA G (ts.map V.ref) (kp.map fun x => vTup [vStr x.1, x.2])
  | _, _, _, .nil, .nil => .nil
  | _, _, _, .cons h t, .cons hv d => .cons ⟨_, _, rfl, h, .cons rfl (.cons hv .nil)⟩ (alA_of_items t d)
section
variable {X : Cx} {e : Expr} {Γ : En} {M : Mu} {p : Pv} {kp : List (Str × Pv)} {pp pos cpos apos : Pos}
theorem xn_dictP (hc : X.calm = true) (hm : X.mg "dict" = none) (h : XE X e Γ M (vLst (kp.map fun x => vTup [vStr x.1, x.2]))) (nd : (kp.map (·.1)).Nodup) (hg : Gl X "dict" := by rfl) (he : starEach [e] X.env = (false, eval e X.env) :: starEach [] X.env := by rfl) : XN X (.Call (.Name "dict" pp) [e] [] pos) Γ M (mDic kp) :=
  xn_ct1 (call_dictP hc) hm (by decide +kernel) h (fun G H σ Γ v st rv Q k => by
    obtain ⟨a, xs, rfl, h1, h2⟩ := rv
    obtain ⟨ps, kvs, rfl, h3, h4⟩ := alA_pairs (K := X.K) st.i h2
    exact ⟨a, ps, kvs, rfl, SqL.of (st.i _ _ h1), h3, fun l hl => k l _ hl ⟨_, rfl, AlD.merge h4 .nil nd⟩⟩) hg (by decide) (by decide) he
theorem xn_listItems (hc : X.calm = true) (hm : X.mg "list" = none) (h : XE X e Γ M p) (vw : VwD M p kp) (hg : Gl X "list" := by rfl) (hbase : attributeBase e "items" X.env (eval e X.env) = eval e X.env := by rfl) (hline : (apos.endLine == cpos.line) = true := by rfl)
    (hs : starEach [.Call (.Attribute e "items" apos) [] [] cpos] X.env = (false, eval (.Call (.Attribute e "items" apos) [] [] cpos) X.env) :: starEach [] X.env := by rfl) : XN X (.Call (.Name "list" pp) [.Call (.Attribute e "items" apos) [] [] cpos] [] pos) Γ M (mLst (kp.map fun x => vTup [vStr x.1, x.2])) := fun G H σ st Q k =>
  ⟨_, pe_listItemsR hc pe_w hg hm (by decide +kernel) hbase hline hs, h G H σ st _ fun v G1 H1 t1 r1 => by
    have s1 := st.stp t1
    obtain ⟨d, kvs, rfl, h1, h2⟩ := vw _ _ _ _ s1 v r1
    refine ⟨d, kvs, rfl, h1, fun H' a ts k1 k2 k3 k4 k5 k6 => ?_⟩
    let G2 : Hp := fun b => match H1 b with | none => (if b = a then none else H' b) | some _ => G1 b
    have g2n : ∀ b, H1 b = none → b ≠ a → G2 b = H' b := fun b e n => by show (match H1 b with | none => (if b = a then none else H' b) | some _ => G1 b) = _; rw [e]; exact if_neg n
    have g2s : ∀ b u, H1 b = some u → G2 b = G1 b := fun b u e => by show (match H1 b with | none => (if b = a then none else H' b) | some _ => G1 b) = _; rw [e]
    have g2a : G2 a = none := by show (match H1 a with | none => (if a = a then none else H' a) | some _ => G1 a) = _; rw [k2]; exact if_pos rfl
    have sm : Same G1 G2 := fun b o e => by rw [g2s b o (t1.i _ _ e)]; exact e
    have stp : Stp G1 H1 G2 H' := ⟨sm, k1, fun b o e => by
      cases hb : H1 b with
      | none =>
        by_cases z : b = a
        · subst z; rw [g2a] at e; cases e
        · rw [g2n b hb z] at e; exact e
      | some u => rw [g2s b u hb] at e; exact k1 _ _ (t1.i _ _ e), fun b o e n => by
      cases hb : H1 b with
      | none => rfl
      | some u => rw [g2s b u hb, n] at e; cases e⟩
    have pr : Paired (fun (t : Addr) (q : Key × V) => G2 t = some (.tup [kV q.1, q.2])) ts kvs := by
      have : ∀ {ts : List Addr} {kvs : List (Key × V)}, (∀ t ∈ ts, H1 t = none) → a ∉ ts → Paired (fun (t : Addr) (q : Key × V) => H' t = some (.tup [kV q.1, q.2])) ts kvs → Paired (fun (t : Addr) (q : Key × V) => G2 t = some (.tup [kV q.1, q.2])) ts kvs := fun {ts kvs} f n h => by
        induction h with
        | nil => exact .nil
        | cons h t ih => exact .cons (by rw [g2n _ (f _ List.mem_cons_self) (fun z => n (by rw [z]; exact List.mem_cons_self))]; exact h) (ih (fun t ht => f t (List.mem_cons_of_mem _ ht)) (fun z => n (List.mem_cons_of_mem _ z)))
      exact this k3 k4 k6
    exact k a _ G2 H' (t1.trans stp) (t1.h.free k2) g2a k5 ⟨_, rfl, alA_of_items pr (h2.mono (le_same sm))⟩⟩
end
end K53
end KFq_
section NC_
set_option maxRecDepth 100000
set_option maxHeartbeats 4000000
/-! NC: the law's box. -/
namespace K53
open PySem PySem.Spec PyProof.Rows L2
def extC (side : Nat) (k : Str) (c : Cnt) : List Cnt := (List.range side).map fun n => c ++ [(k, n)]
def boxC (side : Nat) : List Str → List Cnt → List Cnt
  | [], acc => acc
  | k :: ks, acc => boxC side ks (acc.flatMap (extC side k))
theorem boxC_app (side : Nat) : ∀ (ks ls : List Str) (acc : List Cnt), boxC side (ks ++ ls) acc = boxC side ls (boxC side ks acc)
  | [], _, _ => rfl
  | k :: ks, ls, acc => boxC_app side ks ls _
theorem extC_len (side : Nat) (k : Str) (c : Cnt) : (extC side k c).length = side := by unfold extC; rw [List.length_map, List.length_range]
theorem flat_len (side : Nat) (k : Str) : ∀ acc : List Cnt, (acc.flatMap (extC side k)).length = acc.length * side
  | [] => by simp
  | c :: r => by rw [List.flatMap_cons, List.length_append, flat_len side k r, extC_len, List.length_cons, Nat.succ_mul]; omega
theorem boxC_len (side : Nat) : ∀ (ks : List Str) (acc : List Cnt), (boxC side ks acc).length = acc.length * side ^ ks.length
  | [], acc => by simp [boxC]
  | k :: ks, acc => by
    show (boxC side ks (acc.flatMap (extC side k))).length = _
    rw [boxC_len side ks, flat_len, List.length_cons, Nat.pow_succ, Nat.mul_assoc, Nat.mul_comm side]
theorem boxC_keys (side : Nat) : ∀ (ks : List Str) (acc : List Cnt) (pre : List Str), (∀ c ∈ acc, c.map (·.1) = pre) → ∀ c ∈ boxC side ks acc, c.map (·.1) = pre ++ ks
  | [], acc, pre, h, c, hc => by rw [List.append_nil]; exact h c hc
  | k :: ks, acc, pre, h, c, hc => by
    have := boxC_keys side ks (acc.flatMap (extC side k)) (pre ++ [k]) (fun d hd => by
      obtain ⟨e, he, hd⟩ := List.mem_flatMap.mp hd
      obtain ⟨n, _, rfl⟩ := List.mem_map.mp hd
      rw [List.map_append, h e he]; rfl) c hc
    rw [this, List.append_assoc]; rfl
abbrev vCnt (c : Cnt) : Pv := vDic (pCnt c)
section
variable {P : Program} {w : World} {K : PySem.W.Frag} {mg : Str → Option Value} {base : Heap}
theorem fd_law_box (T : Txt K mg) : Fd P w K mg base "_law_box" 3 ["_law_sorts", "_law_ties_here", "_law_side"] [] (spP (δ := List Str × Ties × Nat) (fun d => [vLst (d.1.map fun s => vStr s), vDic (pLTs d.2.1), vInt (d.2.2 : Int)]) (fun d => KsOk d.1 ∧ TsOk d.1 d.2.1 ∧ 1 ≤ d.2.2 ∧ d.2.2 ≤ 40 ∧ d.2.2 ^ d.1.length ≤ 1600) (fun d => vLst (((boxC d.2.2 d.1 [[]]).filter (lawC d.2.1)).map vCnt))) := by
  obtain ⟨g, fd, F⟩ := T.fn i_law_box d_law_box rfl
  refine ⟨_, fd, [], g rfl, F.kp, .nil, F.bindsN fun _ _ _ _ _ _ us hl => match us, hl with | [_, _, _], _ => rfl, ?_⟩
  have S : FnScope ["_law_sorts", "_law_ties_here", "_law_side", "_law_found", "_law_sort", "_law_longer", "_law_some", "_law_amount", "_law_held"] ["_law_sorts", "_law_ties_here", "_law_side"] (defScope s_law_box) := ⟨rfl, rfl, rfl, by decide +kernel, rfl, by decide +kernel, by decide +kernel⟩
  refine fd_of (N := ["_law_sorts", "_law_ties_here", "_law_side", "_law_found", "_law_sort", "_law_longer", "_law_some", "_law_amount", "_law_held"]) F S (fun _ => rfl) (by decide) ?_
  intro cdv A outer s H E hr ⟨ks, ts, side⟩ G ok
  obtain ⟨ok1, ok2, h1, h40, hbig⟩ : KsOk ks ∧ TsOk ks ts ∧ 1 ≤ side ∧ side ≤ 40 ∧ side ^ ks.length ≤ 1600 := ok
  have p62 : (2:Int)^62 = 4611686018427387904 := by decide
  have hb62 : (side : Int) < 2^62 := by rw [p62]; omega
  let Ga : List Cnt → En := fun acc => [some (vLst (ks.map fun s => vStr s)), some (vDic (pLTs ts)), some (vInt (side : Int)), some (vLst (acc.map vCnt)), none, none, none, none, none]
  have len : ∀ i, i ≤ ks.length → (boxC side (ks.take i) [[]]).length ≤ 1600 := fun i hi => by
    rw [boxC_len, List.length_take, Nat.min_eq_left hi]
    have := Nat.pow_le_pow_right h1 hi
    simp; omega
  have keys : ∀ i, ∀ c ∈ boxC side (ks.take i) [[]], c.map (·.1) = ks.take i := fun i c hc => by
    have h0 : ∀ c ∈ [([] : Cnt)], c.map (·.1) = ([] : List Str) := fun c hc => by
      have hc : c = [] := by simpa using hc
      rw [hc]; rfl
    have := boxC_keys side (ks.take i) [[]] [] h0 c hc
    rwa [List.nil_append] at this
  refine xss_set (i := 3) (p := vLst ([([] : Cnt)].map vCnt)) (XN.lst (xn_lst (xa_cons (XN.dic xn_dic) xa_nil))) S.nd ?_
  refine xss_consI (M := []) (fun _ : Unit => Ga (boxC side ks [[]])) (fun _ => []) (fun _ => True) (xs_for (ds := ks) (f := fun s => vStr s) (fun i : Nat => Ga (boxC side (ks.take i) [[]])) (fun _ => []) (fun i j => j = i) rfl (xi_lst (xv 0)) (fun _ _ _ s => ⟨0, rfl, s⟩) (fun i k y B hik hy => ?_) (fun G H σ ⟨j, hj, s⟩ => ?_)) ?_
  · have hy : y = i := hy
    subst hy
    have hi : y < ks.length := (List.getElem?_eq_some_iff.mp hik).1
    have tk : ks.take (y + 1) = ks.take y ++ [k] := by rw [List.take_add_one, hik]; rfl
    have nx : boxC side (ks.take (y + 1)) [[]] = (boxC side (ks.take y) [[]]).flatMap (extC side k) := by rw [tk, boxC_app]; rfl
    have l1 := len y (by omega)
    have l2 := len (y + 1) (by omega)
    rw [nx] at l2
    have ky := keys y
    have hnk : k ∉ ks.take y := fun hm => by
      obtain ⟨j, hj, e⟩ := List.mem_take_iff_getElem.mp hm
      have := (List.getElem_inj ok1.nd).mp (e.trans (List.getElem?_eq_some_iff.mp hik).2.symm)
      omega
    have hln := ok1.ln
    generalize boxC side (ks.take y) [[]] = acc at nx l1 l2 ky ⊢
    refine ⟨_, _, xg_name 4 S.nd, ?_⟩
    refine xss_new (i := 5) (xn_lst xa_nil) S.nd fun a1 => ?_
    let Gb : En := [some (vLst (ks.map fun s => vStr s)), some (vDic (pLTs ts)), some (vInt (side : Int)), some (vLst (acc.map vCnt)), some (vStr k), some (vVal (.ref a1)), none, none, none]
    let Ms : Nat → Mu := fun j => [(a1, mLst (((acc.take j).flatMap (extC side k)).map vCnt))]
    have small : ∀ j, ((acc.take j).flatMap (extC side k)).length ≤ 1600 := fun j => by
      rw [flat_len] at l2 ⊢
      rw [List.length_take]
      exact Nat.le_trans (Nat.mul_le_mul_right _ (Nat.min_le_right _ _)) l2
    refine xss_consI (M := Ms 0) (fun _ : Nat => Gb) Ms (fun j => j = acc.length) (xs_for (ds := acc) (f := vCnt) (fun _ : Nat => Gb) Ms (fun j x => x = j) rfl (xi_lst (xv 3)) (fun _ _ _ s => ⟨0, rfl, s⟩) (fun j c x B hjc hx => ?_) (fun G H σ ⟨j, hj, s⟩ => ⟨j, hj, s⟩)) ?_
    · have hx : x = j := hx
      subst hx
      have hcm : c ∈ acc := List.mem_of_getElem? hjc
      have hck := ky c hcm
      have hcl : c.length ≤ 5 := by
        have := congrArg List.length hck
        rw [List.length_map, List.length_take] at this; omega
      have sm := small x
      refine ⟨_, _, xg_name 6 S.nd, ?_⟩
      refine xss_one (xs_extend (M1 := []) (qs := (extC side k c).map vCnt) (xv 5) (XE.is (xe_lc0 (own := [("_law_amount", 7)]) (g := fun n : Nat => vCnt (c ++ [(k, n)])) (fun n => [some (vLst (ks.map fun s => vStr s)), some (vDic (pLTs ts)), some (vInt (side : Int)), some (vLst (acc.map vCnt)), some (vStr k), some (vVal (.ref a1)), some (vCnt c), some (vInt (n : Int)), none]) rfl S.nd (xi_range (T.free "range" rfl) (xv 2) hb62) (blkOk_by (N := ["_law_sorts", "_law_ties_here", "_law_side", "_law_found", "_law_sort", "_law_longer", "_law_some", "_law_amount", "_law_held"]) (sc := defScope s_law_box) (by decide +kernel)) (fun _ _ _ _ _ _ _ => xg_name 7 S.nd) (fun _ _ _ _ _ n hn => ?_) (by rw [List.length_range, sizeLine_eq]; omega)) (by unfold extC; rw [List.map_map]; rfl)) (fun G H σ s => ⟨x + 1, rfl, ?_⟩) (by rw [List.length_map, List.length_map, extC_len, sizeLine_eq]; omega))
      · refine XN.dic (xn_dictP (kp := pCnt (c ++ [(k, n)])) rfl (T.free "dict" rfl) (XE.is (XN.lst (xn_catL (qs := [vTup [vStr k, vInt (n : Int)]]) (XN.lst (xn_listItems rfl (T.free "list" rfl) (xv 6) vwD)) vwL (XN.lst (xn_lst (xa_cons (xe_tup (xa_cons (xv 4) (xa_cons (xv 7) xa_nil))) xa_nil))) ?_)) ?_) ?_)
        · rw [List.length_map, pCnt_len, sizeLine_eq]; show c.length + 1 ≤ _; omega
        · unfold pCnt; rw [List.map_append, List.map_append]; rfl
        · rw [pCnt_keys, List.map_append, hck]
          exact List.nodup_append.mpr ⟨ok1.nd.sublist (List.take_sublist _ _), by simp, fun z hz u hu e => by
            have hu : u = k := by simpa using hu
            exact hnk (by rw [← hu, ← e]; exact hz)⟩
      · have s := s.fg (Γ' := Gb) (by repeat (first | exact fg_nil | apply fg_keep | apply fg_drop))
        rw [← List.map_append] at s
        show Sta _ G H σ Gb [(a1, mLst (((acc.take (x + 1)).flatMap (extC side k)).map vCnt))]
        rw [List.take_add_one, hjc, Option.toList_some, List.flatMap_append, List.flatMap_cons, List.flatMap_nil, List.append_nil]
        exact s
    · intro j hj
      have hj : j = acc.length := hj
      subst hj
      refine xss_pub (M1 := []) (i := 5) (a := a1) (p := vLst ((acc.flatMap (extC side k)).map vCnt)) rfl (fun G u r h => mLst_lst (by rw [List.take_length] at r; exact r) h) (xss_one (xs_asg (i := 3) (xv 5) (fun G H σ s => ⟨y + 1, rfl, ?_⟩) S.nd))
      show Sta _ G H σ (Ga (boxC side (ks.take (y + 1)) [[]])) []
      rw [nx]
      exact s.fg (by repeat (first | exact fg_nil | apply fg_keep | apply fg_drop))
  · have hj : j = ks.length := hj
    subst hj
    have s : Sta _ G H σ (Ga (boxC side (ks.take ks.length) [[]])) [] := s
    rw [List.take_length] at s
    exact ⟨(), trivial, s⟩
  · rintro _ _
    have l0 := len ks.length (Nat.le_refl _)
    have k0 := keys ks.length
    rw [List.take_length] at l0 k0
    refine xss_one (xs_ret (XE.is (xe_lc (own := [("_law_held", 8)]) (b := lawC ts) (g := vCnt) (fun c => [some (vLst (ks.map fun s => vStr s)), some (vDic (pLTs ts)), some (vInt (side : Int)), some (vLst ((boxC side ks [[]]).map vCnt)), none, none, none, none, some (vCnt c)]) rfl S.nd (xi_lst (xv 3)) (blkOk_by (N := ["_law_sorts", "_law_ties_here", "_law_side", "_law_found", "_law_sort", "_law_longer", "_law_some", "_law_amount", "_law_held"]) (sc := defScope s_law_box) (by decide +kernel)) (fun _ _ _ _ _ _ _ => xg_name 8 S.nd) (fun _ _ _ _ _ c hc => xts_one (xt_isN (XE.is (xe_call (fd_law_gap T) (ts, c) hr (xa_cons (xv 1) (xa_cons (xv 8) xa_nil)) ?_) rfl) nonP_gap)) (fun _ _ _ _ _ c hc _ => xv 8) (by rw [sizeLine_eq]; exact Nat.lt_of_le_of_lt l0 (by omega))) rfl) fun _ _ _ t r => ⟨t, r⟩)
    have hk := k0 c hc
    exact ⟨ok2.ok, fun x hx => by rw [hk]; exact ok2.ia x hx, fun x hx => by rw [hk]; exact ok2.ib x hx, ok2.nd, ok2.ln⟩
end
end K53
end NC_
section KFr_
set_option maxRecDepth 100000
set_option maxHeartbeats 4000000
/-! KFr: dicts that equal, the least of a list. -/
namespace K53
open PySem PySem.Spec PyProof.Rows L2
section
variable {X : Cx} {e a b : Expr} {Γ : En} {M : Mu} {p q : Pv} {pos pp : Pos} {c d : Cnt}
def rEqR : R2 := fun x y H Q => ∃ a b ks ls, x = .ref a ∧ y = .ref b ∧ Rd H a (.dK ks) ∧ Rd H b (.dK ls) ∧ ks.length = ls.length ∧ (∀ p ∈ ks, valV ls p.1 = some p.2 ∧ flatB p.2 = true) ∧ Q (.bl true) H
theorem op_eqR (hu : X.A.units < cLine) : OpR X (compareOp .Eq) rEqR := by
  intro pins s σ H x y v u Q I rx ry h
  obtain ⟨a, b, ks, ls, rfl, rfl, ea, eb, hlen, hp, q⟩ := h
  obtain rfl : v = Value.ref a := rx
  obtain rfl : u = Value.ref b := ry
  obtain ⟨_, ya, va, ra, da⟩ := dk_rd I.hok ea
  obtain ⟨_, yb, vb, rb, db⟩ := dk_rd I.hok eb
  have hl : va.length = vb.length := by rw [← ra.length, ← rb.length]; exact hlen
  exact PySem.W.keq_eq (knd := mixKind X.prog X.w) (r := true) ya yb da db hu (fun _ => hits_all rb ra hp) (fin_bl I q (by simp [hl]))
theorem xe_min {ns : List Int} {m : Int} (hc : X.calm = true) (hm : X.mg "min" = none) (h : XE X e Γ M (vLst (ns.map vInt))) (h1 : m ∈ ns) (h2 : ∀ y ∈ ns, m ≤ y) (hg : Gl X "min" := by rfl) (he : starEach [e] X.env = (false, eval e X.env) :: starEach [] X.env := by rfl) : XE X (.Call (.Name "min" pp) [e] [] pos) Γ M (vInt m) :=
  xe_cb1 (cr_min hc) hm (by decide +kernel) h (fun G H σ Γ v st rv Q k => by
    obtain ⟨a, xs, rfl, g1, g2⟩ := rv
    have e : xs = ns.map V.int := g2.vals
    subst e
    refine ⟨a, ns, rfl, SqL.of (st.i _ _ g1), List.length_pos_of_mem h1, fun m' k1 k2 => ?_⟩
    have : m' = m := Int.le_antisymm (k2 m h1) (h2 m' k1)
    subst this
    exact k _ G H (.refl st.i) rfl) hg (by decide) (by decide) he
theorem alD_cnt {G : Hp} : ∀ {kv : List (Key × V)} {kp : List (Str × Pv)}, AlD G kv kp → ∀ {c : Cnt}, kp = pCnt c → ∀ p ∈ kv, ∃ x ∈ c, p = (.inr x.1, .int (x.2 : Int))
  | _, _, .nil, _, _, p, h => by simp at h
  | _, _, .cons h t, [], e, p, hp => by cases e
  | _, _, .cons h t, (s, n) :: c, e, p, hp => by
    have e : _ :: _ = (s, vInt (n : Int)) :: pCnt c := e
    injection e with e1 e2
    injection e1 with e3 e4
    subst e3 e4
    rcases List.mem_cons.mp hp with rfl | hp
    · have h : _ = V.int (n : Int) := h
      subst h
      exact ⟨(_, n), List.mem_cons_self, rfl⟩
    · obtain ⟨x, hx, e⟩ := alD_cnt t e2 p hp
      exact ⟨x, List.mem_cons_of_mem _ hx, e⟩
theorem xe_eqC (hr : Room k X.A) (ha : XE X a Γ M (vCnt c)) (hb : XE X b Γ M (vCnt d)) (hl : c.length = d.length) (h : ∀ x ∈ c, d.lookup x.1 = some x.2) (hm : behindInMarks .Eq b = false := by first | exact nobehind _ (by decide) (by decide) | rfl) : XE X (.Compare a [.Eq] [b] pos) Γ M (vBl true) :=
  xe_cmpG (op_eqR (by have := u1 hr; omega)) ha hb (fun G H v w s ⟨x, e1, kv, r1, l1⟩ ⟨y, e2, kw, r2, l2⟩ Q kq => by
    refine ⟨x, y, kv, kw, e1, e2, (le_same s).dk r1, (le_same s).dk r2, by rw [l1.len, l2.len, pCnt_len, pCnt_len, hl], fun p hp => ?_, kq _ G H (.refl s) rfl⟩
    obtain ⟨x, hx, rfl⟩ := alD_cnt l1 rfl p hp
    obtain ⟨v, h1, h2⟩ := l2.look (s := x.1) (q := vInt (x.2 : Int)) (by rw [pCnt_look, h x hx]; rfl)
    obtain rfl : v = .int (x.2 : Int) := h2
    exact ⟨h1, rfl⟩) hm
end
end K53
end KFr_
section KFs_
set_option maxRecDepth 100000
set_option maxHeartbeats 4000000
/-! KFs: a set made of a list of texts. -/
namespace K53
open PySem PySem.Spec PyProof.Rows SS
section
variable {prog : Program} {w : World} {A : Around} {R : Result → Shared → Prop} {I : Addr} {fp wr : List Addr} {G : Array GenState → Array GenState → Prop} {n : Nat} {P : Nat → Value → Prop} {St : Nat → Shared → Prop}
theorem loopStrM (W : WalksS prog w A.in1 I fp wr G n P St) (S : Addr) (hSf : S ∉ fp) (xs : List Str) (hsz : xs.length = n) (hn1 : n < 64)
    (hval : ∀ i v, P i v → ∃ t, v = .str (xs.getD i Str.empty) t) :
    ∀ (k i : Nat) (s : Shared), n - i = k → i ≤ n → St i s →
      (∃ m, m ≤ i ∧ s.heap.SetOf (PySem.strKind prog w) S (fun k' => (xs.take i).any (· == k')) m) →
      (∀ s', Moved (S :: wr) G s s' → (∃ m, m ≤ n ∧ s'.heap.SetOf (PySem.strKind prog w) S (fun k' => (xs.take n).any (· == k')) m) → R (.ok (.ret .none)) s') →
      codeAny (model prog w) A (.builtin "set.update.loop" ⟨[.ref S, .ref I], []⟩) R s := by
  have hSw : S ∉ wr := fun h => hSf (W.sub _ h)
  have hsub : ∀ b ∈ wr, b ∈ S :: wr := fun b hb => List.mem_cons_of_mem _ hb
  intro k
  induction k with
  | zero =>
    intro i s hk hi hst hS hR
    have hin : i = n := by omega
    subst hin
    refine codeAny_builtin PyProof.Rows.F.entry_set_update_loop ?_
    rw [Around.under_plainId PyProof.Rows.F.plain_set_update_loop _]
    show wpAny _ A.in1 (pyNext (.ref I) >>= _) _ _ s
    refine wpAny_bind (W.done s _ _ hst fun s' hm => ?_)
    show wpAny _ A.in1 (ret Value.none) _ _ s'
    exact wpAny_pure (hR s' (hm.mono hsub) (by
      obtain ⟨m, hm0, o, es, ep, t, ho, rest⟩ := hS
      exact ⟨m, hm0, o, es, ep, t, hm.heap S _ hSw ho, rest⟩))
  | succ k ih =>
    intro i s hk hi hst hS hR
    have hlt : i < n := by omega
    obtain ⟨m, hmi, hS⟩ := hS
    refine codeAny_builtin PyProof.Rows.F.entry_set_update_loop ?_
    rw [Around.under_plainId PyProof.Rows.F.plain_set_update_loop _]
    show wpAny _ A.in1 (pyNext (.ref I) >>= _) _ _ s
    refine wpAny_bind (W.item i s _ _ hlt hst fun v s' hP hst' hm => ?_)
    obtain ⟨t, rfl⟩ := hval i v hP
    have hS' : s'.heap.SetOf (PySem.strKind prog w) S (fun k' => (xs.take i).any (· == k')) m := by
      obtain ⟨o, es, ep, tb, ho, rest⟩ := hS
      exact ⟨o, es, ep, tb, hm.heap S _ hSw ho, rest⟩
    show wpAny _ A.in1 (holding [Value.str (xs.getD i Str.empty) t] (setAdd S (.str (xs.getD i Str.empty) t)) >>= _) _ _ s'
    refine wpAny_bind (wpAny_holding ?_)
    unfold setAdd
    refine wpAny_holding ?_
    refine wpAny_bind ((PySem.strKind prog w).pyHash (k := xs.getD i Str.empty) (strKind_is _ _ _ _) ?_)
    refine wpAny_setAddHashed_of (knd := PySem.strKind prog w) (s := { s' with toks := s'.toks + 1 }) (strKind_is _ _ _ _) rfl hS' (by unfold scanBound; omega) fun h' hsb hS2 => ?_
    have hSi : ∃ m, m ≤ i + 1 ∧ h'.SetOf (PySem.strKind prog w) S (fun k' => (xs.take (i + 1)).any (· == k')) m := by
      have hx : xs[i]? = some (xs.getD i Str.empty) := by
        rw [List.getD_eq_getElem?_getD, List.getElem?_eq_getElem (by omega)]; rfl
      refine ⟨_, ?_, SetOf_congr hS2 (fun k' => ?_) rfl⟩
      · split <;> omega
      · rw [List.take_add_one, hx, List.any_append]
        congr 1
        generalize xs.getD i Str.empty = x
        show decide (k' = x) = ((x == k') || false)
        rw [Bool.or_false]
        by_cases e : k' = x
        · subst e; rw [beq_self_eq_true]; exact decide_eq_true rfl
        · rw [decide_eq_false e]; exact (beq_eq_false_iff_ne.mpr fun h => e h.symm).symm
    refine wpAny_pure ⟨plainId_quiet PyProof.Rows.F.plain_set_update_loop _, ih (i + 1) _ (by omega) hlt (W.frame _ s' _ _ hst' (Nat.le_succ _) fun b hb o e => ?_) hSi fun s'' hm'' hS'' => ?_⟩
    · rw [hsb.2 b (fun h : b = S => hSf (by rw [← h]; exact hb))]; exact e
    · refine hR s'' (Moved.trans W.gtrans ((hm.mono hsub).then_heap (Nat.le_succ _) fun b o hb e => ?_) hm'') hS''
      rw [hsb.2 b (fun h : b = S => hb (by rw [h]; exact List.mem_cons_self))]; exact e
end

section
variable {prog : Program} {w : World} {A : Around} {E : Value → Shared → Prop} {s : Shared}
set_option maxHeartbeats 3200000 in
theorem call_set_listM {l : Addr} {items : Array Value} {xs : List Str} {Q : Value → Shared → Prop}
    (hh : A.handled = none) (hl : s.heap.IsList l items) (hi : PyProof.Rows.StrsAre items.toList xs) (hn1 : xs.length < 64)
    (h : ∀ (h' : Heap) (tk : Nat), (∃ m, m ≤ items.size ∧ h'.SetOf (PySem.strKind prog w) s.heap.objs.size (fun k' => (xs.take items.size).any (· == k')) m) →
      (∀ b o, b < s.heap.objs.size → s.heap.get? b = some o → h'.get? b = some o) → Q (.ref s.heap.objs.size) { s with heap := h', toks := tk }) :
    wpAny (model prog w) A (call (.type "set") [.ref l]) Q E s := by
  obtain ⟨c, tl, hmro⟩ := PySem.F.called_set.mro
  have hmade := PySem.F.called_set.made
  have hsub := PySem.F.called_set.sub
  refine wpAny_call (codeAny_of_tree ?_)
  show wpAny _ _ (callAny (.type "set") _) _ _ _
  refine wpAny_pure ⟨Code.quiet_builtin _ (by decide +kernel), codeAny_builtin PySem.F.entry_type_call ?_⟩
  rw [Around.under_plain (weight_type_call_type "set" [.ref l] []) rfl]
  have h1 := PySem.F.called_set.notType
  have h2 := PySem.F.called_set.canCreate
  have hct := PySem.F.typeCall_set_1 (.ref l)
  repeat (any_goals (first | assumption | wp_step))

  refine codeAny_mono (code_set_new_1 (.ref l) (E := E) (Q₁ := fun obj s₁ => ∃ led : Bool, obj = .ref s.heap.objs.size ∧ s₁ = { s with heap := s.heap.push { cls := .type "set", dict := none, data := .set #[] 0 (.fresh 0 0 led) } }) fun led => ⟨led, rfl, rfl⟩) fun r s₁ hr => ?_
  cases r with
  | error e => exact hr
  | ok fl =>
    cases fl with
    | ret obj =>
      obtain ⟨led, rfl, rfl⟩ := hr
      have hS : (s.heap.push { cls := .type "set", dict := none, data := .set #[] 0 (.fresh 0 0 led) }).get? s.heap.objs.size = some { cls := .type "set", dict := none, data := .set #[] 0 (.fresh 0 0 led) } := Heap.get?_push_size _ rfl
      have hT : Shared.TypeIs { s with heap := s.heap.push { cls := .type "set", dict := none, data := .set #[] 0 (.fresh 0 0 led) } } (.ref s.heap.objs.size) "set" := ⟨_, hS, rfl⟩
      have hli := PySem.F.called_set.init.lookup
      have hbi := PySem.F.called_set.init.bind (.ref s.heap.objs.size)
      repeat (any_goals (first | assumption | wp_step))

      refine codeAny_mono (codeAny_call_builtin (R := wants (fun r s₂ => r = .none ∧ ∃ h' tk, s₂ = { s with heap := h', toks := tk } ∧
          (∃ m, m ≤ items.size ∧ h'.SetOf (PySem.strKind prog w) s.heap.objs.size (fun k' => (xs.take items.size).any (· == k')) m) ∧
          (∀ b o, b < s.heap.objs.size → s.heap.get? b = some o → h'.get? b = some o)) E) PySem.F.called_set.init.plain PySem.F.entry_set_init (check_set_init_1 hT ?_)) fun r₂ s₂ hr₂ => ?_
      · obtain ⟨ol, hol, hcl, nl, hdl⟩ := hl
        obtain ⟨ocls, odict, odata, oslots⟩ := ol
        simp only at hcl hdl
        subst hcl; subst hdl
        have hol' : (s.heap.push { cls := .type "set", dict := none, data := .set #[] 0 (.fresh 0 0 led) }).get? l = some { cls := .type "list", dict := odict, data := .seq items nl, slots := oslots } := Heap.get?_push_of_some _ hol
        have hsls := PySem.F.sub_list_set
        have hslf := PySem.F.sub_list_frozenset
        have hne : (Value.type "list" == Value.type "dict") = false := by decide
        have hl1 : (s.heap.push { cls := .type "set", dict := none, data := .set #[] 0 (.fresh 0 0 led) }).IsList l items := ⟨_, hol', rfl, nl, rfl⟩
        unfold Builtin.«set.__init__» noKeywords Builtin.Frozenset.updateFrom
        generalize hPI : pyIter = PI
        wp_walk
        subst hPI

        refine wpAny_pyIter_list hl1 ?_
        refine wpAny_bind (wpAny_runValue ?_)
        have hlS : l < s.heap.objs.size := Heap.lt_size hol
        have hh3 : A.in1.in1.in1.handled = none := by simp [hh]
        have hneI : l ≠ (s.heap.push { cls := .type "set", dict := none, data := .set #[] 0 (.fresh 0 0 led) }).objs.size := by
          rw [Heap.size_push]; exact Nat.ne_of_lt (Nat.lt_succ_of_lt hlS)
        have hSf : s.heap.objs.size ∉ [(s.heap.push { cls := .type "set", dict := none, data := .set #[] 0 (.fresh 0 0 led) }).objs.size, l] := by
          rw [Heap.size_push]; simp only [List.mem_cons, List.mem_singleton, List.not_mem_nil, or_false, not_or]
          exact ⟨Nat.ne_of_lt (Nat.lt_succ_self _), Nat.ne_of_gt hlS⟩
        have hsz : xs.length = items.size := by rw [← StrsAre.len_eq hi, Array.length_toList]
        have hval : ∀ (i : Nat) (v : Value), items[i]? = some v → ∃ t, v = .str (xs.getD i Str.empty) t := fun i v hv => strs_at hi i v (by rw [Array.getElem?_toList]; exact hv)
        refine loopStrM ((Walks.list hh3 _ l hneI items).toS) s.heap.objs.size
          hSf xs hsz (by rw [← hsz]; exact hn1) hval (items.size - 0) 0 _ (by omega) (Nat.zero_le _)
          ⟨⟨_, Heap.get?_push_size _ rfl, rfl, rfl⟩, (hl1.push _)⟩ ?hS0 ?hR
        case hS0 =>
          have hget : ((s.heap.push { cls := .type "set", dict := none, data := .set #[] 0 (.fresh 0 0 led) }).push { cls := .type "list_iterator", data := .fields #[.ref l, .int 0 0] }).get? s.heap.objs.size
              = some { cls := .type "set", dict := none, data := .set #[] 0 (.fresh 0 0 led) } := Heap.get?_push_of_some _ hS
          exact ⟨0, Nat.zero_le _, PyProof.Rows.SetOf_congr ((PyProof.Rows.setObjOf_fresh (knd := PySem.strKind prog w) led).setOf hget (by unfold scanBound; omega)) (fun _ => rfl) rfl⟩
        case hR =>
          intro s' hm hS'
          obtain ⟨h', g', d', tk', os'⟩ := s'
          have eg : g' = s.gens := hm.gens
          have ed : d' = s.drawn := hm.drawn
          have eo : os' = s.os := hm.os
          subst eg; subst ed; subst eo
          show wpAny _ _ _ _ _ _
          refine wpAny_pure ?_
          show wpAny _ _ (ret Value.none) _ _ _
          refine wpAny_pure ⟨rfl, h', tk', rfl, hS', fun b o hb e => ?_⟩
          have hb1 : b ≠ s.heap.objs.size := Nat.ne_of_lt hb
          have hb2 : b ≠ (s.heap.push { cls := .type "set", dict := none, data := .set #[] 0 (.fresh 0 0 led) }).objs.size := by
            rw [Heap.size_push]; exact Nat.ne_of_lt (Nat.lt_succ_of_lt hb)
          exact hm.heap b o (by simp only [List.mem_cons, List.mem_singleton, List.not_mem_nil, or_false, not_or]; exact ⟨hb1, hb2⟩) (Heap.get?_push_of_some _ (Heap.get?_push_of_some _ e))

      · cases r₂ with
        | error e => exact hr₂
        | ok fl₂ =>
          cases fl₂ with
          | ret r =>
            obtain ⟨rfl, h', tk, rfl, hS', hk'⟩ := hr₂
            repeat (any_goals (first | assumption | wp_step))
            exact h _ _ hS' hk'
          | _ => exact hr₂.elim
    | _ => exact hr.elim


end
end K53
end KFs_
section KFu_
set_option maxRecDepth 100000
set_option maxHeartbeats 4000000
/-! KFu: a set of texts that can be walked: members, number, the table's facts (after the ints of HandS.Set). -/
namespace K53
open PySem PySem.Spec PyProof.Rows L2
def keyS (e : Int × Value) : Str := match e.2 with | .str k _ => k | _ => Str.empty
def GoodS (P : Program) (w : World) (e : Int × Value) : Prop := ∃ k tk, e.2 = Value.str k tk ∧ e.1 = (PySem.strKind P w).hash k
def SetRS (P : Program) (w : World) (h : Heap) (a : Addr) (S : Str → Bool) (n : Nat) : Prop :=
  ∃ o es ep t, h.get? a = some o ∧ o.ExactSet ∧ o.data = .set es ep t ∧ (∀ e ∈ es.toList, GoodS P w e) ∧ (es.toList.map keyS).Nodup ∧ (∀ k, S k = true ↔ k ∈ es.toList.map keyS) ∧
    es.size < scanBound ∧ t.fits es.size = true ∧ es.size = n ∧ Ris t.place.toList ∧ (w.params.followText "set-order" = true ∨ t.led = true)
section
variable {P : Program} {w : World} {A : Around} {E : Value → Shared → Prop} {s : Shared} {a : Addr} {S : Str → Bool} {n : Nat}
theorem goodS_elems {l : List (Int × Value)} (g : ∀ e ∈ l, GoodS P w e) : ElemsOf (PySem.strKind P w) l := fun e he => by
  obtain ⟨k, tk, h1, h2⟩ := g e he
  exact ⟨⟨k, by rw [h1]; exact strKind_is P w k tk, h2⟩, by rw [h1]; rfl⟩
theorem goodS_is {e : Int × Value} (g : GoodS P w e) (k : Str) : (PySem.strKind P w).is k e.2 = true ↔ keyS e = k := by
  obtain ⟨j, tk, h1, h2⟩ := g
  unfold keyS
  rw [h1]
  simp [PySem.strKind, Value.isStrOf]
theorem goodS_mem {l : List (Int × Value)} (g : ∀ e ∈ l, GoodS P w e) (k : Str) : k ∈ l.map keyS ↔ ∃ e ∈ l, (PySem.strKind P w).is k e.2 = true := by
  rw [List.mem_map]
  exact ⟨fun ⟨e, he, q⟩ => ⟨e, he, (goodS_is (g e he) k).2 q⟩, fun ⟨e, he, q⟩ => ⟨e, he, (goodS_is (g e he) k).1 q⟩⟩
theorem setS_add_tail {g : Bool → Sem Unit} (hg : ∀ (b : Bool) (s₁ : Shared) (Q' : Unit → Shared → Prop), Q' () s₁ → wpAny (model P w) A (g b) Q' E s₁)
    {o : Obj} {es : Array (Int × Value)} {ep : Nat} {t : SetTable} (ho : s.heap.get? a = some o) (hex : o.ExactSet) (hd : o.data = .set es ep t)
    {es1 : Array (Int × Value)} {t2 : SetTable} {S' : Str → Bool} (g1 : ∀ e ∈ es1.toList, GoodS P w e) (nd1 : (es1.toList.map keyS).Nodup) (m1 : ∀ k, S' k = true ↔ k ∈ es1.toList.map keyS)
    (hb1 : es1.size < scanBound) (hf2 : t2.fits es1.size = true) (hr : Ris t2.place.toList) (hl : w.params.followText "set-order" = true ∨ t2.led = true) {wasDummy : Bool} {R : Option Bool → Shared → Prop}
    (hR : ∀ h', Heap.SameBut a s.heap h' → SetRS P w h' a S' es1.size → R (some true) { s with heap := h' }) :
    wpAny (model P w) A (do
        storeSet a es1 t2
        if (!wasDummy && t2.tooFull) = true then do
            g (relayAll t2 es1 (SetTable.grown es1.size)).2.2
            storeSet a (relayAll t2 es1 (SetTable.grown es1.size)).1 (relayAll t2 es1 (SetTable.grown es1.size)).2.1
            pure (some true)
          else pure (some true)) R E s := by
  refine wpAny_bind (wpAny_storeSet_of ho hd ?_ (fits_of_scanBound hb1))
  have ho1 := store_at (es' := es1) (t' := t2) ho hd
  have sb1 := Heap.SameBut.update s.heap a (Obj.putSet es1 t2)
  split
  · have pm := relayAll_perm t2 es1 (SetTable.grown es1.size)
    have hf3 := relayAll_fits t2 es1 (SetTable.grown es1.size)
    have hr3 := relayAll_ris t2 es1 (SetTable.grown es1.size)
    have hl3 := relayAll_led t2 es1 (SetTable.grown es1.size)
    generalize relayAll t2 es1 (SetTable.grown es1.size) = Z at pm hf3 hr3 hl3 ⊢
    obtain ⟨es2, t3, gave⟩ := Z
    dsimp only at pm hf3 hr3 hl3 ⊢
    have hsz : es2.size = es1.size := by rw [← Array.length_toList, pm.length_eq, Array.length_toList]
    have hb2 : es2.size < scanBound := by rw [hsz]; exact hb1
    refine wpAny_bind (hg _ _ _ ?_)
    refine wpAny_bind (wpAny_storeSet_of ho1 rfl ?_ (fits_of_scanBound hb2))
    have ho2 := store_at (es' := es2) (t' := t3) ho1 rfl
    refine wpAny_pure (hR _ (sb1.trans (Heap.SameBut.update _ a _)) ?_)
    exact ⟨_, es2, _, t3, ho2, hex, rfl, fun e he => g1 e (pm.mem_iff.mp he), (pm.map keyS).nodup_iff.mpr nd1, fun k => (m1 k).trans (pm.map keyS).mem_iff.symm, hb2, hf3, hsz, hr3,
      hl.imp id fun z => by rw [hl3]; exact z⟩
  · exact wpAny_pure (hR _ sb1 ⟨_, es1, _, t2, ho1, hex, rfl, g1, nd1, m1, hb1, hf2, rfl, hr, hl⟩)

theorem setS_add_hashed {k : Str} {tk : Tok} {Q : Bool → Shared → Prop} (R : SetRS P w s.heap a S n) (room : n + 1 < scanBound)
    (hQ : ∀ h', Heap.SameBut a s.heap h' → SetRS P w h' a (fun j => S j || decide (j = k)) (if S k = true then n else n + 1) → Q (!S k) { s with heap := h' }) :
    wpAny (model P w) A (setAddHashed a (.str k tk) ((PySem.strKind P w).hash k)) Q E s := by
  obtain ⟨o, es, ep, t, ho, hex, hd, g, nd, hm, hb, hf, hn, hr, hl⟩ := R
  have hkey : (PySem.strKind P w).is k (.str k tk) = true := strKind_is P w k tk
  have hsc : (Value.str k tk).scannable = true := rfl
  have hel : ElemsOf (PySem.strKind P w) es.toList := goodS_elems g
  unfold setAddHashed setAddHashedIn
  refine wpAny_holding (wpAny_bind (wpAny_setState_of ho hd hf ?_))
  dsimp only
  rw [byScan_of hsc hb hel]
  simp only [↓reduceIte]
  unfold setAddByScan
  refine wpAny_bind ?_
  refine wpAny_bind (wpAny_rule ?_)
  refine wpAny_bind (wpAny_setScan_of hkey ho hd hf hel ?_)
  cases hfi : List.findIdx? (fun e => (PySem.strKind P w).is k e.2) es.toList with
  | some j =>
    dsimp only
    obtain ⟨hj, pj, _⟩ := List.findIdx?_eq_some_iff_getElem.mp hfi
    have hSk : S k = true := (hm k).2 ((goodS_mem g k).2 ⟨es.toList[j], List.getElem_mem hj, pj⟩)
    refine wpAny_pure (wpAny_pure ?_)
    have q := hQ s.heap (Heap.SameBut.refl a s.heap) ⟨o, es, ep, t, ho, hex, hd, g, nd, fun i => by
      rw [Bool.or_eq_true, decide_eq_true_eq, ← hm i]
      exact ⟨fun z => z.elim id (fun e => e ▸ hSk), .inl⟩, hb, hf, by rw [if_pos hSk]; exact hn, hr, hl⟩
    rw [hSk] at q
    exact q
  | none =>
    dsimp only
    have hnk : k ∉ es.toList.map keyS := fun z => by
      obtain ⟨e, he, q⟩ := (goodS_mem g k).1 z
      have c := List.findIdx?_eq_none_iff.mp hfi e he
      rw [q] at c
      cases c
    have hSk : S k = false := by
      cases q : S k with
      | false => rfl
      | true => exact absurd ((hm k).1 q) hnk
    have hgw : ∀ (b : Bool) {s₁ : Shared} {Q' : Unit → Shared → Prop}, Q' () s₁ → wpAny (model P w) A (match b with | true => rule "set.scan.the-table-gave-way" | false => pure ()) Q' E s₁ :=
      fun b s₁ Q' q => by cases b <;> first | exact wpAny_pure q | exact wpAny_rule q
    have pm := layNew_perm t es ((PySem.strKind P w).hash k) (.str k tk)
    have hf1 := layNew_fits t es ((PySem.strKind P w).hash k) (.str k tk)
    have hr1 := layNew_ris t es ((PySem.strKind P w).hash k) (.str k tk) hr
    have hl1 := layNew_led t es ((PySem.strKind P w).hash k) (.str k tk)
    generalize layNew t es ((PySem.strKind P w).hash k) (.str k tk) = Z at pm hf1 hr1 hl1 ⊢
    obtain ⟨es1, t1, wasDummy, gave⟩ := Z
    dsimp only at pm hf1 hr1 hl1 ⊢
    rw [Array.toList_push] at pm
    have pc : es1.toList.Perm (((PySem.strKind P w).hash k, Value.str k tk) :: es.toList) := pm.trans (List.perm_append_singleton _ _)
    have pk : (es1.toList.map keyS).Perm (k :: es.toList.map keyS) := pc.map keyS
    have g1 : ∀ e ∈ es1.toList, GoodS P w e := fun e he => by
      rcases List.mem_cons.mp (pc.mem_iff.mp he) with z | z
      · rw [z]; exact ⟨k, tk, rfl, rfl⟩
      · exact g e z
    have nd1 : (es1.toList.map keyS).Nodup := pk.nodup_iff.mpr (List.nodup_cons.mpr ⟨hnk, nd⟩)
    have m1 : ∀ i, (S i || decide (i = k)) = true ↔ i ∈ es1.toList.map keyS := fun i => by
      rw [Bool.or_eq_true, decide_eq_true_eq, hm i, pk.mem_iff, List.mem_cons]
      exact Or.comm
    have hsz : es1.size = n + 1 := by rw [← Array.length_toList, pc.length_eq, List.length_cons, Array.length_toList, hn]
    have hb1 : es1.size < scanBound := by rw [hsz]; exact room
    have hled : w.params.followText "set-order" = true ∨ t1.led = true := hl.imp id fun z => by rw [hl1]; exact z
    have fin : ∀ h', Heap.SameBut a s.heap h' → SetRS P w h' a (fun j => S j || decide (j = k)) es1.size → Q true { s with heap := h' } := fun h' sb r => by
      have q := hQ h' sb
      rw [hSk] at q
      rw [hsz] at r
      exact q r
    refine wpAny_bind (hgw _ ?_)
    split
    · refine wpAny_bind ?_
      rw [hashByValue_scannable 8 hsc]
      refine wpAny_pure ?_
      refine setS_add_tail ?_ ho hex hd g1 nd1 m1 hb1 ?_ ?_ ?_ ?_
      · intro b s₁ Q' q; cases b <;> first | exact wpAny_pure q | exact wpAny_rule q
      · first | (split <;> first | exact hf1 | exact SetTable.fits_plain_off hf1) | exact hf1
      · first | (split <;> exact hr1) | exact hr1
      · first | (split <;> exact hled) | exact hled
      · intro h' sb r; dsimp only; exact wpAny_pure (fin h' sb r)
    · refine wpAny_bind (wpAny_pure ?_)
      simp only [↓reduceIte]
      refine setS_add_tail ?_ ho hex hd g1 nd1 m1 hb1 hf1 hr1 hled ?_
      · intro b s₁ Q' q; cases b <;> first | exact wpAny_pure q | exact wpAny_rule q
      · intro h' sb r; dsimp only; exact wpAny_pure (fin h' sb r)

end
end K53
end KFu_
section KFv_
set_option maxRecDepth 100000
set_option maxHeartbeats 4000000
/-! KFv: a walkable set made of a list of texts. -/
namespace K53
open PySem PySem.Spec PyProof.Rows SS L2
theorem SetRS.congr {P : Program} {w : World} {h : Heap} {a : Addr} {S S' : Str → Bool} {n n' : Nat} (R : SetRS P w h a S n) (e : ∀ k, S k = S' k) (en : n = n') : SetRS P w h a S' n' := by
  have : S = S' := funext e
  subst this; subst en; exact R
theorem setRS_fresh {P : Program} {w : World} {h : Heap} {a : Addr} (ho : h.get? a = some { cls := .type "set", dict := none, data := .set #[] 0 (.fresh 0 0 (!w.params.followText "set-order")) }) : SetRS P w h a (fun _ => false) 0 := by
  exact ⟨_, #[], 0, _, ho, ⟨rfl, rfl, rfl⟩, rfl, (fun e he => by simp at he), (by simp), (fun k => by simp), (by decide), (by rfl), rfl, List.Pairwise.nil, by
    show _ ∨ (!w.params.followText "set-order") = true
    cases w.params.followText "set-order"
    · exact .inr rfl
    · exact .inl rfl⟩
section
variable {prog : Program} {w : World} {A : Around} {R : Result → Shared → Prop} {I : Addr} {fp wr : List Addr} {G : Array GenState → Array GenState → Prop} {n : Nat} {P : Nat → Value → Prop} {St : Nat → Shared → Prop}
theorem loopStrR (W : WalksS prog w A.in1 I fp wr G n P St) (S : Addr) (hSf : S ∉ fp) (xs : List Str) (hsz : xs.length = n) (hn1 : n < 64)
    (hval : ∀ i v, P i v → ∃ t, v = .str (xs.getD i Str.empty) t) :
    ∀ (k i : Nat) (s : Shared), n - i = k → i ≤ n → St i s →
      (∃ m, m ≤ i ∧ SetRS prog w s.heap S (fun k' => (xs.take i).any (· == k')) m) →
      (∀ s', Moved (S :: wr) G s s' → (∃ m, m ≤ n ∧ SetRS prog w s'.heap S (fun k' => (xs.take n).any (· == k')) m) → R (.ok (.ret .none)) s') →
      codeAny (model prog w) A (.builtin "set.update.loop" ⟨[.ref S, .ref I], []⟩) R s := by
  have hSw : S ∉ wr := fun h => hSf (W.sub _ h)
  have hsub : ∀ b ∈ wr, b ∈ S :: wr := fun b hb => List.mem_cons_of_mem _ hb
  intro k
  induction k with
  | zero =>
    intro i s hk hi hst hS hR
    have hin : i = n := by omega
    subst hin
    refine codeAny_builtin PyProof.Rows.F.entry_set_update_loop ?_
    rw [Around.under_plainId PyProof.Rows.F.plain_set_update_loop _]
    show wpAny _ A.in1 (pyNext (.ref I) >>= _) _ _ s
    refine wpAny_bind (W.done s _ _ hst fun s' hm => ?_)
    show wpAny _ A.in1 (ret Value.none) _ _ s'
    exact wpAny_pure (hR s' (hm.mono hsub) (by
      obtain ⟨m, hm0, o, es, ep, t, ho, rest⟩ := hS
      exact ⟨m, hm0, o, es, ep, t, hm.heap S _ hSw ho, rest⟩))
  | succ k ih =>
    intro i s hk hi hst hS hR
    have hlt : i < n := by omega
    obtain ⟨m, hmi, hS⟩ := hS
    refine codeAny_builtin PyProof.Rows.F.entry_set_update_loop ?_
    rw [Around.under_plainId PyProof.Rows.F.plain_set_update_loop _]
    show wpAny _ A.in1 (pyNext (.ref I) >>= _) _ _ s
    refine wpAny_bind (W.item i s _ _ hlt hst fun v s' hP hst' hm => ?_)
    obtain ⟨t, rfl⟩ := hval i v hP
    have hS' : SetRS prog w s'.heap S (fun k' => (xs.take i).any (· == k')) m := by
      obtain ⟨o, es, ep, tb, ho, rest⟩ := hS
      exact ⟨o, es, ep, tb, hm.heap S _ hSw ho, rest⟩
    show wpAny _ A.in1 (holding [Value.str (xs.getD i Str.empty) t] (setAdd S (.str (xs.getD i Str.empty) t)) >>= _) _ _ s'
    refine wpAny_bind (wpAny_holding ?_)
    unfold setAdd
    refine wpAny_holding ?_
    refine wpAny_bind ((PySem.strKind prog w).pyHash (k := xs.getD i Str.empty) (strKind_is _ _ _ _) ?_)
    refine setS_add_hashed (s := { s' with toks := s'.toks + 1 }) hS' (by unfold scanBound; omega) fun h' hsb hS2 => ?_
    have hSi : ∃ m, m ≤ i + 1 ∧ SetRS prog w h' S (fun k' => (xs.take (i + 1)).any (· == k')) m := by
      have hx : xs[i]? = some (xs.getD i Str.empty) := by
        rw [List.getD_eq_getElem?_getD, List.getElem?_eq_getElem (by omega)]; rfl
      refine ⟨_, ?_, SetRS.congr hS2 (fun k' => ?_) rfl⟩
      · split <;> omega
      · rw [List.take_add_one, hx, List.any_append]
        congr 1
        generalize xs.getD i Str.empty = x
        show decide (k' = x) = ((x == k') || false)
        rw [Bool.or_false]
        by_cases e : k' = x
        · subst e; rw [beq_self_eq_true]; exact decide_eq_true rfl
        · rw [decide_eq_false e]; exact (beq_eq_false_iff_ne.mpr fun h => e h.symm).symm
    refine wpAny_pure ⟨plainId_quiet PyProof.Rows.F.plain_set_update_loop _, ih (i + 1) _ (by omega) hlt (W.frame _ s' _ _ hst' (Nat.le_succ _) fun b hb o e => ?_) hSi fun s'' hm'' hS'' => ?_⟩
    · rw [hsb.2 b (fun h : b = S => hSf (by rw [← h]; exact hb))]; exact e
    · refine hR s'' (Moved.trans W.gtrans ((hm.mono hsub).then_heap (Nat.le_succ _) fun b o hb e => ?_) hm'') hS''
      rw [hsb.2 b (fun h : b = S => hb (by rw [h]; exact List.mem_cons_self))]; exact e
end

section
variable {prog : Program} {w : World} {A : Around} {E : Value → Shared → Prop} {s : Shared}
set_option maxHeartbeats 3200000 in
theorem call_set_listR {l : Addr} {items : Array Value} {xs : List Str} {Q : Value → Shared → Prop}
    (hh : A.handled = none) (hl : s.heap.IsList l items) (hi : PyProof.Rows.StrsAre items.toList xs) (hn1 : xs.length < 64)
    (h : ∀ (h' : Heap) (tk : Nat), (∃ m, m ≤ items.size ∧ SetRS prog w h' s.heap.objs.size (fun k' => (xs.take items.size).any (· == k')) m) →
      (∀ b o, b < s.heap.objs.size → s.heap.get? b = some o → h'.get? b = some o) → Q (.ref s.heap.objs.size) { s with heap := h', toks := tk }) :
    wpAny (model prog w) A (call (.type "set") [.ref l]) Q E s := by
  obtain ⟨c, tl, hmro⟩ := PySem.F.called_set.mro
  have hmade := PySem.F.called_set.made
  have hsub := PySem.F.called_set.sub
  refine wpAny_call (codeAny_of_tree ?_)
  show wpAny _ _ (callAny (.type "set") _) _ _ _
  refine wpAny_pure ⟨Code.quiet_builtin _ (by decide +kernel), codeAny_builtin PySem.F.entry_type_call ?_⟩
  rw [Around.under_plain (weight_type_call_type "set" [.ref l] []) rfl]
  have h1 := PySem.F.called_set.notType
  have h2 := PySem.F.called_set.canCreate
  have hct := PySem.F.typeCall_set_1 (.ref l)
  repeat (any_goals (first | assumption | wp_step))

  refine codeAny_mono (code_set_led1 (.ref l) (E := E) (Q₁ := fun obj s₁ => obj = .ref s.heap.objs.size ∧ s₁ = { s with heap := s.heap.push { cls := .type "set", dict := none, data := .set #[] 0 (.fresh 0 0 (!w.params.followText "set-order")) } }) ⟨rfl, rfl⟩) fun r s₁ hr => ?_
  cases r with
  | error e => exact hr
  | ok fl =>
    cases fl with
    | ret obj =>
      obtain ⟨rfl, rfl⟩ := hr
      have hS : (s.heap.push { cls := .type "set", dict := none, data := .set #[] 0 (.fresh 0 0 (!w.params.followText "set-order")) }).get? s.heap.objs.size = some { cls := .type "set", dict := none, data := .set #[] 0 (.fresh 0 0 (!w.params.followText "set-order")) } := Heap.get?_push_size _ rfl
      have hT : Shared.TypeIs { s with heap := s.heap.push { cls := .type "set", dict := none, data := .set #[] 0 (.fresh 0 0 (!w.params.followText "set-order")) } } (.ref s.heap.objs.size) "set" := ⟨_, hS, rfl⟩
      have hli := PySem.F.called_set.init.lookup
      have hbi := PySem.F.called_set.init.bind (.ref s.heap.objs.size)
      repeat (any_goals (first | assumption | wp_step))

      refine codeAny_mono (codeAny_call_builtin (R := wants (fun r s₂ => r = .none ∧ ∃ h' tk, s₂ = { s with heap := h', toks := tk } ∧
          (∃ m, m ≤ items.size ∧ SetRS prog w h' s.heap.objs.size (fun k' => (xs.take items.size).any (· == k')) m) ∧
          (∀ b o, b < s.heap.objs.size → s.heap.get? b = some o → h'.get? b = some o)) E) PySem.F.called_set.init.plain PySem.F.entry_set_init (check_set_init_1 hT ?_)) fun r₂ s₂ hr₂ => ?_
      · obtain ⟨ol, hol, hcl, nl, hdl⟩ := hl
        obtain ⟨ocls, odict, odata, oslots⟩ := ol
        simp only at hcl hdl
        subst hcl; subst hdl
        have hol' : (s.heap.push { cls := .type "set", dict := none, data := .set #[] 0 (.fresh 0 0 (!w.params.followText "set-order")) }).get? l = some { cls := .type "list", dict := odict, data := .seq items nl, slots := oslots } := Heap.get?_push_of_some _ hol
        have hsls := PySem.F.sub_list_set
        have hslf := PySem.F.sub_list_frozenset
        have hne : (Value.type "list" == Value.type "dict") = false := by decide
        have hl1 : (s.heap.push { cls := .type "set", dict := none, data := .set #[] 0 (.fresh 0 0 (!w.params.followText "set-order")) }).IsList l items := ⟨_, hol', rfl, nl, rfl⟩
        unfold Builtin.«set.__init__» noKeywords Builtin.Frozenset.updateFrom
        generalize hPI : pyIter = PI
        wp_walk
        subst hPI

        refine wpAny_pyIter_list hl1 ?_
        refine wpAny_bind (wpAny_runValue ?_)
        have hlS : l < s.heap.objs.size := Heap.lt_size hol
        have hh3 : A.in1.in1.in1.handled = none := by simp [hh]
        have hneI : l ≠ (s.heap.push { cls := .type "set", dict := none, data := .set #[] 0 (.fresh 0 0 (!w.params.followText "set-order")) }).objs.size := by
          rw [Heap.size_push]; exact Nat.ne_of_lt (Nat.lt_succ_of_lt hlS)
        have hSf : s.heap.objs.size ∉ [(s.heap.push { cls := .type "set", dict := none, data := .set #[] 0 (.fresh 0 0 (!w.params.followText "set-order")) }).objs.size, l] := by
          rw [Heap.size_push]; simp only [List.mem_cons, List.mem_singleton, List.not_mem_nil, or_false, not_or]
          exact ⟨Nat.ne_of_lt (Nat.lt_succ_self _), Nat.ne_of_gt hlS⟩
        have hsz : xs.length = items.size := by rw [← StrsAre.len_eq hi, Array.length_toList]
        have hval : ∀ (i : Nat) (v : Value), items[i]? = some v → ∃ t, v = .str (xs.getD i Str.empty) t := fun i v hv => strs_at hi i v (by rw [Array.getElem?_toList]; exact hv)
        refine loopStrR ((Walks.list hh3 _ l hneI items).toS) s.heap.objs.size
          hSf xs hsz (by rw [← hsz]; exact hn1) hval (items.size - 0) 0 _ (by omega) (Nat.zero_le _)
          ⟨⟨_, Heap.get?_push_size _ rfl, rfl, rfl⟩, (hl1.push _)⟩ ?hS0 ?hR
        case hS0 =>
          have hget : ((s.heap.push { cls := .type "set", dict := none, data := .set #[] 0 (.fresh 0 0 (!w.params.followText "set-order")) }).push { cls := .type "list_iterator", data := .fields #[.ref l, .int 0 0] }).get? s.heap.objs.size
              = some { cls := .type "set", dict := none, data := .set #[] 0 (.fresh 0 0 (!w.params.followText "set-order")) } := Heap.get?_push_of_some _ hS
          exact ⟨0, Nat.zero_le _, SetRS.congr (setRS_fresh hget) (fun _ => rfl) rfl⟩
        case hR =>
          intro s' hm hS'
          obtain ⟨h', g', d', tk', os'⟩ := s'
          have eg : g' = s.gens := hm.gens
          have ed : d' = s.drawn := hm.drawn
          have eo : os' = s.os := hm.os
          subst eg; subst ed; subst eo
          show wpAny _ _ _ _ _ _
          refine wpAny_pure ?_
          show wpAny _ _ (ret Value.none) _ _ _
          refine wpAny_pure ⟨rfl, h', tk', rfl, hS', fun b o hb e => ?_⟩
          have hb1 : b ≠ s.heap.objs.size := Nat.ne_of_lt hb
          have hb2 : b ≠ (s.heap.push { cls := .type "set", dict := none, data := .set #[] 0 (.fresh 0 0 (!w.params.followText "set-order")) }).objs.size := by
            rw [Heap.size_push]; exact Nat.ne_of_lt (Nat.lt_succ_of_lt hb)
          exact hm.heap b o (by simp only [List.mem_cons, List.mem_singleton, List.not_mem_nil, or_false, not_or]; exact ⟨hb1, hb2⟩) (Heap.get?_push_of_some _ (Heap.get?_push_of_some _ e))

      · cases r₂ with
        | error e => exact hr₂
        | ok fl₂ =>
          cases fl₂ with
          | ret r =>
            obtain ⟨rfl, h', tk, rfl, hS', hk'⟩ := hr₂
            repeat (any_goals (first | assumption | wp_step))
            exact h _ _ hS' hk'
          | _ => exact hr₂.elim
    | _ => exact hr.elim


end
end K53
end KFv_
section PA_
set_option maxRecDepth 100000
set_option maxHeartbeats 4000000
/-! PA: walks in a list of leads; rings; walks without a vertex twice; greatest products. -/
namespace K53
section
variable {α ε : Type} [DecidableEq α]
def Wk' (tl hd : ε → α) (ls : List ε) : α → List ε → α → Prop
  | x, [], y => x = y
  | x, l :: w, y => l ∈ ls ∧ tl l = x ∧ Wk' tl hd ls (hd l) w y
def mulL (f : ε → Nat) : List ε → Nat
  | [] => 1
  | l :: w => f l * mulL f w
theorem mulL_app {f : ε → Nat} : ∀ {a b : List ε}, mulL f (a ++ b) = mulL f a * mulL f b
  | [], b => by simp [mulL]
  | l :: a, b => by rw [List.cons_append, mulL, mulL, mulL_app, Nat.mul_assoc]
theorem mulL_pos {f : ε → Nat} : ∀ {a : List ε}, (∀ l ∈ a, 0 < f l) → 0 < mulL f a
  | [], _ => by simp [mulL]
  | l :: a, h => Nat.mul_pos (h l (by simp)) (mulL_pos fun x hx => h x (by simp [hx]))
variable {tl hd : ε → α} {ls : List ε}
theorem wk_app : ∀ {a b : List ε} {x y : α}, Wk' tl hd ls x (a ++ b) y ↔ ∃ z, Wk' tl hd ls x a z ∧ Wk' tl hd ls z b y
  | [], b, x, y => ⟨fun h => ⟨x, rfl, h⟩, fun ⟨z, e, h⟩ => by cases (show x = z from e); exact h⟩
  | l :: a, b, x, y => ⟨fun ⟨h1, h2, h3⟩ => by
      obtain ⟨z, h4, h5⟩ := wk_app.mp h3
      exact ⟨z, ⟨h1, h2, h4⟩, h5⟩, fun ⟨z, ⟨h1, h2, h4⟩, h5⟩ => ⟨h1, h2, wk_app.mpr ⟨z, h4, h5⟩⟩⟩
theorem wk_mem : ∀ {w : List ε} {x y : α}, Wk' tl hd ls x w y → ∀ l ∈ w, l ∈ ls
  | [], _, _, _, l, hl => by simp at hl
  | l0 :: w, x, y, ⟨h1, _, h3⟩, l, hl => by
    rcases List.mem_cons.mp hl with rfl | hl
    · exact h1
    · exact wk_mem h3 l hl
theorem wk_sub {ls' : List ε} : ∀ {w : List ε} {x y : α}, Wk' tl hd ls x w y → (∀ l ∈ w, l ∈ ls') → Wk' tl hd ls' x w y
  | [], _, _, h, _ => h
  | l0 :: w, x, y, ⟨h1, h2, h3⟩, k => ⟨k l0 (by simp), h2, wk_sub h3 fun l hl => k l (by simp [hl])⟩
theorem wk_split {z : α} : ∀ {w : List ε} {x y : α}, Wk' tl hd ls x w y → z ∈ w.map tl → ∃ a b, w = a ++ b ∧ b ≠ [] ∧ Wk' tl hd ls x a z ∧ Wk' tl hd ls z b y
  | [], _, _, _, h => by simp at h
  | l :: w, x, y, ⟨h1, h2, h3⟩, h => by
    by_cases e : z = x
    · subst e
      exact ⟨[], l :: w, rfl, by simp, rfl, h1, h2, h3⟩
    · rw [List.map_cons, List.mem_cons] at h
      rcases h with h | h
      · exact absurd (h.trans h2) e
      · obtain ⟨a, b, e1, e2, h4, h5⟩ := wk_split h3 h
        exact ⟨l :: a, b, by rw [e1]; rfl, e2, ⟨h1, h2, h4⟩, h5⟩
theorem wk_ring : ∀ {w : List ε} {x y : α}, Wk' tl hd ls x w y → ¬ (w.map tl).Nodup → ∃ a b c z, w = a ++ b ++ c ∧ b ≠ [] ∧ c ≠ [] ∧ Wk' tl hd ls x a z ∧ Wk' tl hd ls z b z ∧ Wk' tl hd ls z c y
  | [], _, _, _, h => absurd List.nodup_nil h
  | l :: w, x, y, ⟨h1, h2, h3⟩, h => by
    by_cases m : tl l ∈ w.map tl
    · obtain ⟨a, b, e1, e2, h4, h5⟩ := wk_split h3 m
      refine ⟨[], l :: a, b, x, by rw [e1]; rfl, by simp, e2, rfl, ⟨h1, h2, ?_⟩, ?_⟩
      · rw [← h2]; exact h4
      · rw [← h2]; exact h5
    · have : ¬ (w.map tl).Nodup := fun n => h (by rw [List.map_cons, List.nodup_cons]; exact ⟨m, n⟩)
      obtain ⟨a, b, c, z, e1, e2, e3, h4, h5, h6⟩ := wk_ring h3 this
      exact ⟨l :: a, b, c, z, by rw [e1]; rfl, e2, e3, ⟨h1, h2, h4⟩, h5, h6⟩
variable {p s : ε → Nat}
/-- rings without a vertex twice decide of all rings -/
theorem ring_le (h : ∀ x w, Wk' tl hd ls x w x → w ≠ [] → (w.map tl).Nodup → mulL p w ≤ mulL s w) : ∀ (n : Nat) (x : α) (w : List ε), w.length ≤ n → Wk' tl hd ls x w x → mulL p w ≤ mulL s w
  | n, x, [], _, _ => by simp [mulL]
  | 0, x, l :: w, hn, _ => by simp at hn
  | n + 1, x, l :: w, hn, hw => by
    by_cases nd : ((l :: w).map tl).Nodup
    · exact h x _ hw (by simp) nd
    · obtain ⟨a, b, c, z, e1, e2, e3, h4, h5, h6⟩ := wk_ring hw nd
      have lb : 0 < b.length := List.length_pos_iff.mpr e2
      have lc : 0 < c.length := List.length_pos_iff.mpr e3
      have el : (l :: w).length = a.length + b.length + c.length := by rw [e1, List.length_append, List.length_append]
      have i1 := ring_le h n z b (by omega) h5
      have i2 := ring_le h n x (a ++ c) (by rw [List.length_append]; omega) (wk_app.mpr ⟨z, h4, h6⟩)
      rw [e1, mulL_app, mulL_app, mulL_app, mulL_app]
      rw [mulL_app, mulL_app] at i2
      have := Nat.mul_le_mul i1 i2
      calc mulL p a * mulL p b * mulL p c = mulL p b * (mulL p a * mulL p c) := by ac_rfl
        _ ≤ mulL s b * (mulL s a * mulL s c) := this
        _ = mulL s a * mulL s b * mulL s c := by ac_rfl
/-- a walk without a vertex twice that is worth as much -/
theorem wk_short (h : ∀ x w, Wk' tl hd ls x w x → mulL p w ≤ mulL s w) : ∀ (n : Nat) (x y : α) (w : List ε), w.length ≤ n → Wk' tl hd ls x w y → ∃ w', Wk' tl hd ls x w' y ∧ (w'.map tl ++ [y]).Nodup ∧ mulL p w * mulL s w' ≤ mulL p w' * mulL s w
  | 0, x, y, [], _, hw => ⟨[], hw, by simp, Nat.le_refl _⟩
  | 0, x, y, l :: w, hn, _ => by simp at hn
  | n + 1, x, y, w, hn, hw => by
    by_cases nd : (w.map tl).Nodup
    · by_cases m : y ∈ w.map tl
      · obtain ⟨a, b, e1, e2, h4, h5⟩ := wk_split hw m
        have lb : 0 < b.length := List.length_pos_iff.mpr e2
        have el : w.length = a.length + b.length := by rw [e1, List.length_append]
        obtain ⟨w', k1, k2, k3⟩ := wk_short h n x y a (by omega) h4
        refine ⟨w', k1, k2, ?_⟩
        rw [e1, mulL_app, mulL_app]
        calc mulL p a * mulL p b * mulL s w' = mulL p b * (mulL p a * mulL s w') := by ac_rfl
          _ ≤ mulL s b * (mulL p w' * mulL s a) := Nat.mul_le_mul (h _ _ h5) k3
          _ = mulL p w' * (mulL s a * mulL s b) := by ac_rfl
      · refine ⟨w, hw, ?_, Nat.le_refl _⟩
        rw [List.nodup_append]
        exact ⟨nd, by simp, fun a ha b hb e => by rw [List.mem_singleton] at hb; subst hb; subst e; exact m ha⟩
    · obtain ⟨a, b, c, z, e1, e2, e3, h4, h5, h6⟩ := wk_ring hw nd
      have lb : 0 < b.length := List.length_pos_iff.mpr e2
      have el : w.length = a.length + b.length + c.length := by rw [e1, List.length_append, List.length_append]
      obtain ⟨w', k1, k2, k3⟩ := wk_short h n x y (a ++ c) (by rw [List.length_append]; omega) (wk_app.mpr ⟨z, h4, h6⟩)
      refine ⟨w', k1, k2, ?_⟩
      rw [mulL_app, mulL_app] at k3
      rw [e1, mulL_app, mulL_app, mulL_app, mulL_app]
      calc mulL p a * mulL p b * mulL p c * mulL s w' = mulL p b * (mulL p a * mulL p c * mulL s w') := by ac_rfl
        _ ≤ mulL s b * (mulL p w' * (mulL s a * mulL s c)) := Nat.mul_le_mul (h _ _ h5) k3
        _ = mulL p w' * (mulL s a * mulL s b * mulL s c) := by ac_rfl
/-- the same without products -/
theorem wk_short1 {n : Nat} {x y : α} {w : List ε} (hw : Wk' tl hd ls x w y) : ∃ w', Wk' tl hd ls x w' y ∧ (w'.map tl ++ [y]).Nodup := by
  have one : ∀ w : List ε, mulL (fun _ => 1) w = 1 := fun w => by
    induction w with
    | nil => rfl
    | cons l w ih => rw [mulL, ih]
  obtain ⟨w', k1, k2, _⟩ := wk_short (p := fun _ => 1) (s := fun _ => 1) (fun _ _ _ => Nat.le_refl _) w.length x y w (Nat.le_refl _) hw
  exact ⟨w', k1, k2⟩
theorem nd_lenG : ∀ {l m : List α}, l.Nodup → (∀ x ∈ l, x ∈ m) → l.length ≤ m.length
  | [], _, _, _ => Nat.zero_le _
  | a :: l, m, h, hs => by
    rw [List.nodup_cons] at h
    have hm : a ∈ m := hs a (by simp)
    have := nd_lenG (l := l) (m := m.erase a) h.2 fun x hx => (List.mem_erase_of_ne (fun e => h.1 (by subst e; exact hx))).mpr (hs x (by simp [hx]))
    rw [List.length_erase_of_mem hm] at this
    have := List.length_pos_of_mem hm
    rw [List.length_cons]; omega
theorem wk_len {ks : List α} {w : List ε} {x y : α} (hw : Wk' tl hd ls x w y) (nd : (w.map tl ++ [y]).Nodup) (ht : ∀ l ∈ ls, tl l ∈ ks) (hy : y ∈ ks) : w.length + 1 ≤ ks.length := by
  have := nd_lenG nd (m := ks) fun z hz => by
    rcases List.mem_append.mp hz with hz | hz
    · obtain ⟨l, hl, rfl⟩ := List.mem_map.mp hz
      exact ht l (wk_mem hw l hl)
    · rw [List.mem_singleton] at hz; subst hz; exact hy
  rw [List.length_append, List.length_map] at this
  simpa using this
/-! ### greatest products -/
def allL (ls : List ε) : Nat → List (List ε)
  | 0 => [[]]
  | n + 1 => [] :: (allL ls n).flatMap fun w => ls.map fun l => l :: w
theorem mem_allL {ls : List ε} : ∀ {n : Nat} {w : List ε}, w ∈ allL ls n ↔ w.length ≤ n ∧ ∀ l ∈ w, l ∈ ls
  | 0, w => by
    rw [allL, List.mem_singleton]
    constructor
    · rintro rfl; simp
    · rintro ⟨h, _⟩
      exact List.length_eq_zero_iff.mp (Nat.le_zero.mp h)
  | n + 1, w => by
    rw [allL, List.mem_cons, List.mem_flatMap]
    constructor
    · rintro (rfl | ⟨v, hv, hw⟩)
      · simp
      · obtain ⟨l, hl, rfl⟩ := List.mem_map.mp hw
        obtain ⟨h1, h2⟩ := mem_allL.mp hv
        refine ⟨by rw [List.length_cons]; omega, fun x hx => ?_⟩
        rcases List.mem_cons.mp hx with rfl | hx
        · exact hl
        · exact h2 x hx
    · rintro ⟨h1, h2⟩
      cases w with
      | nil => exact .inl rfl
      | cons l w =>
        rw [List.length_cons] at h1
        exact .inr ⟨w, mem_allL.mpr ⟨by omega, fun x hx => h2 x (by simp [hx])⟩, List.mem_map.mpr ⟨l, h2 l (by simp), rfl⟩⟩
theorem max_ge : ∀ {l : List Nat} {n : Nat}, n ∈ l → n ≤ l.foldr max 0
  | [], _, h => by simp at h
  | a :: l, n, h => by
    rw [List.foldr_cons]
    rcases List.mem_cons.mp h with rfl | h
    · exact Nat.le_max_left _ _
    · exact Nat.le_trans (max_ge h) (Nat.le_max_right _ _)
theorem max_mem : ∀ {l : List Nat}, l ≠ [] → l.foldr max 0 ∈ l
  | [], h => absurd rfl h
  | [a], _ => by simp
  | a :: b :: l, _ => by
    rw [List.foldr_cons]
    have := max_mem (l := b :: l) (by simp)
    rcases Nat.le_total a ((b :: l).foldr max 0) with h | h
    · rw [Nat.max_eq_right h]; exact List.mem_cons_of_mem _ this
    · rw [Nat.max_eq_left h]; exact List.mem_cons_self
open Classical in
noncomputable def valsW (tl hd : ε → α) (p s : ε → Nat) (ls : List ε) (k : α) : List Nat := ((allL ls 3).filter fun w => decide (∃ x, Wk' tl hd ls x w k)).map fun w => 1728 * mulL p w / mulL s w
noncomputable def valW (tl hd : ε → α) (p s : ε → Nat) (ls : List ε) (k : α) : Nat := (valsW tl hd p s ls k).foldr max 0
open Classical in
theorem mem_valsW {n : Nat} {k : α} : n ∈ valsW tl hd p s ls k ↔ ∃ x w, w.length ≤ 3 ∧ Wk' tl hd ls x w k ∧ n = 1728 * mulL p w / mulL s w := by
  unfold valsW
  rw [List.mem_map]
  constructor
  · rintro ⟨w, hw, rfl⟩
    rw [List.mem_filter] at hw
    obtain ⟨x, hx⟩ := of_decide_eq_true hw.2
    exact ⟨x, w, (mem_allL.mp hw.1).1, hx, rfl⟩
  · rintro ⟨x, w, h1, h2, rfl⟩
    exact ⟨w, List.mem_filter.mpr ⟨mem_allL.mpr ⟨h1, wk_mem h2⟩, decide_eq_true ⟨x, h2⟩⟩, rfl⟩
structure SmallG (p s : ε → Nat) (ls : List ε) : Prop where
  s1 : ∀ l ∈ ls, 1 ≤ s l ∧ s l ≤ 4
  p2 : ∀ l ∈ ls, p l ≤ 2
theorem div12 {n : Nat} (h : 1 ≤ n ∧ n ≤ 4) : n ∣ 12 := by
  have : n = 1 ∨ n = 2 ∨ n = 3 ∨ n = 4 := by omega
  rcases this with rfl | rfl | rfl | rfl <;> decide
theorem mulL_div : ∀ {w : List ε}, (∀ l ∈ w, 1 ≤ s l ∧ s l ≤ 4) → mulL s w ∣ 12 ^ w.length
  | [], _ => by simp [mulL]
  | l :: w, h => by
    rw [mulL, List.length_cons, Nat.pow_succ, Nat.mul_comm (12 ^ _) 12]
    exact Nat.mul_dvd_mul (div12 (h l (by simp))) (mulL_div fun x hx => h x (by simp [hx]))
theorem mulL_2 : ∀ {w : List ε}, (∀ l ∈ w, p l ≤ 2) → mulL p w ≤ 2 ^ w.length
  | [], _ => by simp [mulL]
  | l :: w, h => by
    rw [mulL, List.length_cons, Nat.pow_succ, Nat.mul_comm (2 ^ _) 2]
    exact Nat.mul_le_mul (h l (by simp)) (mulL_2 fun x hx => h x (by simp [hx]))
theorem div1728 {w : List ε} (h : ∀ l ∈ w, 1 ≤ s l ∧ s l ≤ 4) (hl : w.length ≤ 3) (n : Nat) : 1728 * n / mulL s w * mulL s w = 1728 * n := by
  refine Nat.div_mul_cancel (Nat.dvd_trans (mulL_div h) (Nat.dvd_trans (Nat.pow_dvd_pow 12 hl) ?_))
  exact Nat.dvd_mul_right _ _
theorem valW_ge (g : SmallG p s ls) {x k : α} {w : List ε} (h : Wk' tl hd ls x w k) (hl : w.length ≤ 3) : 1728 * mulL p w ≤ valW tl hd p s ls k * mulL s w := by
  have h1 : 1728 * mulL p w / mulL s w ≤ valW tl hd p s ls k := max_ge (mem_valsW.mpr ⟨x, w, hl, h, rfl⟩)
  have h2 := div1728 (s := s) (fun l hl => g.s1 l (wk_mem h l hl)) hl (mulL p w)
  calc 1728 * mulL p w = 1728 * mulL p w / mulL s w * mulL s w := h2.symm
    _ ≤ _ := Nat.mul_le_mul_right _ h1
theorem valW_is (g : SmallG p s ls) (k : α) : ∃ x w, w.length ≤ 3 ∧ Wk' tl hd ls x w k ∧ valW tl hd p s ls k * mulL s w = 1728 * mulL p w ∧ valW tl hd p s ls k = 1728 * mulL p w / mulL s w := by
  have ne : valsW tl hd p s ls k ≠ [] := fun e => by
    have : 1728 * mulL p ([] : List ε) / mulL s ([] : List ε) ∈ valsW tl hd p s ls k := mem_valsW.mpr ⟨k, [], by simp, rfl, rfl⟩
    rw [e] at this; simp at this
  obtain ⟨x, w, h1, h2, h3⟩ := mem_valsW.mp (max_mem ne)
  refine ⟨x, w, h1, h2, ?_, h3⟩
  show valW tl hd p s ls k * _ = _
  rw [show valW tl hd p s ls k = _ from h3]
  exact div1728 (fun l hl => g.s1 l (wk_mem h2 l hl)) h1 _
theorem valW_low (g : SmallG p s ls) (k : α) : 1728 ≤ valW tl hd p s ls k := by
  have := valW_ge (tl := tl) (hd := hd) g (x := k) (k := k) (w := []) rfl (by simp)
  simpa [mulL] using this
theorem valW_high (g : SmallG p s ls) (k : α) : valW tl hd p s ls k ≤ 13824 := by
  obtain ⟨x, w, h1, h2, _, h4⟩ := valW_is (tl := tl) (hd := hd) g k
  rw [h4]
  have h5 : mulL p w ≤ 8 := Nat.le_trans (mulL_2 fun l hl => g.p2 l (wk_mem h2 l hl)) (Nat.le_trans (Nat.pow_le_pow_right (by omega) h1) (by decide))
  refine Nat.le_trans (Nat.div_le_self _ _) ?_
  omega
theorem valW_closed (g : SmallG p s ls) {ks : List α} (hk : ks.length ≤ 4) (ht : ∀ l ∈ ls, tl l ∈ ks) (hh : ∀ l ∈ ls, hd l ∈ ks) (hr : ∀ x w, Wk' tl hd ls x w x → w ≠ [] → (w.map tl).Nodup → mulL p w ≤ mulL s w) {l : ε} (hl : l ∈ ls) :
    valW tl hd p s ls (tl l) * p l ≤ valW tl hd p s ls (hd l) * s l := by
  obtain ⟨x, w, h1, h2, h3, _⟩ := valW_is (tl := tl) (hd := hd) g (tl l)
  have hw2 : Wk' tl hd ls x (w ++ [l]) (hd l) := wk_app.mpr ⟨tl l, h2, hl, rfl, rfl⟩
  obtain ⟨w', k1, k2, k3⟩ := wk_short (p := p) (s := s) (fun x w hw => ring_le hr w.length x w (Nat.le_refl _) hw) _ x (hd l) _ (Nat.le_refl _) hw2
  have k4 := wk_len k1 k2 ht (hh l hl)
  have k5 := valW_ge (tl := tl) (hd := hd) g k1 (by omega)
  have ps : 0 < mulL s w := mulL_pos fun x hx => (g.s1 x (wk_mem h2 x hx)).1
  have ps' : 0 < mulL s w' := mulL_pos fun x hx => (g.s1 x (wk_mem k1 x hx)).1
  rw [mulL_app, mulL_app] at k3
  have e1 : mulL p [l] = p l := by simp [mulL]
  have e2 : mulL s [l] = s l := by simp [mulL]
  rw [e1, e2] at k3
  refine Nat.le_of_mul_le_mul_left (c := mulL s w * mulL s w') ?_ (Nat.mul_pos ps ps')
  calc mulL s w * mulL s w' * (valW tl hd p s ls (tl l) * p l) = (valW tl hd p s ls (tl l) * mulL s w) * (p l * mulL s w') := by ac_rfl
    _ = 1728 * (mulL p w * p l * mulL s w') := by rw [h3]; ac_rfl
    _ ≤ 1728 * (mulL p w' * (mulL s w * s l)) := Nat.mul_le_mul_left _ k3
    _ = (1728 * mulL p w') * (mulL s w * s l) := by ac_rfl
    _ ≤ (valW tl hd p s ls (hd l) * mulL s w') * (mulL s w * s l) := Nat.mul_le_mul_right _ k5
    _ = mulL s w * mulL s w' * (valW tl hd p s ls (hd l) * s l) := by ac_rfl
end
end K53
end PA_
section PB_
set_option maxRecDepth 100000
set_option maxHeartbeats 4000000
/-! PB: what maps, roads and papers tell of leads. -/
namespace K53
open PySem PySem.Spec PyProof.Rows L2
/-! ### fractions -/
def ApR (r : Rt) (N D : Nat) : Prop := 0 < r.2 ∧ 0 < D ∧ r.1 * D = N * r.2
theorem mkR_ap {p q : Nat} (h : 0 < q) : ApR (mkR p q) p q := by
  have g0 : 0 < Nat.gcd p q := Nat.gcd_pos_of_pos_right _ h
  refine ⟨Nat.div_pos (Nat.le_of_dvd h (Nat.gcd_dvd_right p q)) g0, h, ?_⟩
  show p / Nat.gcd p q * q = p * (q / Nat.gcd p q)
  rw [← Nat.mul_div_assoc p (Nat.gcd_dvd_right p q), Nat.div_mul_right_comm (Nat.gcd_dvd_left p q)]
theorem mulR_apR {a b : Rt} (ha : 0 < a.2) (hb : 0 < b.2) : ApR (mulR a b) (a.1 * b.1) (a.2 * b.2) := mkR_ap (Nat.mul_pos ha hb)
theorem mulR_ap {a b : Rt} {N D N' D' : Nat} (ha : ApR a N D) (hb : ApR b N' D') : ApR (mulR a b) (N * N') (D * D') := by
  obtain ⟨a2, d1, ea⟩ := ha
  obtain ⟨b2, d2, eb⟩ := hb
  obtain ⟨r2, _, e⟩ := mulR_apR a2 b2
  refine ⟨r2, Nat.mul_pos d1 d2, Nat.eq_of_mul_eq_mul_left (Nat.mul_pos a2 b2) ?_⟩
  calc a.2 * b.2 * ((mulR a b).1 * (D * D')) = ((mulR a b).1 * (a.2 * b.2)) * (D * D') := by ac_rfl
    _ = (a.1 * b.1 * (mulR a b).2) * (D * D') := by rw [e]
    _ = (a.1 * D) * (b.1 * D') * (mulR a b).2 := by ac_rfl
    _ = (N * a.2) * (N' * b.2) * (mulR a b).2 := by rw [ea, eb]
    _ = a.2 * b.2 * (N * N' * (mulR a b).2) := by ac_rfl
theorem ltR_iff {a b : Rt} : ltR a b = true ↔ a.1 * b.2 < b.1 * a.2 := by unfold ltR; rw [decide_eq_true_eq]
theorem ltR_iffF {a b : Rt} : ltR a b = false ↔ b.1 * a.2 ≤ a.1 * b.2 := by unfold ltR; rw [decide_eq_false_iff_not, Nat.not_lt]
theorem ltR1_ap {r : Rt} {N D : Nat} (h : ApR r N D) : ltR (1, 1) r = true ↔ D < N := by
  obtain ⟨r2, d, e⟩ := h
  rw [ltR_iff, Nat.one_mul, Nat.mul_one]
  constructor
  · intro h
    refine Nat.lt_of_mul_lt_mul_right (a := r.2) ?_
    rw [← e, Nat.mul_comm D]
    exact Nat.mul_lt_mul_of_pos_right h d
  · intro h
    refine Nat.lt_of_mul_lt_mul_right (a := D) ?_
    rw [e, Nat.mul_comm r.2]
    exact Nat.mul_lt_mul_of_pos_right h r2
/-- N / D is at most r -/
def GeR (r : Rt) (N D : Nat) : Prop := 0 < r.2 ∧ N * r.2 ≤ r.1 * D
theorem ApR.ge {r : Rt} {N D : Nat} (h : ApR r N D) : GeR r N D := ⟨h.1, Nat.le_of_eq h.2.2.symm⟩
theorem GeR.mul {a b : Rt} {N D N' D' : Nat} (ha : GeR a N D) (hb : GeR b N' D') : GeR (mulR a b) (N * N') (D * D') := by
  obtain ⟨a2, ea⟩ := ha
  obtain ⟨b2, eb⟩ := hb
  obtain ⟨r2, _, e⟩ := mulR_apR a2 b2
  refine ⟨r2, Nat.le_of_mul_le_mul_left (c := a.2 * b.2) ?_ (Nat.mul_pos a2 b2)⟩
  calc a.2 * b.2 * (N * N' * (mulR a b).2) = (N * a.2) * (N' * b.2) * (mulR a b).2 := by ac_rfl
    _ ≤ (a.1 * D) * (b.1 * D') * (mulR a b).2 := Nat.mul_le_mul_right _ (Nat.mul_le_mul ea eb)
    _ = (a.1 * b.1 * (mulR a b).2) * (D * D') := by ac_rfl
    _ = ((mulR a b).1 * (a.2 * b.2)) * (D * D') := by rw [e]
    _ = a.2 * b.2 * ((mulR a b).1 * (D * D')) := by ac_rfl
theorem GeR.lt1 {r : Rt} {N D : Nat} (h : GeR r N D) (hl : D < N) : ltR (1, 1) r = true := by
  rw [ltR_iff, Nat.one_mul, Nat.mul_one]
  obtain ⟨r2, e⟩ := h
  refine Nat.lt_of_mul_lt_mul_right (a := D) ?_
  have : r.2 * D < N * r.2 := by rw [Nat.mul_comm r.2]; exact Nat.mul_lt_mul_of_pos_right hl r2
  omega
theorem GeR.up {r r' : Rt} {N D : Nat} (h : GeR r N D) (h2 : 0 < r'.2) (hl : ltR r' r = false) : GeR r' N D := by
  obtain ⟨r2, e⟩ := h
  rw [ltR_iffF] at hl
  refine ⟨h2, Nat.le_of_mul_le_mul_left (c := r.2) ?_ r2⟩
  calc r.2 * (N * r'.2) = N * r.2 * r'.2 := by ac_rfl
    _ ≤ r.1 * D * r'.2 := Nat.mul_le_mul_right _ e
    _ = r.1 * r'.2 * D := by ac_rfl
    _ ≤ r'.1 * r.2 * D := Nat.mul_le_mul_right _ hl
    _ = r.2 * (r'.1 * D) := by ac_rfl
theorem ltR_tr {o r r' : Rt} (ho : 0 < o.2) (h1 : ltR o r' = false) (h2 : ltR o r = true) : ltR r r' = false := by
  rw [ltR_iffF] at h1 ⊢
  rw [ltR_iff] at h2
  refine Nat.le_of_mul_le_mul_left (c := o.2) ?_ ho
  calc o.2 * (r'.1 * r.2) = r'.1 * o.2 * r.2 := by ac_rfl
    _ ≤ o.1 * r'.2 * r.2 := Nat.mul_le_mul_right _ h1
    _ = o.1 * r.2 * r'.2 := by ac_rfl
    _ ≤ r.1 * o.2 * r'.2 := Nat.mul_le_mul_right _ (Nat.le_of_lt h2)
    _ = o.2 * (r.1 * r'.2) := by ac_rfl
theorem ltR_tr2 {a b c : Rt} (hb : 0 < b.2) (h1 : ltR b a = false) (h2 : ltR b c = true) : ltR c a = false := ltR_tr hb h1 h2
theorem ltR_refl (a : Rt) : ltR a a = false := by rw [ltR_iffF]; exact Nat.le_refl _
/-! ### leads -/
abbrev ltl (l : Ld) : Str := l.1
abbrev lhd (l : Ld) : Str := l.2.1
def lgp (l : Ld) : Nat := if l.2.2.2 = none then 0 else l.2.2.1
def lgs (l : Ld) : Nat := l.2.2.2.getD 1
def ldOf (t : Tie) (e : Bool) : Ld := (t.kd e, t.kd (!e), (t.mn e).1, (t.mn (!e)).2)
theorem mem_ldsT {t : Tie} {l : Ld} : l ∈ ldsT t ↔ ∃ e, isStep t e = true ∧ l = ldOf t e := by
  unfold ldsT
  rw [List.mem_append]
  constructor
  · rintro (h | h)
    · split at h
      · rename_i q
        rw [List.mem_singleton] at h
        exact ⟨true, decide_eq_true q, h⟩
      · simp at h
    · split at h
      · rename_i q
        rw [List.mem_singleton] at h
        exact ⟨false, decide_eq_true q, h⟩
      · simp at h
  · rintro ⟨e, h1, rfl⟩
    have h1 : 1 ≤ (t.mn e).1 := of_decide_eq_true h1
    cases e with
    | true => left; rw [if_pos (show 0 < t.m.1 from h1)]; exact List.mem_singleton.mpr rfl
    | false => right; rw [if_pos (show 0 < t.n.1 from h1)]; exact List.mem_singleton.mpr rfl
theorem mem_leads {ts : Ties} {l : Ld} : l ∈ leads ts ↔ ∃ w t e, ts.lookup w = some t ∧ isStep t e = true ∧ l = ldOf t e := by
  unfold leads ldsS
  rw [List.mem_flatMap]
  constructor
  · rintro ⟨w, hw, h⟩
    cases e : ts.lookup w with
    | none => rw [e] at h; simp at h
    | some t =>
      rw [e] at h
      obtain ⟨e', h1, h2⟩ := mem_ldsT.mp h
      exact ⟨w, t, e', e, h1, h2⟩
  · rintro ⟨w, t, e, h1, h2, rfl⟩
    refine ⟨w, mem_sortS.mpr (List.mem_map_of_mem (f := (·.1)) (look_mem h1)), ?_⟩
    rw [h1]
    exact mem_ldsT.mpr ⟨e, h2, rfl⟩
theorem leads_sort {ts : Ties} (nd : (ts.map (·.1)).Nodup) {l : Ld} : l ∈ leads (sortT ts) ↔ l ∈ leads ts := by
  rw [mem_leads, mem_leads]
  simp only [sortT_look nd]
theorem isBrk_ld {t : Tie} {e : Bool} (h : isStep t e = true) : isBrk t e = decide ((ldOf t e).2.2.2 = some 0) := by
  unfold isBrk
  rw [h, Bool.true_and]; rfl
/-- a step that is not broken: its factor -/
theorem fac_ap {t : Tie} {e : Bool} (h : isStep t e = true) (hb : isBrk t e = false) : ApR ((facOf t e).getD (0, 1)) (lgp (ldOf t e)) (lgs (ldOf t e)) := by
  rw [isBrk_ld h] at hb
  have hb : ¬ (ldOf t e).2.2.2 = some 0 := of_decide_eq_false hb
  unfold facOf lgp lgs facQ
  show ApR ((match (t.mn (!e)).2 with | none => none | some q => _ : Option Rt).getD (0, 1)) (if (t.mn (!e)).2 = none then 0 else _) ((t.mn (!e)).2.getD 1)
  have hb : ¬ (t.mn (!e)).2 = some 0 := hb
  cases q : (t.mn (!e)).2 with
  | none => exact ⟨Nat.one_pos, Nat.one_pos, rfl⟩
  | some z =>
    rw [q] at hb
    have z0 : z ≠ 0 := fun z' => hb (by rw [z'])
    show ApR ((if z = 0 then none else if isStep t e = true then some (mkR (t.mn e).1 z) else none : Option Rt).getD (0, 1)) _ z
    rw [if_neg z0, if_pos h]
    exact mkR_ap (Nat.pos_of_ne_zero z0)
theorem facD_pos {ts : Ties} {ks : List Str} (h : TsOk ks ts) {w : Str} {t : Tie} (hl : ts.lookup w = some t) (e : Bool) : 0 < ((facOf t e).getD (0, 1)).2 := (facD_b (h.ok _ (look_mem hl))).1
/-! ### what a map holds -/
structure MapF (ts : Ties) (l : List Step) (st : Bst × Bro) : Prop where
  bo : ∀ x y f, st.1.lookup (x, y) = some f → ∃ t, ts.lookup f.1.1 = some t ∧ isStep t f.1.2 = true ∧ isBrk t f.1.2 = false ∧ t.kd f.1.2 = x ∧ t.kd (!f.1.2) = y ∧ f.2 = (facOf t f.1.2).getD (0, 1)
  bg : ∀ s ∈ l, ∀ t, ts.lookup s.1 = some t → isBrk t s.2 = false → ∃ f, st.1.lookup (t.kd s.2, t.kd (!s.2)) = some f ∧ ltR f.2 ((facOf t s.2).getD (0, 1)) = false
  ro : ∀ x s, st.2.lookup x = some s → ∃ t, ts.lookup s.1 = some t ∧ isBrk t s.2 = true ∧ t.kd s.2 = x
  rg : ∀ s ∈ l, ∀ t, ts.lookup s.1 = some t → isBrk t s.2 = true → ∃ s', st.2.lookup (t.kd s.2) = some s'
theorem MapF.zero (ts : Ties) : MapF ts [] ([], []) := ⟨fun x y f h => by simp at h, fun s h => by simp at h, fun x s h => by simp at h, fun s h => by simp at h⟩
theorem MapF.add {ks : List Str} {ts : Ties} (h : TsOk ks ts) {l : List Step} {st : Bst × Bro} (m : MapF ts l st) {s : Step} {t : Tie} (hl : ts.lookup s.1 = some t) (hs : isStep t s.2 = true) : MapF ts (l ++ [s]) (addT t s st) := by
  unfold addT
  by_cases hb : isBrk t s.2 = true
  · rw [if_pos hb]
    refine ⟨m.bo, fun s' hs' t' h1 h2 => ?_, fun x s' h1 => ?_, fun s' hs' t' h1 h2 => ?_⟩
    · rcases List.mem_append.mp hs' with hs' | hs'
      · exact m.bg s' hs' t' h1 h2
      · rw [List.mem_singleton] at hs'; subst hs'
        rw [hl] at h1; cases h1
        rw [hb] at h2; cases h2
    · unfold setA at h1
      split at h1
      · exact m.ro x s' h1
      · rw [putA_look] at h1
        split at h1
        · cases h1
          rename_i e
          exact ⟨t, hl, hb, e.symm⟩
        · exact m.ro x s' h1
    · show ∃ q, (setA (t.kd s.2) s st.2).lookup (t'.kd s'.2) = some q
      have keep : ∀ k q, st.2.lookup k = some q → ∃ q', (setA (t.kd s.2) s st.2).lookup k = some q' := fun k q hq => by
        unfold setA
        split
        · exact ⟨q, hq⟩
        · rw [putA_look]
          split
          · exact ⟨_, rfl⟩
          · exact ⟨q, hq⟩
      rcases List.mem_append.mp hs' with hs' | hs'
      · obtain ⟨q, hq⟩ := m.rg s' hs' t' h1 h2
        exact keep _ q hq
      · rw [List.mem_singleton] at hs'; subst hs'
        rw [hl] at h1; cases h1
        unfold setA
        split
        · rename_i hq
          cases hq' : st.2.lookup (t.kd s'.2) with
          | none => rw [hq'] at hq; cases hq
          | some q => exact ⟨q, rfl⟩
        · rw [putA_look, if_pos rfl]; exact ⟨_, rfl⟩
  · have hb' : isBrk t s.2 = false := by cases q : isBrk t s.2 with
      | true => exact absurd q hb
      | false => rfl
    rw [if_neg hb]
    have old : ∀ s' ∈ l ++ [s], ∀ t', ts.lookup s'.1 = some t' → isBrk t' s'.2 = true → ∃ q, st.2.lookup (t'.kd s'.2) = some q := fun s' hs' t' h1 h2 => by
      rcases List.mem_append.mp hs' with hs' | hs'
      · exact m.rg s' hs' t' h1 h2
      · rw [List.mem_singleton] at hs'; subst hs'
        rw [hl] at h1; cases h1
        rw [hb'] at h2; cases h2
    by_cases hbt : better (st.1.lookup (t.kd s.2, t.kd (!s.2))) ((facOf t s.2).getD (0, 1)) = true
    · rw [if_pos hbt]
      refine ⟨fun x y f h1 => ?_, fun s' hs' t' h1 h2 => ?_, m.ro, old⟩
      · have h1 : (putA (t.kd s.2, t.kd (!s.2)) (s, (facOf t s.2).getD (0, 1)) st.1).lookup (x, y) = some f := h1
        rw [putA_look] at h1
        split at h1
        · rename_i e
          cases h1
          cases e
          exact ⟨t, hl, hs, hb', rfl, rfl, rfl⟩
        · exact m.bo x y f h1
      · show ∃ f, (putA (t.kd s.2, t.kd (!s.2)) (s, (facOf t s.2).getD (0, 1)) st.1).lookup (t'.kd s'.2, t'.kd (!s'.2)) = some f ∧ _
        rw [putA_look]
        rcases List.mem_append.mp hs' with hs' | hs'
        · obtain ⟨f, hf, hlt⟩ := m.bg s' hs' t' h1 h2
          by_cases e : (t'.kd s'.2, t'.kd (!s'.2)) = (t.kd s.2, t.kd (!s.2))
          · rw [if_pos e]
            refine ⟨_, rfl, ?_⟩
            rw [e] at hf
            rw [hf] at hbt
            have hbt : ltR f.2 ((facOf t s.2).getD (0, 1)) = true := hbt
            obtain ⟨t0, e1, _, _, _, _, e2⟩ := m.bo _ _ _ hf
            exact ltR_tr (by rw [e2]; exact facD_pos h e1 _) hlt hbt
          · rw [if_neg e]; exact ⟨f, hf, hlt⟩
        · rw [List.mem_singleton] at hs'; subst hs'
          rw [hl] at h1; cases h1
          rw [if_pos rfl]
          exact ⟨_, rfl, ltR_refl _⟩
    · rw [if_neg hbt]
      refine ⟨m.bo, fun s' hs' t' h1 h2 => ?_, m.ro, old⟩
      rcases List.mem_append.mp hs' with hs' | hs'
      · exact m.bg s' hs' t' h1 h2
      · rw [List.mem_singleton] at hs'; subst hs'
        rw [hl] at h1; cases h1
        cases q : st.1.lookup (t.kd s'.2, t.kd (!s'.2)) with
        | none => rw [q] at hbt; exact absurd rfl hbt
        | some f =>
          rw [q] at hbt
          refine ⟨f, rfl, ?_⟩
          cases z : ltR f.2 ((facOf t s'.2).getD (0, 1)) with
          | false => rfl
          | true => exact absurd z hbt
theorem MapF.all {ks : List Str} {ts : Ties} (h : TsOk ks ts) : ∀ (l pre : List Step) (st : Bst × Bro), (∀ s ∈ l, ∃ t, ts.lookup s.1 = some t ∧ isStep t s.2 = true) → MapF ts pre st → MapF ts (pre ++ l) (l.foldl (addS ts) st)
  | [], pre, st, _, m => by rw [List.append_nil]; exact m
  | s :: l, pre, st, k, m => by
    obtain ⟨t, h1, h2⟩ := k s (by simp)
    have e : addS ts st s = addT t s st := by unfold addS; rw [h1]
    rw [List.foldl_cons, e, show pre ++ s :: l = (pre ++ [s]) ++ l by simp]
    exact MapF.all h l (pre ++ [s]) _ (fun x hx => k x (by simp [hx])) (m.add h h1 h2)
theorem mem_stepsOf {ts : Ties} {w : Str} {t : Tie} {e : Bool} (hl : ts.lookup w = some t) (hs : isStep t e = true) : (w, e) ∈ stepsOf ts := by
  unfold stepsOf
  rw [List.mem_flatMap]
  refine ⟨(w, t), look_mem hl, List.mem_map.mpr ⟨e, List.mem_filter.mpr ⟨?_, hs⟩, rfl⟩⟩
  cases e <;> simp
theorem mapOf_f {ks : List Str} {ts : Ties} (h : TsOk ks ts) : MapF ts (stepsOf ts) (mapOf ts) := by
  have := MapF.all h (stepsOf ts) [] ([], []) (fun s hs => steps_look h.nd hs) (.zero ts)
  rwa [List.nil_append] at this
/-! ### roads are ways -/
def stp (ts : Ties) (s : Step) : Nat := match ts.lookup s.1 with
  | some t => lgp (ldOf t s.2)
  | none => 0
def sts (ts : Ties) (s : Step) : Nat := match ts.lookup s.1 with
  | some t => lgs (ldOf t s.2)
  | none => 1
theorem stp_of {ts : Ties} {s : Step} {t : Tie} (h : ts.lookup s.1 = some t) : stp ts s = lgp (ldOf t s.2) := by unfold stp; rw [h]
theorem sts_of {ts : Ties} {s : Step} {t : Tie} (h : ts.lookup s.1 = some t) : sts ts s = lgs (ldOf t s.2) := by unfold sts; rw [h]
theorem goW_step {ts : Ties} {k : Str} {s : Step} {w : List Step} {t : Tie} (h1 : ts.lookup s.1 = some t) (h2 : isStep t s.2 = true) (h3 : isBrk t s.2 = false) (h4 : t.kd s.2 = k) : goW ts k (s :: w) = goW ts (t.kd (!s.2)) w := by
  show (match ts.lookup s.1 with | some t => if isStep t s.2 && (!isBrk t s.2 && decide (t.kd s.2 = k)) then goW ts (t.kd (!s.2)) w else none | none => none) = _
  rw [h1]
  show (if isStep t s.2 && (!isBrk t s.2 && decide (t.kd s.2 = k)) then goW ts (t.kd (!s.2)) w else none) = _
  rw [h2, h3, decide_eq_true h4]; rfl
theorem prodW_ap {ts : Ties} : ∀ (w : List Step) (k g : Str) {r : Rt} {N D : Nat}, goW ts k w = some g → ApR r N D → ApR (prodW ts r w) (N * mulL (stp ts) w) (D * mulL (sts ts) w)
  | [], k, g, r, N, D, _, ha => by
    show ApR r (N * 1) (D * 1)
    rw [Nat.mul_one, Nat.mul_one]; exact ha
  | s :: w, k, g, r, N, D, h, ha => by
    obtain ⟨t, h1, h2, h3, _, h5⟩ := goW_cons h
    have e1 : stepR ts s = (facOf t s.2).getD (0, 1) := by unfold stepR; rw [h1]
    have := prodW_ap w _ g h5 (mulR_ap ha (fac_ap h2 h3))
    show ApR (prodW ts (mulR r (stepR ts s)) w) (N * (stp ts s * mulL (stp ts) w)) (D * (sts ts s * mulL (sts ts) w))
    rw [e1, stp_of h1, sts_of h1, ← Nat.mul_assoc, ← Nat.mul_assoc]
    exact this
theorem roadsN_ok {ts : Ties} {l : List Step} {st : Bst × Bro} (m : MapF ts l st) (ks : List Str) : ∀ (n : Nat) (k g : Str) (ps : List Str) (r : Road), r ∈ roadsN st.1 ks n k g ps → goW ts k r.1 = some g ∧ ApR r.2 (mulL (stp ts) r.1) (mulL (sts ts) r.1)
  | 0, k, g, ps, r, h => by
    have h : r ∈ (if k = g then [([], (1, 1))] else [] : List Road) := h
    split at h
    · rename_i e
      rw [List.mem_singleton] at h; subst h; subst e
      exact ⟨rfl, Nat.one_pos, Nat.one_pos, rfl⟩
    · simp at h
  | n + 1, k, g, ps, r, h => by
    have h : r ∈ (if k = g then [([], (1, 1))] else ks.flatMap fun o => if o ∈ ps then [] else match st.1.lookup (k, o) with | none => [] | some f => (roadsN st.1 ks n o g (ps ++ [o])).map (extR f) : List Road) := h
    split at h
    · rename_i e
      rw [List.mem_singleton] at h; subst h; subst e
      exact ⟨rfl, Nat.one_pos, Nat.one_pos, rfl⟩
    · obtain ⟨o, ho, h⟩ := List.mem_flatMap.mp h
      split at h
      · simp at h
      · cases e : st.1.lookup (k, o) with
        | none => rw [e] at h; simp at h
        | some f =>
          rw [e] at h
          obtain ⟨r', hr', rfl⟩ := List.mem_map.mp h
          obtain ⟨i1, i2⟩ := roadsN_ok m ks n o g _ r' hr'
          obtain ⟨t, h1, h2, h3, h4, h5, h6⟩ := m.bo _ _ _ e
          refine ⟨?_, ?_⟩
          · show goW ts k (f.1 :: r'.1) = some g
            rw [goW_step h1 h2 h3 h4, h5]; exact i1
          · show ApR (mulR f.2 r'.2) (stp ts f.1 * mulL (stp ts) r'.1) (sts ts f.1 * mulL (sts ts) r'.1)
            rw [stp_of h1, sts_of h1]
            exact mulR_ap (by rw [h6]; exact fac_ap h2 h3) i2
theorem circ_ok {ts : Ties} {l : List Step} {st : Bst × Bro} (m : MapF ts l st) (ks : List Str) {k : Str} {r : Road} (h : r ∈ circR st.1 ks k) : goW ts k r.1 = some k ∧ r.1 ≠ [] ∧ ApR r.2 (mulL (stp ts) r.1) (mulL (sts ts) r.1) := by
  obtain ⟨o, ho, h⟩ := List.mem_flatMap.mp h
  unfold viaC at h
  cases e : st.1.lookup (k, o) with
  | none => rw [e] at h; simp at h
  | some f =>
    rw [e] at h
    obtain ⟨r', hr', rfl⟩ := List.mem_map.mp h
    obtain ⟨i1, i2⟩ := roadsN_ok m ks 4 o k _ r' hr'
    obtain ⟨t, h1, h2, h3, h4, h5, h6⟩ := m.bo _ _ _ e
    refine ⟨?_, by simp [extR], ?_⟩
    · show goW ts k (f.1 :: r'.1) = some k
      rw [goW_step h1 h2 h3 h4, h5]; exact i1
    · show ApR (mulR f.2 r'.2) (stp ts f.1 * mulL (stp ts) r'.1) (sts ts f.1 * mulL (sts ts) r'.1)
      rw [stp_of h1, sts_of h1]
      exact mulR_ap (by rw [h6]; exact fac_ap h2 h3) i2
theorem paperOf_ok {W : Web} (hw : WebOk W) {k : Str} {p : Paper} (h : paperOf (mapOf W.ts) W.ks k = some p) (mp : MpOk W (mapOf W.ts)) : PaperOk W k p := by
  have m := mapOf_f hw.t
  obtain ⟨g, hg, h⟩ := List.exists_of_findSome?_eq_some h
  unfold paperAt at h
  cases hr : roadsN (mapOf W.ts).1 W.ks 4 k g [k] with
  | nil => rw [hr] at h; cases h
  | cons r rs =>
    rw [hr] at h
    have h : (reasonAt (mapOf W.ts) W.ks g).map (fun x => (r.1, x)) = some p := h
    cases hrea : reasonAt (mapOf W.ts) W.ks g with
    | none => rw [hrea] at h; cases h
    | some x =>
      rw [hrea] at h
      have h : some (r.1, x) = some p := h
      cases h
      obtain ⟨i1, _⟩ := roadsN_ok m W.ks 4 k g [k] r (by rw [hr]; simp)
      refine ⟨g, i1, hg, ?_⟩
      unfold reasonAt at hrea
      cases e : (mapOf W.ts).2.lookup g with
      | some s =>
        rw [e] at hrea
        cases hrea
        exact m.ro _ _ e
      | none =>
        rw [e] at hrea
        cases e2 : bestR none (circR (mapOf W.ts).1 W.ks g) with
        | none => rw [e2] at hrea; cases hrea
        | some c =>
          rw [e2] at hrea
          have hrea : (if ltR (1, 1) c.2 then some (.inr c.1) else none : Option Rea) = some x := hrea
          split at hrea
          · rename_i hl
            cases hrea
            have hc : c ∈ circR (mapOf W.ts).1 W.ks g := (bestR_mem _ _ _ e2).resolve_left (by simp)
            obtain ⟨j1, j2, j3⟩ := circ_ok m W.ks hc
            refine ⟨j1, j2, Nat.le_trans (circR_b mp hc).2 (by decide), ?_⟩
            have := prodW_ap c.1 g g (r := (1, 1)) (N := 1) (D := 1) j1 ⟨by decide, by decide, rfl⟩
            rw [Nat.one_mul, Nat.one_mul] at this
            rw [ltR1_ap this]
            exact (ltR1_ap j3).mp hl
          · cases hrea
/-! ### walks of leads give roads -/
theorem heads_tails {ls : List Ld} : ∀ {w : List Ld} {x y : Str}, Wk' ltl lhd ls x w y → x :: w.map lhd = w.map ltl ++ [y]
  | [], x, y, h => by cases (show x = y from h); rfl
  | l :: w, x, y, ⟨h1, h2, h3⟩ => by
    rw [List.map_cons, List.map_cons, List.cons_append, ← heads_tails h3]
    have h2 : l.1 = x := h2
    rw [← h2]
theorem roads_ge {b : Bst} {ks : List Str} {uls : List Ld} (hb : ∀ l ∈ uls, ∃ f, b.lookup (ltl l, lhd l) = some f ∧ GeR f.2 (lgp l) (lgs l)) : ∀ (w : List Ld) (n : Nat) (k g : Str) (ps : List Str), Wk' ltl lhd uls k w g → (w.map ltl ++ [g]).Nodup → (∀ l ∈ w, lhd l ∉ ps) → (∀ l ∈ w, lhd l ∈ ks) → w.length ≤ n → ∃ r ∈ roadsN b ks n k g ps, GeR r.2 (mulL lgp w) (mulL lgs w)
  | [], n, k, g, ps, hw, _, _, _, _ => by
    cases (show k = g from hw)
    refine ⟨([], (1, 1)), ?_, by decide, Nat.le_refl _⟩
    cases n with
    | zero => show _ ∈ (if k = k then _ else _); rw [if_pos rfl]; exact List.mem_singleton.mpr rfl
    | succ n => show _ ∈ (if k = k then _ else _); rw [if_pos rfl]; exact List.mem_singleton.mpr rfl
  | l :: w, 0, k, g, ps, _, _, _, _, hn => by simp at hn
  | l :: w, n + 1, k, g, ps, ⟨h1, h2, h3⟩, nd, hp, hk, hn => by
    obtain ⟨f, hf, gf⟩ := hb l h1
    have h2 : l.1 = k := h2
    have nd' : (w.map ltl ++ [g]).Nodup := by
      rw [List.map_cons, List.cons_append, List.nodup_cons] at nd
      exact nd.2
    have hne : k ≠ g := fun e => by
      rw [List.map_cons, List.cons_append, List.nodup_cons] at nd
      exact nd.1 (by rw [show ltl l = g from h2.trans e]; simp)
    have ht := heads_tails h3
    have nh : lhd l ∉ w.map lhd := by
      rw [← ht, List.nodup_cons] at nd'
      exact nd'.1
    obtain ⟨r, hr, gr⟩ := roads_ge hb w n (lhd l) g (ps ++ [lhd l]) h3 nd' (fun l' hl' => by
      rw [List.mem_append, List.mem_singleton, not_or]
      exact ⟨hp l' (by simp [hl']), fun e => nh (by rw [← e]; exact List.mem_map_of_mem hl')⟩) (fun l' hl' => hk l' (by simp [hl'])) (by rw [List.length_cons] at hn; omega)
    refine ⟨extR f r, ?_, ?_⟩
    · show _ ∈ (if k = g then [([], (1, 1))] else ks.flatMap fun o => if o ∈ ps then [] else match b.lookup (k, o) with | none => [] | some f => (roadsN b ks n o g (ps ++ [o])).map (extR f) : List Road)
      rw [if_neg hne, List.mem_flatMap]
      refine ⟨lhd l, hk l (by simp), ?_⟩
      rw [if_neg (hp l (by simp))]
      have hf : b.lookup (l.1, lhd l) = some f := hf
      rw [h2] at hf
      rw [hf]
      exact List.mem_map_of_mem hr
    · exact gf.mul gr
theorem circ_ge {b : Bst} {ks : List Str} {uls : List Ld} (hb : ∀ l ∈ uls, ∃ f, b.lookup (ltl l, lhd l) = some f ∧ GeR f.2 (lgp l) (lgs l)) {w : List Ld} {g : Str} (hw : Wk' ltl lhd uls g w g) (ne : w ≠ []) (nd : (w.map ltl).Nodup) (hk : ∀ l ∈ w, lhd l ∈ ks) (hn : w.length ≤ 5) : ∃ r ∈ circR b ks g, GeR r.2 (mulL lgp w) (mulL lgs w) := by
  cases w with
  | nil => exact absurd rfl ne
  | cons l w =>
    obtain ⟨h1, h2, h3⟩ := hw
    obtain ⟨f, hf, gf⟩ := hb l h1
    have h2 : l.1 = g := h2
    rw [List.map_cons, List.nodup_cons] at nd
    have nd' : (w.map ltl ++ [g]).Nodup := by
      rw [List.nodup_append]
      refine ⟨nd.2, by simp, fun a ha b hb' e => nd.1 ?_⟩
      rw [List.mem_singleton] at hb'
      rw [show ltl l = a from h2.trans (hb'.symm.trans e.symm)]; exact ha
    have ht := heads_tails h3
    have nh : lhd l ∉ w.map lhd := by
      rw [← ht, List.nodup_cons] at nd'
      exact nd'.1
    obtain ⟨r, hr, gr⟩ := roads_ge hb w 4 (lhd l) g [lhd l] h3 nd' (fun l' hl' => by
      rw [List.mem_singleton]
      exact fun e => nh (by rw [← e]; exact List.mem_map_of_mem hl')) (fun l' hl' => hk l' (by simp [hl'])) (by rw [List.length_cons] at hn; omega)
    refine ⟨extR f r, ?_, gf.mul gr⟩
    unfold circR
    rw [List.mem_flatMap]
    refine ⟨lhd l, hk l (by simp), ?_⟩
    unfold viaC
    have hf : b.lookup (l.1, lhd l) = some f := hf
    rw [h2] at hf
    rw [hf]
    exact List.mem_map_of_mem hr
theorem bestR_max : ∀ (rs : List Road) (b : Option Road), (∀ r ∈ rs, 0 < r.2.2) → (∀ y, b = some y → 0 < y.2.2) → (b ≠ none ∨ rs ≠ []) → ∃ x, bestR b rs = some x ∧ 0 < x.2.2 ∧ (∀ r ∈ rs, ltR x.2 r.2 = false) ∧ ∀ y, b = some y → ltR x.2 y.2 = false
  | [], b, _, hb, ne => by
    cases b with
    | none => simp at ne
    | some y => exact ⟨y, rfl, hb y rfl, fun r h => by simp at h, fun z e => by cases e; exact ltR_refl _⟩
  | r :: rs, b, h, hb, _ => by
    have hr := h r (by simp)
    have h' : ∀ x ∈ rs, 0 < x.2.2 := fun x hx => h x (by simp [hx])
    cases b with
    | none =>
      obtain ⟨x, e1, e2, e3, e4⟩ := bestR_max rs (some r) h' (fun y e => by cases e; exact hr) (.inl (by simp))
      refine ⟨x, e1, e2, fun z hz => ?_, fun y e => by cases e⟩
      rcases List.mem_cons.mp hz with rfl | hz
      · exact e4 _ rfl
      · exact e3 z hz
    | some y =>
      have hy := hb y rfl
      cases q : ltR y.2 r.2 with
      | true =>
        have es : bestS (some y) r = some r := by show (if ltR y.2 r.2 then some r else some y) = _; rw [q]; rfl
        obtain ⟨x, e1, e2, e3, e4⟩ := bestR_max rs (some r) h' (fun y e => by cases e; exact hr) (.inl (by simp))
        refine ⟨x, by show bestR (bestS (some y) r) rs = _; rw [es]; exact e1, e2, fun z hz => ?_, fun z e => ?_⟩
        · rcases List.mem_cons.mp hz with rfl | hz
          · exact e4 _ rfl
          · exact e3 z hz
        · cases e
          have h1 := e4 r rfl
          rw [ltR_iffF] at h1 ⊢
          rw [ltR_iff] at q
          refine Nat.le_of_mul_le_mul_left (c := r.2.2) ?_ hr
          calc r.2.2 * (y.2.1 * x.2.2) = y.2.1 * r.2.2 * x.2.2 := by ac_rfl
            _ ≤ r.2.1 * y.2.2 * x.2.2 := Nat.mul_le_mul_right _ (Nat.le_of_lt q)
            _ = r.2.1 * x.2.2 * y.2.2 := by ac_rfl
            _ ≤ x.2.1 * r.2.2 * y.2.2 := Nat.mul_le_mul_right _ h1
            _ = r.2.2 * (x.2.1 * y.2.2) := by ac_rfl
      | false =>
        have es : bestS (some y) r = some y := by show (if ltR y.2 r.2 then some r else some y) = _; rw [q]; rfl
        obtain ⟨x, e1, e2, e3, e4⟩ := bestR_max rs (some y) h' hb (.inl (by simp))
        refine ⟨x, by show bestR (bestS (some y) r) rs = _; rw [es]; exact e1, e2, fun z hz => ?_, e4⟩
        rcases List.mem_cons.mp hz with rfl | hz
        · have h1 := e4 y rfl
          rw [ltR_iffF] at h1 q ⊢
          refine Nat.le_of_mul_le_mul_left (c := y.2.2) ?_ hy
          calc y.2.2 * (z.2.1 * x.2.2) = z.2.1 * y.2.2 * x.2.2 := by ac_rfl
            _ ≤ y.2.1 * z.2.2 * x.2.2 := Nat.mul_le_mul_right _ q
            _ = y.2.1 * x.2.2 * z.2.2 := by ac_rfl
            _ ≤ x.2.1 * y.2.2 * z.2.2 := Nat.mul_le_mul_right _ h1
            _ = y.2.2 * (x.2.1 * z.2.2) := by ac_rfl
        · exact e3 z hz
end K53
end PB_
section PC_
set_option maxRecDepth 100000
set_option maxHeartbeats 4000000
/-! PC: the law's bad kinds; sizes that are let. -/
namespace K53
open PySem PySem.Spec PyProof.Rows L2
/-! ### sizes that are let, by leads -/
def ldC (V : Cnt) (l : Ld) : Prop := cnt V l.1 = 0 ∨ (l.2.2.1 ≤ cnt V l.2.1 ∧ ∀ s, l.2.2.2 = some s → s ≠ 0 ∧ cnt V l.1 * l.2.2.1 ≤ cnt V l.2.1 * s)
def closedL (ls : List Ld) (V : Cnt) : Prop := ∀ l ∈ ls, ldC V l
theorem ceil_le {t q y : Nat} (h : 0 < q) : (t + q - 1) / q ≤ y ↔ t ≤ y * q := by
  rw [Nat.div_le_iff_le_mul_add_pred h, Nat.mul_comm q y]
  omega
theorem metP {V : Cnt} {x y : Str} {p : Nat} {s : Option Nat} : met ⟨true, x, y, p, s⟩ V = true ↔ ∀ q, s = some q → cnt V x * p = 0 ∨ (q ≠ 0 ∧ cnt V x * p ≤ cnt V y * q) := by
  cases s with
  | none =>
    have e : met ⟨true, x, y, p, none⟩ V = decide (0 ≤ cnt V y) := rfl
    rw [e]
    simp
  | some q =>
    have e : need ⟨true, x, y, p, some q⟩ V = if cnt V x * p = 0 then some 0 else if q = 0 then none else some ((cnt V x * p + q - 1) / q) := rfl
    unfold met
    rw [e]
    by_cases h0 : cnt V x * p = 0
    · rw [if_pos h0]
      simp [h0]
    · rw [if_neg h0]
      by_cases hq : q = 0
      · rw [if_pos hq]
        constructor
        · intro h; cases h
        · intro h
          rcases h q rfl with h | h
          · exact absurd h h0
          · exact absurd hq h.1
      · rw [if_neg hq]
        show decide ((cnt V x * p + q - 1) / q ≤ cnt V y) = true ↔ _
        rw [decide_eq_true_eq, ceil_le (Nat.pos_of_ne_zero hq)]
        constructor
        · intro h q' e'; cases e'; exact .inr ⟨hq, h⟩
        · intro h
          rcases h q rfl with h | h
          · exact absurd h h0
          · exact h.2
theorem metN {V : Cnt} {x y : Str} {p : Nat} {s : Option Nat} : met ⟨false, x, y, p, s⟩ V = true ↔ (cnt V x = 0 ∨ p ≤ cnt V y) := by
  have e : met ⟨false, x, y, p, s⟩ V = decide ((if 0 < cnt V x then p else 0) ≤ cnt V y) := rfl
  rw [e, decide_eq_true_eq]
  by_cases h : 0 < cnt V x
  · rw [if_pos h]
    constructor
    · exact .inr
    · rintro (h2 | h2)
      · omega
      · exact h2
  · rw [if_neg h]
    constructor
    · intro _; left; omega
    · intro _; exact Nat.zero_le _
theorem met2 {V : Cnt} {x y : Str} {p : Nat} {s : Option Nat} (hp : 0 < p) : (met ⟨true, x, y, p, s⟩ V = true ∧ met ⟨false, x, y, p, s⟩ V = true) ↔ ldC V (x, y, p, s) := by
  rw [metP, metN]
  unfold ldC
  constructor
  · rintro ⟨h1, h2⟩
    by_cases h0 : cnt V x = 0
    · exact .inl h0
    · refine .inr ⟨h2.resolve_left h0, fun q e => ?_⟩
      rcases h1 q e with h | h
      · rcases Nat.mul_eq_zero.mp h with h | h
        · exact absurd h h0
        · omega
      · exact h
  · rintro (h | ⟨h1, h2⟩)
    · have h : cnt V x = 0 := h
      exact ⟨fun q _ => .inl (by rw [h, Nat.zero_mul]), .inl h⟩
    · exact ⟨fun q e => .inr (h2 q e), .inr h1⟩
theorem met20 {V : Cnt} {x y : Str} {s : Option Nat} : met ⟨true, x, y, 0, s⟩ V = true ∧ met ⟨false, x, y, 0, s⟩ V = true := by
  rw [metP, metN]
  exact ⟨fun q _ => .inl (Nat.mul_zero _), .inr (Nat.zero_le _)⟩
/-- a tie's lines, one side -/
def side (V : Cnt) (t : Tie) (e : Bool) : Prop := isStep t e = true → ldC V (ldOf t e)
theorem side_met {V : Cnt} {t : Tie} : (met (lineOf t 0) V = true ∧ met (lineOf t 2) V = true) ↔ side V t true := by
  show (met ⟨true, t.a, t.b, t.m.1, t.n.2⟩ V = true ∧ met ⟨false, t.a, t.b, t.m.1, t.n.2⟩ V = true) ↔ _
  unfold side isStep
  by_cases h : t.m.1 = 0
  · rw [h]
    constructor
    · intro _ z
      have z : 1 ≤ t.m.1 := of_decide_eq_true z
      omega
    · intro _; exact met20
  · rw [met2 (Nat.pos_of_ne_zero h)]
    constructor
    · intro z _; exact z
    · intro z; exact z (decide_eq_true (Nat.pos_of_ne_zero h))
theorem side_met' {V : Cnt} {t : Tie} : (met (lineOf t 1) V = true ∧ met (lineOf t 3) V = true) ↔ side V t false := by
  show (met ⟨true, t.b, t.a, t.n.1, t.m.2⟩ V = true ∧ met ⟨false, t.b, t.a, t.n.1, t.m.2⟩ V = true) ↔ _
  unfold side isStep
  by_cases h : t.n.1 = 0
  · rw [h]
    constructor
    · intro _ z
      have z : 1 ≤ t.n.1 := of_decide_eq_true z
      omega
    · intro _; exact met20
  · rw [met2 (Nat.pos_of_ne_zero h)]
    constructor
    · intro z _; exact z
    · intro z; exact z (decide_eq_true (Nat.pos_of_ne_zero h))
theorem closedL_ties {ts : Ties} (nd : (ts.map (·.1)).Nodup) {V : Cnt} : closedL (leads ts) V ↔ ∀ x ∈ ts, side V x.2 true ∧ side V x.2 false := by
  constructor
  · intro h x hx
    have hl := look_of nd hx
    exact ⟨fun s => h _ (mem_leads.mpr ⟨x.1, x.2, true, hl, s, rfl⟩), fun s => h _ (mem_leads.mpr ⟨x.1, x.2, false, hl, s, rfl⟩)⟩
  · intro h l hl
    obtain ⟨w, t, e, h1, h2, rfl⟩ := mem_leads.mp hl
    have := h _ (look_mem h1)
    cases e with
    | true => exact this.1 h2
    | false => exact this.2 h2
theorem closed_iff {ts : Ties} (nd : (ts.map (·.1)).Nodup) {V : Cnt} : Closed (linesOf ts) V ↔ closedL (leads ts) V := by
  rw [closedL_ties nd]
  constructor
  · intro h x hx
    have f : ∀ n, n ∈ [0, 1, 2, 3] → met (lineOf x.2 n) V = true := fun n hn => h (x.1, n, lineOf x.2 n) (List.mem_flatMap.mpr ⟨x, hx, List.mem_map.mpr ⟨n, hn, rfl⟩⟩)
    exact ⟨side_met.mp ⟨f 0 (by simp), f 2 (by simp)⟩, side_met'.mp ⟨f 1 (by simp), f 3 (by simp)⟩⟩
  · intro h y hy
    obtain ⟨x, hx, hy⟩ := List.mem_flatMap.mp hy
    obtain ⟨n, hn, rfl⟩ := List.mem_map.mp hy
    obtain ⟨h1, h2⟩ := h x hx
    have a := side_met.mpr h1
    have b := side_met'.mpr h2
    have hn : n = 0 ∨ n = 1 ∨ n = 2 ∨ n = 3 := by simpa using hn
    rcases hn with rfl | rfl | rfl | rfl
    · exact a.1
    · exact b.1
    · exact a.2
    · exact b.2
theorem closed_sort {ts : Ties} (nd : (ts.map (·.1)).Nodup) {V : Cnt} : Closed (linesOf (sortT ts)) V ↔ closedL (leads ts) V := by
  have nd2 : ((sortT ts).map (·.1)).Nodup := by rw [sortT_keys]; exact sortS_nodup nd
  rw [closed_iff nd2]
  unfold closedL
  simp only [leads_sort nd]
theorem geO_side {V : Cnt} {x y : Str} {p : Nat} {s : Option Nat} : (geO s (cnt V x * p) (cnt V y) && (decide (cnt V x = 0) || decide (p ≤ cnt V y))) = true ↔ (0 < p → ldC V (x, y, p, s)) := by
  rw [Bool.and_eq_true, Bool.or_eq_true, decide_eq_true_eq, decide_eq_true_eq]
  have hg : geO s (cnt V x * p) (cnt V y) = true ↔ ∀ q, s = some q → cnt V x * p ≤ cnt V y * q := by
    cases s with
    | none => simp [geO]
    | some q => simp [geO]
  rw [hg]
  unfold ldC
  constructor
  · rintro ⟨h1, h2⟩ hp
    by_cases h0 : cnt V x = 0
    · exact .inl h0
    · refine .inr ⟨h2.resolve_left h0, fun q e => ⟨fun z => ?_, h1 q e⟩⟩
      have := h1 q e
      rw [z, Nat.mul_zero] at this
      have : 0 < cnt V x * p := Nat.mul_pos (Nat.pos_of_ne_zero h0) hp
      omega
  · intro h
    by_cases hp : 0 < p
    · rcases h hp with h | ⟨h1, h2⟩
      · have h : cnt V x = 0 := h
        exact ⟨fun q _ => by rw [h, Nat.zero_mul]; exact Nat.zero_le _, .inl h⟩
      · exact ⟨fun q e => (h2 q e).2, .inr h1⟩
    · have : p = 0 := by omega
      subst this
      exact ⟨fun q _ => by rw [Nat.mul_zero]; exact Nat.zero_le _, .inr (Nat.zero_le _)⟩
theorem lnT_iff {c : Cnt} {t : Tie} : lnT c t = true ↔ side c t true ∧ side c t false := by
  have e : lnT c t = ((geO t.n.2 (cnt c t.a * t.m.1) (cnt c t.b) && (decide (cnt c t.a = 0) || decide (t.m.1 ≤ cnt c t.b))) && (geO t.m.2 (cnt c t.b * t.n.1) (cnt c t.a) && (decide (cnt c t.b = 0) || decide (t.n.1 ≤ cnt c t.a)))) := by
    unfold lnT lawBs
    simp only [List.all_cons, List.all_nil, id_eq, Bool.and_true]
    cases geO t.n.2 (cnt c t.a * t.m.1) (cnt c t.b) <;> cases geO t.m.2 (cnt c t.b * t.n.1) (cnt c t.a) <;> simp
  rw [e, Bool.and_eq_true, geO_side, geO_side]
  have h1 : ∀ n : Nat, (0 < n) ↔ (decide (1 ≤ n) = true) := fun n => by rw [decide_eq_true_eq]; exact Iff.rfl
  unfold side isStep
  rw [h1, h1]; exact Iff.rfl
theorem lawC_iff {ts : Ties} (nd : (ts.map (·.1)).Nodup) {c : Cnt} : lawC ts c = true ↔ closedL (leads ts) c := by
  rw [closedL_ties nd]
  unfold lawC
  rw [List.all_eq_true]
  exact ⟨fun h x hx => lnT_iff.mp (h x hx), fun h x hx => lnT_iff.mpr (h x hx)⟩
/-! ### what papers tell of sizes -/
theorem way_pos {ts : Ties} {V : Cnt} (h : closedL (leads ts) V) : ∀ (w : List Step) (k g : Str), goW ts k w = some g → cnt V k ≠ 0 → cnt V g ≠ 0
  | [], k, g, e, hk => by cases e; exact hk
  | s :: w, k, g, e, hk => by
    obtain ⟨t, h1, h2, h3, h4, h5⟩ := goW_cons e
    refine way_pos h w _ g h5 ?_
    have hl := h _ (mem_leads.mpr ⟨s.1, t, s.2, h1, h2, rfl⟩)
    rcases hl with hl | ⟨hl, _⟩
    · have hl : cnt V (t.kd s.2) = 0 := hl
      rw [h4] at hl; exact absurd hl hk
    · have hl : (t.mn s.2).1 ≤ cnt V (t.kd (!s.2)) := hl
      have : 1 ≤ (t.mn s.2).1 := of_decide_eq_true h2
      omega
theorem way_le {ts : Ties} {V : Cnt} (h : closedL (leads ts) V) : ∀ (w : List Step) (k g : Str), goW ts k w = some g → cnt V k * mulL (stp ts) w ≤ cnt V g * mulL (sts ts) w
  | [], k, g, e => by cases e; exact Nat.le_refl _
  | s :: w, k, g, e => by
    obtain ⟨t, h1, h2, h3, h4, h5⟩ := goW_cons e
    have ih := way_le h w _ g h5
    have hl := h _ (mem_leads.mpr ⟨s.1, t, s.2, h1, h2, rfl⟩)
    show cnt V k * (stp ts s * mulL (stp ts) w) ≤ cnt V g * (sts ts s * mulL (sts ts) w)
    rw [stp_of h1, sts_of h1]
    have key : cnt V k * lgp (ldOf t s.2) ≤ cnt V (t.kd (!s.2)) * lgs (ldOf t s.2) := by
      unfold lgp lgs
      rcases hl with hl | ⟨_, hl⟩
      · have hl : cnt V (t.kd s.2) = 0 := hl
        rw [h4] at hl
        rw [hl, Nat.zero_mul]; exact Nat.zero_le _
      · cases q : (ldOf t s.2).2.2.2 with
        | none => rw [if_pos rfl, Nat.mul_zero]; exact Nat.zero_le _
        | some z =>
          rw [if_neg (by simp)]
          have := (hl z q).2
          have e4 : (ldOf t s.2).1 = k := h4
          rw [e4] at this
          exact this
    calc cnt V k * (lgp (ldOf t s.2) * mulL (stp ts) w) = cnt V k * lgp (ldOf t s.2) * mulL (stp ts) w := by ac_rfl
      _ ≤ cnt V (t.kd (!s.2)) * lgs (ldOf t s.2) * mulL (stp ts) w := Nat.mul_le_mul_right _ key
      _ = lgs (ldOf t s.2) * (cnt V (t.kd (!s.2)) * mulL (stp ts) w) := by ac_rfl
      _ ≤ lgs (ldOf t s.2) * (cnt V g * mulL (sts ts) w) := Nat.mul_le_mul_left _ ih
      _ = cnt V g * (lgs (ldOf t s.2) * mulL (sts ts) w) := by ac_rfl
theorem paper_zero {W : Web} {k : Str} {p : Paper} (h : PaperOk W k p) {V : Cnt} (hV : closedL (leads W.ts) V) : cnt V k = 0 := by
  obtain ⟨g, h1, _, h3⟩ := h.ex
  rcases Nat.eq_zero_or_pos (cnt V k) with z | z
  · exact z
  · have hg := way_pos hV _ _ _ h1 (by omega)
    exfalso
    cases hp : p.2 with
    | inl s =>
      rw [hp] at h3
      obtain ⟨t, e1, e2, e3⟩ := h3
      have hs : isStep t s.2 = true := by unfold isBrk at e2; rw [Bool.and_eq_true] at e2; exact e2.1
      rw [isBrk_ld hs] at e2
      have e2 : (ldOf t s.2).2.2.2 = some 0 := of_decide_eq_true e2
      rcases hV _ (mem_leads.mpr ⟨s.1, t, s.2, e1, hs, rfl⟩) with h | ⟨_, h⟩
      · have h : cnt V (t.kd s.2) = 0 := h
        rw [e3] at h; exact hg h
      · exact (h 0 e2).1 rfl
    | inr w =>
      rw [hp] at h3
      obtain ⟨e1, _, _, e2⟩ := h3
      have ap := prodW_ap w g g (r := (1, 1)) (N := 1) (D := 1) e1 ⟨by decide, by decide, rfl⟩
      rw [Nat.one_mul, Nat.one_mul] at ap
      rw [ltR1_ap ap] at e2
      have := way_le hV w g g e1
      have := Nat.le_of_mul_le_mul_left this (Nat.pos_of_ne_zero hg)
      omega
/-! ### the law's bad kinds -/
def badZ (ls : List Ld) : List Str := (ls.filter fun l => decide (l.2.2.2 = some 0)).map (·.1)
def bad0 (ks : List Str) (ls : List Ld) : List Str := badZ ls ++ ks.filter fun k => abv ls k 5 k [k] (1, 1)
def badS (ls : List Ld) (b : List Str) : List Str := b ++ (ls.filter fun l => decide (l.2.1 ∈ b)).map (·.1)
def badN (ls : List Ld) (b : List Str) : Nat → List Str
  | 0 => b
  | n + 1 => badS ls (badN ls b n)
def lawBad (ks : List Str) (ts : Ties) : List Str := badN (leads ts) (bad0 ks (leads ts)) ks.length
theorem mem_badS {ls : List Ld} {b : List Str} {k : Str} : k ∈ badS ls b ↔ k ∈ b ∨ ∃ l ∈ ls, l.1 = k ∧ l.2.1 ∈ b := by
  unfold badS
  rw [List.mem_append, List.mem_map]
  constructor
  · rintro (h | ⟨l, hl, rfl⟩)
    · exact .inl h
    · rw [List.mem_filter] at hl
      exact .inr ⟨l, hl.1, rfl, of_decide_eq_true hl.2⟩
  · rintro (h | ⟨l, h1, rfl, h2⟩)
    · exact .inl h
    · exact .inr ⟨l, List.mem_filter.mpr ⟨h1, decide_eq_true h2⟩, rfl⟩
theorem mem_badN {ls : List Ld} {b : List Str} : ∀ {n : Nat} {k : Str}, k ∈ badN ls b n ↔ ∃ w g, Wk' ltl lhd ls k w g ∧ w.length ≤ n ∧ g ∈ b
  | 0, k => by
    constructor
    · intro h; exact ⟨[], k, rfl, Nat.le_refl _, h⟩
    · rintro ⟨w, g, h1, h2, h3⟩
      have : w = [] := List.length_eq_zero_iff.mp (Nat.le_zero.mp h2)
      subst this
      cases (show k = g from h1)
      exact h3
  | n + 1, k => by
    show k ∈ badS ls (badN ls b n) ↔ _
    rw [mem_badS]
    constructor
    · rintro (h | ⟨l, h1, h2, h3⟩)
      · obtain ⟨w, g, k1, k2, k3⟩ := mem_badN.mp h
        exact ⟨w, g, k1, by omega, k3⟩
      · obtain ⟨w, g, k1, k2, k3⟩ := mem_badN.mp h3
        exact ⟨l :: w, g, ⟨h1, h2, k1⟩, by rw [List.length_cons]; omega, k3⟩
    · rintro ⟨w, g, h1, h2, h3⟩
      cases w with
      | nil => exact .inl (mem_badN.mpr ⟨[], g, h1, Nat.zero_le _, h3⟩)
      | cons l w =>
        obtain ⟨k1, k2, k3⟩ := h1
        exact .inr ⟨l, k1, k2, mem_badN.mpr ⟨w, g, k3, by rw [List.length_cons] at h2; omega, h3⟩⟩
structure LdF (ks : List Str) (l : Ld) : Prop where
  t : l.1 ∈ ks
  h : l.2.1 ∈ ks
  p : 1 ≤ l.2.2.1 ∧ l.2.2.1 ≤ 2
  s : ∀ s, l.2.2.2 = some s → s ≤ 4
theorem lead_f {ks : List Str} {ts : Ties} (h : LTs ks ts) {l : Ld} (hl : l ∈ leads ts) : LdF ks l := by
  obtain ⟨w, t, e, h1, h2, rfl⟩ := mem_leads.mp hl
  have ht := h.t _ (look_mem h1)
  have h2 : 1 ≤ (t.mn e).1 := of_decide_eq_true h2
  cases e with
  | true => exact ⟨ht.a, ht.b, ⟨h2, ht.m.l⟩, fun s e => (ht.n.m s e).2⟩
  | false => exact ⟨ht.b, ht.a, ⟨h2, ht.n.l⟩, fun s e => (ht.m.m s e).2⟩
theorem bad0_sub {ks : List Str} {ts : Ties} (h : LTs ks ts) {g : Str} (hg : g ∈ bad0 ks (leads ts)) : g ∈ ks := by
  rcases List.mem_append.mp hg with hg | hg
  · obtain ⟨l, hl, rfl⟩ := List.mem_map.mp hg
    exact (lead_f h (List.mem_filter.mp hl).1).t
  · exact (List.mem_filter.mp hg).1
theorem lawBad_cl {ks : List Str} {ts : Ties} (h : LTs ks ts) {l : Ld} (hl : l ∈ leads ts) (hb : l.2.1 ∈ lawBad ks ts) : l.1 ∈ lawBad ks ts := by
  obtain ⟨w, g, h1, _, h3⟩ := mem_badN.mp hb
  have hw : Wk' ltl lhd (leads ts) l.1 (l :: w) g := ⟨hl, rfl, h1⟩
  obtain ⟨w', k1, k2⟩ := wk_short1 (n := 0) hw
  have := wk_len (ks := ks) k1 k2 (fun x hx => (lead_f h hx).t) (bad0_sub h h3)
  exact mem_badN.mpr ⟨w', g, k1, by omega, h3⟩
theorem lawBad_sub {ks : List Str} {ts : Ties} (h : LTs ks ts) {k : Str} (hk : k ∈ lawBad ks ts) : k ∈ ks := by
  obtain ⟨w, g, h1, _, h3⟩ := mem_badN.mp hk
  cases w with
  | nil => cases (show k = g from h1); exact bad0_sub h h3
  | cons l w =>
    have h2 : l.1 = k := h1.2.1
    rw [← h2]; exact (lead_f h h1.1).t
/-! ### the law's walk above one -/
def fin (l : Ld) : Prop := ∃ s, l.2.2.2 = some s ∧ 0 < s
theorem abv_of {ls : List Ld} {st : Str} : ∀ (w : List Ld) (n : Nat) (here : Str) (passed : List Str) (pr : Nat × Nat), Wk' ltl lhd ls here w st → w ≠ [] → (∀ l ∈ w, fin l) → (∀ z ∈ (w.map ltl).tail, z ∉ passed) → (w.map ltl).tail.Nodup → w.length ≤ n → pr.2 * mulL lgs w < pr.1 * mulL lgp w → abv ls st n here passed pr = true
  | [], _, _, _, _, _, ne, _, _, _, _, _ => absurd rfl ne
  | l :: w, 0, _, _, _, _, _, _, _, _, hn, _ => by simp at hn
  | l :: w, n + 1, here, passed, pr, ⟨h1, h2, h3⟩, _, hf, hp, hnd, hn, hlt => by
    obtain ⟨s, hs, s0⟩ := hf l (by simp)
    show ls.any (abvS (abv ls st n) st here passed pr) = true
    rw [List.any_eq_true]
    refine ⟨l, h1, ?_⟩
    have h2 : l.1 = here := h2
    have gp : lgp l = l.2.2.1 := by unfold lgp; rw [hs, if_neg (by simp)]
    have gs : lgs l = s := by unfold lgs; rw [hs]; rfl
    have hlt : pr.2 * (lgs l * mulL lgs w) < pr.1 * (lgp l * mulL lgp w) := hlt
    rw [gp, gs, ← Nat.mul_assoc, ← Nat.mul_assoc] at hlt
    unfold abvS
    rw [hs]
    show (decide (l.1 = here) && decide (0 < s) && ((decide (l.2.1 = st) && decide (pr.2 * s < pr.1 * l.2.2.1)) || (!decide (l.2.1 ∈ passed) && abv ls st n l.2.1 (passed ++ [l.2.1]) (pr.1 * l.2.2.1, pr.2 * s)))) = true
    rw [decide_eq_true h2, decide_eq_true s0, Bool.true_and, Bool.true_and, Bool.or_eq_true]
    cases w with
    | nil =>
      left
      have h3 : l.2.1 = st := h3
      rw [decide_eq_true h3, Bool.true_and]
      refine decide_eq_true ?_
      simpa [mulL] using hlt
    | cons l2 w =>
      right
      have h4 : l2.1 = l.2.1 := h3.2.1
      have hp1 : l.2.1 ∉ passed := hp l.2.1 (by rw [← h4]; simp)
      rw [decide_eq_false hp1, Bool.not_false, Bool.true_and]
      have hnd : ((l2 :: w).map ltl).Nodup := hnd
      rw [List.map_cons, List.nodup_cons] at hnd
      refine abv_of (l2 :: w) n l.2.1 _ _ h3 (by simp) (fun x hx => hf x (by simp [hx])) (fun z hz => ?_) hnd.2 (by rw [List.length_cons] at hn; omega) hlt
      have hz : z ∈ w.map ltl := hz
      rw [List.mem_append, List.mem_singleton, not_or]
      refine ⟨hp z (by show z ∈ (l2 :: w).map ltl; rw [List.map_cons]; exact List.mem_cons_of_mem _ hz), fun e => hnd.1 ?_⟩
      rw [show ltl l2 = z from h4.trans e.symm]; exact hz
theorem abv_to {ls : List Ld} {st : Str} : ∀ (n : Nat) (here : Str) (passed : List Str) (pr : Nat × Nat), abv ls st n here passed pr = true → ∃ w, Wk' ltl lhd ls here w st ∧ w ≠ [] ∧ (∀ l ∈ w, fin l) ∧ (∀ z ∈ (w.map ltl).tail, z ∉ passed) ∧ (w.map ltl).tail.Nodup ∧ pr.2 * mulL lgs w < pr.1 * mulL lgp w
  | 0, _, _, _, h => by cases h
  | n + 1, here, passed, pr, h => by
    have h : ls.any (abvS (abv ls st n) st here passed pr) = true := h
    rw [List.any_eq_true] at h
    obtain ⟨l, h1, h⟩ := h
    unfold abvS at h
    cases hs : l.2.2.2 with
    | none => rw [hs] at h; cases h
    | some s =>
      rw [hs] at h
      have h : (decide (l.1 = here) && decide (0 < s) && ((decide (l.2.1 = st) && decide (pr.2 * s < pr.1 * l.2.2.1)) || (!decide (l.2.1 ∈ passed) && abv ls st n l.2.1 (passed ++ [l.2.1]) (pr.1 * l.2.2.1, pr.2 * s)))) = true := h
      rw [Bool.and_eq_true, Bool.and_eq_true, decide_eq_true_eq, decide_eq_true_eq, Bool.or_eq_true] at h
      obtain ⟨⟨h2, s0⟩, h⟩ := h
      have gp : lgp l = l.2.2.1 := by unfold lgp; rw [hs, if_neg (by simp)]
      have gs : lgs l = s := by unfold lgs; rw [hs]; rfl
      rcases h with h | h
      · rw [Bool.and_eq_true, decide_eq_true_eq, decide_eq_true_eq] at h
        refine ⟨[l], ⟨h1, h2, h.1⟩, by simp, fun x hx => ?_, fun z hz => by simp at hz, by simp, ?_⟩
        · rw [List.mem_singleton] at hx; subst hx; exact ⟨s, hs, s0⟩
        · show pr.2 * (lgs l * 1) < pr.1 * (lgp l * 1)
          rw [gp, gs, Nat.mul_one, Nat.mul_one]; exact h.2
      · rw [Bool.and_eq_true, Bool.not_eq_true', decide_eq_false_iff_not] at h
        obtain ⟨h3, h⟩ := h
        obtain ⟨w, k1, k2, k3, k4, k5, k6⟩ := abv_to n _ _ _ h
        refine ⟨l :: w, ⟨h1, h2, k1⟩, by simp, fun x hx => ?_, fun z hz => ?_, ?_, ?_⟩
        · rcases List.mem_cons.mp hx with rfl | hx
          · exact ⟨s, hs, s0⟩
          · exact k3 x hx
        · have hz : z ∈ w.map ltl := hz
          cases w with
          | nil => exact absurd rfl k2
          | cons l2 w =>
            have e2 : l2.1 = l.2.1 := k1.2.1
            rw [List.map_cons, List.mem_cons] at hz
            rcases hz with rfl | hz
            · rw [show ltl l2 = l.2.1 from e2]; exact h3
            · have := k4 z hz
              rw [List.mem_append, not_or] at this
              exact this.1
        · show (w.map ltl).Nodup
          cases w with
          | nil => exact absurd rfl k2
          | cons l2 w =>
            have e2 : l2.1 = l.2.1 := k1.2.1
            rw [List.map_cons, List.nodup_cons]
            refine ⟨fun hm => ?_, k5⟩
            have := k4 _ hm
            rw [show ltl l2 = l.2.1 from e2] at this
            simp at this
        · show pr.2 * (lgs l * mulL lgs w) < pr.1 * (lgp l * mulL lgp w)
          rw [gp, gs, ← Nat.mul_assoc, ← Nat.mul_assoc]; exact k6
/-! ### bad kinds have papers -/
def ulds (ts : Ties) : List Ld := (leads ts).filter fun l => !decide (l.2.2.2 = some 0)
theorem mem_ulds {ts : Ties} {l : Ld} : l ∈ ulds ts ↔ l ∈ leads ts ∧ l.2.2.2 ≠ some 0 := by
  unfold ulds
  rw [List.mem_filter, Bool.not_eq_true', decide_eq_false_iff_not]
theorem ulds_best {ks : List Str} {ts : Ties} (h : TsOk ks ts) : ∀ l ∈ ulds ts, ∃ f, (mapOf ts).1.lookup (ltl l, lhd l) = some f ∧ GeR f.2 (lgp l) (lgs l) := fun l hl => by
  have m := mapOf_f h
  obtain ⟨hl, hb⟩ := mem_ulds.mp hl
  obtain ⟨w, t, e, h1, h2, rfl⟩ := mem_leads.mp hl
  have hb' : isBrk t e = false := by rw [isBrk_ld h2]; exact decide_eq_false hb
  obtain ⟨f, hf, hlt⟩ := m.bg (w, e) (mem_stepsOf h1 h2) t h1 hb'
  obtain ⟨t0, e1, _, _, _, _, e2⟩ := m.bo _ _ _ hf
  exact ⟨f, hf, (fac_ap h2 hb').ge.up (by rw [e2]; exact facD_pos h e1 _) hlt⟩
theorem bad_walk {ks : List Str} {ts : Ties} : ∀ (w : List Ld) (k g : Str), Wk' ltl lhd (leads ts) k w g → g ∈ bad0 ks (leads ts) → ∃ w' g', Wk' ltl lhd (ulds ts) k w' g' ∧ ((∃ l ∈ leads ts, l.1 = g' ∧ l.2.2.2 = some 0) ∨ abv (leads ts) g' 5 g' [g'] (1, 1) = true)
  | [], k, g, h, hg => by
    cases (show k = g from h)
    refine ⟨[], k, rfl, ?_⟩
    rcases List.mem_append.mp hg with hg | hg
    · obtain ⟨l, hl, rfl⟩ := List.mem_map.mp hg
      rw [List.mem_filter] at hl
      exact .inl ⟨l, hl.1, rfl, of_decide_eq_true hl.2⟩
    · exact .inr (List.mem_filter.mp hg).2
  | l :: w, k, g, ⟨h1, h2, h3⟩, hg => by
    by_cases hb : l.2.2.2 = some 0
    · exact ⟨[], k, rfl, .inl ⟨l, h1, h2, hb⟩⟩
    · obtain ⟨w', g', k1, k2⟩ := bad_walk w _ g h3 hg
      exact ⟨l :: w', g', ⟨mem_ulds.mpr ⟨h1, hb⟩, h2, k1⟩, k2⟩
theorem paperOf_some {ks : List Str} {ts : Ties} (h : LTs ks ts) (hk : KsOk ks) (h4 : ks.length ≤ 4) {k : Str} (hb : k ∈ lawBad ks ts) : ∃ p, paperOf (mapOf (mkWeb ks ts).ts) (mkWeb ks ts).ks k = some p := by
  have ht : TsOk ks ts := h.ok hk.nm
  have hw := mkWeb_ok hk ht
  have hwt : TsOk (sortS ks) (sortT ts) := hw.t
  have m := mapOf_f hwt
  have hk' := lawBad_sub h hb
  obtain ⟨w, g0, h1, _, h3⟩ := mem_badN.mp hb
  obtain ⟨w, g, k1, k2⟩ := bad_walk w k g0 h1 h3
  have us : ∀ l, l ∈ ulds ts → l ∈ ulds (sortT ts) := fun l hl => by
    rw [mem_ulds] at hl ⊢
    rw [leads_sort ht.nd]; exact hl
  have uls := ulds_best hwt
  have hdk : ∀ l ∈ ulds (sortT ts), l.1 ∈ ks ∧ l.2.1 ∈ ks := fun l hl => by
    rw [mem_ulds, leads_sort ht.nd] at hl
    exact ⟨(lead_f h hl.1).t, (lead_f h hl.1).h⟩
  have k1' : Wk' ltl lhd (ulds (sortT ts)) k w g := wk_sub k1 fun l hl => us l (wk_mem k1 l hl)
  have gk : g ∈ ks := by
    cases w with
    | nil => cases (show k = g from k1'); exact hk'
    | cons l w =>
      have := heads_tails k1'
      have hm : g ∈ (k :: (l :: w).map lhd) := by rw [this]; simp
      rcases List.mem_cons.mp hm with e | hm
      · rw [e]; exact hk'
      · obtain ⟨l', hl', e⟩ := List.mem_map.mp hm
        rw [← e]; exact (hdk l' (wk_mem k1' l' hl')).2
  obtain ⟨w', j1, j2⟩ := wk_short1 (n := 0) k1'
  have jl := wk_len (ks := ks) j1 j2 (fun l hl => (hdk l hl).1) gk
  have jh := heads_tails j1
  have nh : k ∉ w'.map lhd := by
    rw [← jh, List.nodup_cons] at j2
    exact j2.1
  obtain ⟨r, hr, _⟩ := roads_ge (ks := sortS ks) uls w' 4 k g [k] j1 j2 (fun l hl => by
    rw [List.mem_singleton]
    exact fun e => nh (by rw [← e]; exact List.mem_map_of_mem hl)) (fun l hl => mem_sortS.mpr (hdk l (wk_mem j1 l hl)).2) (by omega)
  have hrea : ∃ x, reasonAt (mapOf (sortT ts)) (sortS ks) g = some x := by
    unfold reasonAt
    cases e : (mapOf (sortT ts)).2.lookup g with
    | some s => exact ⟨_, rfl⟩
    | none =>
      rcases k2 with ⟨l, hl, e1, e2⟩ | k2
      · exfalso
        rw [← leads_sort ht.nd] at hl
        obtain ⟨wd, t, en, q1, q2, rfl⟩ := mem_leads.mp hl
        have q3 : isBrk t en = true := by rw [isBrk_ld q2]; exact decide_eq_true e2
        obtain ⟨s', hs'⟩ := m.rg (wd, en) (mem_stepsOf q1 q2) t q1 q3
        have e1 : t.kd en = g := e1
        have hs' : (mapOf (sortT ts)).2.lookup (t.kd en) = some s' := hs'
        rw [e1, e] at hs'
        cases hs'
      · obtain ⟨v, a1, a2, a3, a4, a5, a6⟩ := abv_to 5 g [g] (1, 1) k2
        rw [Nat.one_mul, Nat.one_mul] at a6
        have b1 : Wk' ltl lhd (ulds (sortT ts)) g v g := wk_sub a1 fun l hl => us l (mem_ulds.mpr ⟨wk_mem a1 l hl, fun z => by
          obtain ⟨s, e1, e2⟩ := a3 l hl
          rw [e1] at z; cases z; omega⟩)
        have nd : (v.map ltl).Nodup := by
          cases v with
          | nil => exact absurd rfl a2
          | cons l v =>
            have e2 : l.1 = g := b1.2.1
            rw [List.map_cons, List.nodup_cons]
            refine ⟨fun hm => ?_, a5⟩
            have := a4 _ hm
            rw [show ltl l = g from e2] at this
            simp at this
        have vl : v.length ≤ 5 := by
          have := nd_len nd (m := ks) fun z hz => by
            obtain ⟨l, hl, rfl⟩ := List.mem_map.mp hz
            exact (hdk l (wk_mem b1 l hl)).1
          rw [List.length_map] at this; omega
        obtain ⟨rd, c1, c2⟩ := circ_ge (ks := sortS ks) uls b1 a2 nd (fun l hl => mem_sortS.mpr (hdk l (wk_mem b1 l hl)).2) vl
        obtain ⟨x, d1, d2, d3, _⟩ := bestR_max (circR (mapOf (sortT ts)).1 (sortS ks) g) none (fun r hr => (circ_ok m (sortS ks) hr).2.2.1) (fun y e => by cases e) (.inr fun z => by rw [z] at c1; simp at c1)
        rw [d1]
        have := (c2.up d2 (d3 _ c1)).lt1 a6
        exact ⟨.inr x.1, by show (if ltR (1, 1) x.2 then some (.inr x.1) else none : Option Rea) = _; rw [if_pos this]⟩
  obtain ⟨x, hx⟩ := hrea
  have hp : ∃ p, paperAt (mapOf (sortT ts)) (sortS ks) k g = some p := by
    unfold paperAt
    cases e : roadsN (mapOf (sortT ts)).1 (sortS ks) 4 k g [k] with
    | nil => rw [e] at hr; simp at hr
    | cons r' rs =>
      exact ⟨(r'.1, x), by show (reasonAt (mapOf (sortT ts)) (sortS ks) g).map (fun x => (r'.1, x)) = _; rw [hx]; rfl⟩
  obtain ⟨p, hp⟩ := hp
  have : (paperOf (mapOf (sortT ts)) (sortS ks) k).isSome = true := by
    unfold paperOf
    rw [List.findSome?_isSome_iff]
    exact ⟨g, mem_sortS.mpr gk, by rw [hp]; rfl⟩
  exact Option.isSome_iff_exists.mp this
/-! ### sizes above all -/
theorem exU {ks : List Str} {ts : Ties} (h : LTs ks ts) (h4 : ks.length ≤ 4) : ∃ f : Str → Nat, (∀ k ∈ lawBad ks ts, f k = 0) ∧ (∀ k, k ∉ lawBad ks ts → 1728 ≤ f k) ∧ (∀ k, f k ≤ 13824) ∧ ∀ l ∈ leads ts, f l.1 = 0 ∨ (l.2.2.1 ≤ f l.2.1 ∧ ∀ s, l.2.2.2 = some s → s ≠ 0 ∧ f l.1 * l.2.2.1 ≤ f l.2.1 * s) := by
  let fs : List Ld := (leads ts).filter fun l => !decide (l.2.2.2 = none) && !decide (l.1 ∈ lawBad ks ts)
  have mfs : ∀ l, l ∈ fs ↔ l ∈ leads ts ∧ l.2.2.2 ≠ none ∧ l.1 ∉ lawBad ks ts := fun l => by
    show l ∈ List.filter _ _ ↔ _
    rw [List.mem_filter, Bool.and_eq_true, Bool.not_eq_true', Bool.not_eq_true', decide_eq_false_iff_not, decide_eq_false_iff_not]
  have nz : ∀ l ∈ leads ts, l.1 ∉ lawBad ks ts → l.2.2.2 ≠ some 0 := fun l hl hb z => hb (mem_badN.mpr ⟨[], l.1, rfl, Nat.zero_le _, List.mem_append_left _ (List.mem_map_of_mem (f := (·.1)) (List.mem_filter.mpr ⟨hl, decide_eq_true z⟩))⟩)
  have ff : ∀ l ∈ fs, fin l := fun l hl => by
    obtain ⟨h1, h2, h3⟩ := (mfs l).mp hl
    cases q : l.2.2.2 with
    | none => exact absurd q h2
    | some s => exact ⟨s, q, Nat.pos_of_ne_zero fun z => nz l h1 h3 (by rw [q, z])⟩
  have g : SmallG lgp lgs fs := ⟨fun l hl => by
    obtain ⟨s, q, s0⟩ := ff l hl
    have := (lead_f h ((mfs l).mp hl).1).s s q
    unfold lgs
    rw [q]; exact ⟨s0, this⟩, fun l hl => by
    obtain ⟨s, q, s0⟩ := ff l hl
    unfold lgp
    rw [q, if_neg (by simp)]
    exact (lead_f h ((mfs l).mp hl).1).p.2⟩
  have ht : ∀ l ∈ fs, ltl l ∈ ks := fun l hl => (lead_f h ((mfs l).mp hl).1).t
  have hh : ∀ l ∈ fs, lhd l ∈ ks := fun l hl => (lead_f h ((mfs l).mp hl).1).h
  have hr : ∀ x w, Wk' ltl lhd fs x w x → w ≠ [] → (w.map ltl).Nodup → mulL lgp w ≤ mulL lgs w := fun x w hw ne nd => by
    rcases Nat.lt_or_ge (mulL lgs w) (mulL lgp w) with q | q
    · exfalso
      have hx : x ∉ lawBad ks ts := by
        cases w with
        | nil => exact absurd rfl ne
        | cons l w =>
          have := ((mfs l).mp hw.1).2.2
          rw [show l.1 = x from hw.2.1] at this; exact this
      have hxk : x ∈ ks := by
        cases w with
        | nil => exact absurd rfl ne
        | cons l w => rw [← show ltl l = x from hw.2.1]; exact ht l hw.1
      have wl : w.length ≤ 5 := by
        have := nd_len nd (m := ks) fun z hz => by
          obtain ⟨l, hl, rfl⟩ := List.mem_map.mp hz
          exact ht l (wk_mem hw l hl)
        rw [List.length_map] at this; omega
      have hw' : Wk' ltl lhd (leads ts) x w x := wk_sub hw fun l hl => ((mfs l).mp (wk_mem hw l hl)).1
      have ha : abv (leads ts) x 5 x [x] (1, 1) = true := by
        refine abv_of w 5 x [x] (1, 1) hw' ne (fun l hl => ff l (wk_mem hw l hl)) (fun z hz => ?_) (List.Nodup.sublist (List.tail_sublist _) nd) wl (by rw [Nat.one_mul, Nat.one_mul]; exact q)
        cases w with
        | nil => exact absurd rfl ne
        | cons l w =>
          have hz : z ∈ w.map ltl := hz
          rw [List.map_cons, List.nodup_cons] at nd
          rw [List.mem_singleton]
          intro e
          exact nd.1 (by rw [show ltl l = z from (hw.2.1).trans e.symm]; exact hz)
      exact hx (mem_badN.mpr ⟨[], x, rfl, Nat.zero_le _, List.mem_append_right _ (List.mem_filter.mpr ⟨hxk, ha⟩)⟩)
    · exact q
  refine ⟨fun k => if k ∈ lawBad ks ts then 0 else valW ltl lhd lgp lgs fs k, fun k hk => if_pos hk, fun k hk => ?_, fun k => ?_, fun l hl => ?_⟩
  · show 1728 ≤ if _ then _ else _
    rw [if_neg hk]; exact valW_low g k
  · show (if _ then _ else _) ≤ 13824
    split
    · exact Nat.zero_le _
    · exact valW_high g k
  · show (if l.1 ∈ lawBad ks ts then 0 else _) = 0 ∨ _
    by_cases hb : l.1 ∈ lawBad ks ts
    · left; rw [if_pos hb]
    · right
      have hb2 : l.2.1 ∉ lawBad ks ts := fun z => hb (lawBad_cl h hl z)
      show _ ≤ (if l.2.1 ∈ lawBad ks ts then 0 else _) ∧ ∀ s, _ → _ ∧ (if l.1 ∈ lawBad ks ts then 0 else _) * _ ≤ (if l.2.1 ∈ lawBad ks ts then 0 else _) * s
      rw [if_neg hb, if_neg hb2]
      have lo := valW_low (tl := ltl) (hd := lhd) g l.2.1
      refine ⟨by have := (lead_f h hl).p.2; omega, fun s e => ?_⟩
      have hlf : l ∈ fs := (mfs l).mpr ⟨hl, by rw [e]; simp, hb⟩
      refine ⟨fun z => nz l hl hb (by rw [e, z]), ?_⟩
      have := valW_closed g h4 ht hh hr hlf
      have gp : lgp l = l.2.2.1 := by unfold lgp; rw [e, if_neg (by simp)]
      have gs : lgs l = s := by unfold lgs; rw [e]; rfl
      rw [gp, gs] at this
      exact this
end K53
end PC_
section KFw_
set_option maxRecDepth 100000
set_option maxHeartbeats 4000000
/-! KFw: sorted(set(texts)). -/
namespace K53
open PySem PySem.Spec PyProof.Rows L2
def SetSR (P : Program) (w : World) (a : Addr) (ss : List Str) : HO := .ext fun h => ∃ m, m ≤ ss.length ∧ SetRS P w h a (fun k => ss.any (· == k)) m
theorem setSR_new {P Q : Program} {w : World} {H : Hp} {h : Heap} {a : Addr} {ss : List Str} (R : ∃ m, m ≤ ss.length ∧ SetRS P w h a (fun k => ss.any (· == k)) m) : ObjOk Q w H h a (SetSR P w a ss) := by
  obtain ⟨m, hm, R⟩ := R
  have ⟨o, _, _, _, ho, _⟩ := R
  refine ⟨⟨m, hm, R⟩, ⟨o, ho⟩, fun h1 h2 p k => ?_⟩
  obtain ⟨m, hm, o, es, ep, t, ho, rest⟩ := p
  exact ⟨m, hm, o, es, ep, t, k _ ho, rest⟩
def rSetSR (K : PySem.W.Frag) (P : Program) (w : World) : List V → Hp → VK → Prop := fun xs H Q => ∃ (l : Addr) (ss : List Str), xs = [V.ref l] ∧ SqL K H l (ss.map V.str) ∧ ss.length < 64 ∧ ∀ a, H a = none → Q (.ref a) (upd H a (SetSR P w a ss))
theorem cr_setSR {X : Cx} (hc : X.calm = true) : CallR X (.type "set") (rSetSR X.K X.prog X.w) := by
  intro pins s σ H xs us Q I r h
  obtain ⟨l, ss, rfl, hl, hf, q⟩ := h
  rw [Vals.ref1 r]
  obtain ⟨its, rv, pl, hz⟩ := I.list hl
  have hn : H s.heap.objs.size = none := I.hok.fresh (Nat.le_refl _)
  have hlen : its.length = ss.length := by have := rv.length; rw [List.length_map] at this; exact this.symm
  refine call_set_listR (prog := X.prog) (w := X.w) (xs := ss) (I.ok.hd hc) pl.isList (strsAre_of (by simpa using rv)) hf fun h' tk R k => ?_
  refine ⟨.ref s.heap.objs.size, upd H s.heap.objs.size (SetSR X.prog X.w s.heap.objs.size ss), I.laid (t' := tk) (fun b o e => k b o (Heap.lt_size e) e) (Nat.le_refl _) (setSR_new ?_), rfl, q _ hn⟩
  obtain ⟨m, h1, h2⟩ := R
  have hs : its.toArray.size = ss.length := by rw [List.size_toArray, hlen]
  rw [hs] at h1 h2
  rw [List.take_length] at h2
  exact ⟨m, h1, h2⟩
def strV (v : Value) : Str := match v with | .str k _ => k | _ => Str.empty
theorem strs_of : ∀ (l : List Value), (∀ v ∈ l, ∃ k tk, v = Value.str k tk) → StrsAre l (l.map strV)
  | [], _ => .nil
  | v :: l, h => by
    obtain ⟨k, tk, rfl⟩ := h v List.mem_cons_self
    exact .cons k tk (strs_of l fun u hu => h u (List.mem_cons_of_mem _ hu))
section
variable {P : Program} {w : World} {A : Around} {E : Value → Shared → Prop} {s : Shared} {a : Addr}
theorem sorted_setS {S : Str → Bool} {n : Nat} {Q : Value → Shared → Prop} (R : SetRS P w s.heap a S n) (hh : A.handled = none) (h64 : n < 64)
    (hQ : ∀ s' p (out : Array Value) (c : Nat) (ns : List Str), (∀ b o, s.heap.get? b = some o → s'.heap.get? b = some o) → s'.gens = s.gens → s'.os = s.os → s.heap.objs.size ≤ p →
      s'.heap.get? p = some (seqObj "list" out c) → StrsAre out.toList ns → sortedS ns = true → ns.Nodup → (∀ k, k ∈ ns ↔ S k = true) → ns.length = n → Q (.ref p) s') :
    wpAny (model P w) A (call (.builtin "sorted") [.ref a]) Q E s := by
  obtain ⟨o, es, ep, t, ho, hex, hd, g, nd, hm, hb, hf, hn, hr, hl⟩ := R
  refine Calls.call_function_entry kind_sorted plain_sorted entry_sorted (args_sorted1 _) ?_
  unfold Builtin.«sorted»
  refine wpAny_bind (m := checkCount "sorted" 1 1 _) (wpAny_pure ?_)
  refine wpAny_bind (collect_set (A := A.in1) hh ⟨o, ho, hex.1, hd⟩ hf hb hr hl fun s1 vs k1 hz g1 o1 pm => ?_)
  have hvl : vs.length = n := by rw [pm.length_eq, List.length_map, Array.length_toList]; exact hn
  have hS : StrsAre vs (vs.map strV) := strs_of vs fun v hv => by
    obtain ⟨e, he, q⟩ := List.mem_map.mp (pm.mem_iff.mp hv)
    obtain ⟨k, tk, h1, _⟩ := g e he
    exact ⟨k, tk, by rw [← q]; exact h1⟩
  have pk : (vs.map strV).Perm (es.toList.map keyS) := by
    have q := pm.map strV
    rw [List.map_map] at q
    exact q
  refine wpAny_bind (wpAny_newList ?_ (by rw [hvl, sizeLine_eq]; omega))
  have hoL : (s1.heap.push (seqObj "list" vs.toArray 0)).get? s1.heap.objs.size = some (seqObj "list" vs.toArray 0) := Heap.get?_push_size _ rfl
  refine wpAny_bind (wpAny_holding (wpAny_call_entry slot_list_sort ⟨_, hoL, rfl⟩ entry_list_sort (list_sort_treeK strKind_oneLt hoL hS.keysOf (fun v₁ v₂ rest e => keyKind_strs (by rw [← e]; exact hS)) (by rw [hvl]; exact h64) fun st' a1 a2 => ⟨_, rfl, ?_⟩) (args_list_sort _)))
  obtain ⟨ns', h1, h2, h3⟩ := sorted_out_str hS a1 a2
  obtain ⟨c, hc⟩ := sortedHeap_at (vs := vs) (out := _) hoL
  have pn : ns'.Perm (es.toList.map keyS) := h2.trans pk
  refine wpAny_pure ⟨_, rfl, hQ _ s1.heap.objs.size _ c ns' (fun b u e => ?_) g1 o1 hz hc h1 h3 (pn.nodup_iff.mpr nd) (fun k => by rw [pn.mem_iff, ← hm k]) ?_⟩
  · have q := k1 b u e
    have hlt := Heap.lt_size q
    show (sortedHeap (s1.heap.push (seqObj "list" vs.toArray 0)) s1.heap.objs.size vs _).get? b = some u
    rw [sortedHeap_old (Nat.ne_of_lt hlt) (by rw [size_push']; exact Nat.lt_succ_of_lt hlt)]
    exact Heap.get?_push_of_some _ q
  · rw [pn.length_eq, List.length_map, Array.length_toList]; exact hn
end
def rSortSR (P : Program) (w : World) : List V → Hp → VK → Prop := fun xs H Q => ∃ (a : Addr) (ss : List Str), xs = [V.ref a] ∧ H a = some (SetSR P w a ss) ∧ ss.length < 64 ∧
  ∀ (ys : List Str) (p : Addr), ys.Nodup → sortedS ys = true → (∀ k, k ∈ ys ↔ k ∈ ss) → H p = none → Q (.ref p) (upd H p (.lst (ys.map V.str)))
theorem cr_sortSR {X : Cx} (hc : X.calm = true) : CallR X (.builtin "sorted") (rSortSR X.prog X.w) := by
  intro pins s σ H vs us Q I r h
  obtain ⟨a, ss, rfl, ha, h64, q⟩ := h
  obtain ⟨⟨m, hm, R⟩, _, _⟩ := (show ObjOk X.prog X.w H s.heap a (SetSR X.prog X.w a ss) from I.hok a _ ha)
  rw [Vals.ref1 r]
  refine sorted_setS R (I.ok.hd hc) (by omega) fun s' p out c ns k g o hp hg hi hs nd hmem hl => ?_
  have hlen : (ns.map V.str).length ≤ sizeLine := by rw [List.length_map, hl, sizeLine_eq]; omega
  have hn : H p = none := I.hok.fresh hp
  have J : Inv X pins σ (upd H p (.lst (ns.map V.str))) { s with heap := s'.heap, gens := s'.gens, drawn := s'.drawn, toks := s'.toks } :=
    I.call (ch := []) (Un.laid k hp hn) (I.hok.laid k hp ⟨hlen, out.toList, c, vals_of_strs hi, hg⟩) (by rw [g]; exact I.bare) (fun _ z => nomatch z)
  have e : s' = { s with heap := s'.heap, gens := s'.gens, drawn := s'.drawn, toks := s'.toks } := by
    cases s'
    cases s
    cases o
    rfl
  rw [e]
  refine ⟨.ref p, _, J, rfl, q ns p nd hs (fun k => ?_) hn⟩
  rw [hmem k, List.any_eq_true]
  exact ⟨fun ⟨x, h1, h2⟩ => by rw [← eq_of_beq h2]; exact h1, fun h => ⟨k, h, beq_self_eq_true k⟩⟩
/-- a set of the texts ss -/
def vSetSR (P : Program) (w : World) (ss : List Str) : Pv := ⟨fun G v => ∃ a, v = .ref a ∧ G a = some (SetSR P w a ss), fun l ⟨a, e, h⟩ => ⟨a, e, l.at h nDk_ext⟩⟩
section
variable {X : Cx} {e : Expr} {Γ : En} {M : Mu} {p : Pv} {pos pp : Pos}
theorem xe_setS {ss : List Str} (hc : X.calm = true) (hm : X.mg "set" = none) (h : XE X e Γ M (vLst (ss.map fun s => vStr s))) (h64 : ss.length < 64) (hg : Gl X "set" := by rfl) (he : starEach [e] X.env = (false, eval e X.env) :: starEach [] X.env := by rfl) : XE X (.Call (.Name "set" pp) [e] [] pos) Γ M (vSetSR X.prog X.w ss) :=
  xe_ct1 (cr_setSR hc) hm (by decide +kernel) h (fun G H σ Γ v st rv Q k => by
    obtain ⟨a, xs, rfl, h1, h2⟩ := rv
    obtain rfl := alA_strs h2
    exact ⟨a, ss, rfl, SqL.of (st.i _ _ h1), h64, fun l hl => k _ (upd G l (SetSR X.prog X.w l ss)) _ (Stp.new st.i hl) ⟨l, rfl, upd_same⟩⟩) hg (by decide) (by decide) he
theorem sortedS_pw2 {l : List Str} (h : sortedS l = true) (nd : l.Nodup) : True := trivial
/-- sorted(set(texts)): ys is the list of these texts, in order, each once -/
def SetL (ys ss : List Str) : Prop := ys.Nodup ∧ sortedS ys = true ∧ ∀ k, k ∈ ys ↔ k ∈ ss
theorem setL_uniq {ys zs ss : List Str} (h : SetL ys ss) (h2 : SetL zs ss) : ys = zs := by
  have p : ys.Perm zs := (List.perm_ext_iff_of_nodup h.1 h2.1).mpr fun k => (h.2.2 k).trans (h2.2.2 k).symm
  exact (sorted_is (p.trans (.refl _)) h.2.1).trans (sorted_is (.refl _) h2.2.1).symm
theorem xe_sortSR {ss ys : List Str} (hc : X.calm = true) (hm : X.mg "sorted" = none) (h : XE X e Γ M (vSetSR X.prog X.w ss)) (h64 : ss.length < 64) (hy : SetL ys ss) (hg : Gl X "sorted" := by rfl) (he : starEach [e] X.env = (false, eval e X.env) :: starEach [] X.env := by rfl) : XE X (.Call (.Name "sorted" pp) [e] [] pos) Γ M (vLst (ys.map fun s => vStr s)) :=
  (xn_cb1 (ob := mLst (ys.map fun s => vStr s)) (cr_sortSR hc) hm (by decide +kernel) h (fun G H σ Γ v st rv Q k => by
    obtain ⟨a, rfl, h1⟩ := rv
    exact ⟨a, ss, rfl, st.i _ _ h1, h64, fun zs l nd hs hm hl => k l _ hl ⟨_, rfl, by rw [setL_uniq hy ⟨nd, hs, hm⟩]; exact alA_vals⟩⟩) hg (by decide) (by decide) he).lst
end
end K53
end KFw_
section ND_
set_option maxRecDepth 100000
set_option maxHeartbeats 4000000
/-! ND: the law's empty kinds. -/
namespace K53
open PySem PySem.Spec PyProof.Rows L2
def lawEmpty (ks : List Str) (ts : Ties) : List Str := (sortS ks).filter fun k => decide (k ∈ lawBad ks ts)
theorem rising_of : ∀ (p : Str) (l : List Str), (p :: l).Pairwise (fun a b => leS a b = true) → risingS p l = true
  | p, [], _ => rfl
  | p, x :: r, h => by
    have hh := List.pairwise_cons.mp h
    unfold risingS
    rw [Bool.and_eq_true]
    exact ⟨hh.1 x (by simp), rising_of x r hh.2⟩
theorem sorted_of {l : List Str} (h : l.Pairwise (fun a b => leS a b = true)) : sortedS l = true := by
  cases l with
  | nil => rfl
  | cons x r => exact rising_of x r h
theorem lawEmpty_set {ks : List Str} {ts : Ties} (h : LTs ks ts) (hk : KsOk ks) : SetL (lawEmpty ks ts) (lawBad ks ts) := by
  refine ⟨(sortS_nodup hk.nd).sublist List.filter_sublist, sorted_of ((sortS_pairwise ks).sublist List.filter_sublist), fun k => ?_⟩
  unfold lawEmpty
  rw [List.mem_filter, decide_eq_true_eq, mem_sortS]
  exact ⟨fun h => h.2, fun hb => ⟨lawBad_sub h hb, hb⟩⟩
theorem badS_len (ls : List Ld) (b : List Str) : (badS ls b).length ≤ b.length + ls.length := by
  unfold badS
  rw [List.length_append, List.length_map]
  have := List.length_filter_le (fun l : Ld => decide (l.2.1 ∈ b)) ls
  omega
theorem badN_len (ls : List Ld) (b : List Str) : ∀ n, (badN ls b n).length ≤ b.length + n * ls.length
  | 0 => by simp [badN]
  | n + 1 => by
    have := badS_len ls (badN ls b n)
    have := badN_len ls b n
    show (badS ls (badN ls b n)).length ≤ _
    rw [Nat.succ_mul]; omega
theorem leads_len {ks : List Str} {ts : Ties} (h : LTs ks ts) : (leads ts).length ≤ 10 := by
  have := ldsS_len ts (sortS (ts.map (·.1)))
  have h2 := h.nm.hi
  rw [sortS_length] at this
  unfold leads; omega
theorem bad0_len (ks : List Str) (ls : List Ld) : (bad0 ks ls).length ≤ ls.length + ks.length := by
  unfold bad0 badZ
  rw [List.length_append, List.length_map]
  have := List.length_filter_le (fun l : Ld => decide (l.2.2.2 = some 0)) ls
  have := List.length_filter_le (fun k => abv ls k 5 k [k] (1, 1)) ks
  omega
section
variable {X : Cx} {e a b : Expr} {Γ : En} {M : Mu} {pos : Pos}
theorem xt_eqO {q : Option Nat} {n : Nat} (ha : XE X a Γ M (vOpt q)) (hb : XE X b Γ M (vInt (n : Int))) : XT X (.Compare a [.Eq] [b] pos) Γ M (decide (q = some n)) := by
  cases q with
  | none => exact XT.is (xt_eq ha hb (by rfl)) (by rw [decide_eq_false (by simp [optV]), decide_eq_false (by simp)])
  | some z => exact XT.is (xt_eq ha hb (by rfl)) (decide_eq_decide.mpr ⟨fun h => by have h : (z : Int) = (n : Int) := V.int.inj h; rw [show z = n by omega], fun h => by cases h; rfl⟩)
end
section
variable {P : Program} {w : World} {K : PySem.W.Frag} {mg : Str → Option Value} {base : Heap}
theorem fd_law_empty (T : Txt K mg) : Fd P w K mg base "_law_empty" 6 ["_law_sorts", "_law_ties_here"] [] (spP (δ := List Str × Ties) (fun d => [vLst (d.1.map fun s => vStr s), vDic (pLTs d.2)]) (fun d => KsOk d.1 ∧ d.1.length ≤ 4 ∧ LTs d.1 d.2) (fun d => vLst ((lawEmpty d.1 d.2).map fun s => vStr s))) := by
  obtain ⟨g, fd, F⟩ := T.fn i_law_empty d_law_empty rfl
  refine ⟨_, fd, [], g rfl, F.kp, .nil, F.bindsN fun _ _ _ _ _ _ us hl => match us, hl with | [_, _], _ => rfl, ?_⟩
  have S : FnScope ["_law_sorts", "_law_ties_here", "_law_leads_here", "_law_bad", "_law_lead", "_law_sort", "_law_turn"] ["_law_sorts", "_law_ties_here"] (defScope s_law_empty) := ⟨rfl, rfl, rfl, by decide +kernel, rfl, by decide +kernel, by decide +kernel⟩
  refine fd_of (N := ["_law_sorts", "_law_ties_here", "_law_leads_here", "_law_bad", "_law_lead", "_law_sort", "_law_turn"]) F S (fun _ => rfl) (by decide) ?_
  intro cdv A outer s H E hr ⟨ks, ts⟩ G ok
  obtain ⟨hk, h4, ht⟩ : KsOk ks ∧ ks.length ≤ 4 ∧ LTs ks ts := ok
  have tk : TsOk ks ts := ht.ok hk.nm
  have l10 := leads_len ht
  have lf := fun l hl => lead_f ht (l := l) hl
  generalize hls : leads ts = ls at l10 lf
  let b0 := bad0 ks ls
  have b0l := bad0_len ks ls
  have bl : ∀ i, i ≤ ks.length → (badN ls b0 i).length ≤ 54 := fun i hi => by
    have := badN_len ls b0 i
    have : i * ls.length ≤ 4 * 10 := Nat.mul_le_mul (by omega) l10
    have : b0.length ≤ ls.length + ks.length := b0l
    omega
  have p62 : (2:Int)^62 = 4611686018427387904 := by decide
  have hb62 : (ks.length : Int) < 2^62 := by rw [p62]; omega
  let Ga : List Str → En := fun bad => [some (vLst (ks.map fun s => vStr s)), some (vDic (pLTs ts)), some (vLst (ls.map vLd)), some (vLst (bad.map fun s => vStr s)), none, none, none]
  refine xss_set (i := 2) (p := vLst (ls.map vLd)) (XE.is (xe_call (fd_law_leads T) ts hr (xa_cons (xv 1) xa_nil) ⟨tk.nd, tk.ln⟩) (by rw [← hls])) S.nd ?_
  refine xss_set (i := 3) (p := vLst ((badZ ls).map fun s => vStr s)) (XE.is (xe_lc (own := [("_law_lead", 4)]) (b := fun l : Ld => decide (l.2.2.2 = some 0)) (g := fun l => vStr l.1) (fun l => [some (vLst (ks.map fun s => vStr s)), some (vDic (pLTs ts)), some (vLst (ls.map vLd)), none, some (vLd l), none, none]) rfl S.nd (xi_lst (xv 2)) (blkOk_by (N := ["_law_sorts", "_law_ties_here", "_law_leads_here", "_law_bad", "_law_lead", "_law_sort", "_law_turn"]) (sc := defScope s_law_empty) (by decide +kernel)) (fun _ _ _ _ _ _ _ => xg_name 4 S.nd) (fun _ _ _ _ _ l hl => xts_one (xt_eqO (n := 0) (xe_ixT (i := 3) (xv 4) xe_int rfl) xe_int)) (fun _ _ _ _ _ l hl _ => xe_ixT (i := 0) (xv 4) xe_int rfl) (by rw [sizeLine_eq]; omega)) ?_) S.nd ?_
  · unfold badZ; rw [List.map_map]; rfl
  refine xss_set (i := 3) (p := vLst (b0.map fun s => vStr s)) (XE.is (XN.lst (xn_catL (xv 3) vwL (XE.is (q := vLst ((ks.filter fun k => abv ls k 5 k [k] (1, 1)).map fun s => vStr s)) (xe_lc (own := [("_law_sort", 5)]) (b := fun k => abv ls k 5 k [k] (1, 1)) (g := fun k => vStr k) (fun k => [some (vLst (ks.map fun s => vStr s)), some (vDic (pLTs ts)), some (vLst (ls.map vLd)), some (vLst ((badZ ls).map fun s => vStr s)), none, some (vStr k), none]) rfl S.nd (xi_lst (xv 0)) (blkOk_by (N := ["_law_sorts", "_law_ties_here", "_law_leads_here", "_law_bad", "_law_lead", "_law_sort", "_law_turn"]) (sc := defScope s_law_empty) (by decide +kernel)) (fun _ _ _ _ _ _ _ => xg_name 5 S.nd) (fun _ _ _ _ _ k hkm => xts_one (xt_val (XE.is (xe_call (fd_law_is_above T 4) (ks, ls, k, k, [k], (1, 1)) hr (xa_cons (xv 2) (xa_cons (xv 5) (xa_cons (xv 5) (xa_cons (XN.lst (xn_lst (xa_cons (xv 5) xa_nil))) (xa_cons (xe_tup (xa_cons xe_int (xa_cons xe_int xa_nil))) xa_nil))))) ?_) rfl))) (fun _ _ _ _ _ k hkm _ => xv 5) (by rw [sizeLine_eq]; omega)) rfl) ?_)) ?_) S.nd ?_
  · exact ⟨by simp, fun x hx => by rw [List.mem_singleton] at hx; rw [hx]; exact hkm, fun l hl => (lf l hl).h, fun l hl => ⟨by have := (lf l hl).p.2; omega, fun s e => by have := (lf l hl).s s e; omega⟩, by show ks.length ≤ 1 + 4; omega, hk.ln⟩
  · rw [List.length_map, List.length_map, sizeLine_eq]
    have h1 : (badZ ls).length ≤ ls.length := by unfold badZ; rw [List.length_map]; exact List.length_filter_le _ _
    have h2 := List.length_filter_le (fun k => abv ls k 5 k [k] (1, 1)) ks
    omega
  · rw [← List.map_append]; rfl
  refine xss_consI (M := []) (fun _ : Unit => Ga (badN ls b0 ks.length)) (fun _ => []) (fun _ => True) (xs_for (ds := List.range ks.length) (f := fun i => vInt (i : Int)) (fun i : Nat => Ga (badN ls b0 i)) (fun _ => []) (fun i j => j = i) rfl (xi_range (T.free "range" rfl) (XE.is (xe_lenL (T.free "len" rfl) (xv 0) vwL) (by rw [List.length_map])) hb62) (fun _ _ _ s => ⟨0, rfl, s⟩) (fun i n y B hik hy => ?_) (fun G H σ ⟨j, hj, s⟩ => ?_)) ?_
  · have hy : y = i := hy
    subst hy
    have hi : y < ks.length := by have := (List.getElem?_eq_some_iff.mp hik).1; rwa [List.length_range] at this
    have b1 := bl y (by omega)
    refine ⟨_, _, xg_name 6 S.nd, ?_⟩
    refine xss_one (xs_asg (i := 3) (p := vLst ((badN ls b0 (y + 1)).map fun s => vStr s)) (XE.is (XN.lst (xn_catL (xv 3) vwL (XE.is (q := vLst (((ls.filter fun l => decide (l.2.1 ∈ badN ls b0 y)).map (·.1)).map fun s => vStr s)) (xe_lc (own := [("_law_lead", 4)]) (b := fun l : Ld => decide (l.2.1 ∈ badN ls b0 y)) (g := fun l => vStr l.1) (fun l => [some (vLst (ks.map fun s => vStr s)), some (vDic (pLTs ts)), some (vLst (ls.map vLd)), some (vLst ((badN ls b0 y).map fun s => vStr s)), some (vLd l), none, some (vInt (n : Int))]) rfl S.nd (xi_lst (xv 2)) (blkOk_by (N := ["_law_sorts", "_law_ties_here", "_law_leads_here", "_law_bad", "_law_lead", "_law_sort", "_law_turn"]) (sc := defScope s_law_empty) (by decide +kernel)) (fun _ _ _ _ _ _ _ => xg_name 4 S.nd) (fun _ _ _ _ _ l hl => xts_one (xt_inS (t := false) (xe_ixT (i := 1) (xv 4) xe_int rfl) (xv 3))) (fun _ _ _ _ _ l hl _ => xe_ixT (i := 0) (xv 4) xe_int rfl) (by rw [sizeLine_eq]; omega)) (by rw [List.map_map]; rfl)) ?_)) ?_) (fun G H σ s => ⟨y + 1, rfl, s.fg (by repeat (first | exact fg_nil | apply fg_keep | apply fg_drop))⟩) S.nd)
    · rw [List.length_map, List.length_map, List.length_map, sizeLine_eq]
      have := List.length_filter_le (fun l : Ld => decide (l.2.1 ∈ badN ls b0 y)) ls
      omega
    · rw [← List.map_append]; rfl
  · have hj : j = (List.range ks.length).length := hj
    rw [List.length_range] at hj
    subst hj
    exact ⟨(), trivial, s⟩
  · rintro _ _
    have b1 := bl ks.length (Nat.le_refl _)
    have e1 : badN ls b0 ks.length = lawBad ks ts := by unfold lawBad; rw [hls]
    refine xss_one (xs_ret (xe_sortSR (ys := lawEmpty ks ts) rfl (T.free "sorted" rfl) (xe_setS rfl (T.free "set" rfl) (xv 3) (by omega)) (by omega) (by rw [e1]; exact lawEmpty_set ht hk)) fun _ _ _ t r => ⟨t, r⟩)
end
end K53
end ND_
section NE_
set_option maxRecDepth 100000
set_option maxHeartbeats 4000000
/-! NE: the law's look at told least sizes. -/
namespace K53
open PySem PySem.Spec PyProof.Rows L2
/-! ### boxes -/
theorem mem_boxC (side : Nat) : ∀ (ks : List Str) (acc : List Cnt) (c : Cnt), c ∈ boxC side ks acc ↔ ∃ a ∈ acc, ∃ t, c = a ++ t ∧ t.map (·.1) = ks ∧ ∀ x ∈ t, x.2 < side
  | [], acc, c => by
    constructor
    · intro h; exact ⟨c, h, [], by simp, rfl, fun x hx => by simp at hx⟩
    · rintro ⟨a, ha, t, rfl, ht, _⟩
      have : t = [] := List.map_eq_nil_iff.mp ht
      subst this
      rw [List.append_nil]; exact ha
  | k :: ks, acc, c => by
    show c ∈ boxC side ks (acc.flatMap (extC side k)) ↔ _
    rw [mem_boxC side ks]
    constructor
    · rintro ⟨a', ha', t, rfl, ht, hl⟩
      obtain ⟨a, ha, h⟩ := List.mem_flatMap.mp ha'
      obtain ⟨n, hn, rfl⟩ := List.mem_map.mp h
      refine ⟨a, ha, (k, n) :: t, by simp, by rw [List.map_cons, ht], fun x hx => ?_⟩
      rcases List.mem_cons.mp hx with rfl | hx
      · exact List.mem_range.mp hn
      · exact hl x hx
    · rintro ⟨a, ha, t, rfl, ht, hl⟩
      cases t with
      | nil => cases ht
      | cons y t =>
        rw [List.map_cons] at ht
        injection ht with h1 h2
        refine ⟨a ++ [y], List.mem_flatMap.mpr ⟨a, ha, List.mem_map.mpr ⟨y.2, List.mem_range.mpr (hl y (by simp)), ?_⟩⟩, t, by simp, h2, fun x hx => hl x (by simp [hx])⟩
        rw [← h1]
theorem mem_box {side : Nat} {ks : List Str} {c : Cnt} : c ∈ boxC side ks [[]] ↔ c.map (·.1) = ks ∧ ∀ x ∈ c, x.2 < side := by
  rw [mem_boxC]
  constructor
  · rintro ⟨a, ha, t, rfl, h1, h2⟩
    rw [List.mem_singleton] at ha; subst ha
    exact ⟨h1, h2⟩
  · rintro ⟨h1, h2⟩
    exact ⟨[], by simp, c, rfl, h1, h2⟩
def mapC (ks : List Str) (f : Str → Nat) : Cnt := ks.map fun k => (k, f k)
theorem mapC_keys {ks : List Str} {f : Str → Nat} : (mapC ks f).map (·.1) = ks := by unfold mapC; rw [List.map_map]; exact List.map_id _
theorem mapC_cnt {ks : List Str} {f : Str → Nat} {k : Str} : cnt (mapC ks f) k = if k ∈ ks then f k else 0 := by
  unfold cnt mapC
  induction ks with
  | nil => simp
  | cons x r ih =>
    rw [List.map_cons, List.lookup_cons]
    by_cases e : k = x
    · subst e; rw [beq_self_eq_true]; simp
    · rw [show (k == x) = false by simpa using e]
      simp only [List.mem_cons, e, false_or]
      exact ih
theorem cnt_none {c : Cnt} {k : Str} (h : k ∉ c.map (·.1)) : cnt c k = 0 := by
  unfold cnt
  cases e : c.lookup k with
  | none => rfl
  | some n => exact absurd (List.mem_map_of_mem (f := (·.1)) (look_mem e)) h
theorem cnt_mem {c : Cnt} (nd : (c.map (·.1)).Nodup) {x : Str × Nat} (h : x ∈ c) : cnt c x.1 = x.2 := by
  unfold cnt
  rw [look_of nd h]; rfl
theorem closedL_cong {ls : List Ld} {c d : Cnt} (h : ∀ k, cnt c k = cnt d k) (hc : closedL ls c) : closedL ls d := fun l hl => by
  have := hc l hl
  unfold ldC at this ⊢
  rw [← h, ← h]; exact this
structure LrOk (ks : List Str) (ts : Ties) (side : Nat) (held c : Cnt) : Prop where
  hk : KsOk ks
  ht : TsOk ks ts
  s40 : 1 ≤ side ∧ side ≤ 40
  big : side ^ ks.length ≤ 1600
  ho : CntOk held
  pk : (held.map (·.1)).Perm ks
  co : CntOk c
  ck : c.map (·.1) = sortS ks
  cl : closedL (leads ts) c
  ge : ∀ k, cnt held k ≤ cnt c k
  le : ∀ V, closedL (leads ts) V → (∀ k, cnt held k ≤ cnt V k) → ∀ k, cnt c k ≤ cnt V k
def abvB (held b : Cnt) : Bool := held.all fun x => decide (cnt held x.1 ≤ cnt b x.1)
def boxL (ks : List Str) (ts : Ties) (side : Nat) : List Cnt := (boxC side ks [[]]).filter (lawC ts)
def aboves (ks : List Str) (ts : Ties) (side : Nat) (held : Cnt) : List Cnt := (boxL ks ts side).filter (abvB held)
theorem abvB_iff {held b : Cnt} (h : ∀ k ∈ held.map (·.1), True) : abvB held b = true ↔ ∀ k, cnt held k ≤ cnt b k := by
  unfold abvB
  rw [List.all_eq_true]
  constructor
  · intro q k
    by_cases m : k ∈ held.map (·.1)
    · obtain ⟨x, hx, rfl⟩ := List.mem_map.mp m
      exact of_decide_eq_true (q x hx)
    · rw [cnt_none m]; exact Nat.zero_le _
  · intro q x _
    exact decide_eq_true (q x.1)
section
variable {ks : List Str} {ts : Ties} {side : Nat} {held c : Cnt}
theorem LrOk.cz (h : LrOk ks ts side held c) {k : Str} (hk : k ∉ ks) : cnt c k = 0 := cnt_none (by rw [h.ck]; exact fun z => hk (mem_sortS.mp z))
/-- the least sizes, in the law's order -/
def ordC (ks : List Str) (c : Cnt) : Cnt := mapC ks (cnt c)
theorem LrOk.ord (h : LrOk ks ts side held c) (k : Str) : cnt (ordC ks c) k = cnt c k := by
  unfold ordC
  rw [mapC_cnt]
  by_cases m : k ∈ ks
  · rw [if_pos m]
  · rw [if_neg m, h.cz m]
theorem LrOk.ord_in (h : LrOk ks ts side held c) (hs : ∀ k ∈ ks, cnt c k < side) : ordC ks c ∈ aboves ks ts side held := by
  refine List.mem_filter.mpr ⟨List.mem_filter.mpr ⟨mem_box.mpr ⟨mapC_keys, fun x hx => ?_⟩, (lawC_iff h.ht.nd).mpr (closedL_cong (fun k => (h.ord k).symm) h.cl)⟩, (abvB_iff fun _ _ => trivial).mpr fun k => by rw [h.ord]; exact h.ge k⟩
  obtain ⟨k, hk, rfl⟩ := List.mem_map.mp hx
  exact hs k hk
theorem LrOk.above (h : LrOk ks ts side held c) {b : Cnt} (hb : b ∈ aboves ks ts side held) : b.map (·.1) = ks ∧ (∀ k ∈ ks, cnt b k < side) ∧ ∀ k, cnt c k ≤ cnt b k := by
  obtain ⟨h1, h2⟩ := List.mem_filter.mp hb
  obtain ⟨h3, h4⟩ := List.mem_filter.mp h1
  obtain ⟨h5, h6⟩ := mem_box.mp h3
  refine ⟨h5, fun k hk => ?_, h.le b ((lawC_iff h.ht.nd).mp h4) ((abvB_iff fun _ _ => trivial).mp h2)⟩
  rw [← h5] at hk
  obtain ⟨x, hx, rfl⟩ := List.mem_map.mp hk
  rw [cnt_mem (by rw [h5]; exact h.hk.nd) hx]
  exact h6 x hx
theorem LrOk.none (h : LrOk ks ts side held c) (e : aboves ks ts side held = []) : ∃ k ∈ ks, side ≤ cnt c k := by
  rcases Decidable.em (∃ k ∈ ks, side ≤ cnt c k) with q | q
  · exact q
  · exfalso
    have := h.ord_in fun k hk => Nat.lt_of_not_le fun z => q ⟨k, hk, z⟩
    rw [e] at this; simp at this
theorem LrOk.some (h : LrOk ks ts side held c) (e : aboves ks ts side held ≠ []) : ordC ks c ∈ aboves ks ts side held := by
  obtain ⟨b, hb⟩ := List.exists_mem_of_ne_nil _ e
  obtain ⟨_, h2, h3⟩ := h.above hb
  exact h.ord_in fun k hk => Nat.lt_of_le_of_lt (h3 k) (h2 k hk)
end
section
variable {P : Program} {w : World} {K : PySem.W.Frag} {mg : Str → Option Value} {base : Heap}
theorem fd_law_least_right (T : Txt K mg) : Fd P w K mg base "_law_least_right" 3 ["_law_ties_here", "_law_box_here", "_law_side", "_law_held", "_law_told"] [] (spP (δ := List Str × Ties × Nat × Cnt × Cnt) (fun d => [vDic (pLTs d.2.1), vLst ((boxL d.1 d.2.1 d.2.2.1).map vCnt), vInt (d.2.2.1 : Int), vDic (pCnt d.2.2.2.1), vSizes K d.2.2.2.2]) (fun d => LrOk d.1 d.2.1 d.2.2.1 d.2.2.2.1 d.2.2.2.2) (fun _ => vBl true)) := by
  obtain ⟨g, fd, F⟩ := T.fn i_law_least_right d_law_least_right rfl
  refine ⟨_, fd, [], g rfl, F.kp, .nil, F.bindsN fun _ _ _ _ _ _ us hl => match us, hl with | [_, _, _, _, _], _ => rfl, ?_⟩
  have S : FnScope ["_law_ties_here", "_law_box_here", "_law_side", "_law_held", "_law_told", "_law_found", "_law_sort", "_law_above", "_law_some"] ["_law_ties_here", "_law_box_here", "_law_side", "_law_held", "_law_told"] (defScope s_law_least_right) := ⟨rfl, rfl, rfl, by decide +kernel, rfl, by decide +kernel, by decide +kernel⟩
  refine fd_of (N := ["_law_ties_here", "_law_box_here", "_law_side", "_law_held", "_law_told", "_law_found", "_law_sort", "_law_above", "_law_some"]) F S (fun _ => rfl) (by decide) ?_
  intro cdv A outer s H E hr ⟨ks, ts, side, held, c⟩ G ok
  have ok : LrOk ks ts side held c := ok
  have bxl : (boxL ks ts side).length ≤ 1600 := by
    refine Nat.le_trans (List.length_filter_le _ _) ?_
    rw [boxC_len]; simp; exact ok.big
  have kh : ∀ {k}, k ∈ held.map (·.1) → k ∈ c.map (·.1) := fun {k} hk => by rw [ok.ck]; exact mem_sortS.mpr (ok.pk.mem_iff.mp hk)
  have kc : ∀ {k}, k ∈ c.map (·.1) → k ∈ ks := fun {k} hk => by rw [ok.ck] at hk; exact mem_sortS.mp hk
  have kb : ∀ {b k}, b ∈ boxL ks ts side → k ∈ ks → k ∈ b.map (·.1) := fun {b k} hb hk => by rw [(mem_box.mp (List.mem_filter.mp hb).1).1]; exact hk
  refine xss_open (i := 3) (g := fun a => vDicAt a (pCnt held)) rfl vDic_open fun a => ?_
  let Gp : List (Option Pv) := [some (vDic (pLTs ts)), some (vLst ((boxL ks ts side).map vCnt)), some (vInt (side : Int)), some (vDicAt a (pCnt held)), some (vSizes K c)]
  refine xss_iff (XT.is (xw_or (w := false) (xt_not (xt_val (xe_isi (T.free "isinstance" rfl) (xv 4) (xe_gl (x := .ref (He.ga K "Sizes")) T.sizes.g rfl) (.own _) (isi_sizes T)))) (fun _ => xw_or1 (xt_neS (ss := c.map (·.1)) hr (xe_meth0 (md_Sizes_kinds T) c hr T.sizes.cl (xv 4) rfl rfl trivial) (XE.is (xn_sortD rfl (T.free "sorted" rfl) (xv 3) vwD_at (pCnt_64 ok.ho)).lst (by rw [pCnt_keys, ok.ck, sortS_congr ok.pk]))))).pt rfl) ?_
  refine xss_set (i := 5) (p := vDic (pCnt c)) (xe_meth0 (md_Sizes_counts T) c hr T.sizes.cl (xv 4) rfl rfl trivial) S.nd ?_
  refine xss_open (i := 5) (g := fun a => vDicAt a (pCnt c)) rfl vDic_open fun a2 => ?_
  refine xss_iff (XT.is (xw_or (u := false) (w := false) (xt_notN (XE.is (xe_call (fd_law_gap T) (ts, c) hr (xa_cons (xv 0) (xa_cons ((xv 5).weak fun G v h => ⟨a2, h⟩) xa_nil)) ?_) rfl) nonP_gap |>.is ?_) (fun _ => xw_or1 (XT.is (xt_not (xt_val (xe_all (bs := (pCnt held).map fun _ => true) rfl (T.free "all" rfl) (XE.is (xe_lcD0 (d := a) (kp := pCnt held) (own := [("_law_sort", 6)]) (g := fun _ => vBl true) (fun x => Gp ++ [some (vDicAt a2 (pCnt c)), some (vStr x.1), none, none]) rfl S.nd (hvD (i := 3) rfl) ((xv 3).weak vDicAt_ref) (blkOk_by (N := ["_law_ties_here", "_law_box_here", "_law_side", "_law_held", "_law_told", "_law_found", "_law_sort", "_law_above", "_law_some"]) (sc := defScope s_law_least_right) (by decide +kernel)) (fun _ _ _ _ _ _ _ => xg_name 6 S.nd) (fun _ _ _ _ _ x hx => ?_) (pCnt_small ok.ho)) ?_)))) ?_))).pt rfl) ?_
  · exact ⟨ok.ht.ok, fun x hx => by show _ ∈ c.map _; rw [ok.ck]; exact mem_sortS.mpr (ok.ht.ia x hx), fun x hx => by show _ ∈ c.map _; rw [ok.ck]; exact mem_sortS.mpr (ok.ht.ib x hx), ok.ht.nd, ok.ht.ln⟩
  · rw [(lawC_iff ok.ht.nd).mpr ok.cl]; rfl
  · obtain ⟨y, hy, rfl⟩ := List.mem_map.mp hx
    have m1 : y.1 ∈ held.map (·.1) := List.mem_map_of_mem (f := (·.1)) hy
    refine XE.is (xe_ge (xe_dget (u1 hr) (xv 5) (xv 6) vwD_at (cntP (kh m1))) (xe_dget (u1 hr) (xv 3) (xv 6) vwD_at (cntP m1))) ?_
    rw [decide_eq_true (by have := ok.ge y.1; omega)]
  · rw [List.map_map]; rfl
  · rw [show ((pCnt held).map fun _ => true).all id = true from List.all_eq_true.mpr fun b hb => by obtain ⟨_, _, rfl⟩ := List.mem_map.mp hb; rfl]; rfl
  refine xss_set (i := 7) (p := vLst ((aboves ks ts side held).map vCnt)) (xe_lc (own := [("_law_some", 8)]) (b := abvB held) (g := vCnt) (fun b => Gp ++ [some (vDicAt a2 (pCnt c)), none, none, some (vCnt b)]) rfl S.nd (xi_lst (xv 1)) (blkOk_by (N := ["_law_ties_here", "_law_box_here", "_law_side", "_law_held", "_law_told", "_law_found", "_law_sort", "_law_above", "_law_some"]) (sc := defScope s_law_least_right) (by decide +kernel)) (fun _ _ _ _ _ _ _ => xg_name 8 S.nd) (fun _ _ _ _ _ b hb => xts_one (xt_val (xe_all (bs := held.map fun x => decide (cnt held x.1 ≤ cnt b x.1)) rfl (T.free "all" rfl) (XE.is (xe_lcD0 (d := a) (kp := pCnt held) (own := [("_law_sort", 6)]) (g := fun x => vBl (decide (cnt held x.1 ≤ cnt b x.1))) (fun x => Gp ++ [some (vDicAt a2 (pCnt c)), some (vStr x.1), none, some (vCnt b)]) rfl S.nd (hvD (i := 3) rfl) ((xv 3).weak vDicAt_ref) (blkOk_by (by kernel_rfl)) (fun _ _ _ _ _ _ _ => xg_name 6 S.nd) (fun _ _ _ _ _ x hx => ?_) (pCnt_small ok.ho)) ?_) |>.is ?_))) (fun _ _ _ _ _ b hb _ => xv 8) (by rw [sizeLine_eq]; omega)) S.nd ?_
  · obtain ⟨y, hy, rfl⟩ := List.mem_map.mp hx
    have m1 : y.1 ∈ held.map (·.1) := List.mem_map_of_mem (f := (·.1)) hy
    refine XE.is (xe_ge (xe_dget (u1 hr) (xv 8) (xv 6) vwD (cntP (kb hb (kc (kh m1))))) (xe_dget (u1 hr) (xv 3) (xv 6) vwD_at (cntP m1))) ?_
    exact congrArg vBl (decide_eq_decide.mpr Int.ofNat_le)
  · unfold pCnt; rw [List.map_map, List.map_map]; rfl
  · unfold abvB; rw [List.all_map]; rfl
  have abl : (aboves ks ts side held).length ≤ 1600 := Nat.le_trans (List.length_filter_le _ _) bxl
  rcases hab : aboves ks ts side held with _ | ⟨b0, br⟩
  · refine xss_ift (XT.is (xt_eqNil hr (xv 7) vwL) rfl) (xss_one (xs_ret (XE.is (xe_any (bs := c.map fun x => decide (side ≤ cnt c x.1)) rfl (T.free "any" rfl) (XE.is (xe_lcD0 (d := a2) (kp := pCnt c) (own := [("_law_sort", 6)]) (g := fun x => vBl (decide (side ≤ cnt c x.1))) (fun x => Gp ++ [some (vDicAt a2 (pCnt c)), some (vStr x.1), some (vLst ([].map vCnt)), none]) rfl S.nd (hvD (i := 5) rfl) ((xv 5).weak vDicAt_ref) (blkOk_by (N := ["_law_ties_here", "_law_box_here", "_law_side", "_law_held", "_law_told", "_law_found", "_law_sort", "_law_above", "_law_some"]) (sc := defScope s_law_least_right) (by decide +kernel)) (fun _ _ _ _ _ _ _ => xg_name 6 S.nd) (fun _ _ _ _ _ x hx => ?_) (pCnt_small ok.co)) ?_)) ?_) fun _ _ _ t r => ⟨t, r⟩))
    · obtain ⟨y, hy, rfl⟩ := List.mem_map.mp hx
      have m1 : y.1 ∈ c.map (·.1) := List.mem_map_of_mem (f := (·.1)) hy
      refine XE.is (xe_ge (xe_dget (u1 hr) (xv 5) (xv 6) vwD_at (cntP m1)) (xv 2)) ?_
      exact congrArg vBl (decide_eq_decide.mpr Int.ofNat_le)
    · unfold pCnt; rw [List.map_map, List.map_map]; rfl
    · obtain ⟨k, hk, h2⟩ := ok.none hab
      rw [List.any_eq_true.mpr]
      have : k ∈ c.map (·.1) := by rw [ok.ck]; exact mem_sortS.mpr hk
      obtain ⟨x, hx, rfl⟩ := List.mem_map.mp this
      exact ⟨_, List.mem_map_of_mem hx, decide_eq_true h2⟩
  · refine xss_iff (XT.is (xt_eqNil hr (xv 7) vwL) rfl) ?_
    have hne : aboves ks ts side held ≠ [] := by rw [hab]; simp
    have hin := ok.some hne
    have hmin : ∀ b ∈ aboves ks ts side held, b.map (·.1) = ks ∧ ∀ k, cnt c k ≤ cnt b k := fun b hb => ⟨(ok.above hb).1, (ok.above hb).2.2⟩
    rw [← hab]
    have pk2 : ((pCnt (mapC (c.map (·.1)) (cnt c))).map (·.1)).Nodup := by rw [pCnt_keys, mapC_keys]; exact ok.co.nd
    refine xss_one (xs_ret (xe_eqC (c := c) (d := mapC (c.map (·.1)) (cnt c)) hr ((xv 5).weak fun G v h => ⟨a2, h⟩) (XN.dic (xn_dictP rfl (T.free "dict" rfl) (XE.is (xe_lcD0 (d := a2) (kp := pCnt c) (own := [("_law_sort", 6)]) (g := fun x => vTup [vStr x.1, vInt ((cnt c x.1 : Nat) : Int)]) (fun x => Gp ++ [some (vDicAt a2 (pCnt c)), some (vStr x.1), some (vLst ((aboves ks ts side held).map vCnt)), none]) rfl S.nd (hvD (i := 5) rfl) ((xv 5).weak vDicAt_ref) (blkOk_by (N := ["_law_ties_here", "_law_box_here", "_law_side", "_law_held", "_law_told", "_law_found", "_law_sort", "_law_above", "_law_some"]) (sc := defScope s_law_least_right) (by decide +kernel)) (fun _ _ _ _ _ _ _ => xg_name 6 S.nd) (fun _ _ _ _ _ x hx => ?_) (pCnt_small ok.co)) ?_) pk2)) (by unfold mapC; rw [List.length_map, List.length_map]) (fun x hx => ?_)) fun _ _ _ t r => ⟨t, r⟩)
    · obtain ⟨y, hy, rfl⟩ := List.mem_map.mp hx
      have m1 : y.1 ∈ c.map (·.1) := List.mem_map_of_mem (f := (·.1)) hy
      refine xe_tup (xa_cons (xv 6) (xa_cons (xe_min (ns := (aboves ks ts side held).map fun b => ((cnt b y.1 : Nat) : Int)) rfl (T.free "min" rfl) (XE.is (xe_lc0 (own := [("_law_some", 8)]) (g := fun b => vInt ((cnt b y.1 : Nat) : Int)) (fun b => Gp ++ [some (vDicAt a2 (pCnt c)), some (vStr y.1), some (vLst ((aboves ks ts side held).map vCnt)), some (vCnt b)]) rfl S.nd (xi_lst (xv 7)) (blkOk_by (by kernel_rfl)) (fun _ _ _ _ _ _ _ => xg_name 8 S.nd) (fun _ _ _ _ _ b hb => ?_) (by rw [sizeLine_eq]; omega)) ?_) ?_ ?_) xa_nil))
      · exact xe_dget (u1 hr) (xv 8) (xv 6) vwD (cntP (by rw [(hmin b hb).1]; exact kc m1))
      · rw [List.map_map]; rfl
      · refine List.mem_map.mpr ⟨_, hin, ?_⟩
        rw [ok.ord]
      · intro z hz
        obtain ⟨b, hb, rfl⟩ := List.mem_map.mp hz
        have := (hmin b hb).2 y.1
        show ((cnt c y.1 : Nat) : Int) ≤ ((cnt b y.1 : Nat) : Int)
        omega
    · unfold pCnt mapC; rw [List.map_map, List.map_map, List.map_map, List.map_map]; rfl
    · have m1 : x.1 ∈ c.map (·.1) := List.mem_map_of_mem (f := (·.1)) hx
      have := cnt_look (c := mapC (c.map (·.1)) (cnt c)) (k := x.1) (by rw [mapC_keys]; exact m1)
      rw [this, mapC_cnt, if_pos m1, cnt_mem ok.co.nd hx]
end
end K53
end NE_
section KFx_
set_option maxRecDepth 100000
set_option maxHeartbeats 4000000
/-! KFx: values of one kind that compare equal: tuples, lists, dicts, own classes. -/
namespace K53
open PySem PySem.Spec PyProof.Rows L2
def DP (p : Pv) : Eqv := fun x y H => ∃ G, Same G H ∧ p.r G x ∧ p.r G y
theorem mon_DP {p : Pv} : Mon (DP p) := fun x y H H' e ⟨G, s, h1, h2⟩ => ⟨G, s.trans e, h1, h2⟩
def DGood (X : Cx) (n : Nat) : Eqv := fun x y H => ∃ p, EqG X n (DP p) ∧ DP p x y H
section
variable {X : Cx} {n m : Nat} {p : Pv} {ps : List Pv} {C : Addr}
theorem mon_good : Mon (DGood X n) := fun x y H H' e ⟨p, h, d⟩ => ⟨p, h, mon_DP x y H H' e d⟩
theorem eqG_good : EqG X n (DGood X n) := fun A pins s σ H x y u v sb I rx ry ⟨p, h, d⟩ => h A pins s σ H x y u v sb I rx ry d
theorem rcG_imp {D D' : Eqv} (h : RcG X n D) (hd : ∀ x y H, D' x y H → D x y H) : RcG X n D' := fun A pins s σ H x y u v sb I rx ry d => h A pins s σ H x y u v sb I rx ry (hd x y H d)
theorem rcG_mono {D : Eqv} (h : RcG X n D) (hn : n ≤ m) : RcG X m D := fun A pins s σ H x y u v sb => h A pins s σ H x y u v (sb.mono hn)
theorem eqP_val {x : V} (fx : flatV x = true) (e : eqV x x = true) : EqG X 0 (DP (vVal x)) := eqG_flat.imp fun a b H ⟨G, _, h1, h2⟩ => by cases h1; cases h2; exact ⟨fx, fx, e⟩
theorem eqP_str {s : Str} : EqG X n (DP (vStr s)) := (eqP_val rfl (by simp [eqV])).mono (Nat.zero_le _)
theorem eqP_int {i : Int} : EqG X n (DP (vInt i)) := (eqP_val rfl (by simp [eqV])).mono (Nat.zero_le _)
theorem prs_good (h : ∀ q ∈ ps, EqG X n (DP q)) {G H : Hp} (sg : Same G H) {xs ys : List V} (a1 : AlA G xs ps) (a2 : AlA G ys ps) : Prs (DGood X n) xs ys H :=
  ⟨by rw [a1.len, a2.len], fun i x y h1 h2 => by
    obtain ⟨q, e1, r1⟩ := a1.getV h1
    obtain ⟨q', e2, r2⟩ := a2.getV h2
    rw [e1] at e2; cases e2
    exact ⟨q, h q (List.mem_of_getElem? e1), G, sg, r1, r2⟩⟩
theorem tupD (h : ∀ q ∈ ps, EqG X n (DP q)) : ∀ x y H, DP (vTup ps) x y H → DTup X.K (DGood X n) x y H := fun x y H ⟨G, s, ⟨a, xs, e1, h1, a1⟩, ⟨b, ys, e2, h2, a2⟩⟩ =>
  ⟨a, b, xs, ys, e1, e2, SqT.of (s _ _ h1), SqT.of (s _ _ h2), prs_good h s a1 a2⟩
theorem rcP_tup (h : ∀ q ∈ ps, EqG X n (DP q)) : RcG X (n + 1) (DP (vTup ps)) := rcG_imp (rcG_tup mon_good eqG_good) (tupD h)
theorem eqP_tup (h : ∀ q ∈ ps, EqG X n (DP q)) : EqG X (n + 1) (DP (vTup ps)) := (eqG_tup mon_good eqG_good).imp (tupD h)
theorem rcP_lst (h : ∀ q ∈ ps, EqG X n (DP q)) : RcG X (n + 1) (DP (vLst ps)) := rcG_imp (rcG_list mon_good eqG_good) fun x y H ⟨G, s, ⟨a, xs, e1, h1, a1⟩, ⟨b, ys, e2, h2, a2⟩⟩ =>
  ⟨a, b, xs, ys, e1, e2, s _ _ h1, s _ _ h2, prs_good h s a1 a2⟩
/-- by an own __eq__ -/
theorem rcG_own {C f : Addr} {fd : FuncData} {pn : List Str} {sp : Sp} {W : Hp → Addr → Prop} {D : Eqv} (hW : ∀ pins σ H (s : Shared) a, Inv X pins σ H s → W H a → ∃ ox od, PySem.W.InstAt s.heap a ox C (some od))
    (F : FnOk X.prog X.w X.K X.mg X.base CX0 n f fd pn sp) (hs : PySem.W.findIn X.K (.ref C) "__eq__" = some (some (.ref f))) (hf : PySem.W.isFn X.K (.ref f) = true) (hb : Binds X.K fd pn [])
    (hD : ∀ x y H, D x y H → ∃ a b, x = .ref a ∧ y = .ref b ∧ W H a ∧ W H b ∧ ∀ E : XK, sp [.ref a, .ref b] H (fun v H' => v = .bl true ∧ Ext H H') E) : RcG X n D := by
  intro A pins s σ H x y u v sb I rx ry d
  obtain ⟨a, b, rfl, rfl, ha, hb', hsp⟩ := hD _ _ _ d
  cases rx
  cases ry
  obtain ⟨ox, od, J⟩ := hW _ _ _ _ _ I ha
  obtain ⟨ox', od', J'⟩ := hW _ _ _ _ _ I hb'
  obtain ⟨m, hF⟩ := I.fr
  refine PySem.W.cmp_K (op := .Eq) (tb := .ref C) sb.room.units0 hF I.ok.mod.kin J J'.type (by simp [PySem.W.notFirst]) hs hf ?_
  have hsp := hsp E0
  have e0 : Env0 X.prog X.w X.K X.mg X.base A X.stack s H := by
    have e := I.env0
    exact ⟨by rw [sb.fr]; exact e.frames, e.mod, e.bs, e.bsz, e.funs, e.frf, e.hok, e.bare⟩
  have hl := F.len _ _ _ _ hsp
  have r2 : Vals [V.ref a, V.ref b] [Value.ref a, Value.ref b] := .cons rfl (.cons rfl .nil)
  refine wpAny_call (codeAny_mono (F.run A X.stack s H ⟨[.ref a, .ref b], []⟩ [.ref a, .ref b] [.ref a, .ref b] _ E0 sb.room e0 (by
    have := hb s [.ref a, .ref b] I.kIn (by simpa using hl)
    simpa using this) r2 hsp) fun r s' hq => ?_)
  cases r with
  | error e => exact pass0 pins σ H s e s' I hq
  | ok fl =>
    cases fl with
    | ret w =>
      obtain ⟨z, H', I', rz, ez, ex⟩ := I.after hq
      subst ez
      cases rz
      exact ⟨rfl, H', I', ex⟩
    | next => exact False.elim hq
    | brk => exact False.elim hq
    | cont => exact False.elim hq
theorem rcP_slt {pn : List Str} {k : Nat} {δ : Type} {args : δ → List Pv} {ok : δ → Prop} {vs : List Pv} (F : Md X.prog X.w X.K X.mg X.base C "__eq__" k pn (spP args ok fun _ => vBl true)) (d : δ) (hd : args d = [vSlt C vs, vSlt C vs]) (hok : ok d) : RcG X k (DP (vSlt C vs)) := by
  obtain ⟨f, fd, hm, hb, F⟩ := F.ex
  refine rcG_own (W := fun H a => ∃ dx xs, SlX.Slt H a C dx xs) (fun pins σ H s a I ⟨dx, xs, h⟩ => by
    obtain ⟨sl, od, _, J, _⟩ := SlX.slt_inst I h
    exact ⟨_, od, J⟩) F hm.at_ hm.fn hb fun x y H ⟨G, s, ⟨a, dx, xs, e1, h1, a1⟩, ⟨b, dy, ys, e2, h2, a2⟩⟩ => ⟨a, b, e1, e2, ⟨dx, _, Le.slt (le_same s) h1⟩, ⟨dy, _, Le.slt (le_same s) h2⟩, fun E => ⟨d, G, s, ?_, hok, fun v G' H' t r => ⟨r, t.h⟩⟩⟩
  rw [hd]
  exact .cons ⟨a, dx, xs, rfl, h1, a1⟩ (.cons ⟨b, dy, ys, rfl, h2, a2⟩ .nil)
theorem rcP_ins {pn : List Str} {k : Nat} {δ : Type} {args : δ → List Pv} {ok : δ → Prop} {fs : List (Str × Pv)} (F : Md X.prog X.w X.K X.mg X.base C "__eq__" k pn (spP args ok fun _ => vBl true)) (d : δ) (hd : args d = [vIns C fs, vIns C fs]) (hok : ok d) : RcG X k (DP (vIns C fs)) := by
  obtain ⟨f, fd, hm, hb, F⟩ := F.ex
  refine rcG_own (W := fun H a => ∃ dx xs, H a = some (.ins C dx xs)) (fun pins σ H s a I ⟨dx, xs, h⟩ => by
    obtain ⟨od, J⟩ := ins_inst I h
    exact ⟨_, od, J⟩) F hm.at_ hm.fn hb fun x y H ⟨G, s, ⟨a, dx, xs, e1, h1, a1⟩, ⟨b, dy, ys, e2, h2, a2⟩⟩ => ⟨a, b, e1, e2, ⟨dx, _, s _ _ h1⟩, ⟨dy, _, s _ _ h2⟩, fun E => ⟨d, G, s, ?_, hok, fun v G' H' t r => ⟨r, t.h⟩⟩⟩
  rw [hd]
  exact .cons ⟨a, dx, xs, rfl, h1, a1⟩ (.cons ⟨b, dy, ys, rfl, h2, a2⟩ .nil)
theorem refD_slt {vs : List Pv} : ∀ x y H, DP (vSlt C vs) x y H → ∃ a b, x = .ref a ∧ y = .ref b := fun x y H ⟨G, s, ⟨a, _, _, e1, _, _⟩, ⟨b, _, _, e2, _, _⟩⟩ => ⟨a, b, e1, e2⟩
theorem refD_ins {fs : List (Str × Pv)} : ∀ x y H, DP (vIns C fs) x y H → ∃ a b, x = .ref a ∧ y = .ref b := fun x y H ⟨G, s, ⟨a, _, _, e1, _, _⟩, ⟨b, _, _, e2, _, _⟩⟩ => ⟨a, b, e1, e2⟩
theorem xe_eqP {a b : Expr} {Γ : En} {M : Mu} {pos : Pos} (h : RcG X n (DP p)) (hr : Room n X.A) (ha : XE X a Γ M p) (hb : XE X b Γ M p) (hm : behindInMarks .Eq b = false := by first | exact nobehind _ (by decide) (by decide) | rfl) : XE X (.Compare a [.Eq] [b] pos) Γ M (vBl true) :=
  xe_cmpG (op_eqG h hr) ha hb (fun G H v w s r1 r2 Q k => ⟨⟨G, s, r1, r2⟩, fun H' e => k _ G H' ⟨.refl _, e, s.trans e, fun b o e1 n => by rw [e1] at n; cases n⟩ rfl⟩) hm
end
/-! ### dicts, value by value, the values compared by calls -/
section
variable {prog : Program} {w : World} {K : Type} [DecidableEq K] {knd : KeyKind prog w K} {A : Around} {E : Value → Shared → Prop} {s : Shared}
theorem samePairsG {nm : String} {a b : Addr} {ka kb : List (K × Value)} {Q : Bool → Shared → Prop} {I : Nat → Shared → Prop} {oa ob : Obj} (ha : (a == sysModules) = false) (hb : (b == sysModules) = false)
    (hI : ∀ i s', I i s' → s'.heap.get? a = some oa ∧ s'.heap.get? b = some ob) (da : s.heap.DictOf knd a ka) (db : s.heap.DictOf knd b kb) (hl : ka.length = kb.length)
    (turn : ∀ i s' k v y, I i s' → ka[i]? = some (k, v) → valueAt kb k = some y → wpAny (model prog w) A (eqBool v y) (fun r s2 => r = true ∧ I (i + 1) s2) E s')
    (has : ∀ p ∈ ka, ∃ y, valueAt kb p.1 = some y) (h0 : I 0 s) (fin : ∀ s', I ka.length s' → Q true s') : wpAny (model prog w) A (Builtin.Dict.samePairs nm a b) Q E s := by
  obtain ⟨oa', es, ep, hoa, _, hda, hka, hpa, _⟩ := da
  obtain ⟨ob', es', ep', hob, _, hdb, hkb, hpb, _⟩ := db
  obtain rfl : oa' = oa := Option.some.inj (hoa.symm.trans (hI 0 s h0).1)
  obtain rfl : ob' = ob := Option.some.inj (hob.symm.trans (hI 0 s h0).2)
  have hla : ka.length = es.size := by rw [← hpa.length]; exact Array.length_toList
  have hlb : kb.length = es'.size := by rw [← hpb.length]; exact Array.length_toList
  have hfind : ∀ k, findBy knd.is es' k = valueAt kb k := fun k => by
    rw [← hpb.find k]
    clear hlb hpb hkb hdb hob
    obtain ⟨l⟩ := es'
    simp [findBy]
  unfold Builtin.Dict.samePairs Builtin.Dict.showsAll
  rw [if_neg (show ¬ (a == sysModules) = true by rw [ha]; exact Bool.false_ne_true), if_neg (show ¬ (b == sysModules) = true by rw [hb]; exact Bool.false_ne_true)]
  refine wpAny_bind (wpAny_pure (wpAny_bind (wpAny_pure ?_)))
  refine wpAny_bind (wpAny_dictEntries hoa hda ?_)
  dsimp only
  refine wpAny_bind (wpAny_dictEntries hob hdb ?_)
  have hsz : es.size = es'.size := by rw [← hla, ← hlb]; exact hl
  rw [if_neg (by rw [hsz]; simp)]
  refine wpAny_bind (wpAny_dictEpoch hoa hda ?_)
  refine wpAny_bind ?_
  rw [Std.Legacy.Range.forIn_eq_forIn_range']
  simp only [Std.Legacy.Range.size, Nat.sub_zero, Nat.add_sub_cancel, Nat.div_one]
  refine wpAny_forIn_list _
    (fun rest q s' => q = (none, ()) ∧ ∃ i, rest = List.range' i (es.size - i) ∧ i ≤ es.size ∧ I i s')
    _ ?_ ?_ _ _ ⟨rfl, 0, by simp, Nat.zero_le _, h0⟩
  · rintro x rest q s' ⟨rfl, i, hr, hi, hIi⟩
    obtain ⟨hoa1, hob1⟩ := hI i s' hIi
    have hlt : i < es.size := by
      rcases Nat.lt_or_ge i es.size with h | h
      · exact h
      · rw [Nat.sub_eq_zero_of_le h] at hr; simp at hr
    obtain ⟨rfl, hrest⟩ : x = i ∧ rest = List.range' (i + 1) (es.size - (i + 1)) := by
      have e : es.size - i = (es.size - (i + 1)) + 1 := by omega
      rw [e, List.range'_succ] at hr
      injection hr with h1 h2
      exact ⟨h1, h2⟩
    refine wpAny_bind (wpAny_dictEntries hoa1 hda ?_)
    rw [Array.getElem?_eq_getElem hlt]
    have hlt' : x < ka.length := by rw [hla]; exact hlt
    obtain ⟨k, v, hkv⟩ : ∃ k v, ka[x] = (k, v) := ⟨_, _, rfl⟩
    obtain ⟨hkey, hval⟩ := hpa.get? (i := x) (e := es[x]) (k := k) (v := v) (by rw [Array.getElem?_toList]; exact Array.getElem?_eq_getElem hlt) (by rw [List.getElem?_eq_getElem hlt', hkv])
    obtain ⟨k', hk', hh⟩ := hka es[x] (Array.getElem_mem hlt)
    have ekk : k' = k := knd.inj _ _ _ hk' hkey
    rw [ekk] at hh
    show wpAny _ _ (holding [es[x].key, es[x].val] _ >>= _) _ _ _
    rw [hh]
    refine wpAny_bind (wpAny_holding (wpAny_bind (wpAny_dictFind_of hkey hob1 hdb hkb ?_)))
    obtain ⟨y0, hy0⟩ := has (k, v) (by rw [← hkv]; exact List.getElem_mem hlt')
    have hy0 : valueAt kb k = some y0 := hy0
    cases hj : es'.findIdx? fun e => knd.is k e.key with
    | none =>
      have hn : valueAt kb k = none := by rw [← hfind k, findBy_of_findIdx?, hj]
      rw [hn] at hy0; cases hy0
    | some j =>
      obtain ⟨hjlt, _, _⟩ := Array.findIdx?_eq_some_iff_getElem.mp hj
      have hv' : valueAt kb k = some es'[j].val := by
        rw [← hfind k, findBy_of_findIdx?, hj]
        simp [Array.getElem?_eq_getElem hjlt]
      refine wpAny_bind (wpAny_dictEntries hob1 hdb ?_)
      rw [Array.getElem?_eq_getElem hjlt]
      have ht := turn x s' k v es'[j].val hIi (by rw [List.getElem?_eq_getElem hlt', hkv]) hv'
      rw [← hval] at ht
      refine wpAny_holding (wpAny_mono ht (fun r s2 q => ?_) fun _ _ z => z)
      obtain ⟨rfl, hI2⟩ := q
      obtain ⟨hoa2, hob2⟩ := hI _ s2 hI2
      show wpAny _ _ (if (!true) = true then _ else _) _ _ _
      rw [if_neg (by decide)]
      refine wpAny_bind (wpAny_dictEpoch hoa2 hda ?_)
      rw [if_neg (by simp)]
      exact wpAny_pure ⟨rfl, x + 1, hrest, hlt, hI2⟩
  · rintro q s' ⟨rfl, i, hr, hi, hIi⟩
    have hin : i = es.size := by
      rcases Nat.lt_or_ge i es.size with h | h
      · have e : es.size - i = (es.size - (i + 1)) + 1 := by omega
        rw [e, List.range'_succ] at hr; exact nomatch hr
      · exact Nat.le_antisymm hi h
    refine wpAny_pure ?_
    rw [hin, ← hla] at hIi
    exact fin s' hIi
theorem rc_dictG {a b : Addr} {ka kb : List (K × Value)} {Q : Value → Shared → Prop} {I : Nat → Shared → Prop} {oa ob : Obj} (ha : (a == sysModules) = false) (hb : (b == sysModules) = false)
    (hI : ∀ i s', I i s' → s'.heap.get? a = some oa ∧ s'.heap.get? b = some ob) (da : s.heap.DictOf knd a ka) (db : s.heap.DictOf knd b kb) (hl : ka.length = kb.length) (hu : A.units < cLine)
    (turn : ∀ i s' k v y, I i s' → ka[i]? = some (k, v) → valueAt kb k = some y → wpAny (model prog w) A.in1 (eqBool v y) (fun r s2 => r = true ∧ I (i + 1) s2) E s')
    (has : ∀ p ∈ ka, ∃ y, valueAt kb p.1 = some y) (h0 : I 0 s) (fin : ∀ s', I ka.length s' → Q (.bool true) s') : wpAny (model prog w) A (richCompare .Eq (.ref a) (.ref b)) Q E s := by
  refine wpAny_richCompare_same_room (op := .Eq) da.typeIs db.typeIs PySem.F.slot_dict_eq (wpAny_call_entry PySem.F.slot_dict_eq da.typeIs PySem.F.entry_dict_eq ?_ (PySem.F.args_dict_eq_2 _ _)) hu
  show wpAny _ _ (Builtin.Dict.dictSlotArgs "__eq__" ⟨[.ref a, .ref b], []⟩ >>= _) _ _ s
  refine wpAny_bind ?_
  unfold Builtin.Dict.dictSlotArgs
  refine wpAny_bind (wpAny_notOrdered_dict da.typeIs ?_)
  show wpAny _ _ (pure (Value.ref a, Value.ref b)) _ _ s
  refine wpAny_pure ?_
  refine wpAny_bind (wpAny_isInstance (T := "dict") db.typeIs PySem.F.sub_dict_dict ?_)
  simp only [Bool.not_true, Bool.false_eq_true, if_false]
  refine wpAny_bind (wpAny_pure (wpAny_bind (wpAny_pure ?_)))
  refine wpAny_bind (samePairsG ha hb hI da db hl turn has h0 fun s' hs => ?_)
  exact wpAny_pure ⟨_, rfl, (fun x => nomatch x), fin s' hs⟩
end
section
variable {X : Cx} {pins : List (Addr × Obj)} {σ : L2.St} {H : Hp} {s : Shared} {d : Addr}
/-- a dict locked, or locked already -/
theorem lockRd {kv : List (Key × V)} (I : Inv X pins σ H s) (h : Rd H d (.dK kv)) : ∃ od H1, Inv X pins σ H1 s ∧ H1 d = some (.frz od (.dK kv)) ∧ (∀ b, b ≠ d → H1 b = H b) ∧ (∀ G, Same G H → ∃ G1, Same G1 H1 ∧ Le G G1) ∧
    ∀ s' σ' H2, Inv X pins σ' H2 s' → Ext H1 H2 → ∃ H3, Inv X pins σ' H3 s' ∧ Ext H H3 := by
  rcases h with h | ⟨od, h⟩
  · obtain ⟨od, I1⟩ := I.lock h trivial
    have nf := I.nofrz h trivial
    refine ⟨od, _, I1, upd_same, fun b hb => upd_ne hb, fun G sg => ?_, fun s' σ' H2 I2 e => ⟨upd H2 d (.dK kv), I2.unlock (e _ _ upd_same) nf, fun b o q => ?_⟩⟩
    · cases hg : G d with
      | none => exact ⟨G, fun b o q => by rw [upd_ne (ne_of_none q hg)]; exact sg b o q, .refl G⟩
      | some u =>
        have hu : u = .dK kv := Option.some.inj ((sg _ _ hg).symm.trans h)
        subst hu
        exact ⟨upd G d (.frz od (.dK kv)), fun b o q => by
          by_cases z : b = d
          · subst z; rw [upd_same] at q ⊢; exact q
          · rw [upd_ne z] at q ⊢; exact sg b o q, le_lock hg⟩
    · by_cases z : b = d
      · subst z; rw [h] at q; cases q; exact upd_same
      · rw [upd_ne z]; exact e b o (by rw [upd_ne z]; exact q)
  · exact ⟨od, H, I, h, fun b _ => rfl, fun G sg => ⟨G, sg, .refl G⟩, fun s' σ' H2 I2 e => ⟨H2, I2, e⟩⟩
theorem paired_back {α β : Type} {F : α → β → Prop} : ∀ {l : List α} {r : List β}, Paired F l r → ∀ {i : Nat} {b : β}, r[i]? = some b → ∃ a, l[i]? = some a ∧ F a b
  | _, _, .nil, i, b, e => by simp at e
  | _, _, .cons h t, 0, b, e => by simp at e; subst e; exact ⟨_, rfl, h⟩
  | _, _, .cons h t, i + 1, b, e => by
    obtain ⟨a, h1, h2⟩ := paired_back t (i := i) (b := b) (by simpa using e)
    exact ⟨a, by simpa using h1, h2⟩
theorem AlD.at2 {G : Hp} {kv : List (Key × V)} {kp : List (Str × Pv)} (h : AlD G kv kp) (nd : (kp.map (·.1)).Nodup) {i : Nat} {k : Key} {v : V} (e : kv[i]? = some (k, v)) : ∃ s q, k = .inr s ∧ (s, q) ∈ kp ∧ q.r G v := by
  induction h generalizing i with
  | nil => simp at e
  | @cons k0 v0 p0 vs ps h1 t ih =>
    rw [List.map_cons, List.nodup_cons] at nd
    cases i with
    | zero => simp at e; obtain ⟨rfl, rfl⟩ := e; exact ⟨_, _, rfl, List.mem_cons_self, h1⟩
    | succ i =>
      obtain ⟨s, q, e1, e2, e3⟩ := ih nd.2 (i := i) (by simpa using e)
      exact ⟨s, q, e1, List.mem_cons_of_mem _ e2, e3⟩
end
section
variable {X : Cx} {n : Nat} {kp : List (Str × Pv)}
theorem rcP_dic (h : ∀ x ∈ kp, EqG X n (DP x.2)) (nd : (kp.map (·.1)).Nodup) : RcG X (n + 1) (DP (vDic kp)) := by
  intro A pins s σ H x y u v sb I rx ry d
  obtain ⟨G, sg, ⟨a, rfl, kv1, r1, l1⟩, ⟨b, rfl, kv2, r2, l2⟩⟩ := d
  cases rx
  cases ry
  obtain ⟨oa, H1, I1, f1, n1, g1, back1⟩ := lockRd I ((le_same sg).dk r1)
  obtain ⟨G1, sg1, le1⟩ := g1 G sg
  obtain ⟨ob, H2, I2, f2, n2, g2, back2⟩ := lockRd I1 ((le_same sg1).dk (le1.dk r2))
  obtain ⟨G2, sg2, le2⟩ := g2 G1 sg1
  have f1' : ∃ oa, H2 a = some (.frz oa (.dK kv1)) := by
    by_cases z : a = b
    · subst z
      rw [f1] at f1
      have := (le_same sg2).dk (le2.dk (le1.dk r1))
      rcases this with q | ⟨o, q⟩
      · rw [f2] at q; cases q
      · exact ⟨o, q⟩
    · exact ⟨oa, by rw [n2 a z]; exact f1⟩
  obtain ⟨oa, f1'⟩ := f1'
  have m1 := l1.mono (le1.trans le2)
  have m2 := l2.mono (le1.trans le2)
  obtain ⟨ha, hga, hxa, esa, epa, va, hda, hza, kva, hAa⟩ := I2.frzK f1'
  obtain ⟨hb, hgb, hxb, esb, epb, vb, hdb, hzb, kvb, hAb⟩ := I2.frzK f2
  have dka := I2.hok a _ f1'
  have dkb := I2.hok b _ f2
  obtain ⟨_, _, _, va, kva, da⟩ := dka
  obtain ⟨_, _, _, vb, kvb, db⟩ := dkb
  have lena : va.length = kp.length := by rw [← kva.length, m1.len]
  have lenb : vb.length = kp.length := by rw [← kvb.length, m2.len]
  have look : ∀ (i : Nat) (k : Key) (u : Value), va[i]? = some (k, u) → ∃ s q x, k = .inr s ∧ kp.lookup s = some q ∧ (s, q) ∈ kp ∧ q.r G2 x ∧ RelV x u := fun i k u e => by
    obtain ⟨⟨k', x⟩, hx, ek, rx⟩ := paired_back kva e
    have ek : k' = k := ek
    subst ek
    obtain ⟨s, q, e1, e2, e3⟩ := m1.at2 nd hx
    exact ⟨s, q, x, e1, look_of nd e2, e2, e3, rx⟩
  have val2 : ∀ s q, kp.lookup s = some q → ∃ y u, valueAt vb (.inr s) = some u ∧ q.r G2 y ∧ RelV y u := fun s q e => by
    obtain ⟨y, hy, ry⟩ := m2.look e
    obtain ⟨u, hu, ru⟩ := RelO.some_of (v := y) (o := valueAt vb (.inr s)) (by rw [← hy]; exact kvb.val _)
    exact ⟨y, u, hu, ry, ru⟩
  refine rc_dictG (knd := mixKind X.prog X.w) (I := fun _ s' => LoopI X pins σ H2 s') (oa := oa) (ob := ob) ha hb (fun i s' ⟨H', I', e⟩ => ?_) da db (by rw [lena, lenb]) sb.room.units0 (fun i s' k v y ⟨H', I', e⟩ hk hy => ?_) (fun p hp => ?_) ⟨H2, I2, Ext.rfl'⟩ fun s' ⟨H', I', e⟩ => ?_
  · exact ⟨(I'.frzK (e _ _ f1')).2.1, (I'.frzK (e _ _ f2)).2.1⟩
  · obtain ⟨st, q, x, rfl, e1, e2, e3, rx⟩ := look i k v hk
    obtain ⟨y', u', e4, e5, ry⟩ := val2 st q e1
    rw [hy] at e4; cases e4
    refine wpAny_mono (h _ e2 A.in1 pins s' σ H' x y' v y sb.in1 I' rx ry ⟨G2, sg2.trans e, e3, e5⟩) (fun r s2 z => ?_) fun _ _ z => z
    obtain ⟨hr, H3, I3, e6⟩ := z
    exact ⟨hr, H3, I3, e.trans e6⟩
  · obtain ⟨i, hi⟩ := List.getElem?_of_mem hp
    obtain ⟨st, q, x, e0, e1, _⟩ := look i p.1 p.2 hi
    obtain ⟨_, u', e4, _⟩ := val2 st q e1
    rw [e0]; exact ⟨u', e4⟩
  · obtain ⟨H3, I3, e3⟩ := back2 s' σ H' I' e
    obtain ⟨H4, I4, e4⟩ := back1 s' σ H3 I3 e3
    exact ⟨rfl, H4, I4, e4⟩
end
end K53
end KFx_
section NF_
set_option maxRecDepth 100000
set_option maxHeartbeats 4000000
/-! NF: own ==. -/
namespace K53
open PySem PySem.Spec PyProof.Rows L2
section
variable {P : Program} {w : World} {K : PySem.W.Frag} {mg : Str → Option Value} {base : Heap}
theorem md_Many_eq (T : Txt K mg) : Md P w K mg base (He.ga K "Many") "__eq__" 2 ["self", "other"] (spP (δ := Mn) (fun m => [vMany K m, vMany K m]) (fun _ => True) (fun _ => vBl true)) := by
  obtain ⟨g, fd, F⟩ := T.fn i_Many_eq d_Many_eq rfl
  refine ⟨_, fd, T.many.me "__eq__" (by simp), F.bindsN fun _ _ _ _ _ _ us hl => match us, hl with | [_, _], _ => rfl, ?_⟩
  have S : FnScope ["self", "other"] ["self", "other"] (defScope s_Many_eq) := ⟨rfl, rfl, rfl, by decide +kernel, rfl, by decide +kernel, by decide +kernel⟩
  refine fd_of (N := ["self", "other"]) F S (fun _ => rfl) (by decide) ?_
  intro cdv A outer s H E hr m G ok
  refine xss_iff (xt_nott (xt_val (xe_isi (b := true) (T.free "isinstance" rfl) (xv 1) (xe_gl (x := .ref (He.ga K "Many")) T.many.g rfl) (.own _) (isi_many T)))) ?_
  refine xss_one (xs_ret (xe_eqP (n := 1) (p := vTup [vInt (m.1 : Int), vInt (if m.2 = none then 1 else 0), vInt ((m.2.getD 0 : Nat) : Int)]) (rcP_tup (n := 0) fun q hq => ?_) hr (xe_slot (i := 2) (xv 0) rfl T.many.cl (T.many.sl ("own_place", 2) (by simp))) (xe_slot (i := 2) (xv 1) rfl T.many.cl (T.many.sl ("own_place", 2) (by simp)))) fun _ _ _ t r => ⟨t, r⟩)
  simp only [List.mem_cons, List.not_mem_nil, or_false] at hq
  rcases hq with rfl | rfl | rfl <;> exact eqP_int
theorem eqP_many {X : Cx} (T : Txt X.K X.mg) (m : Mn) : EqG X 2 (DP (vMany X.K m)) := (rcP_slt (md_Many_eq T) m rfl trivial).eqG refD_slt
theorem eqP_tie {X : Cx} (T : Txt X.K X.mg) (t : Tie) : EqG X 3 (DP (vTie X.K t)) := eqP_tup fun q hq => by
  simp only [List.mem_cons, List.not_mem_nil, or_false] at hq
  rcases hq with rfl | rfl | rfl | rfl
  · exact eqP_str
  · exact eqP_many T _
  · exact eqP_str
  · exact eqP_many T _
theorem rcP_ties {X : Cx} (T : Txt X.K X.mg) {ts : Ties} (nd : (ts.map (·.1)).Nodup) : RcG X 4 (DP (vDic (pTies X.K ts))) := rcP_dic (fun x hx => by
  obtain ⟨y, _, rfl⟩ := List.mem_map.mp hx
  exact eqP_tie T _) (by rw [pTies_keys]; exact nd)
theorem rcP_strs {X : Cx} {ss : List Str} : RcG X 1 (DP (vTup (ss.map fun s => vStr s))) := rcP_tup (n := 0) fun q hq => by
  obtain ⟨s, _, rfl⟩ := List.mem_map.mp hq
  exact eqP_str
theorem md_Model_eq (T : Txt K mg) : Md P w K mg base (He.ga K "Model") "__eq__" 5 ["self", "other"] (spP (δ := Web) (fun W => [vWeb K W, vWeb K W]) (fun W => (W.ts.map (·.1)).Nodup) (fun _ => vBl true)) := by
  obtain ⟨g, fd, F⟩ := T.fn i_Model_eq d_Model_eq rfl
  refine ⟨_, fd, T.model.me "__eq__" (by simp), F.bindsN fun _ _ _ _ _ _ us hl => match us, hl with | [_, _], _ => rfl, ?_⟩
  have S : FnScope ["self", "other"] ["self", "other"] (defScope s_Model_eq) := ⟨rfl, rfl, rfl, by decide +kernel, rfl, by decide +kernel, by decide +kernel⟩
  refine fd_of (N := ["self", "other"]) F S (fun _ => rfl) (by decide) ?_
  intro cdv A outer s H E hr W G ok
  refine xss_one (xs_ret (XE.is (xe_and (u := true) (w := true) (xe_isi (b := true) (T.free "isinstance" rfl) (xv 1) (xe_gl (x := .ref (He.ga K "Model")) T.model.g rfl) (.own _) (isi_web T)) (fun _ => xe_and (u := true) (w := true) (xe_eqP (p := vTup (W.ks.map fun s => vStr s)) rcP_strs (hr.mono (by decide)) (xe_fld (xv 0) vwI rfl T.model.cl (T.model.na "own_kinds" (by simp))) (xe_fld (xv 1) vwI rfl T.model.cl (T.model.na "own_kinds" (by simp)))) (fun _ => xe_one (xe_eqP (p := vDic (pTies K W.ts)) (rcP_ties (X := (cxOf CX0 P w K mg base _ _ _ _ cdv A outer s H E).nox) T ok) hr (xe_fld (xv 0) vwI rfl T.model.cl (T.model.na "own_links" (by simp))) (xe_fld (xv 1) vwI rfl T.model.cl (T.model.na "own_links" (by simp))))))) rfl) fun _ _ _ t r => ⟨t, r⟩)
theorem md_Sizes_eq (T : Txt K mg) : Md P w K mg base (He.ga K "Sizes") "__eq__" 2 ["self", "other"] (spP (δ := Cnt) (fun c => [vSizes K c, vSizes K c]) (CntOk) (fun _ => vBl true)) := by
  obtain ⟨g, fd, F⟩ := T.fn i_Sizes_eq d_Sizes_eq rfl
  refine ⟨_, fd, T.sizes.me "__eq__" (by simp), F.bindsN fun _ _ _ _ _ _ us hl => match us, hl with | [_, _], _ => rfl, ?_⟩
  have S : FnScope ["self", "other"] ["self", "other"] (defScope s_Sizes_eq) := ⟨rfl, rfl, rfl, by decide +kernel, rfl, by decide +kernel, by decide +kernel⟩
  refine fd_of (N := ["self", "other"]) F S (fun _ => rfl) (by decide) ?_
  intro cdv A outer s H E hr c G ok
  have ok : CntOk c := ok
  refine xss_one (xs_ret (XE.is (xe_and (u := true) (w := true) (xe_isi (b := true) (T.free "isinstance" rfl) (xv 1) (xe_gl (x := .ref (He.ga K "Sizes")) T.sizes.g rfl) (.own _) (isi_sizes T)) (fun _ => xe_one (xe_eqC (c := c) (d := c) hr (xe_fld (xv 0) vwI (q := vDic (pCnt c)) rfl T.sizes.cl (T.sizes.na "own_counts" (by simp))) (xe_fld (xv 1) vwI (q := vDic (pCnt c)) rfl T.sizes.cl (T.sizes.na "own_counts" (by simp))) rfl (fun x hx => look_of ok.nd hx)))) rfl) fun _ _ _ t r => ⟨t, r⟩)
theorem rcP_sizes {X : Cx} (T : Txt X.K X.mg) {c : Cnt} (ok : CntOk c) : RcG X 2 (DP (vSizes X.K c)) := rcP_ins (md_Sizes_eq T) c rfl ok
theorem eqP_sizes {X : Cx} (T : Txt X.K X.mg) {c : Cnt} (ok : CntOk c) : EqG X 2 (DP (vSizes X.K c)) := (rcP_sizes T ok).eqG refD_ins
theorem rcP_web {X : Cx} (T : Txt X.K X.mg) {W : Web} (nd : (W.ts.map (·.1)).Nodup) : RcG X 5 (DP (vWeb X.K W)) := rcP_ins (md_Model_eq T) W rfl nd
end
end K53
end NF_
section KFy_
set_option maxRecDepth 100000
set_option maxHeartbeats 4000000
/-! KFy: own exceptions whose __init__ says super().__init__(text) and keeps its arguments. -/
namespace PySem
namespace EmX
open PySem.W PySem.Calls PyProof.Rows PySem.HandSPX
structure ExT (prog : Program) (K : Frag) (mg : Str → Option Value) (C fI : Addr) (B i newId : String) (bmB : List Value) (qual : Str) (params : Arguments) (body : List Stmt) (scope : Scope) (fs : List Str) : Prop where
  ini : excInitIn K C bmB newId = true
  over : excOver K C bmB = true
  hd : hasDictIn K C = true
  sa : findIn K (.ref C) "__setattr__" = some (some (.builtin "object.__setattr__"))
  ga : findIn K (.ref C) "__getattribute__" = some (some (.builtin "BaseException.__getattribute__"))
  gg : findIn K (.ref C) "__getattr__" = some none
  no : ∀ f ∈ fs, findIn K (.ref C) f = some none
  iC : findIn K (.ref C) "__init__" = some (some (.ref fI))
  tI : typeIn K (.ref fI) = some (.type "function")
  kC : keepIn K (.ref C) = true
  exC : subIn K (.ref C) (.type "BaseException") = some true
  tyC : typeIn K (.ref C) = some (.type "type")
  sup : ks_superIn K C C "__init__" = some (some (.builtin i))
  subB : subIn K (.ref C) (.type B) = some true
  tp : nsIn K cStatics "thirdparty.any" = some none
  ms : mg "super" = none
  top : (prog.main.scope.names.lookup ("super" : Str)).isSome = false
  fn : ∃ (oc : Value) (od : Option Addr) (doc pm : Value) (an : Option Addr) (cda : Addr) (ct : Value) (cc : Addr) (osl : Array (Option Value)),
    K.lookup fI = some ⟨oc, od, .func (ksFn "__init__" qual params body scope .none .none doc pm an (.ref cda) ct cc), osl⟩ ∧ codeIn K (.ref cda) qual = true ∧
    (∃ (c1 : Value) (c2 : Option Addr) (vs : Array Value) (sl : Array (Option Value)) (file : Str) (tf : Tok), K.lookup cda = some ⟨c1, c2, .fields vs, sl⟩ ∧ vs[2]? = some (.str file tf) ∧ ((prog.main.file : Str) == file) = true) ∧
    ∃ (c1 : Value) (c2 : Option Addr) (sl : Array (Option Value)), K.lookup cc = some ⟨c1, c2, .cell (some (.ref C)), sl⟩
section
open Builtin Builtin.ObjectAttr
variable {prog : Program} {w : World} {A : Around} {E : Value → Shared → Prop} {R : Result → Shared → Prop} {hp : Heap} {g : Array GenState} {d : Drawn} {t : Nat} {os : OsState} {B : String} {bmB : List Value}
theorem osa_newX {K : W.Frag} {name : Str} {tk : Tok} {v : Value} {x C : Addr} {fv : Array Value} {cd : ClassData} (SF : StoreFacts B bmB "object.__setattr__" "object")
    (X : K.In hp) (hx : hp.get? x = some { cls := .ref C, data := .fields fv }) (hov : excOver K C bmB = true) (hcd : W.clsIn K C = some cd) (hh : cd.hasDict = true) (ha : W.findIn K (.ref C) name = some none)
    (hq : ∀ h' tk' dx, (∀ b o, b ≠ x → hp.get? b = some o → h'.get? b = some o) → hp.objs.size ≤ dx → dx ≠ x → h'.get? x = some { cls := .ref C, dict := some dx, data := .fields fv } →
      h'.Ns1 dx (fun y => if y = name then some v else none) → R (.ok (.ret .none)) ⟨h', g, d, tk', os⟩) :
    codeAny (model prog w) A (.call (.builtin "object.__setattr__") ⟨[.ref x, .str name tk, v], []⟩) R ⟨hp, g, d, t, os⟩ := by
  have I : W.InstAt hp x { cls := .ref C, data := .fields fv } C none := ⟨hx, rfl, rfl, trivial⟩
  have hxs : x ≠ hp.objs.size := Nat.ne_of_lt (Heap.lt_size hx)
  have ht : takerIn K C name = some none := by unfold takerIn; rw [ha]; rfl
  have hcls : W.Looks (model prog w) hp (classData C) cd := W.looks_clsIn X hcd
  refine osa_openX (s := ⟨hp, g, d, t, os⟩) SF X I hov ht (fun bb => ?_)
  dsimp only
  obtain ⟨nm, bs, mro, ns, qn, hd, sn, sb, ab, col, del⟩ := cd
  dsimp only at hh
  subst hh
  unfold storeInOwnDict ownDictForStores
  repeat (first | with_reducible refine store_in_new ?_ ?_ | with_reducible refine wpAny_loadPart_at hx ?_ | with_reducible refine hcls.at ?_ | wp_step)
  · exact ⟨_, #[], _, (Heap.get?_update_ne _ _ _ _ hxs.symm).trans (Heap.get?_push_at rfl rfl), rfl, fun e he => absurd he (by simp), fun _ => rfl⟩
  · intro h' tk' hn' hs
    have hx₁ : (hp.push { cls := .type "dict", data := .dict #[] }).get? x = some { cls := .ref C, data := .fields fv } := Heap.get?_push_of_some _ hx
    refine hq h' tk' hp.objs.size (fun b o hb ho => ?_) (Nat.le_refl _) hxs.symm ?_ hn'
    · exact (hs.2 b (Nat.ne_of_lt (Heap.lt_size ho))).trans ((Heap.get?_update_ne _ _ _ _ hb).trans (Heap.get?_push_of_some _ ho))
    · exact (hs.2 x hxs).trans (Heap.get?_update_self _ hx₁ rfl)
theorem store_in_old {M : Model} {dx : Addr} {name : Str} {tk : Tok} {v : Value} {m0 : Str → Option Value} {ns : List Str} {Q : Fin → Shared → Prop} (hn : hp.Ns1 dx m0) (hw : Within m0 ns) (hz : ns.length ≤ 1000)
    (hq : ∀ h' tk', h'.Ns1 dx (fun y => if y = name then some v else m0 y) → Heap.SameBut dx hp h' → Q (.done (.ret .none)) ⟨h', g, d, tk', os⟩) :
    wpAny M A (storeInDict dx (.str name tk) name v) Q E ⟨hp, g, d, t, os⟩ := by
  unfold storeInDict newKeyGuard
  refine wpAny_bind (wpAny_pure (wpAny_bind (wpAny_nsSet1 hn fun h' hn' hs => ?_)))
  obtain ⟨oD, esD, epD, hoD, hdD, hcD⟩ := hn'.count (Within.cons name v hw)
  refine wpAny_bind (wpAny_lookBehind hoD (by rw [hdD]; exact pastItsLine_dict (Nat.le_trans hcD (by rw [List.length_cons, sizeLine_eq]; omega))) ?_)
  wp_walk
  exact hq h' _ hn' hs
theorem osa_oldX {K : W.Frag} {name : Str} {tk : Tok} {v : Value} {x C dx : Addr} {fv : Array Value} {cd : ClassData} {m0 : Str → Option Value} {nl : List Str} (SF : StoreFacts B bmB "object.__setattr__" "object")
    (X : K.In hp) (hx : hp.get? x = some { cls := .ref C, dict := some dx, data := .fields fv }) (hns : hp.Ns1 dx m0) (hw : Within m0 nl) (hz : nl.length ≤ 1000) (hov : excOver K C bmB = true) (hcd : W.clsIn K C = some cd) (hh : cd.hasDict = true)
    (ha : W.findIn K (.ref C) name = some none)
    (hq : ∀ h' tk', (∀ b o, b ≠ dx → hp.get? b = some o → h'.get? b = some o) → h'.Ns1 dx (fun y => if y = name then some v else m0 y) → R (.ok (.ret .none)) ⟨h', g, d, tk', os⟩) :
    codeAny (model prog w) A (.call (.builtin "object.__setattr__") ⟨[.ref x, .str name tk, v], []⟩) R ⟨hp, g, d, t, os⟩ := by
  obtain ⟨oD, esD, epD, hoD, hdD, _⟩ := hns.count hw
  have I : W.InstAt hp x { cls := .ref C, dict := some dx, data := .fields fv } C (some oD) := ⟨hx, rfl, rfl, hoD⟩
  have ht : takerIn K C name = some none := by unfold takerIn; rw [ha]; rfl
  have hcls : W.Looks (model prog w) hp (classData C) cd := W.looks_clsIn X hcd
  refine osa_openX (s := ⟨hp, g, d, t, os⟩) SF X I hov ht (fun bb => ?_)
  dsimp only
  obtain ⟨nm, bs, mro, ns, qn, hd, sn, sb, ab, col, del⟩ := cd
  dsimp only at hh
  subst hh
  unfold storeInOwnDict ownDictForStores
  repeat (first | with_reducible refine store_in_old hns hw hz ?_ | with_reducible refine wpAny_loadPart_at hx ?_ | with_reducible refine hcls.at ?_ | wp_step)
  intro h' tk' hn' hs
  exact hq h' tk' (fun b o hb ho => (hs.2 b hb).trans ho) hn'
end
section
variable {prog : Program} {w : World} {A : Around} {E : Value → Shared → Prop} {h : Heap} {g : Array GenState} {d : Drawn} {t : Nat} {os : OsState} {B i newId : String} {bmB : List Value}
/-- the bound built-in __init__ called -/
theorem call_mw {K : Frag} {u e C t0 : Addr} {rest : List Value} {Q : Value → Shared → Prop} (FB : ExcBaseFacts B newId i bmB) (X : K.In h) (q : excInitIn K C bmB newId = true) (he : h.get? e = some (excO C t0)) (hu : h.get? u = some (kxs_mw i e)) (hrest : rest.length ≤ sizeLine)
    (hq : ∀ h' t1, (∀ b o, b ≠ e → h.get? b = some o → h'.get? b = some o) → h'.get? e = some (excO C t1) → Q .none ⟨h', g, d, t, os⟩) :
    wpAny (model prog w) A (call (.ref u) rest) Q E ⟨h, g, d, t, os⟩ := by
  obtain ⟨nm, N', qn, bs, bm, hdct, sn, sub, ab, col, dd, k0, k1, k2, k3, k5, hC, hT⟩ := excInit_of X q
  refine wpAny_call (codeAny_of_tree ?_)
  show wpAny _ A.in1 (callAny (.ref u) ⟨rest, []⟩) _ _ _
  simp only [callAny]
  refine wpAny_bind (wpAny_load hu ?_)
  simp only [kxs_mw, show (Value.type "method-wrapper" == Value.type "method" || Value.type "method-wrapper" == Value.type "builtin_function_or_method" || Value.type "method-wrapper" == Value.type "method-wrapper") = true by decide, if_true]
  refine KFB.if_so (by decide) ?_
  refine wpAny_bind (check_bound_init FB.toExcCallFacts hC he rfl ?_)
  refine wpAny_bind (wpAny_pure (wpAny_pure ?_))
  refine ⟨plainId_quiet FB.init.plain _, codeAny_builtin FB.initEntry ?_⟩
  exact exc_init_tree (cls := .ref C) (t0 := t0) (dv := none) (c2 := .none) (c3 := .none) (b4 := .bool false) he hrest fun h' k e' _ => hq h' _ k e'
theorem kxs_plain {M : Model} {s : Shared} {u x : Addr} {pos : Pos} {env : Env} {e : Expr} {rest : List Expr} {Q : Value → Shared → Prop}
    (h : wpAny M A (spliced (backTo pos (starEach (e :: rest) env))) (fun vs s₁ => KxsAt i u x s₁.heap ∧ wpAny M A (call (.ref u) vs) Q E s₁) E s)
    (he : starEach (e :: rest) env = (false, eval e env) :: starEach rest env := by rfl) (hplain : (backTo pos (starEach rest env)).any (·.1) = false := by rfl) :
    wpAny M A (callWith pos (.ref u) [] (backTo pos (starEach (e :: rest) env)) []) Q E s := by
  rw [he] at h ⊢
  refine kxs_callWith (i := i) (x := x) (by show (false || (backTo pos (starEach rest env)).any (·.1)) = false; rw [hplain]; rfl) ?_
  exact evalArgs_plain h
end
section
variable {prog : Program} {w : World} {A : Around} {E : Value → Shared → Prop} {h base : Heap} {g : Array GenState} {d : Drawn} {t : Nat} {os : OsState} {B i newId : String} {bmB : List Value} {K : Frag} {mg : Str → Option Value} {C fI : Addr}
  {qual : Str} {params : Arguments} {body : List Stmt} {scope : Scope} {fs : List Str}
theorem cls_of (q : excOver K C bmB = true) : ∃ cd, clsIn K C = some cd ∧ mroIn K C (.ref C) = some true := by
  obtain ⟨cd, hc, ho⟩ := any_some q
  refine ⟨cd, hc, ?_⟩
  (try dsimp only at ho)
  unfold mroIn
  rw [hc, Option.bind_some]
  split at ho
  · rename_i C' bm hm
    rw [Bool.and_eq_true, beq_iff_eq] at ho
    obtain ⟨rfl, _⟩ := ho
    rw [hm]
    simp
  · cases ho
/-- super().__init__(text) -/
theorem ex_super {L x t0 cda cc : Addr} {oc : Value} {od : Option Addr} {doc pm ct : Value} {an : Option Addr} {osl : Array (Option Value)} {m : Str → Option Value} {msg : Str} {j : Nat} {p0 p1 p2 p3 p4 p5 : Pos} {ar : Arg} {Q : Flow → Shared → Prop}
    (T : ExT prog K mg C fI B i newId bmB qual params body scope fs) (KF : KxsFacts B i) (FB : ExcBaseFacts B newId i bmB) (M : L2.Mod K mg base) (kb : ∀ b o, base.get? b = some o → h.get? b = some o)
    (hfn : K.lookup fI = some ⟨oc, od, .func (ksFn "__init__" qual params body scope .none .none doc pm an (.ref cda) ct cc), osl⟩)
    (hcode : ∃ (c1 : Value) (c2 : Option Addr) (vs : Array Value) (sl : Array (Option Value)) (file : Str) (tf : Tok), K.lookup cda = some ⟨c1, c2, .fields vs, sl⟩ ∧ vs[2]? = some (.str file tf) ∧ ((prog.main.file : Str) == file) = true)
    (hcell : ∃ (c1 : Value) (c2 : Option Addr) (sl : Array (Option Value)), K.lookup cc = some ⟨c1, c2, .cell (some (.ref C)), sl⟩)
    (hn : h.Ns L m) (hp : (params.posonlyargs ++ params.args).head? = some ar) (hv : m ar.arg = some (.ref x)) (hx : h.get? x = some (excO C t0))
    (hks : scope.names.lookup ("super" : Str) = some .globalImplicit) (hkc : scope.names.lookup ("__class__" : Str) = some .free) (hka : scope.names.lookup ar.arg = some .local) (hk : scope.kind = .function)
    (hq : ∀ h' tk t1, (∀ b o, b ≠ x → h.get? b = some o → h'.get? b = some o) → h'.get? x = some (excO C t1) → Q .next ⟨h', g, d, tk, os⟩)
    (hmc : ∃ pl : Sem Bool, ∀ (s : Shared) (Q : Value → Shared → Prop),
      wpAt (model prog w) A (.func body (ksEnv qual scope L fI (.ref cda) cc)) (attributeBase (.Call (.Name "super" p0) [] [] p1) "__init__" (ksEnv qual scope L fI (.ref cda) cc) (eval (.Call (.Name "super" p0) [] [] p1) (ksEnv qual scope L fI (.ref cda) cc)))
        (fun ov s₁ => wpAny (model prog w) A (getMethod ov "__init__" pl) (fun fx s₂ => wpAny (model prog w) A (callWith p4 fx.1 fx.2 (backTo p4 (starEach [.Constant (.str msg) j p3] (ksEnv qual scope L fI (.ref cda) cc))) []) Q E s₂) E s₁) E s →
      wpAt (model prog w) A (.func body (ksEnv qual scope L fI (.ref cda) cc)) (eval (.Call (.Attribute (.Call (.Name "super" p0) [] [] p1) "__init__" p2) [.Constant (.str msg) j p3] [] p4) (ksEnv qual scope L fI (.ref cda) cc)) Q E s)
    (hin : interactive (ksEnv qual scope L fI (.ref cda) cc) = false := by rfl)
    (hsw : swapsWith (.Call (.Attribute (.Call (.Name "super" p0) [] [] p1) "__init__" p2) [.Constant (.str msg) j p3] [] p4) none p5.line (ksEnv qual scope L fI (.ref cda) cc) = pure false := by rfl) :
    wpAt (model prog w) A (.func body (ksEnv qual scope L fI (.ref cda) cc)) (exec (.Expr (.Call (.Attribute (.Call (.Name "super" p0) [] [] p1) "__init__" p2) [.Constant (.str msg) j p3] [] p4) p5) (ksEnv qual scope L fI (.ref cda) cc)) Q E ⟨h, g, d, t, os⟩ := by
  obtain ⟨pl, hmc⟩ := hmc
  have X : K.In h := M.kin.keeps kb
  obtain ⟨c1, c2, vs, sl, file, tf, hcode, hvs, hfile⟩ := hcode
  obtain ⟨d1, d2, sl2, hcell⟩ := hcell
  obtain ⟨cd, hcd, hmro⟩ := cls_of T.over
  obtain ⟨mb, hb1, hb2⟩ := M.blt
  obtain ⟨oD, hD1, hD2⟩ : ∃ oD, h.get? C = some oD ∧ oD.data = .cls cd := by
    unfold clsIn at hcd
    split at hcd
    · rename_i c d cd' sl ho
      cases hcd
      exact ⟨_, X _ _ ho, rfl⟩
    · cases hcd
  have I : InstAt h x (excO C t0) C none := ⟨hx, rfl, rfl, trivial⟩
  refine ks_wpAt_Expr_any (hmc _ _ ?_) hin hsw
  refine ks_wpAt_super_base (env := ksEnv qual scope L fI (.ref cda) cc) hks hkc (by decide) rfl (X _ _ hfn) rfl hp rfl (X _ _ hcode) rfl hvs hfile T.top ?_
  refine ks_loadName_global hk hks (loadGlobal_builtin (env := ksEnv qual scope L fI (.ref cda) cc) (M.glob.keeps kb) T.ms (hb1.keeps kb) ((hb2 _ (by decide)).trans PyProof.Rows.Boot.«super») ⟨rfl, ?_⟩)
  refine wpAny_loadName_free hk hkc rfl ⟨_, X _ _ hcell, rfl⟩ ?_
  refine wpAny_loadName_local hk hka hn hv ?_
  refine ks_wpAny_isType_cls hD1 hD2 ⟨rfl, ?_⟩
  refine ks_wpAny_call_super hD1 hD2 hx rfl (fun c e => by cases e) (looks_mroIn X hmro) (fun h1 e1 k1 => ?_)
  have X1 : K.In h1 := X.keeps k1
  have hx1 := k1 _ _ hx
  have I1 : InstAt h1 x (excO C t0) C none := ⟨hx1, rfl, rfl, trivial⟩
  have hsup : alongIn K "__init__" ((cd.mro.dropWhile (· != .ref C)).drop 1) = some (some (.builtin i)) := by
    have := T.sup
    unfold ks_superIn at this
    rw [hcd] at this
    exact this
  refine kxs_getMethod KF e1 (looks_opaque X1 T.tp) (l₀ := cd.mro) (fun A Q E s k q => wpAny_bind ((looks_clsIn X1 hcd) A _ E s k (wpAny_pure q))) rfl X1 hsup (I1.type.andThen (looks_subIn X1 T.subB)) (ks_ne X1 I1 hcd) (by decide) ?_
  have hu : (h1.push (kxs_mw i x)).get? h1.objs.size = some (kxs_mw i x) := Heap.get?_push_at rfl rfl
  have k2 : ∀ b o, h1.get? b = some o → (h1.push (kxs_mw i x)).get? b = some o := fun b o e => Heap.get?_push_of_some _ e
  refine kxs_plain (i := i) (x := x) ?_
  show wpAny _ _ (spliced ((false, eval (.Constant (.str msg) j p3) _) :: backTo p4 (starEach [] _))) _ _ _
  refine spliced_cons (Constant_str (spliced_nil ⟨hu, ?_⟩))
  refine call_mw FB (X1.keeps k2) T.ini (k2 _ _ hx1) hu (by rw [sizeLine_eq]; exact (by decide : 1 ≤ 16777216)) fun h' t1 k3 e3 => ?_
  exact hq h' _ t1 (fun b o hb ho => k3 b o hb (k2 b o (k1 b o ho))) e3
end
end EmX
end PySem
end KFy_
section KFz_
set_option maxRecDepth 100000
set_option maxHeartbeats 4000000
/-! KFz: own exceptions made: their __init__ as a whole. -/
namespace PySem
namespace EmX
open PySem.W PySem.Calls PyProof.Rows PySem.HandSPX
def pA (n : String) (p : Pos) : Arg := { arg := n, annotation := none, pos := p }
def exA (ps : List Arg) : Arguments := { posonlyargs := [], args := ps, vararg := none, kwonlyargs := [], kw_defaults := [], kwarg := none, defaults := [] }
def exE (msg : Str) (j : Nat) (p0 p1 p2 p3 p4 p5 : Pos) : Stmt := .Expr (.Call (.Attribute (.Call (.Name "super" p0) [] [] p1) "__init__" p2) [.Constant (.str msg) j p3] [] p4) p5
def exF (f : Str) (q1 q2 q3 q4 : Pos) : Stmt := .Assign [.Attribute (.Name "self" q1) f q2] (.Name f q3) q4
def exS (ns : List (Str × NameKind)) : Scope := { kind := .function, names := ns, isGenerator := false, isCoroutine := false, more := [] }
def sc1 : List (Str × NameKind) := [("self", .local), ("paper", .local), ("__class__", .free), ("super", .globalImplicit)]
def sc2 : List (Str × NameKind) := [("self", .local), ("kind", .local), ("paper", .local), ("__class__", .free), ("super", .globalImplicit)]
theorem sc1_cell : ∀ x ∈ (exS sc1).names, x.2 ≠ .cell := by decide
theorem sc2_cell : ∀ x ∈ (exS sc2).names, x.2 ≠ .cell := by decide
/-- what __init__ leaves of a fresh exception at x -/
structure InitE (h h' : Heap) (x C dx t1 : Addr) (m : Str → Option Value) : Prop where
  keep : ∀ b o, b ≠ x → h.get? b = some o → h'.get? b = some o
  obj : h'.get? x = some { cls := .ref C, dict := some dx, data := .fields #[.ref t1, .none, .none, .none, .bool false, .none] }
  dbig : h.objs.size ≤ dx
  dne : dx ≠ x
  ns : h'.Ns1 dx m
/-- super().__init__(text) is a method call -/
def McEq (prog : Program) (qual : Str) (scope : Scope) (fI : Addr) (msg : Str) (j : Nat) (p0 p1 p2 p3 p4 : Pos) : Prop := ∀ (L cda cc : Addr), ∃ pl : Sem Bool, eval (.Call (.Attribute (.Call (.Name "super" p0) [] [] p1) "__init__" p2) [.Constant (.str msg) j p3] [] p4) (ksEnv qual scope L fI (.ref cda) cc) = (do
      let ov ← attributeBase (.Call (.Name "super" p0) [] [] p1) "__init__" (ksEnv qual scope L fI (.ref cda) cc) (eval (.Call (.Name "super" p0) [] [] p1) (ksEnv qual scope L fI (.ref cda) cc))
      standAt p2.atName
      let (f, first) ← holding [ov] (getMethod ov "__init__" pl)
      callWith p4 f first (backTo p4 (starEach [.Constant (.str msg) j p3] (ksEnv qual scope L fI (.ref cda) cc))) [])
theorem ldK {M : Model} {A : Around} {E : Value → Shared → Prop} {s : Shared} {qual : Str} {scope : Scope} {L a : Addr} {cd : Value} {cc : Addr} {m : Str → Option Value} {x : Str} {pos : Pos} {v : Value} {Q : Value → Shared → Prop} (hn : s.heap.Ns L m) (hv : m x = some v) (h : Q v s)
    (hk : scope.kind = .function := by rfl) (hl : (ksEnv qual scope L a cd cc).kindOf x = some .local := by rfl) (hd : (x == ("__debug__" : Str)) = false := by decide) : wpAny M A (eval (.Name x pos) (ksEnv qual scope L a cd cc)) Q E s := wpAny_Name (wpAny_loadName_local hk hl hn hv h) hd
theorem ns_at {h h' : Heap} {L : Addr} {m : Str → Option Value} (hn : h.Ns L m) (k : ∀ o, h.get? L = some o → h'.get? L = some o) : h'.Ns L m := by
  obtain ⟨o, es, ep, e, r⟩ := hn
  exact ⟨o, es, ep, k _ e, r⟩
theorem small1 (vs : List Value) (h : vs.length ≤ 2) : vs.length ≤ sizeLine := by rw [sizeLine_eq]; omega
section
variable {prog : Program} {w : World} {A : Around} {R : Result → Shared → Prop} {s : Shared} {base : Heap} {B i newId : String} {bmB : List Value} {K : Frag} {mg : Str → Option Value} {C fI : Addr} {qual : Str}
theorem ex_init1 {msg : Str} {j : Nat} {a1 a2 p0 p1 p2 p3 p4 p5 q1 q2 q3 q4 : Pos} (T : ExT prog K mg C fI B i newId bmB qual (exA [pA "self" a1, pA "paper" a2]) [exE msg j p0 p1 p2 p3 p4 p5, exF "paper" q1 q2 q3 q4] (exS sc1) ["paper"])
    (SF : StoreFacts B bmB "object.__setattr__" "object") (KF : KxsFacts B i) (FB : ExcBaseFacts B newId i bmB) (M : L2.Mod K mg base) (kb : ∀ b o, base.get? b = some o → s.heap.get? b = some o) {x t0 : Addr} {v : Value} (hx : s.heap.get? x = some (excO C t0)) (hx0 : base.get? x = none) (hroom : A.depth < recursionLimit) (hmc : McEq prog qual (exS sc1) fI msg j p0 p1 p2 p3 p4) (hsw : ∀ L cda cc : Addr, swapsWith (.Call (.Attribute (.Call (.Name "super" p0) [] [] p1) "__init__" p2) [.Constant (.str msg) j p3] [] p4) none p5.line (ksEnv qual (exS sc1) L fI (.ref cda) cc) = pure false)
    (hq : ∀ h' tk dx t1, InitE s.heap h' x C dx t1 (fun y => if y = "paper" then some v else none) → R (.ok (.ret .none)) { s with heap := h', toks := tk }) :
    codeAny (model prog w) A (.call (.ref fI) ⟨[.ref x, v], []⟩) R s := by
  obtain ⟨oc, od, doc, pm, an, cda, ct, cc, osl, hfn, hcd, hcode, hcell⟩ := T.fn
  obtain ⟨cd, hcl, _⟩ := cls_of T.over
  have hdct : cd.hasDict = true := by
    have := T.hd
    unfold hasDictIn at this
    rw [hcl] at this
    exact this
  have X : K.In s.heap := M.kin.keeps kb
  refine ks_codeAny_call_defAt (fd := ksFn "__init__" qual (exA [pA "self" a1, pA "paper" a2]) [exE msg j p0 p1 p2 p3 p4 p5, exF "paper" q1 q2 q3 q4] (exS sc1) .none .none doc pm an (.ref cda) ct cc) (body := [exE msg j p0 p1 p2 p3 p4 p5, exF "paper" q1 q2 q3 q4]) (binds := [("self", .ref x), ("paper", v)])
    hroom (X _ _ hfn) rfl (M.nolimit.keeps kb) (codeRec_of X hcd) rfl (BindsTo.of_eq (by first | rfl | with_unfolding_all rfl)) sc1_cell (fun y hy => by simp only [List.mem_cons, List.not_mem_nil, or_false] at hy; rcases hy with rfl | rfl <;> rfl) (fun h₁ hns k₁ => ?_)
  obtain ⟨hp, g, d, t, os⟩ := s
  obtain ⟨pl, hmc⟩ := hmc hp.objs.size cda cc
  have hsw := hsw hp.objs.size cda cc
  have kb₁ : ∀ b o, base.get? b = some o → h₁.get? b = some o := fun b o e => k₁ b o (kb b o e)
  have hxL : hp.objs.size ≠ x := Nat.ne_of_gt (Heap.lt_size hx)
  refine ks_wpAt_execs_cons (ex_super (j := j) T KF FB M kb₁ hfn hcode hcell hns rfl rfl (k₁ _ _ hx) rfl rfl rfl rfl (fun h₂ tk₂ t1 k₂ hx₂ => ?_) ⟨_, fun s Q h => ks_wpAt_MethodCall h hmc⟩ rfl hsw)
  show wpAt _ _ _ (execs _ _) _ _ _
  refine wpAt_of_wpAny ?_
  have hns₂ := ns_at hns fun o e => k₂ _ o hxL e
  have kb₂ : ∀ b o, base.get? b = some o → h₂.get? b = some o := fun b o e => k₂ b o (fun z => by rw [z, hx0] at e; cases e) (kb₁ b o e)
  have X₂ : K.In h₂ := M.kin.keeps kb₂
  refine wpAny_execs_cons (plainObj_wpAny_Assign_Attribute (ldK hns₂ rfl (ldK hns₂ rfl ?_)))
  refine set_plain X₂ (ox := excO C t1) (od := none) ⟨hx₂, rfl, rfl, trivial⟩ T.sa ?_
  refine osa_newX SF X₂ hx₂ T.over hcl hdct (T.no "paper" (by simp)) (fun h₃ tk₃ dx k₃ dn dne hx₃ hn₃ => ?_)
  show wpAny _ _ (execs _ _) _ _ _
  have sz : hp.objs.size < h₂.objs.size := hns₂.lt
  exact wpAny_execs_nil (hq h₃ tk₃ dx t1 ⟨fun b o hb e => k₃ b o hb (k₂ b o hb (k₁ b o e)), hx₃, Nat.le_of_lt (Nat.lt_of_lt_of_le sz dn), dne, hn₃⟩)
theorem ex_init2 {msg : Str} {j : Nat} {a1 a2 a3 p0 p1 p2 p3 p4 p5 q1 q2 q3 q4 r1 r2 r3 r4 : Pos} (T : ExT prog K mg C fI B i newId bmB qual (exA [pA "self" a1, pA "kind" a2, pA "paper" a3]) [exE msg j p0 p1 p2 p3 p4 p5, exF "kind" q1 q2 q3 q4, exF "paper" r1 r2 r3 r4] (exS sc2) ["kind", "paper"])
    (SF : StoreFacts B bmB "object.__setattr__" "object") (KF : KxsFacts B i) (FB : ExcBaseFacts B newId i bmB) (M : L2.Mod K mg base) (kb : ∀ b o, base.get? b = some o → s.heap.get? b = some o) {x t0 : Addr} {u v : Value} (hx : s.heap.get? x = some (excO C t0)) (hx0 : base.get? x = none) (hroom : A.depth < recursionLimit) (hmc : McEq prog qual (exS sc2) fI msg j p0 p1 p2 p3 p4) (hsw : ∀ L cda cc : Addr, swapsWith (.Call (.Attribute (.Call (.Name "super" p0) [] [] p1) "__init__" p2) [.Constant (.str msg) j p3] [] p4) none p5.line (ksEnv qual (exS sc2) L fI (.ref cda) cc) = pure false)
    (hq : ∀ h' tk dx t1, InitE s.heap h' x C dx t1 (fun y => if y = "paper" then some v else if y = "kind" then some u else none) → R (.ok (.ret .none)) { s with heap := h', toks := tk }) :
    codeAny (model prog w) A (.call (.ref fI) ⟨[.ref x, u, v], []⟩) R s := by
  obtain ⟨oc, od, doc, pm, an, cda, ct, cc, osl, hfn, hcd, hcode, hcell⟩ := T.fn
  obtain ⟨cd, hcl, _⟩ := cls_of T.over
  have hdct : cd.hasDict = true := by
    have := T.hd
    unfold hasDictIn at this
    rw [hcl] at this
    exact this
  have X : K.In s.heap := M.kin.keeps kb
  refine ks_codeAny_call_defAt (fd := ksFn "__init__" qual (exA [pA "self" a1, pA "kind" a2, pA "paper" a3]) [exE msg j p0 p1 p2 p3 p4 p5, exF "kind" q1 q2 q3 q4, exF "paper" r1 r2 r3 r4] (exS sc2) .none .none doc pm an (.ref cda) ct cc) (body := [exE msg j p0 p1 p2 p3 p4 p5, exF "kind" q1 q2 q3 q4, exF "paper" r1 r2 r3 r4]) (binds := [("self", .ref x), ("kind", u), ("paper", v)])
    hroom (X _ _ hfn) rfl (M.nolimit.keeps kb) (codeRec_of X hcd) rfl (BindsTo.of_eq (by first | rfl | with_unfolding_all rfl)) sc2_cell (fun y hy => by simp only [List.mem_cons, List.not_mem_nil, or_false] at hy; rcases hy with rfl | rfl | rfl <;> rfl) (fun h₁ hns k₁ => ?_)
  obtain ⟨hp, g, d, t, os⟩ := s
  obtain ⟨pl, hmc⟩ := hmc hp.objs.size cda cc
  have hsw := hsw hp.objs.size cda cc
  have kb₁ : ∀ b o, base.get? b = some o → h₁.get? b = some o := fun b o e => k₁ b o (kb b o e)
  have hxL : hp.objs.size ≠ x := Nat.ne_of_gt (Heap.lt_size hx)
  refine ks_wpAt_execs_cons (ex_super (j := j) T KF FB M kb₁ hfn hcode hcell hns rfl rfl (k₁ _ _ hx) rfl rfl rfl rfl (fun h₂ tk₂ t1 k₂ hx₂ => ?_) ⟨_, fun s Q h => ks_wpAt_MethodCall h hmc⟩ rfl hsw)
  show wpAt _ _ _ (execs _ _) _ _ _
  refine wpAt_of_wpAny ?_
  have hns₂ := ns_at hns fun o e => k₂ _ o hxL e
  have kb₂ : ∀ b o, base.get? b = some o → h₂.get? b = some o := fun b o e => k₂ b o (fun z => by rw [z, hx0] at e; cases e) (kb₁ b o e)
  have X₂ : K.In h₂ := M.kin.keeps kb₂
  refine wpAny_execs_cons (plainObj_wpAny_Assign_Attribute (ldK hns₂ rfl (ldK hns₂ rfl ?_)))
  refine set_plain X₂ (ox := excO C t1) (od := none) ⟨hx₂, rfl, rfl, trivial⟩ T.sa ?_
  refine osa_newX SF X₂ hx₂ T.over hcl hdct (T.no "kind" (by simp)) (fun h₃ tk₃ dx k₃ dn dne hx₃ hn₃ => ?_)
  show wpAny _ _ (execs _ _) _ _ _
  have sz : hp.objs.size < h₂.objs.size := hns₂.lt
  have hns₃ := ns_at hns₂ fun o e => k₃ _ o hxL e
  have kb₃ : ∀ b o, base.get? b = some o → h₃.get? b = some o := fun b o e => k₃ b o (fun z => by rw [z, hx0] at e; cases e) (kb₂ b o e)
  have X₃ : K.In h₃ := M.kin.keeps kb₃
  refine wpAny_execs_cons (plainObj_wpAny_Assign_Attribute (ldK hns₃ rfl (ldK hns₃ rfl ?_)))
  obtain ⟨oD, esD, epD, hoD, _⟩ := id hn₃
  refine set_plain X₃ (ox := { cls := .ref C, dict := some dx, data := .fields #[.ref t1, .none, .none, .none, .bool false, .none] }) (od := some oD) ⟨hx₃, rfl, rfl, hoD⟩ T.sa ?_
  refine osa_oldX (nl := ["kind"]) SF X₃ hx₃ hn₃ (fun y hy => ?_) (by decide) T.over hcl hdct (T.no "paper" (by simp)) (fun h₄ tk₄ k₄ hn₄ => ?_)
  · by_cases e : y = "kind"
    · rw [e]; exact List.mem_singleton.mpr rfl
    · exact absurd (if_neg e) hy
  show wpAny _ _ (execs _ _) _ _ _
  have bd : ∀ b o, h₂.get? b = some o → b ≠ dx := fun b o e => Nat.ne_of_lt (Nat.lt_of_lt_of_le (Heap.lt_size e) dn)
  exact wpAny_execs_nil (hq h₄ tk₄ dx t1 ⟨fun b o hb e => by
    have e2 := k₂ b o hb (k₁ b o e)
    exact k₄ b o (bd b o e2) (k₃ b o hb e2), k₄ _ _ (Ne.symm dne) hx₃, Nat.le_of_lt (Nat.lt_of_lt_of_le sz dn), dne, hn₄⟩)
/-- a made one -/
structure MadeE (h h' : Heap) (e C d t1 : Addr) (m : Str → Option Value) : Prop where
  keep : ∀ b o, h.get? b = some o → h'.get? b = some o
  new : h.objs.size ≤ e
  obj : h'.get? e = some { cls := .ref C, dict := some d, data := .fields #[.ref t1, .none, .none, .none, .bool false, .none] }
  dbig : h.objs.size ≤ d
  dne : d ≠ e
  ns : h'.Ns1 d m
theorem ex_made {params : Arguments} {body : List Stmt} {scope : Scope} {fs : List Str} {vs : List Value} {m : Str → Option Value} (T : ExT prog K mg C fI B i newId bmB qual params body scope fs) (FB : ExcBaseFacts B newId i bmB) (M : L2.Mod K mg base) (kb : ∀ b o, base.get? b = some o → s.heap.get? b = some o) (hroom : A.depth + 1 < recursionLimit) (hvs : vs.length ≤ 2)
    (hin : ∀ (A : Around) (R : Result → Shared → Prop) (s1 : Shared) (x t0 : Addr), (∀ b o, base.get? b = some o → s1.heap.get? b = some o) → s1.heap.get? x = some (excO C t0) → base.get? x = none → A.depth < recursionLimit →
      (∀ h' tk dx t1, InitE s1.heap h' x C dx t1 m → R (.ok (.ret .none)) { s1 with heap := h', toks := tk }) → codeAny (model prog w) A (.call (.ref fI) ⟨.ref x :: vs, []⟩) R s1)
    (hq : ∀ h' tk e d t1, MadeE s.heap h' e C d t1 m → R (.ok (.ret (.ref e))) { s with heap := h', toks := tk }) :
    codeAny (model prog w) A (.call (.ref C) ⟨vs, []⟩) R s := by
  obtain ⟨hp, g, dr, tk, os⟩ := s
  have X : K.In hp := M.kin.keeps kb
  obtain ⟨nm, N, qn, bs, bm, hdct, sn, sub, ab, col, dd, k0, k1, k2, k3, k5, hC, hT⟩ := excInit_of X T.ini
  have k : ∀ b o, hp.get? b = some o → ((hp.push (kdv_tup vs)).push (excO C hp.objs.size)).get? b = some o := fun b o e => Heap.get?_push_of_some _ (Heap.get?_push_of_some _ e)
  have hget : ((hp.push (kdv_tup vs)).push (excO C hp.objs.size)).get? (hp.objs.size + 1) = some (excO C hp.objs.size) := by heap_get
  refine call_own FB hT hC (looks_findIn X T.iC) (fun self => bind_fn X self T.tI) (small1 vs hvs) ?_
  refine hin _ _ ⟨(hp.push (kdv_tup vs)).push (excO C hp.objs.size), g, dr, tk, os⟩ (hp.objs.size + 1) hp.objs.size (fun b o e => k b o (kb b o e)) hget ?_ ?_ fun h' tk' dx t1 I => ?_
  · cases e : base.get? (hp.objs.size + 1) with
    | none => rfl
    | some o => exact absurd (Nat.lt_of_succ_lt (Heap.lt_size (kb _ _ e))) (Nat.lt_irrefl _)
  · show A.depth + 1 < recursionLimit
    exact hroom
  · have z : hp.objs.size + 1 + 1 ≤ dx := by
      have q := I.dbig
      first
        | (simpa only [Heap.size_push] using q)
        | exact q
        | (rw [Heap.size_push, Heap.size_push] at q; exact q)
    exact ⟨rfl, hq h' tk' (hp.objs.size + 1) dx t1 ⟨fun b o e => I.keep b o (Nat.ne_of_lt (Nat.lt_succ_of_lt (Heap.lt_size e))) (k b o e), Nat.le_succ _, I.obj, Nat.le_trans (Nat.le_trans (Nat.le_succ _) (Nat.le_succ _)) z, I.dne, I.ns⟩⟩
end
end EmX
end PySem
end KFz_
section KGa_
set_option maxRecDepth 100000
set_option maxHeartbeats 4000000
/-! KGa: raise Empty(a, b) from EmptyBy(n). -/
namespace K53
open PySem PySem.Spec PyProof.Rows L2 PySem.EmX
def InitOk (P : Program) (w : World) (K : PySem.W.Frag) (mg : Str → Option Value) (C fI : Addr) (n : Nat) (m : List Value → Str → Option Value) : Prop :=
  ∀ (base : Heap) (M : Mod K mg base) (A : Around) (R : Result → Shared → Prop) (s1 : Shared) (x t0 : Addr) (us : List Value), us.length = n → (∀ b o, base.get? b = some o → s1.heap.get? b = some o) → s1.heap.get? x = some (HandSPX.excO C t0) → base.get? x = none → A.depth < recursionLimit →
    (∀ h' tk dx t1, InitE s1.heap h' x C dx t1 (m us) → R (.ok (.ret .none)) { s1 with heap := h', toks := tk }) → codeAny (model P w) A (.call (.ref fI) ⟨.ref x :: us, []⟩) R s1
def m1 (us : List Value) : Str → Option Value := fun y => if y = "paper" then us[0]? else none
def m2 (us : List Value) : Str → Option Value := fun y => if y = "paper" then us[1]? else if y = "kind" then us[0]? else none
section
variable {X : Cx}
theorem name_at {pins : List (Addr × Obj)} {σ : L2.St} {H : Hp} {s : Shared} (I : Inv X pins σ H s) {i : Nat} {x : Str} {pos : Pos} {v : V} (e : σ[i]? = some (some v)) (hN : X.N[i]? = some x) (hv : Vis X.env.scope x) (hd : (x == ("__debug__" : Str)) = false := by decide) (hcd : (x == ("__classdict__" : Str)) = false := by decide) :
    ∃ u, RelV v u ∧ ∀ (Q : Value → Shared → Prop) (E : Value → Shared → Prop), Q u s → wpAny (model X.prog X.w) X.A (eval (.Name x pos) X.env) Q E s := by
  obtain ⟨m, hn, hl⟩ := I.loc
  obtain ⟨u, r, l⟩ := hl i x v hN e hv
  refine ⟨u, r, fun Q E fin => ?_⟩
  rcases l with ⟨hk, hm⟩ | ⟨hk, c, hc, hcell⟩
  · exact wpAny_Name (wpAny_loadName_local I.ok.kind hk hn hm fin) hd
  · rcases hk with hk | hk
    · exact wpAny_Name (wpAny_loadName_cell I.ok.kind hk hc hcell fin) hd
    · exact wpAny_Name (wpAny_loadName_free I.ok.kind hk hc hcell fin hcd) hd
def tRaiseE (C : Addr) (W : WX) (ta : TA) (i : Nat) : TS := fun _ σ H => ta σ H fun vs H1 => ∃ vk vp v3, vs = [vk, vp] ∧ σ[i]? = some (some v3) ∧ ∀ d, H1 d = none → W (.ref C) (some d) σ (upd H1 d (.xd [(("paper" : Str), vp), (("kind" : Str), vk)]))
theorem ps_raiseE {a b : Expr} {ta : TA} {W : WX} {x1 x2 n : Str} {i k : Nat} {C1 C2 f1 f2 : Addr} {B1 i1 n1 B2 i2 n2 : String} {bm1 bm2 : List Value} {q1 q2 : Str} {pr1 pr2 : Arguments} {bd1 bd2 : List Stmt} {sc1 sc2 : Scope} {fs1 fs2 : List Str} {p1 p2 p3 pos1 pos2 pos : Pos}
    (hc : X.calm = true) (tk : Takes X W) (T1 : ExT X.prog X.K X.mg C1 f1 B1 i1 n1 bm1 q1 pr1 bd1 sc1 fs1) (FB1 : ExcBaseFacts B1 n1 i1 bm1) (I1k : InitOk X.prog X.w X.K X.mg C1 f1 2 m2)
    (T2 : ExT X.prog X.K X.mg C2 f2 B2 i2 n2 bm2 q2 pr2 bd2 sc2 fs2) (FB2 : ExcBaseFacts B2 n2 i2 bm2) (I2k : InitOk X.prog X.w X.K X.mg C2 f2 1 m1) (hr : Room k X.A) (ha : PA X [a, b] ta) (hm1 : X.mg x1 = some (.ref C1)) (hm2 : X.mg x2 = some (.ref C2))
    (hN : X.N[i]? = some n) (hv : Vis X.env.scope n) (hg1 : Gl X x1 := by rfl) (hg2 : Gl X x2 := by rfl) (hd1 : (x1 == ("__debug__" : Str)) = false := by decide) (hd2 : (x2 == ("__debug__" : Str)) = false := by decide) (hd : (n == ("__debug__" : Str)) = false := by decide) (hcd : (n == ("__classdict__" : Str)) = false := by decide)
    (he : starEach [a, b] X.env = (false, eval a X.env) :: starEach [b] X.env := by rfl) (hpl : (backTo pos1 (starEach [b] X.env)).any (·.1) = false := by rfl) :
    PS X (.Raise (some (.Call (.Name x1 p1) [a, b] [] pos1)) (some (.Call (.Name x2 p2) [.Name n p3] [] pos2)) pos) (tRaiseE C1 W ta i) := by
  refine ⟨fun pins s σ H D I h => ?_⟩
  refine wpAny_Raise_from (wpAny_Call_Name_kw (ld_glob I hg1 hm1 ?_ hd1))
  refine PySem.W.callWith_K (h₀ := X.base) I.ok.mod.kin T1.kC (thn (ha.run pos1 pins s σ H _ I h) fun us s1 hh => ?_) he hpl
  obtain ⟨vs, H1, I1, r1, vk, vp, v3, ev, hs3, qW⟩ := hh
  subst ev
  refine ⟨I1.kIn, ?_⟩
  obtain ⟨uk, up, rfl, rk, rp⟩ : ∃ uk up, us = [uk, up] ∧ RelV vk uk ∧ RelV vp up := by
    cases r1 with
    | cons rk r1 =>
      cases r1 with
      | cons rp rn => cases rn; exact ⟨_, _, rfl, rk, rp⟩
  show wpAny _ _ (call (.ref C1) [uk, up]) _ _ _
  obtain ⟨hp, g, dr, tk0, os⟩ := s1
  have kb : ∀ b o, X.base.get? b = some o → hp.get? b = some o := I1.bk
  refine wpAny_call (ex_made (s := ⟨hp, g, dr, tk0, os⟩) (m := m2 [uk, up]) T1 FB1 I.ok.mod kb (by have := hr.dp; omega) (by simp) (fun A R s1 x t0 k1 k2 k3 k4 k5 => I1k X.base I.ok.mod A R s1 x t0 _ rfl k1 k2 k3 k4 k5) fun h1 tk1 e d t1 M1 => ?_)
  show wpAny _ _ (eval _ _) _ _ _
  have ob : ∀ (G : Heap), (∀ o, h1.get? d = some o → G.get? d = some o) → ObjOk X.prog X.w (upd H1 d (.xd [(("paper" : Str), vp), (("kind" : Str), vk)])) G d (.xd [(("paper" : Str), vp), (("kind" : Str), vk)]) := fun G gk => ⟨_, M1.ns.at gk, fun f => by
    unfold m2
    by_cases ep : f = "paper"
    · subst ep; exact rp
    · rw [List.lookup_cons, show (f == ("paper" : Str)) = false by simpa using ep]
      show RelO (List.lookup f [(("kind" : Str), vk)]) (if f = "paper" then some up else if f = "kind" then some uk else none)
      rw [if_neg ep, List.lookup_cons]
      by_cases ek : f = "kind"
      · subst ek; exact rk
      · rw [show (f == ("kind" : Str)) = false by simpa using ek, if_neg ek]; trivial⟩
  have J1 : Inv X pins σ (upd H1 d (.xd [(("paper" : Str), vp), (("kind" : Str), vk)])) ⟨h1, g, dr, tk1, os⟩ := I1.laid (t' := tk1) M1.keep M1.dbig (ob h1 fun _ e => e)
  refine wpAny_Call_Name_kw (ld_glob J1 hg2 hm2 ?_ hd2)
  obtain ⟨u3, r3, na⟩ := name_at J1 (pos := p3) hs3 hN hv hd hcd
  refine PySem.W.callWith_K (h₀ := X.base) I.ok.mod.kin T2.kC ?_ (by rfl) (by rfl)
  show wpAny _ _ (spliced ((false, eval (.Name n p3) X.env) :: backTo pos2 (starEach [] X.env))) _ _ _
  refine Calls.spliced_cons (na _ _ (Calls.spliced_nil ⟨J1.kIn, ?_⟩))
  show wpAny _ _ (call (.ref C2) [u3]) _ _ _
  have kb1 : ∀ b o, X.base.get? b = some o → h1.get? b = some o := fun b o z => M1.keep b o (kb b o z)
  refine wpAny_call (ex_made (s := ⟨h1, g, dr, tk1, os⟩) (m := m1 [u3]) T2 FB2 I.ok.mod kb1 (by have := hr.dp; omega) (by simp) (fun A R s1 x t0 k1 k2 k3 k4 k5 => I2k X.base I.ok.mod A R s1 x t0 _ rfl k1 k2 k3 k4 k5) fun h2 tk2 e2 d2 t2 M2 => ?_)
  show wpAny _ _ (raiseFrom (.ref e) (.ref e2) X.env) _ _ _
  have he2 := M2.keep _ _ M1.obj
  have nb : ∀ {z : Addr}, hp.objs.size ≤ z → X.base.get? z = none := fun {z} hz => by
    cases q : X.base.get? z with
    | none => rfl
    | some o => exact absurd (Heap.lt_size (kb _ _ q)) (Nat.not_lt_of_le hz)
  have kb2 : ∀ b o, X.base.get? b = some o → h2.get? b = some o := fun b o z => M2.keep b o (kb1 b o z)
  have sz1 : hp.objs.size ≤ h1.objs.size := Nat.le_trans M1.new (Nat.le_of_lt (Heap.lt_size M1.obj))
  have R1 : RaiseAt (model X.prog X.w) X.base h2 e _ _ (.ref C1) := ⟨he2, rfl, rfl, kb2, nb M1.new, PySem.W.looks_subIn I.ok.mod.kin T1.exC, PySem.W.looks_typeIn I.ok.mod.kin T1.tyC⟩
  have R2 : RaiseAt (model X.prog X.w) X.base h2 e2 _ _ (.ref C2) := ⟨M2.obj, rfl, rfl, kb2, nb (Nat.le_trans sz1 M2.new), PySem.W.looks_subIn I.ok.mod.kin T2.exC, PySem.W.looks_typeIn I.ok.mod.kin T2.tyC⟩
  refine raise_from_tree (s := ⟨h2, g, dr, tk2, os⟩) R1 (show (4 : Nat) < 6 from by decide) (.inr ⟨e2, _, _, _, rfl, X.base, R2⟩) ?_
  have R3 := (R1.set 3 (.ref e2)).set 4 (.bool true)
  refine setFlight_fresh (s := { (⟨h2, g, dr, tk2, os⟩ : Shared) with heap := (h2.update e (Obj.mapFields (·.setIfInBounds 3 (Value.ref e2)))).update e (Obj.mapFields (·.setIfInBounds 4 (.bool true))) }) R3.at_ R3.dat rfl (raiseNew_none' (.inl (I.ok.hd hc)) ?_)
  obtain ⟨G', g1, g2⟩ := restrict ((h2.update e (Obj.mapFields (·.setIfInBounds 3 (Value.ref e2)))).update e (Obj.mapFields (·.setIfInBounds 4 (.bool true)))) fun b => decide (b ≠ e)
  have gk : ∀ b, b ≠ e → G'.get? b = h2.get? b := fun b hb => by
    rw [g1 b (decide_eq_true hb), Heap.get?_update_other _ _ (Ne.symm hb), Heap.get?_update_other _ _ (Ne.symm hb)]
  have ge : G'.get? e = none := g2 e (by simp)
  have ne1 : ∀ b o, hp.get? b = some o → b ≠ e := fun b o q => Nat.ne_of_lt (Nat.lt_of_lt_of_le (Heap.lt_size q) M1.new)
  have old : ∀ b o, hp.get? b = some o → G'.get? b = some o := fun b o q => (gk b (ne1 b o q)).trans (M2.keep b o (M1.keep b o q))
  have J : Inv X pins σ (upd H1 d (.xd [(("paper" : Str), vp), (("kind" : Str), vk)])) ⟨G', g, dr, tk2, os⟩ := I1.laid (t' := tk2) old M1.dbig (ob G' fun o q => (gk d M1.dne).trans (M2.keep _ _ q))
  refine tk _ _ (XE.new (d := some d) (cls := .ref C1) J (fun b o q => ?_) ge R3.at_ ⟨R3.cl, rfl⟩ R3.dat rfl ?_ rfl I1.bare (qW d (I1.hok.fresh M1.dbig)))
  · by_cases hb : b = e
    · have q' : G'.get? b = some o := q
      rw [hb, ge] at q'; cases q'
    · exact (g1 b (decide_eq_true hb)).symm.trans q
  · rw [upd_ne (Ne.symm M1.dne)]
    exact I1.hok.fresh M1.new
end
end K53
end KGa_
section KGb_
set_option maxRecDepth 100000
set_option maxHeartbeats 4000000
/-! KGb: defs that may raise; locks that an exception leaves. -/
namespace K53
open PySem PySem.Spec PyProof.Rows L2 PySem.EmX
/-- a promise: the answer, or an exception of which exc tells -/
def spX {δ : Type} (args : δ → List Pv) (ok : δ → Prop) (res : δ → Pv) (exc : δ → Value → Option Addr → Hp → Hp → Prop) : Sp := fun vs H Q E => ∃ d G, Same G H ∧ AlA G vs (args d) ∧ ok d ∧ (∀ v G' H', Stp G H G' H' → (res d).r G' v → Q v H') ∧ ∀ cls dd G' H', Stp G H G' H' → exc d cls dd G' H' → E cls dd H'
structure FdX (P : Program) (w : World) (K : PySem.W.Frag) (mg : Str → Option Value) (base : Heap) (x : Str) (k : Nat) (ps : List Str) (sp : Sp) : Prop where
  ex : ∃ (f : Addr) (fd : FuncData), mg x = some (.ref f) ∧ PySem.W.keepIn K (.ref f) = true ∧ Binds K fd ps [] ∧ FnOk P w K mg base (L2.CX P w) k f fd ps sp
theorem fdx_of {P : Program} {w : World} {K : PySem.W.Frag} {mg : Str → Option Value} {base : Heap} {δ : Type} {args : δ → List Pv} {ok : δ → Prop} {res : δ → Pv} {exc : δ → Value → Option Addr → Hp → Hp → Prop} {x qual : Str} {params : Arguments} {body : List Stmt} {scope : Scope} {dvs : List V} {kws : List (Str × V)} {f : Addr} {fd : FuncData} {N ps : List Str} {k : Nat}
    (F : FunD K x qual params body scope dvs kws f fd) (S : FnScope N ps scope) (hl : ∀ d, (args d).length = ps.length) (hN : ps.length ≤ N.length)
    (h : ∀ (cdv : Value) (A : Around) (outer : List Env) (s : Shared) (H : Hp) (E : XK), Room k (A.deeper (envOfC qual scope s.heap.objs.size f cdv)) → ∀ d G, ok d → (∀ cls dd G' H', Stp G H G' H' → exc d cls dd G' H' → E cls dd H') →
      Takes (cxOf (L2.CX P w) P w K mg base N qual scope f cdv A outer s H E) (fun cls d _ H => E cls d H) → PassesOwn (model P w) (cxOf (L2.CX P w) P w K mg base N qual scope f cdv A outer s H E).A (cxOf (L2.CX P w) P w K mg base N qual scope f cdv A outer s H E).env (cxOf (L2.CX P w) P w K mg base N qual scope f cdv A outer s H E).xe →
      XSs (cxOf (L2.CX P w) P w K mg base N qual scope f cdv A outer s H E) ⟨G, G, H⟩ body ((args d).map some ++ List.replicate (N.length - (args d).length) none) [] (fP ⟨G, G, H⟩ (res d))) : FnOk P w K mg base (L2.CX P w) (k + 1) f fd ps (spX args ok res exc) := by
  refine F.ok S (fun vs H Q E ⟨d, G, i, a, o, q, x⟩ => by rw [a.len, hl]) fun cdv A outer s H vs Q E hr ⟨d, G, i, a, o, q, x⟩ => ?_
  obtain ⟨t, h1, h2⟩ := h cdv A outer s H E hr d G o x (takes_of rfl rfl rfl rfl) (passes_of rfl) G H (L2.start N vs) ⟨.refl i, .refl _, ⟨i, start_al a (by rw [a.len, hl]; exact hN), List.nodup_nil, fun _ z => nomatch z⟩, fun _ z => nomatch z⟩ { nx := fun _ H' => Q .non H', rt := Q }
    ⟨fun G' H' _ ⟨t, r⟩ => q _ G' H' t r, fun v G' H' ⟨t, r⟩ => q v G' H' t r, fun _ _ _ z => z, fun _ _ _ z => z⟩
  exact ⟨t, h1, h2⟩
/-- a value under a condition -/
def vIf (φ : Prop) (p : Pv) : Pv := ⟨fun G v => φ ∧ p.r G v, fun l ⟨h, r⟩ => ⟨h, Pv.mono _ l r⟩⟩
section
variable {X : Cx} {e a b : Expr} {es : List Expr} {Γ : En} {M : Mu} {p q : Pv} {pos pp pos2 : Pos} {e0 : Eb} {P : Pst} {x : Str} {k j : Nat} {pn : List Str} {δ : Type} {args : δ → List Pv} {ok : δ → Prop} {res : δ → Pv} {exc : δ → Value → Option Addr → Hp → Hp → Prop} {W : WX}
theorem xs_exprX (F : FdX X.prog X.w X.K X.mg X.base x k pn (spX args ok res exc)) (d : δ) (hr : Room j X.A) (tk : Takes X W) (ha : XA X (e :: es) Γ M (args d)) (ho : ok d)
    (hE : ∀ G H σ, Sta e0 G H σ Γ M → ∀ G' H' cls dd, Stp G H G' H' → exc d cls dd G' H' → W cls dd σ H') (kq : ∀ G H σ v, Sta e0 G H σ Γ M → (res d).r G v → P.nx G H σ) (hj : k ≤ j := by decide) (hg : Gl X x := by rfl) (hdb : (x == ("__debug__" : Str)) = false := by decide)
    (he : starEach (e :: es) X.env = (false, eval e X.env) :: starEach es X.env := by rfl) (hpl : (backTo pos (starEach es X.env)).any (·.1) = false := by rfl) (hs : swapsWith (.Call (.Name x pp) (e :: es) [] pos) none pos2.line X.env = pure false := by rfl) :
    XS X e0 (.Expr (.Call (.Name x pp) (e :: es) [] pos) pos2) Γ M P := fun G H σ s D f => by
  obtain ⟨fa, fd, hm, hk, hb, F⟩ := F.ex
  refine ⟨_, ps_expr (pe_callS F (hr.mono hj) hg hm hk hb (fun σ => passAt tk σ) pa_w hdb he hpl) hs, ha G H σ s.s _ fun vs G1 H1 t1 r1 => ⟨d, G1, t1.i, r1, ho, fun v G2 H2 t2 r2 => f.nx _ _ _ (kq _ _ _ v (s.stp (t1.trans t2)) r2), fun cls dd G2 H2 t2 x => hE G H σ s G2 H2 cls dd (t1.trans t2) x⟩⟩
theorem xs_raiseE {x1 x2 n : Str} {i : Nat} {C1 C2 f1 f2 : Addr} {B1 i1 n1 B2 i2 n2 : String} {bm1 bm2 : List Value} {q1 q2 : Str} {pr1 pr2 : Arguments} {bd1 bd2 : List Stmt} {sc1 sc2 : Scope} {fs1 fs2 : List Str} {p1 p2 p3 pos1 pos2 : Pos} {p3v : Pv}
    (hc : X.calm = true) (tk : Takes X W) (T1 : ExT X.prog X.K X.mg C1 f1 B1 i1 n1 bm1 q1 pr1 bd1 sc1 fs1) (FB1 : ExcBaseFacts B1 n1 i1 bm1) (I1k : InitOk X.prog X.w X.K X.mg C1 f1 2 m2)
    (T2 : ExT X.prog X.K X.mg C2 f2 B2 i2 n2 bm2 q2 pr2 bd2 sc2 fs2) (FB2 : ExcBaseFacts B2 n2 i2 bm2) (I2k : InitOk X.prog X.w X.K X.mg C2 f2 1 m1) (hr : Room k X.A) (ha : XA X [a, b] Γ M [p, q]) (hm1 : X.mg x1 = some (.ref C1)) (hm2 : X.mg x2 = some (.ref C2))
    (hi : Γ[i]? = some (some p3v)) (hN : X.N[i]? = some n) (hv : Vis X.env.scope n)
    (hE : ∀ G H σ, Sta e0 G H σ Γ M → ∀ G1 H1 vk vp d, Stp G H G1 H1 → H1 d = none → p.r G1 vk → q.r G1 vp → W (.ref C1) (some d) σ (upd H1 d (.xd [(("paper" : Str), vp), (("kind" : Str), vk)])))
    (hg1 : Gl X x1 := by rfl) (hg2 : Gl X x2 := by rfl) (hd1 : (x1 == ("__debug__" : Str)) = false := by decide) (hd2 : (x2 == ("__debug__" : Str)) = false := by decide) (hd : (n == ("__debug__" : Str)) = false := by decide) (hcd : (n == ("__classdict__" : Str)) = false := by decide)
    (he : starEach [a, b] X.env = (false, eval a X.env) :: starEach [b] X.env := by rfl) (hpl : (backTo pos1 (starEach [b] X.env)).any (·.1) = false := by rfl) :
    XS X e0 (.Raise (some (.Call (.Name x1 p1) [a, b] [] pos1)) (some (.Call (.Name x2 p2) [.Name n p3] [] pos2)) pos) Γ M P := fun G H σ s D f => by
  refine ⟨_, ps_raiseE hc tk T1 FB1 I1k T2 FB2 I2k hr pa_w hm1 hm2 hN hv hg1 hg2 hd1 hd2 hd hcd he hpl, ha G H σ s.s _ fun vs G1 H1 t1 r1 => ?_⟩
  obtain ⟨vk, vp, rfl, rk, rp⟩ := alA2 r1
  obtain ⟨v3, h3, _⟩ := s.s.a.2 i _ hi
  exact ⟨vk, vp, v3, rfl, h3, fun d hd => hE G H σ s G1 H1 vk vp d t1 hd rk rp⟩
end
/-! ### an exception that leaves a locked dict -/
def tLockN (X : Cx) (t : TS) : TS := fun D σ H => ∃ d u, H d = some u ∧ Mut (some u) ∧ ∀ od, (∀ o' u', X.H_0 d ≠ some (.frz o' u')) → t ⟨fun σ' H' => H' d = some (.frz od u) ∧ D.nx σ' (upd H' d u), fun v H' => H' d = some (.frz od u) ∧ D.rt v (upd H' d u), fun σ' H' => H' d = some (.frz od u) ∧ D.bk σ' (upd H' d u), fun σ' H' => H' d = some (.frz od u) ∧ D.ct σ' (upd H' d u)⟩ σ (upd H d (.frz od u))
theorem ps_lockN {X : Cx} {st : Stmt} {t : TS} (h : PS X st t) : PS X st (tLockN X t) := by
  refine ⟨fun pins s σ H D I hw => ?_⟩
  obtain ⟨d, u, hd, mu, hw⟩ := hw
  obtain ⟨od, I1⟩ := I.lock hd mu
  refine thn (h.run pins s σ _ _ I1 (hw od (I.nofrz hd mu))) fun f s1 q => ?_
  cases f with
  | next => obtain ⟨σ', H', I2, e, q⟩ := q; exact ⟨σ', _, I2.unlock e (I.nofrz hd mu), q⟩
  | brk => obtain ⟨σ', H', I2, e, q⟩ := q; exact ⟨σ', _, I2.unlock e (I.nofrz hd mu), q⟩
  | cont => obtain ⟨σ', H', I2, e, q⟩ := q; exact ⟨σ', _, I2.unlock e (I.nofrz hd mu), q⟩
  | ret v => obtain ⟨x, σ', H', I2, r, e, q⟩ := q; exact ⟨x, σ', _, I2.unlock e (I.nofrz hd mu), r, q⟩
theorem takes_unlock {X : Cx} {W : WX} (tk : Takes X W) {d : Addr} {od : Obj} {u : HO} (hn : ∀ o' u', X.H_0 d ≠ some (.frz o' u')) : Takes X (fun cls dd σ H => H d = some (.frz od u) ∧ W cls dd σ (upd H d u)) := fun v s' ⟨a, B, sI, pins, σ, H, cls, dd, e, I, nb, up, sky, na, os, ag, hd, w⟩ =>
  tk v s' ⟨a, B, sI, pins, σ, upd H d u, cls, dd, e, I.unlock hd hn, nb, up, sky, by rw [upd_ne (fun z => by rw [z, hd] at na; cases na)]; exact na, os, ag, w⟩
theorem for_coreX {X : Cx} {tg it : Expr} {Γ : En} {M : Mu} {e0 : Eb} {P : Pst} {pos : Pos} {α : Type} {ds : List α} {f : α → Pv} {ι : Type} {body : List Stmt} (Γs : ι → En) (Ms : ι → Mu) (I : Nat → ι → Prop) (hc : X.calm = true) {G H : Hp} {σ : L2.St} (s : Sta e0 G H σ Γ M) (hi : ∀ R : It → Hp → Prop, (∀ J G' H', Stp G H G' H' → Wk J G' ds f → R J H') → wI X tg it σ H R)
    (h0 : ∀ G H σ, Sta e0 G H σ Γ M → StaI e0 Γs Ms (I 0) G H σ)
    (hb : ∀ (i : Nat) d x B, Same e0.B B → ds[i]? = some d → I i x → ∃ Γ' vs, XG X tg (f d) (Γs x) Γ' vs ∧ XSs X { e0 with B := B } body Γ' (Ms x) { P with nx := StaI { e0 with B := B } Γs Ms (I (i + 1)), ct := StaI { e0 with B := B } Γs Ms (I (i + 1)), bk := P.nx })
    (hd : ∀ G H σ, StaI e0 Γs Ms (I ds.length) G H σ → P.nx G H σ) (hp : PassesOwn (model X.prog X.w) X.A X.env X.xe) (hs : ∀ x, foldedSetIterable it X.env x = pure x := by intro _; rfl) : ∀ D, Fit P D → wS X (.For tg it body [] pos) D σ H := fun D F => by
  refine ⟨_, ps_for hp hc pi_w pg_w pss_w hs, hi _ fun J G1 H1 t1 wk => ?_⟩
  have s1 := s.stp t1
  obtain ⟨x0, hx0, s0⟩ := h0 G1 H1 σ s1
  refine ⟨fun i m σ' H' => m = ds.length - i ∧ i ≤ ds.length ∧ ∃ G' x, Same G1 G' ∧ I i x ∧ Sta e0 G' H' σ' (Γs x) (Ms x), ⟨_, rfl, Nat.zero_le _, G1, x0, .refl _, hx0, s0⟩, ?_⟩
  rintro i m σ' H' ⟨rfl, hle, G', x, sg, hx, s'⟩
  rcases Nat.lt_or_ge i ds.length with hlt | hge
  · right
    have hd' : ds[i]? = some ds[i] := List.getElem?_eq_getElem hlt
    refine ⟨wk.go i G' H' _ sg s'.s.i hd', fun σ2 H2 => ∃ G2 x2, Same G1 G2 ∧ I (i + 1) x2 ∧ Sta e0 G2 H2 σ2 (Γs x2) (Ms x2), ?_, ?_⟩
    · rintro σ2 H2 ⟨G2, x2, sg2, hx2, s2⟩
      exact ⟨ds.length - (i + 1), by omega, rfl, hlt, G2, x2, sg2, hx2, s2⟩
    · intro v H2 hy
      obtain ⟨G2, t2, rv⟩ := wk.yl i G' H' _ v H2 sg s'.s.i hd' hy
      have s2 := s'.stp t2
      have hB : Same e0.B G1 := s1.b
      obtain ⟨Γ', vs, hg, hbd⟩ := hb i _ x G1 hB hd' hx
      refine hg G2 H2 σ' v s2.s.a s2.s.i rv _ fun σ3 a3 l3 o3 => ?_
      have s3 : Sta { e0 with B := G1 } G2 H2 σ3 Γ' (Ms x) := ⟨s2.t, sg.trans t2.g, ⟨s2.s.i, a3, s2.s.nd, s2.s.m⟩, s2.f⟩
      have back : ∀ G4 H4 σ4, StaI { e0 with B := G1 } Γs Ms (I (i + 1)) G4 H4 σ4 → ∃ G2 x2, Same G1 G2 ∧ I (i + 1) x2 ∧ Sta e0 G2 H4 σ4 (Γs x2) (Ms x2) := fun G4 H4 σ4 ⟨x4, hx4, s4⟩ => ⟨G4, x4, s4.b, hx4, s4.t, hB.trans s4.b, s4.s, s4.f⟩
      exact hbd G2 H2 σ3 s3 _ ⟨back, F.rt, fun G4 H4 σ4 q => F.nx G4 H4 σ4 q, back⟩
  · left
    have e : i = ds.length := Nat.le_antisymm hle hge
    subst e
    exact ⟨wk.st G' H' sg s'.s.i, F.nx G' H' σ' (hd G' H' σ' ⟨x, hx, s'⟩)⟩
/-- a loop over a dict whose body may raise -/
theorem xs_lockForX {X : Cx} {tg it : Expr} {Γ : En} {M : Mu} {e0 : Eb} {P : Pst} {pos : Pos} {d : Addr} {kp : List (Str × Pv)} {f : Str × Pv → Pv} {ι : Type} {body : List Stmt} {W : WX} {ex : Value → Option Addr → Hp → Hp → Prop} (tk : Takes X W) (Γs : ι → En) (Ms : ι → Mu) (I : Nat → ι → Prop) (hc : X.calm = true)
    (hW : ∀ cls dd σ G' H', Stp e0.G e0.H G' H' → ex cls dd G' H' → W cls dd σ H')
    (hex : ∀ cls dd G' H' od kv, Same G' H' → G' d = some (.frz od (.dK kv)) → ex cls dd G' H' → ex cls dd (upd G' d (.dK kv)) (upd H' d (.dK kv)))
    (hv : ∀ G H σ, St0 G H σ Γ M → ∃ kv, Rd G d (.dK kv) ∧ AlD G kv kp)
    (hi : ∀ G H σ od kv, St0 G H σ Γ M → G d = some (.frz od (.dK kv)) → AlD G kv kp → ∀ R : It → Hp → Prop, (∀ J G' H', Stp G H G' H' → Wk J G' kp f → R J H') → wI X tg it σ H R)
    (h0 : ∀ e0 G H σ, Sta e0 G H σ Γ M → StaI e0 Γs Ms (I 0) G H σ)
    (hb : ∀ (e0 : Eb) (W' : WX), Takes X W' → (∀ cls dd σ G' H' Γ' M', Sta e0 G' H' σ Γ' M' → ex cls dd G' H' → W' cls dd σ H') → ∀ (i : Nat) x y, kp[i]? = some x → I i y → ∃ Γ' vs, XG X tg (f x) (Γs y) Γ' vs ∧ XSs X e0 body Γ' (Ms y) ⟨StaI e0 Γs Ms (I (i + 1)), fun _ _ _ => False, fun _ _ _ => False, StaI e0 Γs Ms (I (i + 1))⟩)
    (hd : ∀ G H σ, StaI e0 Γs Ms (I kp.length) G H σ → P.nx G H σ) (hp : PassesOwn (model X.prog X.w) X.A X.env X.xe) (hs : ∀ x, foldedSetIterable it X.env x = pure x := by intro _; rfl) : XS X e0 (.For tg it body [] pos) Γ M P := fun G H σ s D F => by
  obtain ⟨kv, rd, al⟩ := hv G H σ s.s
  rcases rd with hg | ⟨od, hg⟩
  · have hH : H d = some (.dK kv) := s.s.i _ _ hg
    refine ⟨_, ps_lockN ps_w, d, .dK kv, hH, trivial, fun od hn => ?_⟩
    have s1 := s.lock (od := od) hg
    have s2 : Sta { lkE d od kv e0 with B := upd G d (.frz od (.dK kv)) } (upd G d (.frz od (.dK kv))) (upd H d (.frz od (.dK kv))) σ Γ M := ⟨s1.t, .refl _, s1.s, s1.f⟩
    refine for_coreX (P := ⟨fun G' H' σ' => StaI { lkE d od kv e0 with B := upd G d (.frz od (.dK kv)) } Γs Ms (I kp.length) G' H' σ', fun _ _ _ => False, fun _ _ _ => False, fun _ _ _ => False⟩) Γs Ms I hc s2 (hi _ _ σ od kv s2.s upd_same (al.mono (le_lock hg))) (h0 _) (fun i x y B hB hx hy => ?_) (fun G' H' σ' q => q) hp hs _ ⟨fun G' H' σ' q => ?_, fun _ _ _ z => z.elim, fun _ _ _ z => z.elim, fun _ _ _ z => z.elim⟩
    · obtain ⟨Γ', vs, h1, h2⟩ := hb { { lkE d od kv e0 with B := upd G d (.frz od (.dK kv)) } with B := B } _ (takes_unlock (u := .dK kv) (od := od) tk hn) (fun cls dd σ' G' H' Γ' M' s' q => by
        have hf : G' d = some (.frz od (.dK kv)) := s'.b _ _ (hB _ _ upd_same)
        have s3 : Sta (lkE d od kv e0) G' H' σ' Γ' M' := ⟨s'.t, s1.b.trans (hB.trans s'.b), s'.s, s'.f⟩
        exact ⟨s'.s.i _ _ hf, hW _ _ _ _ _ (Sta.unlock s hg s3 hf).t (hex _ _ _ _ _ _ s'.s.i hf q)⟩) i x y hx hy
      refine ⟨Γ', vs, h1, fun G H σ s D F => h2 G H σ s D ⟨F.nx, fun _ _ _ z => z.elim, fun _ _ _ z => z.elim, F.ct⟩⟩
    · obtain ⟨x', hx', s'⟩ := q
      have hf : G' d = some (.frz od (.dK kv)) := s'.b _ _ upd_same
      refine ⟨s'.s.i _ _ hf, F.nx _ _ _ (hd _ _ _ ⟨x', hx', Sta.unlock s hg (⟨s'.t, s1.b.trans s'.b, s'.s, s'.f⟩ : Sta (lkE d od kv e0) G' H' σ' _ _) hf⟩)⟩
  · exact for_coreX (P := P) Γs Ms I hc s (hi G H σ od kv s.s hg al) (h0 e0) (fun i x y B hB hx hy => by
      obtain ⟨Γ', vs, h1, h2⟩ := hb { e0 with B := B } W tk (fun cls dd σ' G' H' Γ' M' s' q => hW _ _ _ _ _ s'.t q) i x y hx hy
      exact ⟨Γ', vs, h1, fun G H σ s D F => h2 G H σ s D ⟨F.nx, fun _ _ _ z => z.elim, fun _ _ _ z => z.elim, F.ct⟩⟩) hd hp hs D F
end K53
end KGb_
section NG_
set_option maxRecDepth 100000
set_option maxHeartbeats 4000000
/-! NG: empty kinds that are told raise Empty; least sizes. -/
namespace K53
open PySem PySem.Spec PyProof.Rows L2 PySem.EmX
structure ExcT (P : Program) (w : World) (K : PySem.W.Frag) (mg : Str → Option Value) : Prop where
  gE : mg "Empty" = some (.ref (He.ga K "Empty"))
  gB : mg "EmptyBy" = some (.ref (He.ga K "EmptyBy"))
  tE : ExT P K mg (He.ga K "Empty") (He.ma K (He.ga K "Empty") "__init__") "RuntimeError" "RuntimeError.__init__" "RuntimeError.__new__" rtTail "Empty.__init__" (defArgs s_Empty_init) (defBody s_Empty_init) (defScope s_Empty_init) ["kind", "paper"]
  tB : ExT P K mg (He.ga K "EmptyBy") (He.ma K (He.ga K "EmptyBy") "__init__") "ValueError" "ValueError.__init__" "ValueError.__new__" veTail "EmptyBy.__init__" (defArgs s_EmptyBy_init) (defBody s_EmptyBy_init) (defScope s_EmptyBy_init) ["paper"]
  gS : mg "StateError" = some (.ref (He.ga K "StateError"))
  kS : PySem.W.kitOne K (.ref (He.ga K "Empty")) (.ref (He.ga K "StateError")) = some true
  eE : PySem.W.exmOne K (.ref (He.ga K "Empty")) (.ref (He.ga K "Empty")) = some true
theorem iniE {P : Program} {w : World} {K : PySem.W.Frag} {mg : Str → Option Value} (T : ExcT P w K mg) : InitOk P w K mg (He.ga K "Empty") (He.ma K (He.ga K "Empty") "__init__") 2 m2 := fun base M A R s1 x t0 us hl kb hx hx0 hd hq => by
  match us, hl with
  | [u, v], _ => exact ex_init2 T.tE PySem.F.store_RuntimeError PySem.W.kxs_RuntimeError PySem.F.excBase_RuntimeError M kb hx hx0 hd (fun _ _ _ => ⟨_, rfl⟩) (fun _ _ _ => rfl) hq
theorem iniB {P : Program} {w : World} {K : PySem.W.Frag} {mg : Str → Option Value} (T : ExcT P w K mg) : InitOk P w K mg (He.ga K "EmptyBy") (He.ma K (He.ga K "EmptyBy") "__init__") 1 m1 := fun base M A R s1 x t0 us hl kb hx hx0 hd hq => by
  match us, hl with
  | [v], _ => exact ex_init1 T.tB PySem.F.store_ValueError PySem.W.kxs_ValueError PySem.F.excBase_ValueError M kb hx hx0 hd (fun _ _ _ => ⟨_, rfl⟩) (fun _ _ _ => rfl) hq
/-- Empty(k, p) in the air -/
def EmR (K : PySem.W.Frag) (k : Str) (p : Paper) (cls : Value) (dd : Option Addr) (G H : Hp) : Prop := cls = .ref (He.ga K "Empty") ∧ ∃ (a : Addr) (vp : V), dd = some a ∧ H a = some (.xd [(("paper" : Str), vp), (("kind" : Str), .str k)]) ∧ (vPaper p).r G vp
abbrev papW (W : Web) (k : Str) : Option Paper := paperOf (mapOf W.ts) W.ks k
theorem nonP_optPaper {o : Option Paper} : NonP (vOptPaper o) o.isNone := by
  cases o with
  | none => exact fun G v h => by cases h; rfl
  | some p => exact nonP_tup
theorem mpOk_of {W : Web} (ok : WebOk W) : MpOk W (mapOf W.ts) := ⟨ok, (addS_i ok.t (stepsOf W.ts) map0).b⟩
section
variable {P : Program} {w : World} {K : PySem.W.Frag} {mg : Str → Option Value} {base : Heap}
theorem fd_want_full (T : Txt K mg) (EX : ExcT P w K mg) : FdX P w K mg base "want_full" 20 ["model", "kind"] (spX (δ := Web × Str) (fun d => [vWeb K d.1, vStr d.2]) (fun d => WebOk d.1 ∧ d.2 ∈ d.1.ks) (fun d => vIf (papW d.1 d.2 = none) vNon) (fun d cls dd G H => ∃ p, papW d.1 d.2 = some p ∧ EmR K d.2 p cls dd G H)) := by
  obtain ⟨g, fd, F⟩ := T.fn i_want_full d_want_full rfl
  refine ⟨_, fd, g rfl, F.kp, F.bindsN fun _ _ _ _ _ _ us hl => match us, hl with | [_, _], _ => rfl, ?_⟩
  have S : FnScope ["model", "kind", "paper"] ["model", "kind"] (defScope s_want_full) := ⟨rfl, rfl, rfl, by decide +kernel, rfl, by decide +kernel, by decide +kernel⟩
  refine fdx_of (N := ["model", "kind", "paper"]) F S (fun _ => rfl) (by decide) ?_
  intro cdv A outer s H E hr ⟨W, kk⟩ G ok hx tk hp
  obtain ⟨ok, hk⟩ : WebOk W ∧ kk ∈ W.ks := ok
  have hx : ∀ cls dd G' H', Stp G H G' H' → (∃ p, papW W kk = some p ∧ EmR K kk p cls dd G' H') → E cls dd H' := hx
  refine xss_set (i := 2) (p := vOptPaper (papW W kk)) (xe_meth (md_Map_paper_of T) (W, mapOf W.ts, kk) hr T.map.cl (xe_make (id_Map T) W hr T.map.g (xa_cons (xv 0) xa_nil) ok) rfl (xa_cons (xv 1) xa_nil) rfl ⟨mpOk_of ok, hk⟩) S.nd ?_
  show XSs _ _ _ _ _ (fP _ (vIf (papW W kk = none) vNon))
  cases hpap : papW W kk with
  | none => exact xss_iff (XT.is (xt_notN (xv 2) (nonP_optPaper (o := none))) rfl) (xss_nil fun _ _ _ s => ⟨s.t, rfl, rfl⟩)
  | some p =>
    refine xss_ift (XT.is (xt_notN (xv 2) (nonP_optPaper (o := some p))) rfl) (xss_one (xs_raiseE (i := 2) (p := vStr kk) (q := vPaper p) rfl tk EX.tE PySem.F.excBase_RuntimeError (iniE EX) EX.tB PySem.F.excBase_ValueError (iniB EX) hr (xa_cons (xv 1) (xa_cons (xv 2) xa_nil)) EX.gE EX.gB rfl rfl (.inl rfl) (fun G1 H1 σ s G2 H2 vk vp d t hd rk rp => ?_)))
    have rk : vk = .str kk := rk
    subst rk
    exact hx _ _ G2 _ ((s.t.trans t).trans (Stp.tmp t.i hd)) ⟨p, hpap, rfl, d, vp, rfl, upd_same, rp⟩
def isBadW (W : Web) (x : Str × Nat) : Bool := decide (0 < x.2) && (papW W x.1).isSome
def firstBad (W : Web) (c : Cnt) : Option (Str × Nat) := c.find? (isBadW W)
def excF (K : PySem.W.Frag) (W : Web) (c : Cnt) (cls : Value) (dd : Option Addr) (G H : Hp) : Prop := ∃ x p, firstBad W c = some x ∧ papW W x.1 = some p ∧ EmR K x.1 p cls dd G H
theorem excF_unlock {K : PySem.W.Frag} {W : Web} {c : Cnt} {d : Addr} {cls : Value} {dd : Option Addr} {G H : Hp} {od : Obj} {kv : List (Key × V)} (i : Same G H) (hg : G d = some (.frz od (.dK kv))) (h : excF K W c cls dd G H) : excF K W c cls dd (upd G d (.dK kv)) (upd H d (.dK kv)) := by
  obtain ⟨x, p, h1, h2, h3, a, vp, h4, h5, h6⟩ := h
  have ne : a ≠ d := fun z => by rw [z, i _ _ hg] at h5; cases h5
  exact ⟨x, p, h1, h2, h3, a, vp, h4, by rw [upd_ne ne]; exact h5, Pv.mono _ (le_unlock hg) h6⟩
theorem fd_want_full_where_told (T : Txt K mg) (EX : ExcT P w K mg) : FdX P w K mg base "want_full_where_told" 21 ["model", "counts"] (spX (δ := Web × Cnt) (fun d => [vWeb K d.1, vDic (pCnt d.2)]) (fun d => WebOk d.1 ∧ CntOk d.2 ∧ ∀ x ∈ d.2, x.1 ∈ d.1.ks) (fun d => vIf (firstBad d.1 d.2 = none) vNon) (fun d => excF K d.1 d.2)) := by
  obtain ⟨g, fd, F⟩ := T.fn i_want_full_where_told d_want_full_where_told rfl
  refine ⟨_, fd, g rfl, F.kp, F.bindsN fun _ _ _ _ _ _ us hl => match us, hl with | [_, _], _ => rfl, ?_⟩
  have S : FnScope ["model", "counts", "kind", "count"] ["model", "counts"] (defScope s_want_full_where_told) := ⟨rfl, rfl, rfl, by decide +kernel, rfl, by decide +kernel, by decide +kernel⟩
  refine fdx_of (N := ["model", "counts", "kind", "count"]) F S (fun _ => rfl) (by decide) ?_
  intro cdv A outer s H E hr ⟨W, c⟩ G ok hx tk hp
  obtain ⟨ok, co, ck⟩ : WebOk W ∧ CntOk c ∧ ∀ x ∈ c, x.1 ∈ W.ks := ok
  have hx : ∀ cls dd G' H', Stp G H G' H' → excF K W c cls dd G' H' → E cls dd H' := hx
  refine xss_open (i := 1) (g := fun a => vDicAt a (pCnt c)) rfl vDic_open fun a => ?_
  show XSs _ _ _ _ _ (fP _ (vIf (firstBad W c = none) vNon))
  let Ga : En := [some (vWeb K W), some (vDicAt a (pCnt c)), none, none]
  refine xss_one (xs_lockForX (d := a) (kp := pCnt c) (f := fun x => vTup [vStr x.1, x.2]) (ex := excF K W c) tk (fun _ : Unit => Ga) (fun _ => []) (fun i _ => firstBad W (c.take i) = none) rfl (fun cls dd σ G' H' t q => hx cls dd G' H' t q) (fun cls dd G' H' od kv i hg q => excF_unlock i hg q) (hvD (i := 1) rfl) (fun G1 H1 σ od kv s1 hg al => xi_itemsAt s1 hg al ((xv 1).weak vDicAt_ref)) (fun e0 G1 H1 σ s1 => ⟨(), rfl, s1⟩) (fun e0 W' tk' hw i x y hix hi => ?_) (fun G1 H1 σ ⟨_, hi, s1⟩ => ?_) hp)
  · obtain ⟨z, hz, rfl⟩ : ∃ z, c[i]? = some z ∧ x = (z.1, vInt (z.2 : Int)) := by
      unfold pCnt at hix
      rw [List.getElem?_map] at hix
      cases e : c[i]? with
      | none => rw [e] at hix; cases hix
      | some z => rw [e] at hix; cases hix; exact ⟨z, rfl, rfl⟩
    have hzm : z ∈ c := List.mem_of_getElem? hz
    have e1 : firstBad W (c.take (i + 1)) = if isBadW W z then some z else none := by
      have hi : (c.take i).find? (isBadW W) = none := hi
      unfold firstBad
      rw [List.take_add_one, hz, Option.toList_some, List.find?_append, hi, Option.none_or, List.find?_cons]
      cases isBadW W z <;> simp
    have e2 : isBadW W z = true → firstBad W c = some z := fun hb => by
      rw [hb] at e1
      have e1 : firstBad W (c.take (i + 1)) = some z := e1
      unfold firstBad at e1 ⊢
      have := List.find?_append (xs := c.take (i + 1)) (ys := c.drop (i + 1)) (p := isBadW W)
      rw [List.take_append_drop, e1] at this
      rw [this]; rfl
    refine ⟨_, _, xg_tup rfl (xgs_cons (xg_name 2 S.nd) (xgs_cons (xg_name 3 S.nd) xgs_nil)), ?_⟩
    refine xss_one (xs_if (xt_gt (xv 3) xe_int) (fun h => ?_) (fun h => ?_))
    · have h0 : 0 < z.2 := by have := of_decide_eq_true h; omega
      refine xss_one (xs_exprX (fd_want_full T EX) (W, z.1) hr tk' (xa_cons (xv 0) (xa_cons (xv 2) xa_nil)) ⟨ok, ck z hzm⟩ (fun G1 H1 σ s1 G2 H2 cls dd t q => ?_) (fun G1 H1 σ v s1 r => ?_))
      · obtain ⟨p, h1, h2⟩ := q
        refine hw cls dd σ G2 H2 _ _ (s1.stp t) ⟨z, p, e2 ?_, h1, h2⟩
        have h1 : papW W z.1 = some p := h1
        unfold isBadW
        rw [decide_eq_true h0, h1]; rfl
      · have r : papW W z.1 = none := r.1
        refine ⟨(), ?_, s1.fg (by repeat (first | exact fg_nil | apply fg_keep | apply fg_drop))⟩
        rw [e1]
        unfold isBadW
        rw [r]; simp
    · refine xss_nil fun G1 H1 σ s1 => ⟨(), ?_, s1.fg (by repeat (first | exact fg_nil | apply fg_keep | apply fg_drop))⟩
      have h0 : ¬ 0 < z.2 := by have := of_decide_eq_false h; omega
      rw [e1]
      unfold isBadW
      rw [decide_eq_false h0]; simp
  · have hi : firstBad W (c.take (pCnt c).length) = none := hi
    rw [pCnt_len, List.take_length] at hi
    exact ⟨s1.t, hi, rfl⟩
theorem xss_tupE {X : Cx} {e : Expr} {Γ : En} {M : Mu} {pos : Pos} {e0 : Eb} {P : Pst} {ι : Type} {φ : ι → Prop} {g : ι → Pv} {tg : Expr} {vs : List Nat} {Γ' : ι → En} {rest : List Stmt} (he : XE X e Γ M (vEx φ g)) (hg : ∀ x, φ x → XG X tg (g x) Γ (Γ' x) vs) (k : ∀ x, φ x → XSs X e0 rest (Γ' x) M P) (hs : swapsWithSole [tg] e pos.line X.env = pure false := by rfl) (hw : swappedStores [tg] e X.env = pure none := by rfl)
    (h1 : (assignEach [tg] X.env).map (·.2) = [assign tg X.env] := by rfl) : XSs X e0 (.Assign [tg] e pos :: rest) Γ M P := fun G H σ s D f =>
  ⟨_, pss_cons (ps_asg pe_w pg_w hs hw h1) pss_w, he G H σ s.s _ fun v G1 H1 t1 r1 => by
    obtain ⟨x, hx, r1⟩ := r1
    have s1 := s.stp t1
    exact hg x hx G1 H1 σ v s1.s.a s1.s.i r1 _ fun σ' a' _ _ => k x hx G1 H1 σ' ⟨s1.t, s1.b, ⟨s1.s.i, a', s1.s.nd, s1.s.m⟩, s1.f⟩ D f⟩
theorem CntOk.keys {c d : Cnt} (h : CntOk c) (e : d.map (·.1) = c.map (·.1)) : CntOk d := by
  refine ⟨fun z => h.ne ?_, fun x hx => ?_, by rw [e]; exact h.nd, ?_⟩
  · subst z
    exact List.map_eq_nil_iff.mp e.symm
  · have : x.1 ∈ c.map (·.1) := by rw [← e]; exact List.mem_map_of_mem hx
    obtain ⟨y, hy, ey⟩ := List.mem_map.mp this
    rw [← ey]; exact h.nm y hy
  · have := congrArg List.length e
    rw [List.length_map, List.length_map] at this
    have := h.ln; omega
theorem map_cnt {c : Cnt} (nd : (c.map (·.1)).Nodup) : (c.map (·.1)).map (fun s => (s, (c.lookup s).getD 0)) = c := by
  rw [List.map_map]
  have : ∀ x ∈ c, ((fun s => (s, (c.lookup s).getD 0)) ∘ (·.1)) x = x := fun x hx => by
    show (x.1, (c.lookup x.1).getD 0) = x
    rw [look_of nd hx]; rfl
  rw [List.map_congr_left this, List.map_id']
theorem sortC_id {c : Cnt} (nd : (c.map (·.1)).Nodup) (h : (c.map (·.1)).Pairwise (fun a b => leS a b = true)) : sortC c = c := by
  unfold sortC
  rw [sortS_id h]
  exact map_cnt nd
/-- what is asked of told sizes -/
structure LsOk (W : Web) (c : Cnt) : Prop where
  w : WebOk W
  co : CntOk c
  k : sortS (c.map (·.1)) = W.ks
  r : firstBad W (sortC c) = none → ∃ U, RaOk (linesOf W.ts) (sortC c) U
/-- the least sizes are c' -/
structure Lst (W : Web) (c c' : Cnt) : Prop where
  f : firstBad W (sortC c) = none
  u : Up (linesOf W.ts) (sortC c) c'
  cl : Closed (linesOf W.ts) c'
abbrev lsArgs (K : PySem.W.Frag) (d : Web × Cnt × Bool) : List Pv := [vWeb K d.1, if d.2.2 then vSizes K d.2.1 else vDic (pCnt d.2.1)]
abbrev spLs (K : PySem.W.Frag) : Sp := spX (δ := Web × Cnt × Bool) (lsArgs K) (fun d => LsOk d.1 d.2.1) (fun d => vEx (Lst d.1 d.2.1) (vSizes K)) (fun d => excF K d.1 (sortC d.2.1))
theorem ls_ok (T : Txt K mg) (EX : ExcT P w K mg) : mg "least_sizes" = some (.ref (He.fAd K d_least_sizes.at_)) ∧ ∃ fd, FunD K d_least_sizes.name d_least_sizes.qual d_least_sizes.params d_least_sizes.body d_least_sizes.scope (d_least_sizes.dvs K) (d_least_sizes.kws K) (He.fAd K d_least_sizes.at_) fd ∧
    FnOk P w K mg base (L2.CX P w) 22 (He.fAd K d_least_sizes.at_) fd ["model", "sizes"] (spLs K) := by
  obtain ⟨g, fd, F⟩ := T.fn i_least_sizes d_least_sizes rfl
  refine ⟨g rfl, fd, F, ?_⟩
  have S : FnScope ["model", "sizes", "counts", "found", "raises"] ["model", "sizes"] (defScope s_least_sizes) := ⟨rfl, rfl, rfl, by decide +kernel, rfl, by decide +kernel, by decide +kernel⟩
  refine fdx_of (N := ["model", "sizes", "counts", "found", "raises"]) F S (fun _ => rfl) (by decide) ?_
  intro cdv A outer s H E hr ⟨W, c, b⟩ G ok hx tk hp
  have ok : LsOk W c := ok
  have hx : ∀ cls dd G' H', Stp G H G' H' → excF K W (sortC c) cls dd G' H' → E cls dd H' := hx
  have sk : (sortC c).map (·.1) = W.ks := by rw [sortC_keys, ok.k]
  refine xss_expr (xe_call (fd_want_model T) W hr (xa_cons (xv 0) xa_nil) trivial) ?_
  refine xss_set (i := 2) (p := vDic (pCnt (sortC c))) (xe_call (fd_checked_counts T) (W, c, b) hr (xa_cons (xv 0) (xa_cons (xv 1) xa_nil)) ⟨ok.co, ok.k⟩) S.nd ?_
  show XSs _ _ _ _ _ (fP _ (vEx (Lst W c) (vSizes K)))
  refine xss_consP (φ := firstBad W (sortC c) = none) (Γ' := [some (vWeb K W), none, some (vDic (pCnt (sortC c))), none, none]) (M' := []) (xs_exprX (fd_want_full_where_told T EX) (W, sortC c) hr tk (xa_cons (xv 0) (xa_cons (xv 2) xa_nil)) ⟨ok.w, sortC_ok ok.co, fun x hx => by rw [← sk]; exact List.mem_map_of_mem hx⟩ (fun G1 H1 σ s1 G2 H2 cls dd t q => hx cls dd G2 H2 (s1.t.trans t) q) (fun G1 H1 σ v s1 r => ⟨s1.fg (by repeat (first | exact fg_nil | apply fg_keep | apply fg_drop)), r.1⟩)) fun hf => ?_
  obtain ⟨U, hU⟩ := ok.r hf
  refine xss_tupE (Γ' := fun c' => [some (vWeb K W), none, some (vDic (pCnt (sortC c))), some (vDic (pCnt c')), some vAny]) (xe_call (fd_raised T) (linesOf W.ts, sortC c, U) hr (xa_cons (XE.is (xe_call (fd_lines_of T) W hr (xa_cons (xv 0) xa_nil) ⟨ok.w.t.nd, ok.w.t.ln⟩) rfl) (xa_cons (xv 2) xa_nil)) hU) (fun c' _ => xg_tup rfl (xgs_cons (xg_name 3 S.nd) (xgs_cons (xg_name 4 S.nd) xgs_nil))) fun c' hc' => ?_
  have hk : c'.map (·.1) = (sortC c).map (·.1) := hc'.1.ks
  have co' : CntOk c' := (sortC_ok ok.co).keys hk
  have e : sortC c' = c' := sortC_id co'.nd (by rw [hk, sk]; exact ok.w.sk)
  refine xss_one (xs_ret (XE.ex c' (⟨hf, hc'.1, hc'.2⟩ : Lst W c c') (XE.is (xe_make (id_Sizes T) c' hr T.sizes.g (xa_cons (xv 3) xa_nil) co') (by show vSizes K (sortC c') = _; rw [e]))) fun _ _ _ t r => ⟨t, r⟩)
theorem fd_least_sizes (T : Txt K mg) (EX : ExcT P w K mg) : FdX P w K mg base "least_sizes" 22 ["model", "sizes"] (spLs K) := by
  obtain ⟨g, fd, F, ok⟩ := ls_ok (P := P) (w := w) (base := base) T EX
  exact ⟨_, fd, g, F.kp, F.bindsN fun _ _ _ _ _ _ us hl => match us, hl with | [_, _], _ => rfl, ok⟩
end
end K53
end NG_
section KGc_
set_option maxRecDepth 100000
set_option maxHeartbeats 4000000
/-! KGc: what a suite reads of the exception that it holds; _law_heard. -/
namespace K53
open PySem PySem.Spec PyProof.Rows L2 PySem.EmX
section
open PySem.W PySem.Calls
theorem ans_sub {K : Frag} {a C : Addr} {c : Value} (q : kitOne K (.ref C) c = some true) : Answers (fun s => K.In s.heap ∧ ∃ o, s.heap.get? a = some o ∧ o.cls = .ref C) (.ref a) c true := by
  rintro dep tk prog w A R ⟨hp, g, d, n, os⟩ ⟨⟨X, o, ho, hc⟩, hq⟩
  have ty : Looks (model prog w) hp (typeOf (.ref a)) (.ref C) := fun A Q E s k z => wpAny_typeOf_ref (k _ _ ho) (by rw [hc]; exact z)
  unfold kitOne at q
  unfold Builtin.«isinstance.nested»
  refine wpAny_bind (ty.at ?_)
  split at q
  · rename_i same
    rw [if_pos same]
    first
      | ((repeat lk); exact hq n)
      | exact wpAny_bind (wpAny_rule (hq n))
      | exact wpAny_bind (wpAny_rule (wpAny_pure (hq n)))
  · rename_i other
    obtain ⟨t1, t2, t3⟩ := kit_cls (M := model prog w) X q
    rw [if_neg other]
    refine wpAny_bind (t1.at ?_)
    rw [if_pos (by decide)]
    k_delta "plainIsInstance"
    refine wpAny_bind (wpAny_bind (t2.at ?_))
    simp only [Bool.not_true, Bool.false_eq_true, if_false]
    refine wpAny_bind ((ty.andThen t3).at ?_)
    first
      | exact wpAny_pure (wpAny_pure (hq n))
      | (simp only [if_true]; first | exact wpAny_pure (wpAny_pure (hq n)) | exact wpAny_pure (hq n) | exact wpAny_bind (wpAny_pure (wpAny_pure (hq n))))
end
/-- e.f, e the exception that the suite holds at a -/
def tExA (C a : Addr) (cls : Value) (d : Option Addr) (f : Str) (te : TE) : TE := fun σ H Q => te σ H fun x H1 => x = .ref a ∧ cls = .ref C ∧ ∃ (dd : Addr) (fv : List (Str × V)) (v : V), d = some dd ∧ H1 dd = some (.xd fv) ∧ fv.lookup f = some v ∧ Q v H1
theorem pe_exA {X : Cx} {C fI : Addr} {B i newId : String} {bm : List Value} {qual : Str} {params : Arguments} {body : List Stmt} {scope : Scope} {fs : List Str} {a : Addr} {oe : Obj} {cls : Value} {d : Option Addr} {pn : List (Addr × Obj)} {e : Expr} {te : TE} {pos : Pos} {f : Str}
    (T : ExT X.prog X.K X.mg C fI B i newId bm qual params body scope fs) (hf : f ∈ fs) (hz : Zc cls d oe) (hd : ∃ vs, oe.data = .fields vs) (he : PE (X.suite a ((a, oe) :: pn)) e te) (hb : attributeBase e f X.env (eval e X.env) = eval e X.env := by rfl) :
    PE (X.suite a ((a, oe) :: pn)) (.Attribute e f pos) (tExA C a cls d f te) := by
  refine ⟨fun pins s σ H Q I h => attr_of hb (thn (he.run pins s σ H _ I h) fun u s1 hh => ?_)⟩
  obtain ⟨x, H1, J, rx, rfl, rfl, dd, fv, v, rfl, hx, hl, q⟩ := hh
  obtain rfl : u = Value.ref a := rx
  have pa := (J.pin (a, oe) (List.mem_append_left _ List.mem_cons_self)).1
  obtain ⟨mA, hns, hr⟩ := (show ObjOk X.prog X.w H1 s1.heap dd (.xd fv) from J.hok dd _ hx)
  obtain ⟨od, ho, hlk⟩ := lookIn_ns hns
  obtain ⟨u, hu, ru⟩ := RelO.some_of (v := v) (o := mA f) (by rw [← hl]; exact hr f)
  obtain ⟨vs, hv⟩ := hd
  have at_ : PySem.W.InstAt s1.heap a oe C (some od) := ⟨pa, hz.1, by unfold PySem.W.notCls; rw [hv] <;> rfl, by rw [hz.2]; exact ho⟩
  exact HandSPX.exc_get J.kIn at_ T.ga T.gg T.exC (PySem.W.findObj_own T.hd (T.no f hf) rfl (by rw [hlk, hu])) (handed_of ru) ⟨v, H1, J.tok _, ru, q⟩
/-- isinstance(e, c), e's class among those of c -/
def rSub (K : PySem.W.Frag) (C a : Addr) (cls : Value) : List V → Hp → VK → Prop := fun xs H Q => ∃ (c : V) (cv : Value), xs = [.ref a, c] ∧ cls = .ref C ∧ (∀ u, RelV c u → u = cv) ∧ PySem.W.kitOne K (.ref C) cv = some true ∧ Q (.bl true) H
theorem call_sub {X : Cx} {a C : Addr} {oe : Obj} {cls : Value} {d : Option Addr} {pn : List (Addr × Obj)} (hz : Zc cls d oe) : CallR (X.suite a ((a, oe) :: pn)) (.builtin "isinstance") (rSub X.K C a cls) := by
  intro pins s σ H xs us Q I r h
  obtain ⟨c, cv, rfl, rfl, hcv, hk, q⟩ := h
  cases r with
  | cons rx rr =>
    cases rr with
    | cons rc rr =>
      cases rr
      obtain rfl := hcv _ rc
      obtain rfl := show _ = Value.ref a from rx
      have pa := (I.pin (a, oe) (List.mem_append_left _ List.mem_cons_self)).1
      exact PySem.call_isinstance (S := fun _ R s => (X.K.In s.heap ∧ ∃ o, s.heap.get? a = some o ∧ o.cls = .ref C) ∧ ∀ tk, R (.ok (.ret (.bool true))) { s with toks := tk })
        (fun prog w A R s hs => PySem.isinstance_outer (ans_sub hk 0 _ prog w A R s hs) (fun z => nomatch z)) ⟨⟨I.kIn, oe, pa, hz.1⟩, fun tk => ⟨.bl true, H, I.kept (t' := tk) fun _ _ z => z, rfl, q⟩⟩
theorem pss_len {X : Cx} {sts : List Stmt} {t : TS} (h : PSs X sts t) : PSs X sts (fun D σ H => σ.length = X.N.length → t D σ H) := ⟨fun pins s σ H D I k => h.run pins s σ H D I (k I.len)⟩
theorem pe_weak {X : Cx} {e : Expr} {t : TE} (h : PE X e t) : PE X e (fun σ H Q => ∃ R : VK, t σ H R ∧ ∀ v H', R v H' → Q v H') := ⟨fun pins s σ H Q I ⟨R, k, w⟩ => thn (h.run pins s σ H R I k) fun u s1 ⟨v, H1, I1, r, q⟩ => ⟨v, H1, I1, r, w v H1 q⟩⟩
/-- what _law_heard makes of the call that it tries -/
def TTh (K : PySem.W.Frag) : (XK → Hp → VK → Prop) → Hp → VK → Prop := fun tl H Q => ∀ p0, H p0 = none → tl
  (fun cls d H' => cls = .ref (He.ga K "Empty") ∧ ∃ (dd : Addr) (vk vp : V), d = some dd ∧ H' dd = some (.xd [(("paper" : Str), vp), (("kind" : Str), vk)]) ∧ ∀ p, H' p = none → Q (.ref p) (upd H' p (.lst [.str "empty", vk, vp, .bl true])))
  (upd H p0 (.lst [.str "other"])) (fun v H' => ∀ p, H' p = none → Q (.ref p) (upd H' p (.lst [.str "told", v])))
abbrev NHeard : List Str := ["_law_call", "_law_found", "e"]
theorem scopeHeard : FnScope NHeard ["_law_call"] (defScope s_law_heard) := ⟨rfl, rfl, rfl, by decide +kernel, rfl, by decide +kernel, by decide +kernel⟩
theorem heard_gives {X : Cx} (T : Txt X.K X.mg) (EX : ExcT X.prog X.w X.K X.mg) {g : Addr} {cdg : Value} {q : Str} : LamX.GivesTo X NHeard "_law_heard" (defScope s_law_heard) g cdg (defBody s_law_heard) "_law_call" q (TTh X.K) := by
  intro f c' s H Q tl act hc h
  have S := scopeHeard
  let Y : Cx := (cxOf C8.CX0 X.prog X.w X.K X.mg X.base NHeard "_law_heard" (defScope s_law_heard) g cdg X.A X.stack s H C8.E0).nox
  refine ⟨_, pss_cons (ps_set (X := Y) (i := 1) S.nd rfl (Or.inl rfl) (pe_lst (pa_cons pe_str pa_nil)))
    (pss_cons (ps_try_as (X := Y) (i := 2) (c := .ref (He.ga X.K "Empty"))
      (tb := fun W D σ H => ∃ Ech : XK, (∀ cls d σ' H', Ech cls d H' → W cls d σ' H') ∧ σ[0]? = some (some (.ref f)) ∧ H c' = some (LamX.CodeO c' q) ∧ ∃ R : VK, tl Ech H R ∧ ∀ v H', R v H' → ∀ p, H' p = none → D.nx (σ.set 1 (some (.ref p))) (upd H' p (.lst [.str "told", v])))
      (ts := fun a cls d D σ H => σ.length = NHeard.length → tAsg (tLst (tCons (tC (.str "empty")) (tCons (tExA (He.ga X.K "Empty") a cls d "kind" (tVar 2)) (tCons (tExA (He.ga X.K "Empty") a cls d "paper" (tVar 2)) (tCons (tCB (rSub X.K (He.ga X.K "Empty") a cls) (tCons (tVar 2) (tCons (tC (.ref (He.ga X.K "StateError"))) tNil))) tNil))))) (gName 1) D σ H)
      (Wout := fun _ _ _ _ => False) rfl rfl S.nd rfl rfl ⟨rfl, by decide, .inl EX.gE⟩ LamX.takes0 (fun W pn xe tk _ => ?_)
      (fun a oe cls d pn hz hf => pss_len (pss_one (ps_set (i := 1) S.nd rfl (Or.inl rfl) (pe_lst (pa_cons pe_str (pa_cons (pe_exA EX.tE (by decide) hz hf (pe_var (i := 2) rfl (Or.inl rfl))) (pa_cons (pe_exA EX.tE (by decide) hz hf (pe_var (i := 2) rfl (Or.inl rfl)))
        (pa_cons (pe_callB (call_sub hz) rfl (T.free "isinstance" rfl) (by decide +kernel) (pa_cons (pe_var (i := 2) rfl (Or.inl rfl)) (pa_cons (pe_glob rfl EX.gS rfl) pa_nil))) pa_nil)))))))))
    (pss_one (ps_ret (pe_var (i := 1) rfl (Or.inl rfl))))), ?_⟩
  · refine ⟨fun pins s' σ H' D I h' => ?_⟩
    obtain ⟨Ech, hW, h1, h2, R, h3, h4⟩ := h'
    exact (pss_one (ps_set (i := 1) S.nd rfl (Or.inl rfl) (pe_lst (pa_cons pe_str (pa_cons (pe_weak (act W pn xe Ech _ _ tk hW)) pa_nil))))).run pins s' σ H' D I ⟨R, ⟨h1, h2, h3⟩, fun v H1 r => ⟨(by decide : (2 : Nat) ≤ sizeLine), fun p hp => h4 v H1 r p hp⟩⟩
  · refine ⟨by decide, fun p0 hp0 => ⟨_, fun cls d σ' H' hx => ?_, rfl, by rw [upd_ne (ne_of_none hc hp0)]; exact hc, _, h p0 hp0, fun v H' r p hp => ⟨_, rfl, r p hp⟩⟩⟩
    obtain ⟨rfl, dd, vk, vp, rfl, hd, hq⟩ := hx
    refine ⟨true, EX.eE, fun _ a ha hl => ?_, fun z => nomatch z⟩
    match σ', hl with
    | [x0, x1, x2], _ =>
      exact ⟨.ref a, rfl, rfl, rfl, dd, _, vk, rfl, hd, rfl, .ref a, rfl, rfl, rfl, dd, _, vp, rfl, hd, rfl, .ref a, rfl, .ref (He.ga X.K "StateError"), .ref (He.ga X.K "StateError"), rfl, rfl, fun u r => r, EX.kS, (by decide : (4 : Nat) ≤ sizeLine), fun p hp => ⟨_, rfl, hq p hp⟩⟩
end K53
end KGc_
section KGd_
set_option maxRecDepth 100000
set_option maxHeartbeats 4000000
/-! KGd: steps over which a table of code objects may grow. -/
namespace K53
open PySem PySem.Spec PyProof.Rows L2 PySem.EmX
abbrev LQ : Str := "_law_told_right.<locals>.<lambda>"
abbrev Tb (P : Addr) (H : Hp) : Prop := LamX.Tabs [(P, LQ)] H
def NoT (H : Hp) (b : Addr) : Prop := ∀ o, H b = some o → ¬ Nt o
structure StpL (G H G' H' : Hp) : Prop where
  g : Le G G'
  h : LamX.ExtN H H'
  i : Same G' H'
  n : ∀ b o, G' b = some o → G b = none → NoT H b
theorem noT_none {H : Hp} {b : Addr} (h : H b = none) : NoT H b := fun o e => by rw [h] at e; cases e
theorem NoT.back {H H' : Hp} {b : Addr} (n : NoT H' b) (x : LamX.ExtN H H') : NoT H b := fun o e t => n o (x b o e t) t
theorem StpL.of {G H G' H' : Hp} (t : Stp G H G' H') : StpL G H G' H' := ⟨le_same t.g, fun b o e _ => t.h b o e, t.i, fun b o e z => noT_none (t.n b o e z)⟩
theorem StpL.trans {G H G1 H1 G2 H2 : Hp} (a : StpL G H G1 H1) (b : StpL G1 H1 G2 H2) : StpL G H G2 H2 := ⟨a.g.trans b.g, a.h.trans b.h, b.i, fun c o e z => by
  cases q : G1 c with
  | some u => exact a.n c u q z
  | none => exact (b.n c o e q).back a.h⟩
def nt (G : Hp) : Hp := fun b => match G b with
  | some (.tbl _) => none
  | o => o
theorem nt_at {G : Hp} {b : Addr} {o : HO} (h : G b = some o) (n : Nt o) : nt G b = some o := by
  unfold nt
  rw [h]
  cases o <;> first | rfl | exact absurd rfl (n _)
theorem nt_of {G : Hp} {b : Addr} {o : HO} (h : nt G b = some o) : G b = some o ∧ Nt o := by
  unfold nt at h
  split at h
  · cases h
  · rename_i x hx
    refine ⟨h, fun ps z => ?_⟩
    subst z
    exact hx ps h
theorem nt_none {G : Hp} {b : Addr} (h : G b = none) : nt G b = none := by
  unfold nt
  rw [h]
theorem nt_le {G : Hp} : Le G (nt G) := fun a o e n => ⟨o, nt_at e n, .inl rfl⟩
theorem nt_same {G H : Hp} (i : Same G H) : Same (nt G) H := fun b o e => i b o (nt_of e).1
theorem St0.nt {G H : Hp} {σ : L2.St} {Γ : En} {M : Mu} (s : St0 G H σ Γ M) : St0 (nt G) H σ Γ M := ⟨nt_same s.i, s.a.mono nt_le, s.nd, fun q hq => by
  obtain ⟨a, ob, b, c⟩ := s.m q hq
  exact ⟨nt_none a, ob, b, Mo.mono _ nt_le c⟩⟩
theorem StpL.from {G H G' H' : Hp} (t : StpL (nt G) H G' H') : StpL G H G' H' := ⟨nt_le.trans t.g, t.h, t.i, fun b o e z => t.n b o e (nt_none z)⟩
/-- objects that may change, no tables, none that only a predicate tells -/
def MoN (M : Mu) : Prop := ∀ q ∈ M, ∀ G o, q.2.r G o → Nt o ∧ ∀ φ, o ≠ .ext φ
theorem moN_nil : MoN [] := fun _ h => nomatch h
theorem moN_lst {a : Addr} {ps : List Pv} : MoN [(a, mLst ps)] := fun q hq G o r => by
  rw [List.mem_singleton] at hq; subst hq
  obtain ⟨xs, rfl, _⟩ := r
  refine ⟨fun _ h => ?_, fun _ h => ?_⟩ <;> cases h
def noB : Hp := fun _ => none
structure Rb (P : Addr) (G0 H0 : Hp) (e : Eb) : Prop where
  s : ∀ G H, Stp e.G e.H G H → StpL G0 H0 G H
  f : ∀ b, e.H b = none → NoT H0 b
  t : Tb P e.H
theorem Rb.base {P : Addr} {G H : Hp} {B : Hp} (t : Tb P H) : Rb P G H ⟨B, G, H⟩ := ⟨fun _ _ s => .of s, fun _ h => noT_none h, t⟩
theorem Rb.tab {P : Addr} {G0 H0 : Hp} {e : Eb} {G H : Hp} {σ : L2.St} {Γ : En} {M : Mu} (r : Rb P G0 H0 e) (s : Sta e G H σ Γ M) : Tb P H := r.t.ext s.t.h
theorem St0.stpL {G H G' H' : Hp} {σ : L2.St} {Γ : En} {M : Mu} (s : St0 G H σ Γ M) (hM : MoN M) (t : StpL G H G' H') : St0 G' H' σ Γ M := ⟨t.i, s.a.mono t.g, s.nd, fun q hq => by
  obtain ⟨a, ob, b, c⟩ := s.m q hq
  refine ⟨?_, ob, t.h _ _ b (hM q hq _ _ c).1, Mo.mono _ t.g c⟩
  cases e : G' q.1 with
  | none => rfl
  | some u => exact absurd (hM q hq _ _ c).1 (t.n _ _ e a ob b)⟩
theorem tb_dls {P : Addr} {G H : Hp} {σ : L2.St} {Γ : En} {M : Mu} (s : St0 G H σ Γ M) (hM : MoN M) (t : Tb P H) : Tb P (dls (M.map (·.1)) H) := fun p hp => by
  obtain ⟨ps, h1, h2, h3⟩ := t p hp
  have out : ∀ b o, H b = some o → (¬ Nt o ∨ ∃ φ, o = .ext φ) → b ∉ M.map (·.1) := fun b o e k hm => by
    obtain ⟨q, hq, rfl⟩ := List.mem_map.mp hm
    obtain ⟨_, ob, hb, hr⟩ := s.m q hq
    rw [e] at hb; cases hb
    obtain ⟨k1, k2⟩ := hM q hq _ _ hr
    rcases k with k | ⟨φ, k⟩
    · exact k k1
    · exact k2 φ k
  refine ⟨ps, by rw [dls_out (out _ _ h1 (.inl fun n => n ps rfl))]; exact h1, h2, fun pos cv hc => ?_⟩
  obtain ⟨c, e1, e2⟩ := h3 pos cv hc
  exact ⟨c, e1, by rw [dls_out (out _ _ e2 (.inr ⟨_, rfl⟩))]; exact e2⟩
/-- behind a step over which the table grew, from there on -/
theorem Rb.re {P : Addr} {G0 H0 : Hp} {e : Eb} {G H G' H' : Hp} {σ : L2.St} {Γ : En} {M : Mu} (r : Rb P G0 H0 e) (s : Sta e G H σ Γ M) (hM : MoN M) (t : StpL G H G' H') (hT : Tb P H') :
    Rb P G0 H0 ⟨noB, G', dls (M.map (·.1)) H'⟩ ∧ Sta ⟨noB, G', dls (M.map (·.1)) H'⟩ G' H' σ Γ M := by
  have a := r.s G H s.t
  have s' := s.s.stpL hM t
  have fr : ∀ b, b ∈ M.map (·.1) → NoT H0 b := fun b hb => by
    obtain ⟨q, hq, rfl⟩ := List.mem_map.mp hb
    exact r.f _ (s.f q hq)
  have fr2 : ∀ b, dls (M.map (·.1)) H' b = none → NoT H0 b := fun b hb => by
    by_cases h : b ∈ M.map (·.1)
    · exact fr b h
    · rw [dls_out h] at hb
      exact ((noT_none hb).back t.h).back a.h
  refine ⟨⟨fun G2 H2 t2 => ⟨a.g.trans (t.g.trans (le_same t2.g)), fun b o e n => t2.h b o ?_, t2.i, fun b o e z => ?_⟩, fr2, tb_dls s' hM hT⟩, ⟨⟨.refl _, dls_same, t.i, fun b o e z => ?_⟩, fun _ _ z => (nomatch z), s', fun q hq => dls_in (List.mem_map_of_mem hq)⟩⟩
  · have out : b ∉ M.map (·.1) := fun h => fr b h o e n
    show dls _ H' b = _
    rw [dls_out out]
    exact t.h _ _ (a.h _ _ e n) n
  · cases q : G' b with
    | some u =>
      cases q2 : G b with
      | some u2 => exact a.n b u2 q2 z
      | none => exact (t.n b u q q2).back a.h
    | none => exact fr2 b (t2.n b o e q)
  · have z : G' b = none := z
    rw [z] at e; cases e
/-! ### judgements -/
def XEL (P : Addr) (X : Cx) (e : Expr) (Γ : En) (M : Mu) (p : Pv) : Prop := ∀ G H σ, St0 G H σ Γ M → Tb P H → ∀ Q : VK, (∀ v G' H', StpL G H G' H' → Tb P H' → p.r G' v → Q v H') → wE X e σ H Q
def XTL (P : Addr) (X : Cx) (e : Expr) (Γ : En) (M : Mu) (b : Bool) : Prop := ∀ G H σ, St0 G H σ Γ M → Tb P H → ∀ Q : Bool → Hp → Prop, (∀ G' H', StpL G H G' H' → Tb P H' → Q b H') → wT X e σ H Q
def XWL (P : Addr) (X : Cx) (e : Expr) (Γ : En) (M : Mu) (b : Bool) : Prop := ∀ G H σ, St0 G H σ Γ M → Tb P H → ∀ Q : Bool → Hp → Prop, (∀ G' H', StpL G H G' H' → Tb P H' → Q b H') → ∃ t, PW X e t ∧ t σ H Q
/-- a promise over which the table may grow -/
def spL {δ : Type} (T : Addr) (args : δ → List Pv) (ok : δ → Prop) (res : δ → Pv) : Sp := fun vs H Q _ => ∃ d G, Same G H ∧ Tb T H ∧ AlA G vs (args d) ∧ ok d ∧ ∀ v G' H', StpL G H G' H' → Tb T H' → (res d).r G' v → Q v H'
def fPL (T : Addr) (G0 H0 : Hp) (p : Pv) : Pst := ⟨fun _ _ _ => False, fun v G H => StpL G0 H0 G H ∧ Tb T H ∧ p.r G v, fun _ _ _ => False, fun _ _ _ => False⟩
theorem fdl_body {X : Cx} {δ : Type} {args : δ → List Pv} {res : δ → Pv} {T : Addr} {d : δ} {N ps : List Str} {G H : Hp} {vs : List V} {Q : VK} {body : List Stmt} (i : Same G H) (ht : Tb T H) (a : AlA G vs (args d)) (hl : (args d).length = ps.length) (hN : ps.length ≤ N.length)
    (q : ∀ v G' H', StpL G H G' H' → Tb T H' → (res d).r G' v → Q v H')
    (h : ∀ e0, Rb T G H e0 → XSs X e0 body ((args d).map some ++ List.replicate (N.length - (args d).length) none) [] (fPL T G H (res d))) :
    ∃ t, PSs X body t ∧ t { nx := fun _ H' => Q .non H', rt := Q } (L2.start N vs) H :=
  h ⟨noB, G, H⟩ (.base ht) G H (L2.start N vs) ⟨.refl i, fun _ _ z => (nomatch z), ⟨i, start_al a (by rw [a.len, hl]; exact hN), List.nodup_nil, fun _ z => nomatch z⟩, fun _ z => nomatch z⟩ _
    ⟨fun _ _ _ z => z.elim, fun v G' H' ⟨t, tb, r⟩ => q v G' H' t tb r, fun _ _ _ z => z.elim, fun _ _ _ z => z.elim⟩
theorem fdl_of {P : Program} {w : World} {K : PySem.W.Frag} {mg : Str → Option Value} {base : Heap} {δ : Type} {args : δ → List Pv} {ok : δ → Prop} {res : δ → Pv} {T : Addr} {x qual : Str} {params : Arguments} {body : List Stmt} {scope : Scope} {dvs : List V} {kws : List (Str × V)} {f : Addr} {fd : FuncData} {N ps : List Str} {k : Nat}
    (F : FunD K x qual params body scope dvs kws f fd) (S : FnScope N ps scope) (hl : ∀ d, (args d).length = ps.length) (hN : ps.length ≤ N.length)
    (h : ∀ (cdv : Value) (A : Around) (outer : List Env) (s : Shared) (H : Hp) (E : XK), Room k (A.deeper (envOfC qual scope s.heap.objs.size f cdv)) → ∀ d G, ok d → ∀ e0, Rb T G H e0 →
      XSs (cxOf CX0 P w K mg base N qual scope f cdv A outer s H E).nox e0 body ((args d).map some ++ List.replicate (N.length - (args d).length) none) [] (fPL T G H (res d))) : FnOk P w K mg base CX0 (k + 1) f fd ps (spL T args ok res) := by
  refine F.ok S (fun vs H Q E ⟨d, G, i, ht, a, o, _⟩ => by rw [a.len, hl]) fun cdv A outer s H vs Q E hr ⟨d, G, i, ht, a, o, q⟩ => ?_
  obtain ⟨t, h1, h2⟩ := fdl_body (X := (cxOf CX0 P w K mg base N qual scope f cdv A outer s H E).nox) (ps := ps) i ht a (hl d) hN q fun e0 r => h cdv A outer s H E hr d G o e0 r
  exact ⟨t, h1.nox, h2⟩
section
variable {X : Cx} {e a b c : Expr} {es : List Expr} {Γ : En} {M : Mu} {p q : Pv} {pos pp : Pos} {e0 : Eb} {P : Pst} {T : Addr} {G0 H0 : Hp} {δ : Type} {args : δ → List Pv} {ok : δ → Prop} {res : δ → Pv} {x : Str} {k j : Nat} {pn : List Str}
theorem XE.l (h : XE X e Γ M p) : XEL T X e Γ M p := fun G H σ s t Q q => h G H σ s Q fun v G' H' st r => q v G' H' (.of st) (t.ext st.h) r
theorem XT.l {u : Bool} (h : XT X e Γ M u) : XTL T X e Γ M u := fun G H σ s t Q q => h G H σ s Q fun G' H' st => q G' H' (.of st) (t.ext st.h)
theorem xel_call (F : Fd X.prog X.w X.K X.mg X.base x k pn [] (spL T args ok res)) (d : δ) (hr : Room j X.A) (ha : XA X (e :: es) Γ M (args d)) (ho : ok d) (hj : k ≤ j := by decide) (hg : Gl X x := by rfl) (hdb : (x == ("__debug__" : Str)) = false := by decide)
    (he : starEach (e :: es) X.env = (false, eval e X.env) :: starEach es X.env := by rfl) (hpl : (backTo pos (starEach es X.env)).any (·.1) = false := by rfl) : XEL T X (.Call (.Name x pp) (e :: es) [] pos) Γ M (res d) := fun G H σ s tb Q q => by
  obtain ⟨f, fd, ds, hm, hk, hd, hb, F⟩ := F.ex
  exact ⟨_, pe_call (E := E0) F (hr.mono hj) hg hm hk hb hd pass0 pa_w hdb he hpl, ha G H σ s _ fun vs G1 H1 t1 r1 => ⟨d, G1, t1.i, tb.ext t1.h, by rw [List.append_nil]; exact r1, ho, fun v G2 H2 t2 tb2 r2 => q v G2 H2 ((StpL.of t1).trans t2) tb2 r2⟩⟩
theorem xtl_val {u : Bool} (h : XEL T X e Γ M (vBl u)) (he : ∀ whole, isTrue e X.env whole = (do let v ← whole; standAt e.pos; holding [v] (truthy v)) := by intro _; rfl) : XTL T X e Γ M u := fun G H σ s tb Q k =>
  ⟨_, pt_val pe_w he, h G H σ s tb _ fun v G' H' t tb' r => ⟨u, r, k G' H' t tb'⟩⟩
theorem xtl_not {u : Bool} (h : XTL T X a Γ M u) : XTL T X (.UnaryOp .Not a pos) Γ M (!u) := fun G H σ s tb Q k => ⟨_, pt_not pt_w, h G H σ s tb _ fun G' H' t tb' => k G' H' t tb'⟩
theorem XWL.pt {u : Bool} (h : XWL T X e Γ M u) : XTL T X e Γ M u := fun G H σ s tb Q k => by
  obtain ⟨t, h1, h2⟩ := h G H σ s tb Q k
  exact ⟨t, h1.pt, h2⟩
theorem xwl_and1 {u : Bool} (h : XTL T X a Γ M u) : XWL T X (.BoolOp .And [a] pos) Γ M u := fun G H σ s tb Q k => ⟨_, pw_and1 pt_w, h G H σ s tb Q k⟩
theorem xwl_and {w : Bool} {r : List Expr} (h : XT X a Γ M true) (h2 : XWL T X (.BoolOp .And (b :: r) pos) Γ M w) : XWL T X (.BoolOp .And (a :: b :: r) pos) Γ M w := fun G H σ s tb Q k =>
  ⟨_, pw_and pt_w pw_w, h G H σ s _ fun G' H' t => h2 G' H' σ (s.stp t) (tb.ext t.h) Q fun G2 H2 t2 tb2 => k G2 H2 ((StpL.of t).trans t2) tb2⟩
/-! ### statements -/
theorem xs_retL (he : XE X e Γ M p) (r : Rb T G0 H0 e0) : XS X e0 (.Return (some e) pos) Γ M (fPL T G0 H0 p) := xs_retS he fun v G H σ s rv => ⟨r.s _ _ s.t, r.tab s, rv⟩
theorem xss_setL {i : Nat} {n : Str} {pos' : Pos} {rest : List Stmt} (he : XEL T X e Γ M p) (r : Rb T G0 H0 e0) (hM : MoN M) (hN : X.N.Nodup) (kk : ∀ e1, Rb T G0 H0 e1 → XSs X e1 rest (Γ.set i (some p)) M P) (hi : X.N[i]? = some n := by rfl) (hx : Loc X.env.scope n := by first | exact .inl rfl | exact .inr rfl) (hs : swapsWith e (some (.Name n pos')) pos.line X.env = pure false := by rfl)
    (hf : X.fn n = true ∨ X.env.scope.names.lookup n = some .local := by first | exact .inl rfl | exact .inr rfl) : XSs X e0 (.Assign [.Name n pos'] e pos :: rest) Γ M P := fun G H σ s D F =>
  ⟨_, pss_cons (ps_set hN hi hx pe_w hs hf) pss_w, he G H σ s.s (r.tab s) _ fun v G' H' t tb rv => by
    obtain ⟨r', s'⟩ := r.re s hM t tb
    exact kk _ r' G' H' _ (s'.set rv) D F⟩
theorem xss_ifL {th rest : List Stmt} (hc : XTL T X c Γ M false) (r : Rb T G0 H0 e0) (hM : MoN M) (kk : ∀ e1, Rb T G0 H0 e1 → XSs X e1 rest Γ M P) : XSs X e0 (.If c th [] pos :: rest) Γ M P := fun G H σ s D F =>
  ⟨_, pss_cons (ps_if pt_w pss_w pss_w) pss_w, hc G H σ s.s (r.tab s) _ fun G' H' t tb => by
    obtain ⟨r', s'⟩ := r.re s hM t tb
    show wSs X [] _ σ H'
    exact ⟨_, pss_nil, kk _ r' G' H' σ s' D F⟩⟩
end
end K53
end KGd_
section KGe_
set_option maxRecDepth 100000
set_option maxHeartbeats 4000000
/-! KGe: calls of defs that may raise where they do not; _law_heard(lambda: least_sizes(web, dict(held))). -/
namespace K53
open PySem PySem.Spec PyProof.Rows L2 PySem.EmX
section
variable {X : Cx} {e a b c : Expr} {es : List Expr} {Γ : En} {M : Mu} {p q : Pv} {pos pp p1 p2 : Pos} {e0 : Eb} {P : Pst} {T : Addr} {G0 H0 : Hp} {δ : Type} {args : δ → List Pv} {ok : δ → Prop} {res : δ → Pv} {exc : δ → Value → Option Addr → Hp → Hp → Prop} {x : Str} {k j : Nat} {pn : List Str}
theorem xe_callX (F : FdX X.prog X.w X.K X.mg X.base x k pn (spX args ok res exc)) (d : δ) (hr : Room j X.A) (ha : XA X (e :: es) Γ M (args d)) (ho : ok d) (hE : ∀ cls dd G H, exc d cls dd G H → False) (hj : k ≤ j := by decide) (hg : Gl X x := by rfl) (hdb : (x == ("__debug__" : Str)) = false := by decide)
    (he : starEach (e :: es) X.env = (false, eval e X.env) :: starEach es X.env := by rfl) (hpl : (backTo pos (starEach es X.env)).any (·.1) = false := by rfl) : XE X (.Call (.Name x pp) (e :: es) [] pos) Γ M (res d) := fun G H σ s Q q => by
  obtain ⟨fa, fd, hm, hk, hb, F⟩ := F.ex
  exact ⟨_, pe_callS F (hr.mono hj) hg hm hk hb (fun σ => passAt LamX.takes0 σ) pa_w hdb he hpl, ha G H σ s _ fun vs G1 H1 t1 r1 => ⟨d, G1, t1.i, r1, ho, fun v G2 H2 t2 r2 => q v G2 H2 (t1.trans t2) r2, fun cls dd G2 H2 t2 x => (hE _ _ _ _ x).elim⟩⟩
/-- x(k1 = a, k2 = b), told the other way round -/
theorem xe_kw2X {k1 k2 : Str} {f : Addr} {fd : FuncData} (F : FnOk X.prog X.w X.K X.mg X.base (L2.CX X.prog X.w) k f fd pn (spX args ok res exc)) (hm : X.mg x = some (.ref f)) (hk : PySem.W.keepIn X.K (.ref f) = true) (hb : KBn X.K fd pn 0 [k1, k2] (fun _ ws => ws.reverse) (fun _ zs => zs.reverse))
    (d : δ) (hr : Room j X.A) (ha : XE X a Γ M p) (hbb : XE X b Γ M q) (hd : args d = [q, p]) (ho : ok d) (hE : ∀ cls dd G H, exc d cls dd G H → False) (hj : k ≤ j := by decide) (hg : Gl X x := by rfl) (hdb : (x == ("__debug__" : Str)) = false := by decide)
    (hall : (backToKw pos (keywordEach [⟨some k1, a, p1⟩, ⟨some k2, b, p2⟩] X.env)).all (·.1.isSome) = true := by rfl) (hks : (backToKw pos (keywordEach [⟨some k1, a, p1⟩, ⟨some k2, b, p2⟩] X.env)).filterMap (·.1) = [k1, k2] := by rfl)
    (hpl : ((backTo pos (starEach [] X.env)).any (·.1) || (backToKw pos (keywordEach [⟨some k1, a, p1⟩, ⟨some k2, b, p2⟩] X.env)).any (·.1.isNone)) = false := by rfl) :
    XE X (.Call (.Name x pp) [] [⟨some k1, a, p1⟩, ⟨some k2, b, p2⟩] pos) Γ M (res d) := fun G H σ s Q qq => by
  refine ⟨fun σ H Q => tCons (wE X a) (tCons (wE X b) tNil) σ H fun zs H2 => ∃ v u, zs = [v, u] ∧ spX args ok res exc [u, v] H2 Q (fun _ _ _ => False), ⟨fun pins s σ H Q I h => ?_⟩, ?_⟩
  · refine wpAny_Call_Name_kw (ld_glob I hg hm ?_ hdb)
    refine PySem.W.callWith_KW0 (h₀ := X.base) I.ok.mod.kin hk hall ?_ hpl
    refine thn ((pk_cons (nm := some k1) (kpos := p1) (pe_w (e := a)) (pk_cons (nm := some k2) (kpos := p2) (pe_w (e := b)) pk_nil)).run pos pins s σ H _ I h) fun ws s2 ⟨zs, H2, I2, rz, v, u, ez, q2⟩ => ⟨I2.kIn, ?_⟩
    subst ez
    rw [hks]
    exact run_fnN (us := []) (vs := []) F (hr.mono hj) hb (passes_call LamX.takes0 fun _ _ _ _ z => z) I2 .nil rz rfl rfl q2
  · exact ha G H σ s _ fun v G1 H1 t1 r1 => hbb G1 H1 σ (s.stp t1) _ fun u G2 H2 t2 r2 => ⟨v, u, rfl, d, G2, t2.i, by rw [hd]; exact .cons r2 (.cons (Pv.mono _ (le_same t2.g) r1) .nil), ho, fun v G3 H3 t3 r3 => qq v G3 H3 ((t1.trans t2).trans t3) r3, fun cls dd G2 H2 t2 x => (hE _ _ _ _ x).elim⟩
end
/-- what _law_heard tells of least_sizes(W, c) -/
def vHrd (K : PySem.W.Frag) (W : Web) (c : Cnt) : Pv := ⟨fun G v => (∃ c', Lst W c c' ∧ (vLst [vStr "told", vSizes K c']).r G v) ∨ ∃ x p, firstBad W (sortC c) = some x ∧ papW W x.1 = some p ∧ (vLst [vStr "empty", vStr x.1, vPaper p, vBl true]).r G v,
  fun l h => h.elim (fun ⟨c', a, b⟩ => .inl ⟨c', a, Pv.mono _ l b⟩) fun ⟨x, p, a, b, d⟩ => .inr ⟨x, p, a, b, Pv.mono _ l d⟩⟩
abbrev rDictD : List V → Hp → VK → Prop := fun xs H Q => ∃ (a : Addr) (kvs : List (Key × V)), xs = [.ref a] ∧ Rd H a (.dK kvs) ∧ ∀ p, H p = none → Q (.ref p) (upd H p (.dK kvs))
abbrev tLamLs (K : PySem.W.Frag) (iw ih : Nat) (E : XK) : TE := tCallS (spLs K) (fun _ => E) (tCons (tVar iw) (tCons (tCB rDictD (tCons (tVar ih) tNil)) tNil))
theorem xel_heard {X : Cx} {Γ : En} {M : Mu} (T : Txt X.K X.mg) (EX : ExcT X.prog X.w X.K X.mg) {c P : Addr} (TB : LamX.TabB X.base X.mg c P) (hcode : X.env.code = .ref c) (hq : X.env.qual ++ "<lambda>" = LQ) {W : Web} {cn : Cnt} (ok : LsOk W cn) {j iw ih : Nat} (hr : Room j X.A) (hj : 24 ≤ j)
    (hw : Γ[iw]? = some (some (vWeb X.K W))) (hh : Γ[ih]? = some (some (vDic (pCnt cn)))) {nw nh : Str} (hNw : X.N[iw]? = some nw) (hNh : X.N[ih]? = some nh) {params : Arguments} {scope : Scope} {q1 q2 q3 q4 q5 q6 lpos pp pos : Pos}
    (vw : scope.names.lookup nw = some .free) (vh : scope.names.lookup nh = some .free) (L : LamX.LamS X.env.scope scope) (hdef : defaultsOf params X.env = ([], [])) (hg : Gl X "_law_heard")
    (hbind : ∀ (q : Str) (cl : List (Str × Addr)) (pm cv ctv : Value), bindArgs (PySem.W.kla_fn "<lambda>" q params (.Call (.Name "least_sizes" q1) [.Name nw q2, .Call (.Name "dict" q3) [.Name nh q4] [] q5] [] q6) scope cl pm cv ctv) ⟨[], []⟩ = pure [])
    (g1 : scope.names.lookup ("least_sizes" : Str) = some .globalImplicit) (g2 : scope.names.lookup ("dict" : Str) = some .globalImplicit)
    (hd1 : (nw == ("__debug__" : Str)) = false := by decide) (hc1 : (nw == ("__classdict__" : Str)) = false := by decide) (hd2 : (nh == ("__debug__" : Str)) = false := by decide) (hc2 : (nh == ("__classdict__" : Str)) = false := by decide) :
    XEL P X (.Call (.Name "_law_heard" pp) [.Lambda params (.Call (.Name "least_sizes" q1) [.Name nw q2, .Call (.Name "dict" q3) [.Name nh q4] [] q5] [] q6) scope lpos] [] pos) Γ M (vHrd X.K W cn) := by
  intro G H σ s tb Q q
  obtain ⟨g, fd, F⟩ := T.fn i_law_heard d_law_heard rfl
  have hb := F.bindsN (ps := ["_law_call"]) fun _ _ _ _ _ _ us hl => match us, hl with | [_], _ => rfl
  obtain ⟨oc, od, dV, kV, doc, pm, an, cdv, ct, osl, rfl, lk, hcd, _, _⟩ := F.ex
  obtain ⟨fl, fdl, hml, hkl, hbl, Fl⟩ := (fd_least_sizes (P := X.prog) (w := X.w) (base := X.base) T EX).ex
  obtain ⟨uw, ew, rw⟩ := s.a.2 iw _ hw
  obtain ⟨uh, eh, rh⟩ := s.a.2 ih _ hh
  refine ⟨_, LamX.pe_lamcall (T := [(P, LQ)]) (k := 22) (TT := TTh X.K) (Ng := NHeard) (t := tLamLs X.K iw ih) hg (g rfl) F.kp lk hcd hb scopeHeard rfl (.inl rfl) (by rw [hq]; exact heard_gives T EX) TB hcode (by rw [hq]; exact List.mem_singleton_self _) (fun p hp _ => by rw [List.mem_singleton] at hp; rw [hp, hq]) (hr.mono hj) L hdef hbind
    (fun A outer s H E f c' hr' => pe_callS Fl hr' g1 hml hkl hbl (fun σ => passAt (W := fun cls d _ H => E cls d H) (takes_of rfl rfl rfl rfl) σ) (pa_cons (pe_var hNw (.inr (.inr vw)) hd1 hc1) (pa_cons (pe_callTy call_dictD g2 (T.free "dict" rfl) (by decide +kernel) (pa_cons (pe_var hNh (.inr (.inr vh)) hd2 hc2) pa_nil)) pa_nil))), tb, fun H1 eN T1 => ?_⟩
  intro p0 hp0
  have i1 : Same (nt G) H1 := fun b o e => by
    obtain ⟨e1, n1⟩ := nt_of e
    exact eN b o (s.i b o e1) n1
  have sL : StpL G H (nt G) H1 := ⟨nt_le, eN, i1, fun b o e z => by rw [nt_none z] at e; cases e⟩
  have t1 : Stp (nt G) H1 (nt G) (upd H1 p0 (.lst [.str "other"])) := Stp.tmp i1 hp0
  obtain ⟨dh, rfl, kv, hrd, al⟩ := rh
  have hrd1 : Rd (upd H1 p0 (.lst [.str "other"])) dh (.dK kv) := by
    rcases hrd with z | ⟨o, z⟩
    · exact .inl (t1.h _ _ (eN _ _ (s.i _ _ z) (fun _ z => nomatch z)))
    · exact .inr ⟨o, t1.h _ _ (eN _ _ (s.i _ _ z) (fun _ z => nomatch z))⟩
  refine ⟨uw, ew, .ref dh, eh, dh, kv, rfl, hrd1, fun l hl => ?_⟩
  have t2 : Stp (nt G) (upd H1 p0 (.lst [.str "other"])) (upd (nt G) l (.dK kv)) _ := Stp.new t1.i hl
  have l2 : Le G (upd (nt G) l (.dK kv)) := nt_le.trans (le_same t2.g)
  refine ⟨(W, cn, false), _, t2.i, .cons (Pv.mono _ l2 rw) (.cons ⟨l, rfl, kv, .inl upd_same, al.mono l2⟩ .nil), ok, fun v G' H' t3 r3 p hp => ?_, fun cls dd G' H' t3 x => ?_⟩
  · obtain ⟨c', hc', rc⟩ := r3
    have t4 := Stp.new (o := .lst [.str "told", v]) t3.i hp
    have all := ((t1.trans t2).trans t3).trans t4
    exact q _ _ _ (sL.trans (.of all)) (T1.ext all.h) (.inl ⟨c', hc', p, _, rfl, upd_same, .cons rfl (.cons (Pv.mono _ (le_same t4.g) rc) .nil)⟩)
  · obtain ⟨x, pa, hx, hpa, rfl, a, vp, rfl, ha, rp⟩ := x
    refine ⟨rfl, a, .str x.1, vp, rfl, ha, fun p hp => ?_⟩
    have t4 := Stp.new (o := .lst [.str "empty", .str x.1, vp, .bl true]) t3.i hp
    have all := ((t1.trans t2).trans t3).trans t4
    exact q _ _ _ (sL.trans (.of all)) (T1.ext all.h) (.inr ⟨x, pa, hx, hpa, p, _, rfl, upd_same, .cons rfl (.cons rfl (.cons (Pv.mono _ (le_same t4.g) rp) (.cons rfl .nil)))⟩)
end K53
end KGe_
section PD_
set_option maxRecDepth 100000
set_option maxHeartbeats 4000000
/-! PD: the law's tellings against the program's, in plain Lean. -/
namespace K53
open PySem PySem.Spec
theorem closedL_sort {ts : Ties} (nd : (ts.map (·.1)).Nodup) {V : Cnt} : closedL (leads (sortT ts)) V ↔ closedL (leads ts) V := by
  unfold closedL
  simp only [leads_sort nd]
theorem cnt_sortC {c : Cnt} (nd : (c.map (·.1)).Nodup) (k : Str) : cnt (sortC c) k = cnt c k := by
  unfold cnt
  rw [sortC_look nd]
theorem cnt_ext {c d : Cnt} (nd : (c.map (·.1)).Nodup) (hk : c.map (·.1) = d.map (·.1)) (h : ∀ k, cnt c k = cnt d k) : c = d := by
  have e1 := map_cnt nd
  have e2 := map_cnt (c := d) (by rw [← hk]; exact nd)
  rw [← e1, ← e2, hk]
  exact List.map_congr_left fun s _ => by
    show (s, cnt c s) = (s, cnt d s)
    rw [h]
theorem sortC_map (c : Cnt) : sortC c = mapC (sortS (c.map (·.1))) (cnt c) := rfl
/-- what _law_told_right is told -/
structure TrOk (ks : List Str) (ts : Ties) (side : Nat) (held : Cnt) : Prop where
  hk : KsOk ks
  h4 : ks.length ≤ 4
  lt : LTs ks ts
  s40 : 1 ≤ side ∧ side ≤ 40
  big : side ^ ks.length ≤ 1600
  ho : CntOk held
  pk : (held.map (·.1)).Perm ks
  sm : ∀ k, cnt held k ≤ 1728
section
variable {ks : List Str} {ts : Ties} {side : Nat} {held : Cnt}
theorem TrOk.tk (h : TrOk ks ts side held) : TsOk ks ts := h.lt.ok h.hk.nm
theorem TrOk.w (h : TrOk ks ts side held) : WebOk (mkWeb ks ts) := mkWeb_ok h.hk h.tk
theorem TrOk.keys (h : TrOk ks ts side held) : sortS (held.map (·.1)) = sortS ks := sortS_congr h.pk
theorem paper_bad (hk : KsOk ks) (h4 : ks.length ≤ 4) (lt : LTs ks ts) {k : Str} : (papW (mkWeb ks ts) k).isSome = decide (k ∈ lawBad ks ts) := by
  have tk : TsOk ks ts := lt.ok hk.nm
  have w := mkWeb_ok hk tk
  by_cases hb : k ∈ lawBad ks ts
  · obtain ⟨p, hp⟩ := paperOf_some lt hk h4 hb
    rw [decide_eq_true hb]
    show (paperOf _ _ _).isSome = true
    rw [hp]; rfl
  · rw [decide_eq_false hb]
    cases e : papW (mkWeb ks ts) k with
    | none => rfl
    | some p =>
      exfalso
      have pk : PaperOk (mkWeb ks ts) k p := paperOf_ok w e (mpOk_of w)
      obtain ⟨f, f0, f1, f2, f3⟩ := exU lt h4
      have gk : k ∈ ks := by
        refine Decidable.byContradiction fun z => ?_
        have z0 : closedL (leads (mkWeb ks ts).ts) (mapC (k :: ks) fun s => if s = k then 1 else 0) := (closedL_sort tk.nd).mpr fun l hl => by
          obtain ⟨h1, _⟩ := lead_f lt hl
          refine .inl ?_
          rw [mapC_cnt]
          split
          · rw [if_neg]
            intro q
            exact z (q ▸ h1)
          · rfl
        have := paper_zero pk z0
        rw [mapC_cnt, if_pos (List.mem_cons_self), if_pos rfl] at this
        exact absurd this (by decide)
      have cl : closedL (leads (mkWeb ks ts).ts) (mapC ks f) := (closedL_sort tk.nd).mpr fun l hl => by
        have q := lead_f lt hl
        obtain ⟨h1, h2⟩ : l.1 ∈ ks ∧ l.2.1 ∈ ks := ⟨q.t, q.h⟩
        unfold ldC
        rw [mapC_cnt, mapC_cnt, if_pos h1, if_pos h2]
        exact f3 l hl
      have := paper_zero pk cl
      rw [mapC_cnt, if_pos gk] at this
      have := f1 k hb
      omega
def wrongL (ks : List Str) (ts : Ties) (held : Cnt) : List Str := (lawEmpty ks ts).filter fun k => decide (0 < cnt held k)
theorem TrOk.first (h : TrOk ks ts side held) : firstBad (mkWeb ks ts) (sortC held) = (wrongL ks ts held).head?.map fun k => (k, cnt held k) := by
  unfold firstBad wrongL lawEmpty
  rw [sortC_map, h.keys, List.filter_filter, List.head?_filter]
  unfold mapC
  rw [List.find?_map]
  have : (isBadW (mkWeb ks ts) ∘ fun k => (k, cnt held k)) = fun k => decide (0 < cnt held k) && decide (k ∈ lawBad ks ts) := by
    funext k
    show (decide (0 < cnt held k) && (papW (mkWeb ks ts) k).isSome) = _
    rw [paper_bad h.hk h.h4 h.lt]
  rw [this]
theorem lnOk_of (tk : TsOk ks ts) {c : Cnt} (hc : c.map (·.1) = sortS ks) : ∀ x ∈ linesOf (mkWeb ks ts).ts, LnOk x.2.2 c := by
  intro y hy
  obtain ⟨x, hx, hy⟩ := List.mem_flatMap.mp hy
  obtain ⟨n, hn, rfl⟩ := List.mem_map.mp hy
  have hx : x ∈ ts := (sortT_mem tk.nd).mp hx
  have ok := tk.ok _ hx
  have ha : x.2.a ∈ c.map (·.1) := by rw [hc]; exact mem_sortS.mpr (tk.ia _ hx)
  have hb : x.2.b ∈ c.map (·.1) := by rw [hc]; exact mem_sortS.mpr (tk.ib _ hx)
  have q1 : ∀ z, x.2.m.2 = some z → z ≤ 6 := fun z e => (ok.m.2 z e).2
  have q2 : ∀ z, x.2.n.2 = some z → z ≤ 6 := fun z e => (ok.n.2 z e).2
  show LnOk (lineOf x.2 n) c
  unfold lineOf
  split
  · exact ⟨ha, hb, ok.m.1, q2⟩
  · exact ⟨hb, ha, ok.n.1, q1⟩
theorem gap_le {l : List Str} {c U : Cnt} {B : Nat} (h : ∀ k, cnt U k ≤ B) : gapS l c U ≤ l.length * B := by
  unfold gapS
  induction l with
  | nil => simp
  | cons k l ih =>
    rw [List.map_cons, List.sum_cons, List.length_cons, Nat.succ_mul]
    have := h k
    omega
theorem TrOk.ls (h : TrOk ks ts side held) : LsOk (mkWeb ks ts) held := by
  refine ⟨h.w, h.ho, h.keys, fun hf => ?_⟩
  rw [h.first] at hf
  have hw : ∀ k ∈ lawBad ks ts, cnt held k = 0 := fun k hk => by
    refine Decidable.byContradiction fun z => ?_
    have m : k ∈ wrongL ks ts held := List.mem_filter.mpr ⟨List.mem_filter.mpr ⟨mem_sortS.mpr (lawBad_sub h.lt hk), decide_eq_true hk⟩, decide_eq_true (by omega)⟩
    cases q : wrongL ks ts held with
    | nil => rw [q] at m; simp at m
    | cons a l => rw [q] at hf; simp at hf
  obtain ⟨f, f0, f1, f2, f3⟩ := exU h.lt h.h4
  have hk2 : (sortC held).map (·.1) = sortS ks := by rw [sortC_keys, h.keys]
  refine ⟨mapC ks f, sortC_ok h.ho, lnOk_of h.tk hk2, (closed_sort h.tk.nd).mpr fun l hl => ?_, fun k => ?_, ?_⟩
  · have q := lead_f h.lt hl
    unfold ldC
    rw [mapC_cnt, mapC_cnt, if_pos q.t, if_pos q.h]
    exact f3 l hl
  · rw [cnt_sortC h.ho.nd, mapC_cnt]
    by_cases m : k ∈ ks
    · rw [if_pos m]
      by_cases b : k ∈ lawBad ks ts
      · rw [hw k b]; exact Nat.zero_le _
      · have := h.sm k
        have := f1 k b
        omega
    · rw [if_neg m, cnt_none fun z => m (h.pk.mem_iff.mp z)]
      exact Nat.le_refl _
  · refine Nat.le_trans (gap_le (B := 13824) fun k => ?_) ?_
    · rw [mapC_cnt]
      split
      · exact f2 k
      · exact Nat.zero_le _
    · rw [hk2, sortS_length]
      have := h.h4
      omega
/-- told least sizes -/
structure Told (ks : List Str) (ts : Ties) (c : Cnt) : Prop where
  co : CntOk c
  ck : c.map (·.1) = sortS ks
  cl : closedL (leads ts) c
theorem told_of (hk : KsOk ks) (tk : TsOk ks ts) {c c' : Cnt} (co : CntOk c) (k : sortS (c.map (·.1)) = sortS ks) (l : Lst (mkWeb ks ts) c c') : Told ks ts c' := by
  have e : c'.map (·.1) = sortS ks := by rw [l.u.ks, sortC_keys, k]
  exact ⟨(sortC_ok co).keys (by rw [e, sortC_keys, k]), e, (closed_sort tk.nd).mp l.cl⟩
theorem Told.id (t : Told ks ts held) : sortC held = held := sortC_id t.co.nd (by rw [t.ck]; exact sortS_pairwise ks)
theorem Told.nobad (t : Told ks ts held) (hk : KsOk ks) (tk : TsOk ks ts) : firstBad (mkWeb ks ts) held = none := by
  unfold firstBad
  rw [List.find?_eq_none]
  intro x hx hb
  unfold isBadW at hb
  rw [Bool.and_eq_true, decide_eq_true_eq] at hb
  obtain ⟨p, hp⟩ := Option.isSome_iff_exists.mp hb.2
  have w := mkWeb_ok hk tk
  have := paper_zero (paperOf_ok w hp (mpOk_of w)) ((closedL_sort tk.nd).mpr t.cl)
  rw [cnt_mem t.co.nd hx] at this
  omega
theorem Told.ls (t : Told ks ts held) (hk : KsOk ks) (tk : TsOk ks ts) : LsOk (mkWeb ks ts) held := ⟨mkWeb_ok hk tk, t.co, by rw [t.ck, sortS_sortS]; rfl, fun _ => by
  rw [t.id]
  refine ⟨held, t.co, lnOk_of tk t.ck, (closed_sort tk.nd).mpr t.cl, fun _ => Nat.le_refl _, ?_⟩
  have : ∀ l : List Str, gapS l held held = 0 := fun l => by
    unfold gapS
    induction l with
    | nil => rfl
    | cons k l ih => rw [List.map_cons, List.sum_cons, ih]; omega
  rw [this]; exact Nat.zero_le _⟩
/-- the least sizes of told sizes are these -/
theorem Told.same (t : Told ks ts held) (tk : TsOk ks ts) {c : Cnt} (l : Lst (mkWeb ks ts) held c) : c = held := by
  have k : c.map (·.1) = held.map (·.1) := by rw [l.u.ks, t.id]
  refine cnt_ext (by rw [k]; exact t.co.nd) k fun x => Nat.le_antisymm (l.u.le held ((closed_sort tk.nd).mpr t.cl) (fun z => by rw [t.id]; exact Nat.le_refl _) x) ?_
  have := l.u.ge x
  rwa [t.id] at this
theorem Lst.one {W : Web} {c a b : Cnt} (nd : (c.map (·.1)).Nodup) (l : Lst W c a) (m : Lst W c b) : a = b := by
  have k : a.map (·.1) = b.map (·.1) := by rw [l.u.ks, m.u.ks]
  exact cnt_ext (by rw [l.u.ks, sortC_keys]; exact sortS_nodup nd) k fun x => Nat.le_antisymm (l.u.le b m.cl m.u.ge x) (m.u.le a l.cl l.u.ge x)
theorem TrOk.lr (h : TrOk ks ts side held) {c : Cnt} (l : Lst (mkWeb ks ts) held c) : LrOk ks ts side held c := by
  have t := told_of h.hk h.tk h.ho h.keys l
  refine ⟨h.hk, h.tk, h.s40, h.big, h.ho, h.pk, t.co, t.ck, t.cl, fun k => ?_, fun V hV hg => l.u.le V ((closed_sort h.tk.nd).mpr hV) fun k => ?_⟩
  · have := l.u.ge k
    rwa [cnt_sortC h.ho.nd] at this
  · rw [cnt_sortC h.ho.nd]; exact hg k
end
end K53
end PD_
section KGf_
set_option maxRecDepth 100000
set_option maxHeartbeats 4000000
/-! KGf: name = [.. for ..] on one line, the name a local. -/
namespace K53
open PySem PySem.Spec PyProof.Rows L2
section
variable {X : Cx} {e a b c tg it : Expr} {es : List Expr} {Γ Γ' Γ'' : En} {M : Mu} {p q z : Pv} {ps : List Pv} {pos pp : Pos} {α : Type} {ds : List α} {f g : α → Pv} {e0 : Eb} {P : Pst}
theorem lc_read {elt : Expr} {ifs : List Expr} {scope : Scope} (own : List (Str × Nat)) {b : α → Bool} (Γ' : α → En) (hc : X.calm = true) (hN : X.N.Nodup) {G H : Hp} {σ : L2.St} (s : St0 G H σ Γ M) (hi : ∀ R : It → Hp → Prop, (∀ J G' H', Stp G H G' H' → Wk J G' ds f → R J H') → wI X tg it σ H R) (ok : BlkOk X.N X.env.scope scope own)
    (hg : ∀ s H C cl fp, ∀ d ∈ ds, XG (Bk X scope s H C cl fp) tg (f d) (wipeE Γ (own.map (·.2))) (Γ' d) (own.map (·.2))) (ht : ∀ s H C cl fp, ∀ d ∈ ds, XTs (Bk X scope s H C cl fp) ifs (Γ' d) M (b d))
    (he : ∀ s H C cl fp, ∀ d ∈ ds, b d = true → XE (Bk X scope s H C cl fp) elt (Γ' d) M (g d)) (hz : ds.length < sizeLine) (hs : ∀ x, foldedSetIterable it X.env x = pure x := by intro _; rfl) :
    ∀ Q : VK, (∀ p ob G' H', Stp G H G' H' → H p = none → G' p = none → H' p = some ob → (mLst ((ds.filter b).map g)).r G' ob → Q (.ref p) H') →
      tLc (wI X tg it) (fun v σ H Q => ∀ s H0 C cl fp, wG (Bk X scope s H0 C cl fp) tg v σ H Q) (fun σ H Q => ∀ s H0 C cl fp, wTs (Bk X scope s H0 C cl fp) ifs σ H Q) (fun σ H Q => ∀ s H0 C cl fp, wE (Bk X scope s H0 C cl fp) elt σ H Q) (own.map (·.2)) σ H Q := fun Q k => by
  refine hi _ fun J G1 H1 t1 wk D hD => ?_
  have s1 := s.stp t1
  have hg1 : G1 D = none := t1.i.free hD
  refine ⟨fun i m H' => m = ds.length - i ∧ i ≤ ds.length ∧ ∃ G', Stp G1 H1 G' H' ∧ St0 G' H' (L2.wipe σ (own.map (·.2))) (wipeE Γ (own.map (·.2))) ((D, mLst (((ds.take i).filter b).map g)) :: M),
    ⟨_, rfl, Nat.zero_le _, G1, Stp.tmp t1.i hD, (s1.wipe _).add (o := mLst (((ds.take 0).filter b).map g)) (Stp.tmp t1.i hD) hD hg1 upd_same ⟨[], rfl, .nil⟩⟩, ?_⟩
  rintro i m H' ⟨rfl, hle, G', t', s'⟩
  rcases Nat.lt_or_ge i ds.length with hlt | hge
  · right
    have hd' : ds[i]? = some ds[i] := List.getElem?_eq_getElem hlt
    have hmem : ds[i] ∈ ds := List.getElem_mem hlt
    have tk := take_succ_filter (b := b) (g := g) hd'
    refine ⟨wk.go i G' H' _ t'.g s'.i hd', fun H2 => ∃ G2, Stp G1 H1 G2 H2 ∧ St0 G2 H2 (L2.wipe σ (own.map (·.2))) (wipeE Γ (own.map (·.2))) ((D, mLst (((ds.take (i + 1)).filter b).map g)) :: M), ?_, ?_⟩
    · rintro H2 ⟨G2, t2, s2⟩
      exact ⟨ds.length - (i + 1), by omega, rfl, hlt, G2, t2, s2⟩
    · intro v H2 hy
      obtain ⟨G2, t2, rv⟩ := wk.yl i G' H' _ v H2 t'.g s'.i hd' hy
      have s2 := s'.stp t2
      intro cs cH cC ccl cfp
      refine hg cs cH cC ccl cfp _ hmem G2 H2 _ v s2.a s2.i rv _ fun σ3 a3 l3 o3 => ⟨(wipe_ext l3 o3).trans (wipe_wipe σ), ?_⟩
      have s3 : St0 G2 H2 σ3 (Γ' ds[i]) ((D, mLst (((ds.take i).filter b).map g)) :: M) := ⟨s2.i, a3, s2.nd, s2.m⟩
      intro cs cH cC ccl cfp
      refine ht cs cH cC ccl cfp _ hmem G2 H2 σ3 (s3.sub (List.sublist_cons_self _ _)) _ fun G4 H4 t4 => ?_
      cases hb : b ds[i] with
      | false =>
        rw [if_neg (by simp)]
        rw [hb, if_neg (by simp), List.append_nil] at tk
        exact ⟨G4, (t'.trans t2).trans t4, by rw [tk]; exact (s2.stp t4)⟩
      | true =>
        rw [if_pos rfl]
        rw [hb, if_pos rfl] at tk
        intro cs cH cC ccl cfp
        refine he cs cH cC ccl cfp _ hmem hb G4 H4 σ3 ((s3.stp t4).sub (List.sublist_cons_self _ _)) _ fun y G5 H5 t5 ry => ?_
        have s5 := (s2.stp t4).stp t5
        obtain ⟨hG5, ob, hH5, acc, rfl, al⟩ := s5.m (D, _) List.mem_cons_self
        refine ⟨acc, hH5, ?_, G5, (((t'.trans t2).trans t4).trans t5).wr hD hG5, ?_⟩
        · rw [al.len, List.length_map]
          exact Nat.lt_of_le_of_lt (Nat.le_trans (List.length_filter_le _ _) (by rw [List.length_take]; exact Nat.min_le_right _ _)) hz
        · refine s5.write ⟨_, rfl, ?_⟩
          rw [tk]
          exact al.app (.cons ry .nil)
  · left
    have e : i = ds.length := Nat.le_antisymm hle hge
    subst e
    obtain ⟨hG, ob, hH, r⟩ := s'.m (D, _) List.mem_cons_self
    rw [List.take_length] at r
    exact ⟨wk.st G' H' t'.g s'.i, k D ob G' H' (t1.trans t') (t1.h.free hD) hG hH r⟩
/-- name = [elt for tg in it if ifs] -/
theorem xss_setLc {i : Nat} {n : Str} {py spos : Pos} {elt : Expr} {ifs : List Expr} {scope : Scope} {rest : List Stmt} (own : List (Str × Nat)) {b : α → Bool} (Γ' : α → En) (hc : X.calm = true) (hN : X.N.Nodup) (hi : XI X tg it Γ M ds f) (ok : BlkOk X.N X.env.scope scope own)
    (hg : ∀ s H C cl fp, ∀ d ∈ ds, XG (Bk X scope s H C cl fp) tg (f d) (wipeE Γ (own.map (·.2))) (Γ' d) (own.map (·.2))) (ht : ∀ s H C cl fp, ∀ d ∈ ds, XTs (Bk X scope s H C cl fp) ifs (Γ' d) M (b d))
    (he : ∀ s H C cl fp, ∀ d ∈ ds, b d = true → XE (Bk X scope s H C cl fp) elt (Γ' d) M (g d)) (hz : ds.length < sizeLine) (k : XSs X e0 rest (Γ.set i (some (vLst ((ds.filter b).map g)))) M P)
    (hy : X.N[i]? = some n := by rfl) (hyl : X.env.scope.names.lookup n = some .local := by rfl) (hsw : swapsWith (.ListComp elt [⟨tg, it, ifs, 0⟩] scope pos) (some (.Name n py)) spos.line X.env = pure true := by exact sw_true rfl rfl rfl rfl) (hs : ∀ x, foldedSetIterable it X.env x = pure x := by intro _; rfl) :
    XSs X e0 (.Assign [.Name n py] (.ListComp elt [⟨tg, it, ifs, 0⟩] scope pos) spos :: rest) Γ M P := fun G H σ s D F =>
  ⟨_, pss_cons (ps_setLc (g := fun v σ H Q => ∀ s H0 C cl fp, wG (Bk X scope s H0 C cl fp) tg v σ H Q) (tt := fun σ H Q => ∀ s H0 C cl fp, wTs (Bk X scope s H0 C cl fp) ifs σ H Q) (te := fun σ H Q => ∀ s H0 C cl fp, wE (Bk X scope s H0 C cl fp) elt σ H Q) hc hN hy hyl hsw pi_w ok
    (fun s H C cl fp => ⟨fun pins s1 σ1 H1 v u Q I r q => pg_w.run pins s1 σ1 H1 v u Q I r (q s H C cl fp)⟩) (fun s H C cl fp => ⟨fun pins s1 σ1 H1 Q I q => pts_w.run pins s1 σ1 H1 Q I (q s H C cl fp)⟩) (fun s H C cl fp => ⟨fun pins s1 σ1 H1 Q I q => pe_w.run pins s1 σ1 H1 Q I (q s H C cl fp)⟩) hs) pss_w,
    lc_read own Γ' hc hN s.s (hi G H σ s.s) ok hg ht he hz hs (fun v H' => wSs X rest D (σ.set i (some v)) H') fun p ob G1 H1 t1 hp hg1 hh r1 => by
      obtain ⟨xs, rfl, al⟩ := r1
      have t2 : Stp G H (upd G1 p (.lst xs)) H1 := stp_pub t1 hp hg1 hh
      exact k _ _ _ ((s.stp t2).set ⟨p, xs, rfl, upd_same, al.mono (le_same (same_new hg1))⟩) D F⟩
end
end K53
end KGf_
section NI_
set_option maxRecDepth 100000
set_option maxHeartbeats 4000000
/-! NI: the law's look at what least_sizes tells. -/
namespace K53
open PySem PySem.Spec PyProof.Rows L2
theorem xe_isBl {X : Cx} {a b : Expr} {Γ : En} {M : Mu} {u w : Bool} {pos : Pos} (ha : XE X a Γ M (vBl u)) (hb : XE X b Γ M (vBl w)) (hm : behindInMarks .Is b = false := by first | exact nobehind _ (by decide) (by decide) | rfl) : XE X (.Compare a [.Is] [b] pos) Γ M (vBl (decide (u = w))) :=
  xe_cmpG op_isBl ha hb (fun G H v z i rv rz Q k => ⟨u, w, rv, rz, k _ _ _ (.refl i) rfl⟩) hm
section
variable {ks : List Str} {ts : Ties} {side : Nat} {held : Cnt}
theorem TrOk.srt (h : TrOk ks ts side held) : TrOk ks ts side (sortC held) := ⟨h.hk, h.h4, h.lt, h.s40, h.big, sortC_ok h.ho, by rw [sortC_keys]; exact (sortS_perm _).trans h.pk, fun k => by rw [cnt_sortC h.ho.nd]; exact h.sm k⟩
theorem sortC_twice {c : Cnt} (h : CntOk c) : sortC (sortC c) = sortC c := sortC_id (sortC_ok h).nd (by rw [sortC_keys]; exact sortS_pairwise _)
theorem Lst.srt {W : Web} {c c' : Cnt} (h : CntOk c) (l : Lst W (sortC c) c') : Lst W c c' := ⟨by have := l.f; rwa [sortC_twice h] at this, by have := l.u; rwa [sortC_twice h] at this, l.cl⟩
end
theorem vals_rev : ∀ {vs : List V} {us : List Value}, Vals vs us → Vals vs.reverse us.reverse
  | _, _, .nil => .nil
  | _, _, .cons h t => by rw [List.reverse_cons, List.reverse_cons]; exact (vals_rev t).append (.cons h .nil)
theorem noExc {K : PySem.W.Frag} {W : Web} {c : Cnt} (h : firstBad W c = none) : ∀ cls dd G H, excF K W c cls dd G H → False := fun _ _ _ _ ⟨x, _, e, _⟩ => by rw [h] at e; cases e
/-- where the code objects of lambdas are kept -/
structure LamF (K : PySem.W.Frag) (mg : Str → Option Value) (base : Heap) (c Pt : Addr) : Prop where
  tb : LamX.TabB base mg c Pt
  cd : ∀ oc od fd osl, K.lookup (He.fAd K d_law_told_right.at_) = some ⟨oc, od, .func fd, osl⟩ → fd.code = .ref c
section
variable {P : Program} {w : World} {K : PySem.W.Frag} {mg : Str → Option Value} {base : Heap}
abbrev trArgs (K : PySem.W.Frag) (d : List Str × Ties × Nat × Cnt) : List Pv := [vWeb K (mkWeb d.1 d.2.1), vLst (d.1.map fun s => vStr s), vDic (pLTs d.2.1), vLst ((boxL d.1 d.2.1 d.2.2.1).map vCnt), vInt (d.2.2.1 : Int), vDic (pCnt d.2.2.2)]
abbrev nTold : List Str := ["_law_web", "_law_sorts", "_law_ties_here", "_law_box_here", "_law_side", "_law_held", "_law_passed", "_law_heard_here", "_law_wrong", "_law_is_right", "_law_again", "_law_sort"]
theorem fd_law_told_right (T : Txt K mg) (EX : ExcT P w K mg) {c Pt : Addr} (LF : LamF K mg base c Pt) : Fd P w K mg base "_law_told_right" 25 ["_law_web", "_law_sorts", "_law_ties_here", "_law_box_here", "_law_side", "_law_held"] [] (spL (δ := List Str × Ties × Nat × Cnt) Pt (trArgs K) (fun d => TrOk d.1 d.2.1 d.2.2.1 d.2.2.2) (fun _ => vBl true)) := by
  obtain ⟨g, fd, F⟩ := T.fn i_law_told_right d_law_told_right rfl
  have hB := F.bindsN (ps := ["_law_web", "_law_sorts", "_law_ties_here", "_law_box_here", "_law_side", "_law_held"]) fun _ _ _ _ _ _ us hl => match us, hl with | [_, _, _, _, _, _], _ => rfl
  refine ⟨_, fd, [], g rfl, F.kp, .nil, hB, ?_⟩
  have S : FnScope nTold ["_law_web", "_law_sorts", "_law_ties_here", "_law_box_here", "_law_side", "_law_held"] (defScope s_law_told_right) := ⟨rfl, rfl, rfl, by decide +kernel, rfl, by decide +kernel, by decide +kernel⟩
  obtain ⟨oc, od, dV, kV, doc, pm, an, cdv, ct, osl, rfl, lk, hcd, _, _⟩ := F.ex
  have hcode : cdv = .ref c := LF.cd _ _ _ _ lk
  refine fn_of lk hcd S (fun vs H Q E ⟨d, G, i, ht, a, o, _⟩ => by rw [a.len]; rfl) fun A outer s H vs Q E hr ⟨d, G, i, ht, a, ok, q⟩ => ?_
  suffices h : ∃ t, PSs (cxOf CX0 P w K mg base nTold "_law_told_right" (defScope s_law_told_right) (He.fAd K d_law_told_right.at_) cdv A outer s H E).nox (defBody s_law_told_right) t ∧ t { nx := fun _ H' => Q .non H', rt := Q } (L2.start nTold vs) H from by
    obtain ⟨t, h1, h2⟩ := h
    exact ⟨t, h1.nox, h2⟩
  refine fdl_body (N := nTold) (ps := ["_law_web", "_law_sorts", "_law_ties_here", "_law_box_here", "_law_side", "_law_held"]) (res := fun _ => vBl true) i ht a rfl (by decide) q fun e0 r => ?_
  obtain ⟨ks, ts, side, held⟩ := d
  have ok : TrOk ks ts side held := ok
  have tk := ok.tk
  refine xss_set (i := 6) (xe_make (id_Sizes T) held hr T.sizes.g (xa_cons (xv 5) xa_nil) ok.ho) S.nd ?_
  refine xss_setL (i := 7) (xel_heard T EX LF.tb hcode (by rfl) ok.ls (j := 24) hr (by decide) (iw := 0) (ih := 5) rfl rfl rfl rfl rfl rfl (LamX.lamS_by (by kernel_rfl)) (by rfl) (by rfl) (fun _ _ _ _ _ => rfl) rfl rfl) r moN_nil S.nd fun e1 r => ?_
  let Ga : List (Option Pv) := [some (vWeb K (mkWeb ks ts)), some (vLst (ks.map fun s => vStr s)), some (vDic (pLTs ts)), some (vLst ((boxL ks ts side).map vCnt)), some (vInt (side : Int)), some (vDic (pCnt held)), some (vSizes K (sortC held)), some (vHrd K (mkWeb ks ts) held), none, none, none]
  have inH : ∀ k ∈ lawEmpty ks ts, k ∈ held.map (·.1) := fun k hk => ok.pk.mem_iff.mpr (mem_sortS.mp (List.mem_filter.mp hk).1)
  have el : (lawEmpty ks ts).length ≤ 4 := Nat.le_trans (List.length_filter_le _ _) (by rw [sortS_length]; exact ok.h4)
  refine xss_setLc (i := 8) (own := [("_law_sort", 11)]) (ds := lawEmpty ks ts) (f := fun s => vStr s) (b := fun k => decide (0 < cnt held k)) (g := fun s => vStr s) (fun k => Ga ++ [some (vStr k)]) rfl S.nd (xi_lst (xe_call (fd_law_empty T) (ks, ts) hr (xa_cons (xv 1) (xa_cons (xv 2) xa_nil)) ⟨ok.hk, ok.h4, ok.lt⟩)) (blkOk_by (by kernel_rfl)) (fun _ _ _ _ _ _ _ => xg_name 11 S.nd) (fun _ _ _ _ _ k hk => xts_one (XT.is (xt_gt (xe_dget (u1 hr) (xv 5) (xv 11) vwD (cntP (inH k hk))) xe_int) ?_)) (fun _ _ _ _ _ k hk _ => xv 11) (by rw [sizeLine_eq]; omega) ?_
  · exact decide_eq_decide.mpr (by omega)
  show XSs _ _ _ (((Ga.set 8 (some (vLst ((wrongL ks ts held).map fun s => vStr s)))) ++ [none])) _ _
  have hf := ok.first
  rcases hw : wrongL ks ts held with _ | ⟨k, rest⟩
  · rw [hw] at hf
    have hf : firstBad (mkWeb ks ts) (sortC held) = none := hf
    refine xss_iff (XT.is (xt_neNil hr (xv 8) vwL) (by rw [List.map_nil]; rfl)) ?_
    refine xss_open (i := 7) (ι := { c' : Cnt // Lst (mkWeb ks ts) held c' }) (g := fun c' => vLst [vStr "told", vSizes K c'.1]) rfl (fun G v h => ?_) fun ⟨c', l⟩ => ?_
    · rcases h with ⟨c', l, h⟩ | ⟨x, p, e, _⟩
      · exact ⟨⟨c', l⟩, h⟩
      · rw [hf] at e; cases e
    have lr := ok.lr l
    have td := told_of ok.hk tk ok.ho ok.keys l
    have nb : firstBad (mkWeb ks ts) (sortC c') = none := by rw [td.id]; exact td.nobad ok.hk tk
    refine xss_iff (XT.is (xw_or (u := false) (w := false) (XT.is (xt_ne (x := .str "told") (y := .str "told") (xe_ixL (i := 0) (xv 7) xe_int vwL rfl) xe_str) (by decide)) (fun _ => xw_or1 (xt_nott (xt_val (xe_call (fd_law_least_right T) (ks, ts, side, held, c') hr (xa_cons (xv 2) (xa_cons (xv 3) (xa_cons (xv 4) (xa_cons (xv 5) (xa_cons (xe_ixL (i := 1) (xv 7) xe_int vwL rfl) xa_nil))))) lr))))).pt rfl) ?_
    obtain ⟨gl, fdl, Fl, okl⟩ := ls_ok (P := P) (w := w) (base := base) T EX
    have hk2 : KBn K fdl ["model", "sizes"] 0 ["sizes", "model"] (fun _ ws => ws.reverse) (fun _ zs => zs.reverse) := by
      obtain ⟨oc, od, dV, kV, doc, pm, an, cdv, ct, osl, rfl, _, _, hD, _⟩ := Fl.ex
      rcases hD with ⟨_, rfl⟩ | ⟨e, _⟩
      · exact ⟨fun s us ws _ h1 h2 => match us, ws, h1, h2 with | [], [_, _], _, _ => .of_eq rfl, fun _ r2 => vals_rev r2⟩
      · exact absurd rfl e
    have e1 : ∀ G v, (vEx (Lst (mkWeb ks ts) (sortC held)) (vSizes K)).r G v → (vSizes K c').r G v := fun G v ⟨c1, l1, h1⟩ => by rw [Lst.one ok.ho.nd l (Lst.srt ok.ho l1)]; exact h1
    have e2 : ∀ G v, (vEx (Lst (mkWeb ks ts) c') (vSizes K)).r G v → (vSizes K c').r G v := fun G v ⟨c1, l1, h1⟩ => by rw [td.same tk l1] at h1; exact h1
    refine xss_set (i := 10) (p := vLst [vSizes K c', vSizes K c', vSizes K c']) (XN.lst (xn_lst (xa_cons ((xe_kw2X okl gl Fl.kp hk2 (mkWeb ks ts, sortC held, true) hr (xv 6) (xv 0) rfl ok.srt.ls (noExc (by rw [sortC_twice ok.ho]; exact hf))).weak e1) (xa_cons ((xe_callX (fd_least_sizes T EX) (mkWeb ks ts, c', true) hr (xa_cons (xv 0) (xa_cons (xe_ixL (i := 1) (xv 7) xe_int vwL rfl) xa_nil)) (td.ls ok.hk tk) (noExc nb)).weak e2) (xa_cons ((xe_callX (fd_least_sizes T EX) (mkWeb ks ts, c', false) hr (xa_cons (xv 0) (xa_cons (xe_meth0 (md_Sizes_counts T) c' hr T.sizes.cl (xe_ixL (i := 1) (xv 7) xe_int vwL rfl) rfl rfl trivial) xa_nil)) (td.ls ok.hk tk) (noExc nb)).weak e2) xa_nil))))) S.nd ?_
    refine xss_one (xs_retL (XE.is (xe_and (u := true) (w := true) (xe_eqP (n := 3) (p := vLst [vSizes K c', vSizes K c', vSizes K c']) (rcP_lst fun q hq => ?_) (hr.mono (by decide)) (xv 10) (XE.is (xe_rep (ps := [vSizes K c']) (k := 3) (XN.lst (xn_lst (xa_cons (xe_ixL (i := 1) (xv 7) xe_int vwL rfl) xa_nil))) xe_int (by decide) (by show 1 < 1000; decide)) rfl)) (fun _ => xe_one (xe_eqP (n := 2) (rcP_sizes T (sortC_ok ok.ho)) (hr.mono (by decide)) (xv 6) (xe_make (id_Sizes T) held hr T.sizes.g (xa_cons (xv 5) xa_nil) ok.ho)))) rfl) r)
    simp only [List.mem_cons, List.not_mem_nil, or_false, or_self] at hq
    subst hq
    exact eqP_sizes T td.co
  · rw [hw] at hf
    have hf : firstBad (mkWeb ks ts) (sortC held) = some (k, cnt held k) := hf
    have kk : k ∈ wrongL ks ts held := by rw [hw]; exact List.mem_cons_self
    have kW : k ∈ (mkWeb ks ts).ks := (List.mem_filter.mp (List.mem_filter.mp kk).1).1
    refine xss_ift (XT.is (xt_neNil hr (xv 8) vwL) (by rw [List.map_cons]; rfl)) ?_
    refine xss_open (i := 7) (ι := { p : Paper // papW (mkWeb ks ts) k = some p }) (g := fun p => vLst [vStr "empty", vStr k, vPaper p.1, vBl true]) rfl (fun G v h => ?_) fun ⟨p, hp⟩ => ?_
    · rcases h with ⟨c', l, h⟩ | ⟨x, p, e, hp, h⟩
      · have := l.f
        rw [hf] at this; cases this
      · rw [hf] at e; cases e
        exact ⟨⟨p, hp⟩, h⟩
    have pk := paperOf_ok ok.w hp (mpOk_of ok.w)
    have h0 : atI ((k :: rest).map fun s => vStr s) 0 = some (vStr k) := by rw [show (0 : Int) = ((0 : Nat) : Int) from rfl, atI_nat]; rfl
    refine xss_set (i := 9) (p := vBl true) (XE.is (xe_and (u := true) (w := true) (XE.is (xe_eq (x := .str "empty") (y := .str "empty") (xe_ixL (i := 0) (xv 7) xe_int vwL rfl) xe_str) (congrArg vBl (by decide))) (fun _ => xe_and (u := true) (w := true) (XE.is (xe_eq (x := .str k) (y := .str k) (xe_ixL (i := 1) (xv 7) xe_int vwL rfl) (xe_ixL (i := 0) (xv 8) xe_int vwL h0)) (congrArg vBl (decide_eq_true rfl))) (fun _ => xe_one (xe_isBl (u := true) (w := true) (xe_ixL (i := 3) (xv 7) xe_int vwL rfl) xe_bl)))) rfl) S.nd ?_
    exact xss_one (xs_retL (XE.is (xe_and (u := true) (w := true) (xv 9) (fun _ => xe_one (xe_isBl (u := true) (w := true) (xe_call (fd_is_empty_paper T) (mkWeb ks ts, k, p) hr (xa_cons (xv 0) (xa_cons (xe_ixL (i := 0) (xv 8) xe_int vwL h0) (xa_cons (xe_ixL (i := 2) (xv 7) xe_int vwL rfl) xa_nil))) ⟨ok.w, kW, pk⟩) xe_bl))) rfl) r)
end
end K53
end NI_
section KGg_
set_option maxRecDepth 100000
set_option maxHeartbeats 4000000
/-! KGg: two and three names at once. -/
namespace K53
open PySem PySem.Spec PyProof.Rows L2
section
variable {X : Cx} {a b c : Expr} {Γ : En} {M : Mu} {p q r : Pv} {pos px py pz pt pt2 : Pos} {e0 : Eb} {P : Pst} {mo mo2 : Mo} {i j l kt k2 : Nat} {n m o : Str} {rest : List Stmt}
theorem xss_par3 (hc : X.calm = true) (hN : X.N.Nodup) (ha : XE X a Γ M p) (hb : XE X b Γ M q) (he : XE X c Γ M r)
    (k : XSs X e0 rest (((Γ.set i (some p)).set j (some q)).set l (some r)) M P) (hij : i ≠ j := by decide) (hil : i ≠ l := by decide) (hjl : j ≠ l := by decide) (hi : X.N[i]? = some n := by rfl) (hj : X.N[j]? = some m := by rfl) (hl : X.N[l]? = some o := by rfl)
    (hx : X.env.scope.names.lookup n = some .local := by rfl) (hy : X.env.scope.names.lookup m = some .local := by rfl) (hz : X.env.scope.names.lookup o = some .local := by rfl)
    (hw : swappedStores [.Tuple [.Name n px, .Name m py, .Name o pz] kt pt] (.Tuple [a, b, c] k2 pt2) X.env = pure (some [n, m, o]) := by rfl) (hs : swapsWithSole [.Tuple [.Name n px, .Name m py, .Name o pz] kt pt] (.Tuple [a, b, c] k2 pt2) pos.line X.env = pure false := by rfl)
    (hs1 : starEach [a, b, c] X.env = (false, eval a X.env) :: starEach [b, c] X.env := by rfl) (hs2 : starEach [b, c] X.env = (false, eval b X.env) :: starEach [c] X.env := by rfl) (hs3 : starEach [c] X.env = (false, eval c X.env) :: starEach [] X.env := by rfl) :
    XSs X e0 (.Assign [.Tuple [.Name n px, .Name m py, .Name o pz] kt pt] (.Tuple [a, b, c] k2 pt2) pos :: rest) Γ M P := fun G H σ s D f =>
  ⟨_, pss_cons (ps_par3 hc hN hi hj hl hij hil hjl hx hy hz (pa_cons pe_w (pa_cons pe_w (pa_cons pe_w pa_nil hs3) hs2) hs1) hw hs) pss_w, ha G H σ s.s _ fun v1 G1 H1 t1 r1 => by
    have s1 := s.stp t1
    refine hb G1 H1 σ s1.s _ fun v2 G2 H2 t2 r2 => ?_
    have s2 := s1.stp t2
    refine he G2 H2 σ s2.s _ fun v3 G3 H3 t3 r3 => ?_
    have s3 := s2.stp t3
    exact ⟨_, _, _, rfl, k G3 H3 _ (((s3.set (Pv.mono _ (le_same (t2.g.trans t3.g)) r1)).set (Pv.mono _ (le_same t3.g) r2)).set r3) D f⟩⟩
/-- x, y = a new object, a value -/
theorem xss_par2NE (hc : X.calm = true) (hN : X.N.Nodup) (ha : XN X a Γ M mo) (hb : ∀ a1, XE X b Γ ((a1, mo) :: M) q) (k : ∀ a1, XSs X e0 rest ((Γ.set i (some (vVal (.ref a1)))).set j (some q)) ((a1, mo) :: M) P) (hij : i ≠ j := by decide) (hi : X.N[i]? = some n := by rfl) (hj : X.N[j]? = some m := by rfl)
    (hx : X.env.scope.names.lookup n = some .local := by rfl) (hy : X.env.scope.names.lookup m = some .local := by rfl)
    (hw : swappedStores [.Tuple [.Name n px, .Name m py] kt pt] (.Tuple [a, b] k2 pt2) X.env = pure (some [n, m]) := by rfl) (hs : swapsWithSole [.Tuple [.Name n px, .Name m py] kt pt] (.Tuple [a, b] k2 pt2) pos.line X.env = pure false := by rfl)
    (hs1 : starEach [a, b] X.env = (false, eval a X.env) :: starEach [b] X.env := by rfl) (hs2 : starEach [b] X.env = (false, eval b X.env) :: starEach [] X.env := by rfl) :
    XSs X e0 (.Assign [.Tuple [.Name n px, .Name m py] kt pt] (.Tuple [a, b] k2 pt2) pos :: rest) Γ M P := fun G H σ s D f =>
  ⟨_, pss_cons (ps_par hc hN hi hj hij hx hy (pa_cons pe_w (pa_cons pe_w pa_nil hs2) hs1) hw hs) pss_w, ha G H σ s.s _ fun a1 ob1 G1 H1 t1 h1 h2 h3 h4 => by
    have s1 := s.add t1 h1 h2 h3 h4
    refine hb a1 G1 H1 σ s1.s _ fun v2 G2 H2 t2 r2 => ?_
    exact ⟨_, _, rfl, k a1 G2 H2 _ (((s1.stp t2).set (p := vVal (.ref a1)) rfl).set r2) D f⟩⟩
/-- x, y, z = a value, a new object, a value -/
theorem xss_par3ENE (hc : X.calm = true) (hN : X.N.Nodup) (ha : XE X a Γ M p) (hb : XN X b Γ M mo) (he : ∀ a2, XE X c Γ ((a2, mo) :: M) r)
    (k : ∀ a2, XSs X e0 rest (((Γ.set i (some p)).set j (some (vVal (.ref a2)))).set l (some r)) ((a2, mo) :: M) P) (hij : i ≠ j := by decide) (hil : i ≠ l := by decide) (hjl : j ≠ l := by decide) (hi : X.N[i]? = some n := by rfl) (hj : X.N[j]? = some m := by rfl) (hl : X.N[l]? = some o := by rfl)
    (hx : X.env.scope.names.lookup n = some .local := by rfl) (hy : X.env.scope.names.lookup m = some .local := by rfl) (hz : X.env.scope.names.lookup o = some .local := by rfl)
    (hw : swappedStores [.Tuple [.Name n px, .Name m py, .Name o pz] kt pt] (.Tuple [a, b, c] k2 pt2) X.env = pure (some [n, m, o]) := by rfl) (hs : swapsWithSole [.Tuple [.Name n px, .Name m py, .Name o pz] kt pt] (.Tuple [a, b, c] k2 pt2) pos.line X.env = pure false := by rfl)
    (hs1 : starEach [a, b, c] X.env = (false, eval a X.env) :: starEach [b, c] X.env := by rfl) (hs2 : starEach [b, c] X.env = (false, eval b X.env) :: starEach [c] X.env := by rfl) (hs3 : starEach [c] X.env = (false, eval c X.env) :: starEach [] X.env := by rfl) :
    XSs X e0 (.Assign [.Tuple [.Name n px, .Name m py, .Name o pz] kt pt] (.Tuple [a, b, c] k2 pt2) pos :: rest) Γ M P := fun G H σ s D f =>
  ⟨_, pss_cons (ps_par3 hc hN hi hj hl hij hil hjl hx hy hz (pa_cons pe_w (pa_cons pe_w (pa_cons pe_w pa_nil hs3) hs2) hs1) hw hs) pss_w, ha G H σ s.s _ fun v1 G1 H1 t1 r1 => by
    have s1 := s.stp t1
    refine hb G1 H1 σ s1.s _ fun a2 ob2 G2 H2 t2 g1 g2 g3 g4 => ?_
    have s2 := s1.add t2 g1 g2 g3 g4
    refine he a2 G2 H2 σ s2.s _ fun v3 G3 H3 t3 r3 => ?_
    have s3 := s2.stp t3
    exact ⟨_, _, _, rfl, k a2 G3 H3 _ (((s3.set (Pv.mono _ (le_same (t2.g.trans t3.g)) r1)).set (p := vVal (.ref a2)) rfl).set r3) D f⟩⟩
end
end K53
end KGg_
section KGh_
set_option maxRecDepth 100000
set_option maxHeartbeats 4000000
/-! KGh: loops over which a table may grow; values known only to be some. -/
namespace K53
open PySem PySem.Spec PyProof.Rows L2
def mEx {ι : Type} (φ : ι → Prop) (g : ι → Mo) : Mo := ⟨fun G o => ∃ x, φ x ∧ (g x).r G o, fun l ⟨x, h, r⟩ => ⟨x, h, Mo.mono _ l r⟩⟩
section
variable {X : Cx} {e a b c o it tg elt : Expr} {es : List Expr} {Γ : En} {M : Mu} {p q z : Pv} {ps qs : List Pv} {pos pp pos' : Pos} {e0 : Eb} {P : Pst} {T : Addr} {G0 H0 : Hp} {α ι : Type} {φ : ι → Prop} {f g : α → Pv} {s : Str} {t : Bool}
theorem XEL.is (h : XEL T X e Γ M p) (w : p = q) : XEL T X e Γ M q := w ▸ h
/-- [elt for tg in it], it one of some lists -/
theorem xe_lcE {ds : ι → List α} {scope : Scope} (own : List (Str × Nat)) (Γ' : α → En) (hc : X.calm = true) (hN : X.N.Nodup) (h : XE X it Γ M (vEx φ fun z => vLst ((ds z).map f))) (ok : BlkOk X.N X.env.scope scope own)
    (hg : ∀ s H C cl fp, ∀ x, φ x → ∀ d ∈ ds x, XG (Bk X scope s H C cl fp) tg (f d) (wipeE Γ (own.map (·.2))) (Γ' d) (own.map (·.2))) (he : ∀ s H C cl fp, ∀ x, φ x → ∀ d ∈ ds x, XE (Bk X scope s H C cl fp) elt (Γ' d) M (g d)) (hz : ∀ x, φ x → (ds x).length < sizeLine)
    (hs : ∀ x, foldedSetIterable it X.env x = pure x := by intro _; rfl) : XE X (.ListComp elt [⟨tg, it, [], 0⟩] scope pos) Γ M (vEx φ fun z => vLst ((ds z).map g)) := fun G H σ s Q k => by
  refine lc_coreE (φ := φ) (ds := ds) (f := f) (g := g) (b := fun _ => true) own Γ' hc hN s (fun R hR => ⟨_, pi_list pe_w, h G H σ s _ fun v G' H' t r => ?_⟩) ok hg (fun _ _ _ _ _ _ _ _ _ => xts_nil) (fun s H C cl fp x hx d hd _ => he s H C cl fp x hx d hd) hz hs Q fun x p ob G' H' hx t hp hg' hh r => ?_
  · obtain ⟨z, hz, a, xs, rfl, h1, h2⟩ := r
    refine ⟨a, rfl, ⟨xs, SqL.of (t.i _ _ h1)⟩, hR z _ G' H' hz t ⟨fun i G H d sg si hd => ?_, fun i G H d x H2 sg si hd ⟨e1, e2⟩ => ?_, fun G H sg si => ⟨xs, SqL.of (si _ _ (sg _ _ h1)), by rw [h2.len, List.length_map]; exact Nat.le_refl _⟩⟩⟩
    · obtain ⟨v, e1, _⟩ := h2.get (i := i) (p := f d) (by rw [List.getElem?_map, hd]; rfl)
      exact ⟨xs, v, SqL.of (si _ _ (sg _ _ h1)), e1⟩
    · subst e1
      exact ⟨G, .refl si, (h2.mono (le_same sg)).at' hd (e2 xs (SqL.of (si _ _ (sg _ _ h1))))⟩
  · refine k (.ref p) (upd G' p ob) H' (stp_pub t hp hg' hh) ⟨x, hx, mLst_lst (Mo.mono _ (le_same (same_new hg')) ?_) upd_same⟩
    rw [List.filter_eq_self.mpr fun _ _ => rfl] at r
    exact r
/-- dict(pairs), the pairs some -/
theorem xe_dictPE {kp : ι → List (Str × Pv)} (hc : X.calm = true) (hm : X.mg "dict" = none) (h : XE X e Γ M (vEx φ fun i => vLst ((kp i).map fun x => vTup [vStr x.1, x.2]))) (nd : ∀ i, φ i → ((kp i).map (·.1)).Nodup) (hg : Gl X "dict" := by rfl) (he : starEach [e] X.env = (false, eval e X.env) :: starEach [] X.env := by rfl) : XE X (.Call (.Name "dict" pp) [e] [] pos) Γ M (vEx φ fun i => vDic (kp i)) :=
  have h1 : XN X (.Call (.Name "dict" pp) [e] [] pos) Γ M (mEx φ fun i => mDic (kp i)) := xn_ct1 (call_dictP hc) hm (by decide +kernel) h (fun G H σ Γ v st rv Q k => by
    obtain ⟨i, hi, a, xs, rfl, h1, h2⟩ := rv
    obtain ⟨ps, kvs, rfl, h3, h4⟩ := alA_pairs (K := X.K) st.i h2
    exact ⟨a, ps, kvs, rfl, SqL.of (st.i _ _ h1), h3, fun l hl => k l _ hl ⟨i, hi, _, rfl, AlD.merge h4 .nil (nd i hi)⟩⟩) hg (by decide) (by decide) he
  h1.xe fun G v u ⟨i, hi, r⟩ ev => ⟨i, hi, mDic_dic r ev⟩
theorem xe_ninS {ss : List Str} (ha : XE X a Γ M (vStr s)) (hb : XE X b Γ M (vSeq t (ss.map fun s => vStr s))) (hm : behindInMarks .NotIn b = false := by rfl) : XE X (.Compare a [.NotIn] [b] pos) Γ M (vBl (!decide (s ∈ ss))) :=
  xe_cmpG op_notIn_seq ha hb (fun G H v w i rv rw Q k => by
    rw [← map_strs] at rw
    obtain ⟨d, ys, rfl, h1, h2⟩ := vSeq_at rw
    cases rv
    obtain rfl : ys = ss.map V.str := by
      have := AlA.vals (g := fun v => v) h2
      rwa [List.map_id'] at this
    exact ⟨d, _, rfl, seq_sq i h1, rfl, flat_strs ss, by rw [inV_strs]; exact k _ G H (.refl i) rfl⟩) hm
/-! ### over a range -/
/-- what stands after i turns -/
def LI (T : Addr) (G0 H0 : Hp) (Γs : ι → En) (Ms : ι → Mu) (I : Nat → ι → Prop) (i : Nat) (G H : Hp) (σ : L2.St) : Prop := ∃ x e1, I i x ∧ Rb T G0 H0 e1 ∧ Sta e1 G H σ (Γs x) (Ms x)
theorem xs_forL {n : Nat} {body : List Stmt} (Γs : ι → En) (Ms : ι → Mu) (I : Nat → ι → Prop) (r : Rb T G0 H0 e0) (hc : X.calm = true) (hm : X.mg "range" = none) (h : XE X e Γ M (vInt (n : Int))) (hn : n < 1000)
    (h0 : ∀ G H σ, Sta e0 G H σ Γ M → ∃ x, I 0 x ∧ Sta e0 G H σ (Γs x) (Ms x))
    (hb : ∀ (i : Nat) x e1, i < n → I i x → Rb T G0 H0 e1 → ∃ Γ' vs, XG X tg (vInt (i : Int)) (Γs x) Γ' vs ∧ XSs X e1 body Γ' (Ms x) { P with nx := LI T G0 H0 Γs Ms I (i + 1), ct := LI T G0 H0 Γs Ms I (i + 1), bk := P.nx })
    (hd : ∀ G H σ, LI T G0 H0 Γs Ms I n G H σ → P.nx G H σ) (hp : PassesOwn (model X.prog X.w) X.A X.env X.xe := by exact PassesOwn.never) (hg : Gl X "range" := by rfl) (hs : starEach [e] X.env = [(false, eval e X.env)] := by rfl)
    (hf : ∀ x, foldedSetIterable (.Call (.Name "range" pp) [e] [] pos') X.env x = pure x := by intro _; rfl) : XS X e0 (.For tg (.Call (.Name "range" pp) [e] [] pos') body [] pos) Γ M P := fun G H σ s D F =>
  ⟨_, ps_for hp hc (pi_range1 hg hm (pa_cons pe_w pa_nil (by rw [hs]; rfl)) hs) pg_w pss_w hf, h G H σ s.s _ fun v G1 H1 t1 rv => by
    obtain rfl : v = .int (n : Int) := rv
    have hp : (2:Int)^62 = 4611686018427387904 := by decide
    refine ⟨(n : Int), rfl, by omega, by rw [hp]; omega, ?_⟩
    obtain ⟨x0, hx0, s0⟩ := h0 G1 H1 σ (s.stp t1)
    refine ⟨fun i m σ' H' => m = n - i ∧ i ≤ n ∧ ∃ G', LI T G0 H0 Γs Ms I i G' H' σ', ⟨_, rfl, Nat.zero_le _, G1, x0, e0, hx0, r, s0⟩, ?_⟩
    rintro i m σ' H' ⟨rfl, hle, G', x, e1, hx, r1, s'⟩
    rcases Nat.lt_or_ge i n with hlt | hge
    · right
      refine ⟨by show i < (n : Int).toNat; omega, fun σ2 H2 => ∃ G2, LI T G0 H0 Γs Ms I (i + 1) G2 H2 σ2, ?_, ?_⟩
      · rintro σ2 H2 ⟨G2, q⟩
        exact ⟨n - (i + 1), by omega, rfl, hlt, G2, q⟩
      · rintro v H2 ⟨rfl, rfl⟩
        obtain ⟨Γ', vs, hgg, hbd⟩ := hb i x e1 hlt hx r1
        refine hgg G' H2 σ' _ s'.s.a s'.s.i (by show V.int (0 + (i : Int)) = V.int (i : Int); rw [Int.zero_add]) _ fun σ3 a3 l3 o3 => ?_
        exact hbd G' H2 σ3 ⟨s'.t, s'.b, ⟨s'.s.i, a3, s'.s.nd, s'.s.m⟩, s'.f⟩ _ ⟨fun G4 H4 σ4 q => ⟨G4, q⟩, F.rt, fun G4 H4 σ4 q => F.nx G4 H4 σ4 q, fun G4 H4 σ4 q => ⟨G4, q⟩⟩
    · left
      have e : i = n := Nat.le_antisymm hle hge
      subst e
      exact ⟨by show (i : Int).toNat ≤ i; omega, F.nx G' H' σ' (hd G' H' σ' ⟨x, e1, hx, r1, s'⟩)⟩⟩
/-- [elt for tg in range(e)], each elt one of p -/
theorem xel_lcR {n : Nat} {scope : Scope} (own : List (Str × Nat)) (Γ' : Nat → En) (hc : X.calm = true) (hN : X.N.Nodup) (hm : X.mg "range" = none) (h : XE X e Γ [] (vInt (n : Int))) (hn : n < 1000) (ok : BlkOk X.N X.env.scope scope own)
    (hg : ∀ s H C cl fp, ∀ i < n, XG (Bk X scope s H C cl fp) tg (vInt (i : Int)) (wipeE Γ (own.map (·.2))) (Γ' i) (own.map (·.2))) (he : ∀ s H C cl fp, ∀ i < n, XEL T (Bk X scope s H C cl fp) elt (Γ' i) [] p)
    (hgl : Gl X "range" := by rfl) (hs : starEach [e] X.env = [(false, eval e X.env)] := by rfl) (hf : ∀ x, foldedSetIterable (.Call (.Name "range" pp) [e] [] pos') X.env x = pure x := by intro _; rfl) :
    XEL T X (.ListComp elt [⟨tg, .Call (.Name "range" pp) [e] [] pos', [], 0⟩] scope pos) Γ [] (vLst (List.replicate n p)) := fun G H σ s tb Q k => by
  refine ⟨_, pe_lc (g := fun v σ H Q => ∀ s H0 C cl fp, wG (Bk X scope s H0 C cl fp) tg v σ H Q) (tt := fun σ H Q => ∀ s H0 C cl fp, wTs (Bk X scope s H0 C cl fp) [] σ H Q) (te := fun σ H Q => ∀ s H0 C cl fp, wE (Bk X scope s H0 C cl fp) elt σ H Q) hc hN (pi_range1 hgl hm (pa_cons pe_w pa_nil (by rw [hs]; rfl)) hs) ok
    (fun s H C cl fp => ⟨fun pins s1 σ1 H1 v u Q I r q => pg_w.run pins s1 σ1 H1 v u Q I r (q s H C cl fp)⟩) (fun s H C cl fp => ⟨fun pins s1 σ1 H1 Q I q => pts_w.run pins s1 σ1 H1 Q I (q s H C cl fp)⟩) (fun s H C cl fp => ⟨fun pins s1 σ1 H1 Q I q => pe_w.run pins s1 σ1 H1 Q I (q s H C cl fp)⟩) hf, ?_⟩
  refine h G H σ s _ fun v G1 H1 t1 rv => ?_
  obtain rfl : v = .int (n : Int) := rv
  have hp : (2:Int)^62 = 4611686018427387904 := by decide
  refine ⟨(n : Int), rfl, by omega, by rw [hp]; omega, fun D hD => ?_⟩
  have s1 := s.stp t1
  have hg1 : G1 D = none := t1.i.free hD
  have tb1 : Tb T (upd H1 D (.lst [])) := tb.ext (t1.trans (Stp.tmp t1.i hD)).h
  refine ⟨fun i m H' => m = n - i ∧ i ≤ n ∧ Tb T H' ∧ ∃ G', StpL G1 H1 G' H' ∧ St0 G' H' (L2.wipe σ (own.map (·.2))) (wipeE Γ (own.map (·.2))) [(D, mLst (List.replicate i p))],
    ⟨_, rfl, Nat.zero_le _, tb1, G1, .of (Stp.tmp t1.i hD), (s1.wipe _).add (o := mLst []) (Stp.tmp t1.i hD) hD hg1 upd_same ⟨[], rfl, .nil⟩⟩, ?_⟩
  rintro i m H' ⟨rfl, hle, tb', G', t', s'⟩
  rcases Nat.lt_or_ge i n with hlt | hge
  · right
    refine ⟨by show i < (n : Int).toNat; omega, fun H2 => Tb T H2 ∧ ∃ G2, StpL G1 H1 G2 H2 ∧ St0 G2 H2 (L2.wipe σ (own.map (·.2))) (wipeE Γ (own.map (·.2))) [(D, mLst (List.replicate (i + 1) p))], ?_, ?_⟩
    · rintro H2 ⟨tb2, G2, t2, s2⟩
      exact ⟨n - (i + 1), by omega, rfl, hlt, tb2, G2, t2, s2⟩
    · rintro v H2 ⟨rfl, rfl⟩
      intro cs cH cC ccl cfp
      refine hg cs cH cC ccl cfp i hlt G' H2 _ _ s'.a s'.i (by show V.int (0 + (i : Int)) = V.int (i : Int); rw [Int.zero_add]) _ fun σ3 a3 l3 o3 => ⟨(wipe_ext l3 o3).trans (wipe_wipe σ), ?_⟩
      have s3 : St0 G' H2 σ3 (Γ' i) [(D, mLst (List.replicate i p))] := ⟨s'.i, a3, s'.nd, s'.m⟩
      intro cs cH cC ccl cfp
      refine xts_nil (M := []) G' H2 σ3 (s3.sub (List.nil_sublist _)) _ fun G4 H4 t4 => ?_
      rw [if_pos rfl]
      intro cs cH cC ccl cfp
      refine he cs cH cC ccl cfp i hlt G4 H4 σ3 ((s3.stp t4).sub (List.nil_sublist _)) (tb'.ext t4.h) _ fun y G5 H5 t5 tb5 ry => ?_
      have s5 := (s'.stp t4).stpL moN_lst t5
      obtain ⟨hG5, ob, hH5, acc, rfl, al⟩ := s5.m (D, _) List.mem_cons_self
      have al2 : AlA G5 (acc ++ [y]) (List.replicate (i + 1) p) := by
        rw [List.replicate_succ']
        exact al.app (.cons ry .nil)
      have up : St0 G5 (upd H5 D (.lst (acc ++ [y]))) (L2.wipe σ (own.map (·.2))) (wipeE Γ (own.map (·.2))) [(D, mLst (List.replicate (i + 1) p))] := s5.write ⟨_, rfl, al2⟩
      refine ⟨acc, hH5, ?_, ?_, G5, ?_, up⟩
      · rw [al.len, List.length_replicate, sizeLine_eq]; omega
      · intro pt hpt
        obtain ⟨ps, h1, h2, h3⟩ := tb5 pt hpt
        refine ⟨ps, ?_, h2, fun ps' cv hc => ?_⟩
        · rw [upd_ne (fun z => by rw [z, hH5] at h1; cases h1)]; exact h1
        · obtain ⟨c, e1, e2⟩ := h3 ps' cv hc
          exact ⟨c, e1, by rw [upd_ne (fun z => by rw [z, hH5] at e2; cases e2)]; exact e2⟩
      · have tt := t'.trans ((StpL.of t4).trans t5)
        exact ⟨tt.g, fun b o e n => by rw [upd_ne (fun z => by rw [z, hD] at e; cases e)]; exact tt.h b o e n, up.i, tt.n⟩
  · left
    have e : i = n := Nat.le_antisymm hle hge
    subst e
    obtain ⟨hG, ob, hH, xs, rfl, al⟩ := s'.m (D, _) List.mem_cons_self
    refine ⟨by show (i : Int).toNat ≤ i; omega, k (.ref D) (upd G' D (.lst xs)) H' ?_ tb' ⟨D, xs, rfl, upd_same, al.mono (le_same (same_new hG))⟩⟩
    have tt := (StpL.of t1).trans t'
    refine ⟨tt.g.trans (le_same (same_new hG)), tt.h, fun b o e => ?_, fun b o e z => ?_⟩
    · by_cases q : b = D
      · subst q; rw [upd_same] at e; cases e; exact hH
      · rw [upd_ne q] at e; exact tt.i _ _ e
    · by_cases q : b = D
      · subst q; exact noT_none (t1.h.free hD)
      · rw [upd_ne q] at e; exact tt.n b o e z
/-- all(e) -/
theorem xel_all {bs : List Bool} (hc : X.calm = true) (hm : X.mg "all" = none) (h : XEL T X e Γ M (vLst (bs.map fun b => vBl b))) (hg : Gl X "all" := by rfl) (he : starEach [e] X.env = (false, eval e X.env) :: starEach [] X.env := by rfl) : XEL T X (.Call (.Name "all" pp) [e] [] pos) Γ M (vBl (bs.all id)) := fun G H σ s tb Q k =>
  ⟨_, pe_callB (cr_all hc) hg hm (by decide +kernel) (pa_cons pe_w pa_nil he) (by decide) (by decide) he, h G H σ s tb _ fun v G1 H1 t1 tb1 rv => by
    obtain ⟨a, xs, rfl, h1, h2⟩ := rv
    obtain rfl := h2.vals
    exact ⟨a, bs, rfl, SqL.of (t1.i _ _ h1), k _ G1 H1 t1 tb1 rfl⟩⟩
theorem xs_retXL (he : XEL T X e Γ M p) (r : Rb T G0 H0 e0) (hM : MoN M) : XS X e0 (.Return (some e) pos) Γ M (fPL T G0 H0 p) := fun G H σ s D f =>
  ⟨_, ps_ret pe_w, he G H σ s.s (r.tab s) _ fun v G1 H1 t1 tb1 r1 => f.rt v G1 H1 ⟨(r.s _ _ s.t).trans t1, tb1, r1⟩⟩
end
end K53
end KGh_
section NJ_
set_option maxRecDepth 100000
set_option maxHeartbeats 4000000
/-! NJ: the law's look at a changed model. -/
namespace K53
open PySem PySem.Spec PyProof.Rows L2
theorem pLTs_put {s : Str} {t : Tie} : ∀ {ts : Ties}, putD s (vLTie t) (pLTs ts) = pLTs (putTs s t ts)
  | [] => rfl
  | (k, p) :: r => by
    show putD s (vLTie t) ((k, vLTie p) :: pLTs r) = _
    unfold putD putTs
    by_cases h : k = s
    · rw [if_pos h, if_pos h]; rfl
    · rw [if_neg h, if_neg h, pLTs_put]; rfl
theorem LTs.put {ks : List Str} {ts : Ties} {s : Str} {t : Tie} (h : LTs ks ts) (hs : s ∈ ts.map (·.1)) (ht : LTie ks t) : LTs ks (putTs s t ts) := ⟨by rw [putTs_keys hs]; exact h.nm, fun x hx => by
  rcases putTs_mem hx with rfl | hx
  · exact ht
  · exact h.t _ hx⟩
theorem sortT_cong {a b : Ties} (hk : sortS (a.map (·.1)) = sortS (b.map (·.1))) (h : ∀ s, a.lookup s = b.lookup s) : sortT a = sortT b := by
  unfold sortT
  rw [hk]
  exact List.map_congr_left fun s _ => by rw [h]
theorem web_put {ks : List Str} {ts : Ties} {s : Str} {t : Tie} (nd : (ts.map (·.1)).Nodup) (hs : s ∈ ts.map (·.1)) : mkWeb (mkWeb ks ts).ks (putTs s t (mkWeb ks ts).ts) = mkWeb ks (putTs s t ts) := by
  unfold mkWeb
  congr 1
  · exact sortS_sortS ks
  · refine sortT_cong ?_ fun x => ?_
    · rw [putTs_keys (by rw [sortT_keys]; exact mem_sortS.mpr hs), putTs_keys hs, sortT_keys, sortS_sortS]
    · rw [putTs_look, putTs_look, sortT_look nd]
theorem xss_notL {X : Cx} {c : Expr} {Γ : En} {M : Mu} {e0 : Eb} {P : Pst} {T : Addr} {G0 H0 : Hp} {pos pos' : Pos} {th rest : List Stmt} (hc : XEL T X c Γ M (vBl true)) (r : Rb T G0 H0 e0) (hM : MoN M) (kk : ∀ e1, Rb T G0 H0 e1 → XSs X e1 rest Γ M P)
    (he : ∀ whole, isTrue c X.env whole = (do let v ← whole; standAt c.pos; holding [v] (truthy v)) := by intro _; rfl) : XSs X e0 (.If (.UnaryOp .Not c pos') th [] pos :: rest) Γ M P := xss_ifL (xtl_not (u := true) (xtl_val hc he)) r hM kk
section
variable {P : Program} {w : World} {K : PySem.W.Frag} {mg : Str → Option Value} {base : Heap}
abbrev chArgs (K : PySem.W.Frag) (d : List Str × Ties × Nat × Cnt) : List Pv := [vPot, vWeb K (mkWeb d.1 d.2.1), vLst (d.1.map fun s => vStr s), vDic (pLTs d.2.1), vInt (d.2.2.1 : Int), vDic (pCnt d.2.2.2)]
abbrev nChg : List Str := ["_law_pot_here", "_law_web", "_law_sorts", "_law_ties_here", "_law_side", "_law_held", "_law_word", "_law_at", "_law_pair", "_law_more", "_law_tie", "_law_fresh"]
theorem fd_law_changed_right (T : Txt K mg) (EX : ExcT P w K mg) {c Pt : Addr} (LF : LamF K mg base c Pt) : Fd P w K mg base "_law_changed_right" 26 ["_law_pot_here", "_law_web", "_law_sorts", "_law_ties_here", "_law_side", "_law_held"] [] (spL (δ := List Str × Ties × Nat × Cnt) Pt (chArgs K) (fun d => TrOk d.1 d.2.1 d.2.2.1 d.2.2.2 ∧ d.2.1 ≠ []) (fun _ => vBl true)) := by
  obtain ⟨g, fd, F⟩ := T.fn i_law_changed_right d_law_changed_right rfl
  refine ⟨_, fd, [], g rfl, F.kp, .nil, F.bindsN fun _ _ _ _ _ _ us hl => match us, hl with | [_, _, _, _, _, _], _ => rfl, ?_⟩
  have S : FnScope nChg ["_law_pot_here", "_law_web", "_law_sorts", "_law_ties_here", "_law_side", "_law_held"] (defScope s_law_changed_right) := ⟨rfl, rfl, rfl, by decide +kernel, rfl, by decide +kernel, by decide +kernel⟩
  refine fdl_of (N := nChg) F S (fun _ => rfl) (by decide) ?_
  intro cdv A outer s H E hr ⟨ks, ts, side, held⟩ G ok e0 r
  obtain ⟨ok, ne⟩ : TrOk ks ts side held ∧ ts ≠ [] := ok
  have tk := ok.tk
  have sz : (pLTs ts).length < 64 := by unfold pLTs; rw [List.length_map]; have := tk.ln; omega
  have pk : ((sortS (ts.map (·.1))).map fun s => vStr s) ≠ [] ∧ ((sortS (ts.map (·.1))).map fun s => vStr s).length < 1073741824 := by
    refine ⟨fun z => ne ?_, by rw [List.length_map, sortS_length, List.length_map]; have := tk.ln; omega⟩
    have := congrArg List.length z
    rw [List.length_map, sortS_length, List.length_map] at this
    exact List.eq_nil_of_length_eq_zero this
  refine xss_par3 (i := 6) (j := 7) (l := 8) (p := vOne ((sortS (ts.map (·.1))).map fun s => vStr s)) (q := vDig 2) (r := vEx EndOk vEnd) rfl S.nd (xe_call (fd_law_pick T) ((sortS (ts.map (·.1))).map fun s => vStr s) hr (xa_cons (xv 0) (xa_cons (XE.is (xn_sortD rfl (T.free "sorted" rfl) (xv 3) vwD sz).lst (by rw [pLTs_keys])) xa_nil)) pk) (xe_call (fd_law_draw T) 2 hr (xa_cons (xv 0) (xa_cons xe_int xa_nil)) ⟨by decide, by decide⟩) (xe_call (fd_law_ends T) () hr (xa_cons (xv 0) (xa_cons xe_int xa_nil)) trivial) ?_
  refine xss_open (i := 6) (ι := { s : Str // s ∈ ts.map (·.1) }) (g := fun s => vStr s.1) rfl (fun G v h => ?_) ?_
  · obtain ⟨p, hp, r⟩ := h
    obtain ⟨c, hc, rfl⟩ := List.mem_map.mp hp
    exact ⟨⟨c, mem_sortS.mp hc⟩, r⟩
  rintro ⟨wd, hwd⟩
  refine xss_open (i := 7) (ι := Bool) (g := fun b => vInt (((if b then 0 else 1 : Nat) : Nat) : Int)) rfl (fun G v h => ?_) ?_
  · obtain ⟨d, hd, r⟩ := h
    have hd : d < 2 := hd
    have : d = 0 ∨ d = 1 := by omega
    rcases this with rfl | rfl
    · exact ⟨true, r⟩
    · exact ⟨false, r⟩
  intro b
  refine xss_open (i := 8) (ι := { m : Mn // EndOk m }) (g := fun m => vEnd m.1) rfl (fun G v ⟨m, hm, r⟩ => ⟨⟨m, hm⟩, r⟩) ?_
  rintro ⟨m, hm⟩
  obtain ⟨⟨wn, t⟩, hmt, hwn⟩ := List.mem_map.mp hwd
  obtain rfl : wn = wd := hwn
  have hlk : ts.lookup wn = some t := look_of tk.nd hmt
  have hlp : (pLTs ts).lookup wn = some (vLTie t) := by unfold pLTs; rw [lookup_map, hlk]; rfl
  have lt := ok.lt.t _ hmt
  have lt' : LTie ks (t.setM b m) := by
    cases b
    · exact ⟨lt.a, lt.b, lt.m, hm⟩
    · exact ⟨lt.a, lt.b, hm, lt.n⟩
  have mo : MnOk m := ⟨by have := hm.l; omega, fun q e => by have := hm.m q e; omega⟩
  refine xss_par2NE (i := 9) (j := 10) (mo := mDic (pLTs ts)) (q := vLTie t) rfl S.nd (xn_dictD (T.free "dict" rfl) (xv 3) vwD) (fun a1 => xe_dget (u1 hr) (xv 3) (xv 6) vwD hlp) fun a => ?_
  let ps : List Pv := [vStr t.a, vEnd t.m, vStr t.b, vEnd t.n]
  refine xss_cons (xs_dput (M1 := []) (p := vLTie (t.setM b m)) (u1 hr) (xe_if (u := b) (XT.is (xt_eq (x := .int ((if b then 0 else 1 : Nat) : Nat)) (y := .int 0) (xv 7) xe_int) (by cases b <;> rfl)) (fun h => XE.is (xe_tup (xa_cons (xe_ixT (i := 0) (ps := ps) (xv 10) xe_int rfl) (xa_cons (xv 8) (xa_cons (xe_ixT (i := 2) (ps := ps) (xv 10) xe_int rfl) (xa_cons (xe_ixT (i := 3) (ps := ps) (xv 10) xe_int rfl) xa_nil))))) (by subst h; rfl)) (fun h => XE.is (xe_catT (ps := ps.take 3) (qs := [vEnd m]) (xe_takeQ (t := true) (ps := ps) (n := 3) (xv 10) xe_int) (xe_tup (xa_cons (xv 8) xa_nil)) (by simp [ps]) (by simp) (by show 4 ≤ sizeLine; decide)) (by subst h; rfl))) (xv 9) (xv 6) (fun _ _ _ s => s) (by rw [pLTs_keys]; exact tk.nd) (by rw [sizeLine_eq]; omega)) ?_
  refine xss_pub (i := 9) (M1 := []) (p := vDic (pLTs (putTs wn (t.setM b m) ts))) rfl (fun G u h e => mDic_dic (by rw [← pLTs_put]; exact h) e) ?_
  have lts := ok.lt.put hwd lt'
  have ok' : TrOk ks (putTs wn (t.setM b m) ts) side held := ⟨ok.hk, ok.h4, lts, ok.s40, ok.big, ok.ho, ok.pk, ok.sm⟩
  refine xss_set (i := 11) (p := vWeb K (mkWeb ks (putTs wn (t.setM b m) ts))) (XE.is (xe_meth (md_Model_with_many T) (mkWeb ks ts, wn, b, m, t) hr T.model.cl (xv 1) rfl (xa_cons (xv 6) (xa_cons (xe_ixL (q := vStr (endS b)) (XN.lst (xn_lst (xa_cons (xe_str (i := "near")) (xa_cons (xe_str (i := "far")) xa_nil)))) (xv 7) vwL (by cases b <;> rfl)) (xa_cons (xe_makeS (id_Many T) m hr T.many.g (xa_cons (xe_ixT (ps := [vInt (m.1 : Int), vOpt m.2]) (i := 0) (xv 8) xe_int rfl) (xa_cons (xe_ixT (ps := [vInt (m.1 : Int), vOpt m.2]) (i := 1) (xv 8) xe_int rfl) xa_nil)) rfl (fun q e => (mo.2 q e).1)) xa_nil))) rfl ⟨ok.w, tk.nm _ hmt, by show (sortT ts).lookup wn = _; rw [sortT_look tk.nd]; exact hlk, mo⟩) (by show vWeb K (mkWeb (mkWeb ks ts).ks _) = _; rw [web_put tk.nd hwd])) S.nd ?_
  refine xss_notL (XEL.is (xel_call (fd_law_told_right T EX LF) (ks, putTs wn (t.setM b m) ts, side, held) hr (xa_cons (xv 11) (xa_cons (xv 2) (xa_cons (xv 9) (xa_cons (xe_call (fd_law_box T) (ks, putTs wn (t.setM b m) ts, side) hr (xa_cons (xv 2) (xa_cons (xv 9) (xa_cons (xv 4) xa_nil))) ⟨ok.hk, ok'.tk, ok.s40.1, ok.s40.2, ok.big⟩) (xa_cons (xv 4) (xa_cons (xv 5) xa_nil)))))) ok') rfl) r moN_nil fun e1 r => ?_
  exact xss_one (xs_retL (XE.is (xe_and (u := true) (w := true) (xe_eqP (n := 5) (rcP_web T ok'.w.t.nd) (hr.mono (by decide)) (xv 11) (xe_call (fd_law_made T) (ks, putTs wn (t.setM b m) ts) hr (xa_cons (xv 2) (xa_cons (xv 9) xa_nil)) ⟨ok.hk, ok'.tk⟩)) (fun _ => xe_one (xe_eqP (n := 5) (rcP_web T ok.w.t.nd) (hr.mono (by decide)) (xv 1) (xe_call (fd_law_made T) (ks, ts) hr (xa_cons (xv 2) (xa_cons (xv 3) xa_nil)) ⟨ok.hk, tk⟩)))) rfl) r)
end
end K53
end NJ_
section KGi_
set_option maxRecDepth 100000
set_option maxHeartbeats 4000000
/-! KGi: three names at once, by a tuple. -/
namespace K53
open PySem PySem.Spec PyProof.Rows L2
section
variable {X : Cx} {a b c : Expr} {Γ : En} {M : Mu} {p q r : Pv} {pos px py pz pt pt2 : Pos} {e0 : Eb} {P : Pst} {mo mo2 : Mo} {i j l kt k2 : Nat} {n m o : Str} {rest : List Stmt}
theorem xss_tup3ENE (hc : X.calm = true) (hN : X.N.Nodup) (ha : XE X a Γ M p) (hb : XN X b Γ M mo) (he : ∀ a2, XE X c Γ ((a2, mo) :: M) r)
    (k : ∀ a2, XSs X e0 rest (((Γ.set i (some p)).set j (some (vVal (.ref a2)))).set l (some r)) ((a2, mo) :: M) P) (hi : X.N[i]? = some n := by rfl) (hj : X.N[j]? = some m := by rfl) (hl : X.N[l]? = some o := by rfl)
    (hx1 : Loc X.env.scope n := by first | exact .inl rfl | exact .inr rfl) (hx2 : Loc X.env.scope m := by first | exact .inl rfl | exact .inr rfl) (hx3 : Loc X.env.scope o := by first | exact .inl rfl | exact .inr rfl)
    (hf1 : X.fn n = true ∨ X.env.scope.names.lookup n = some .local := by first | exact .inl rfl | exact .inr rfl) (hf2 : X.fn m = true ∨ X.env.scope.names.lookup m = some .local := by first | exact .inl rfl | exact .inr rfl) (hf3 : X.fn o = true ∨ X.env.scope.names.lookup o = some .local := by first | exact .inl rfl | exact .inr rfl)
    (hw : swappedStores [.Tuple [.Name n px, .Name m py, .Name o pz] kt pt] (.Tuple [a, b, c] k2 pt2) X.env = pure none := by rfl) (hs : swapsWithSole [.Tuple [.Name n px, .Name m py, .Name o pz] kt pt] (.Tuple [a, b, c] k2 pt2) pos.line X.env = pure false := by rfl)
    (h1 : (assignEach [.Tuple [.Name n px, .Name m py, .Name o pz] kt pt] X.env).map (·.2) = [assign (.Tuple [.Name n px, .Name m py, .Name o pz] kt pt) X.env] := by rfl)
    (hn : (assignEach [.Name n px, .Name m py, .Name o pz] X.env).length = 3 := by rfl) (hst : (assignEach [.Name n px, .Name m py, .Name o pz] X.env).findIdx? (·.1) = none := by rfl)
    (hs1 : starEach [a, b, c] X.env = (false, eval a X.env) :: starEach [b, c] X.env := by rfl) (hs2 : starEach [b, c] X.env = (false, eval b X.env) :: starEach [c] X.env := by rfl) (hs3 : starEach [c] X.env = (false, eval c X.env) :: starEach [] X.env := by rfl)
    (hq1 : (assignEach [.Name n px, .Name m py, .Name o pz] X.env).map (·.2) = assign (.Name n px) X.env :: (assignEach [.Name m py, .Name o pz] X.env).map (·.2) := by rfl) (hq2 : (assignEach [.Name m py, .Name o pz] X.env).map (·.2) = assign (.Name m py) X.env :: (assignEach [.Name o pz] X.env).map (·.2) := by rfl) (hq3 : (assignEach [.Name o pz] X.env).map (·.2) = assign (.Name o pz) X.env :: (assignEach [] X.env).map (·.2) := by rfl) :
    XSs X e0 (.Assign [.Tuple [.Name n px, .Name m py, .Name o pz] kt pt] (.Tuple [a, b, c] k2 pt2) pos :: rest) Γ M P := fun G H σ s D f =>
  ⟨_, pss_cons (ps_asg (pe_tup (pa_cons pe_w (pa_cons pe_w (pa_cons pe_w pa_nil hs3) hs2) hs1)) (pg_tup hc (pgs_cons (pg_name hN hi hx1 hf1) (pgs_cons (pg_name hN hj hx2 hf2) (pgs_cons (pg_name hN hl hx3 hf3) pgs_nil))) hn hst) hs hw h1) pss_w, ha G H σ s.s _ fun v1 G1 H1 t1 r1 => by
    have s1 := s.stp t1
    refine hb G1 H1 σ s1.s _ fun a2 ob2 G2 H2 t2 g1 g2 g3 g4 => ?_
    have s2 := s1.add t2 g1 g2 g3 g4
    refine he a2 G2 H2 σ s2.s _ fun v3 G3 H3 t3 r3 => ?_
    have s3 := s2.stp t3
    refine ⟨by show 3 ≤ sizeLine; decide, fun pp hp => ⟨pp, _, rfl, SqT.of upd_same, rfl, _, _, rfl, _, _, rfl, _, _, rfl, rfl, ?_⟩⟩
    have t4 := Stp.tmp s3.s.i (o := .tup [v1, .ref a2, v3]) hp
    exact k a2 G3 _ _ (((((s3.stp t4).set (Pv.mono _ (le_same (t2.g.trans t3.g)) r1)).set (p := vVal (.ref a2)) rfl).set r3)) D f⟩
end
end K53
end KGi_
section NK_
set_option maxRecDepth 100000
set_option maxHeartbeats 4000000
/-! NK: one pot's look at the law. -/
namespace K53
open PySem PySem.Spec PyProof.Rows L2
/-! ### plain -/
theorem perm_map_inv {α β : Type} {f : α → β} {qs ps : List β} (h : qs.Perm ps) : ∀ {l : List α}, ps = l.map f → ∃ m : List α, m.Perm l ∧ qs = m.map f := by
  induction h with
  | nil => intro l e; exact ⟨l, .refl _, e⟩
  | cons x _ ih =>
    intro l e
    cases l with
    | nil => cases e
    | cons y l =>
      rw [List.map_cons] at e
      injection e with e1 e2
      obtain ⟨m, h1, h2⟩ := ih e2
      exact ⟨y :: m, h1.cons y, by rw [List.map_cons, e1, h2]⟩
  | swap x y _ =>
    intro l e
    match l, e with
    | a :: b :: l, e =>
      rw [List.map_cons, List.map_cons] at e
      injection e with e1 e2
      injection e2 with e2 e3
      exact ⟨b :: a :: l, .swap _ _ _, by rw [List.map_cons, List.map_cons, e1, e2, e3]⟩
  | trans _ _ ih1 ih2 =>
    intro l e
    obtain ⟨m, h1, h2⟩ := ih2 e
    obtain ⟨m', h3, h4⟩ := ih1 h2
    exact ⟨m', h3.trans h1, h4⟩
def zer (ks : List Str) (ts : Ties) (c : Cnt) : Cnt := c.map fun x => (x.1, if x.1 ∈ lawEmpty ks ts then 0 else x.2)
theorem zer_keys {ks : List Str} {ts : Ties} {c : Cnt} : (zer ks ts c).map (·.1) = c.map (·.1) := by unfold zer; rw [List.map_map]; rfl
theorem zer_cnt {ks : List Str} {ts : Ties} {c : Cnt} {k : Str} : cnt (zer ks ts c) k = if k ∈ lawEmpty ks ts then 0 else cnt c k := by
  unfold cnt zer
  induction c with
  | nil => simp
  | cons x r ih =>
    rw [List.map_cons, List.lookup_cons, List.lookup_cons]
    by_cases e : k = x.1
    · subst e; rw [beq_self_eq_true]; rfl
    · rw [show (k == x.1) = false by simpa using e]; exact ih
theorem addC_cnt {c d : Cnt} (nd : (c.map (·.1)).Nodup) {k : Str} (hk : k ∈ c.map (·.1)) : cnt (addC c d) k = cnt c k + cnt d k := by
  obtain ⟨x, hx, rfl⟩ := List.mem_map.mp hk
  have h1 : (x.1, x.2 + (d.lookup x.1).getD 0) ∈ addC c d := List.mem_map.mpr ⟨x, hx, rfl⟩
  have := cnt_mem (c := addC c d) (by rw [addC_keys]; exact nd) h1
  rw [cnt_mem nd hx]
  exact this
/-- known sizes: none of an empty kind -/
structure KnOk (ks : List Str) (ts : Ties) (side : Nat) (h : Cnt) : Prop where
  t : TrOk ks ts side h
  z : ∀ k ∈ lawEmpty ks ts, cnt h k = 0
  s : ∀ k, cnt h k ≤ 6
section
variable {ks : List Str} {ts : Ties} {side : Nat} {a b : Cnt}
theorem TrOk.nof (h : TrOk ks ts side a) (z : ∀ k ∈ lawEmpty ks ts, cnt a k = 0) : firstBad (mkWeb ks ts) (sortC a) = none := by
  rw [h.first]
  have : wrongL ks ts a = [] := by
    unfold wrongL
    rw [List.filter_eq_nil_iff]
    intro k hk
    rw [z k hk]
    decide
  rw [this]; rfl
theorem TrOk.zer (h : TrOk ks ts side a) (s : ∀ k, cnt a k ≤ 6) : KnOk ks ts side (zer ks ts a) := by
  have e : ∀ k, cnt (K53.zer ks ts a) k ≤ cnt a k := fun k => by
    rw [zer_cnt]
    split
    · exact Nat.zero_le _
    · exact Nat.le_refl _
  refine ⟨⟨h.hk, h.h4, h.lt, h.s40, h.big, h.ho.keys zer_keys, by rw [zer_keys]; exact h.pk, fun k => Nat.le_trans (e k) (h.sm k)⟩, fun k hk => ?_, fun k => Nat.le_trans (e k) (s k)⟩
  rw [zer_cnt, if_pos hk]
theorem KnOk.srt (h : KnOk ks ts side a) : KnOk ks ts side (sortC a) := ⟨h.t.srt, fun k hk => by rw [cnt_sortC h.t.ho.nd]; exact h.z k hk, fun k => by rw [cnt_sortC h.t.ho.nd]; exact h.s k⟩
theorem KnOk.add (h : KnOk ks ts side a) (g : KnOk ks ts side b) : TrOk ks ts side (addC a b) ∧ ∀ k ∈ lawEmpty ks ts, cnt (addC a b) k = 0 := by
  have e : ∀ k, cnt (addC a b) k ≤ cnt a k + cnt b k := fun k => by
    by_cases m : k ∈ a.map (·.1)
    · rw [addC_cnt h.t.ho.nd m]; exact Nat.le_refl _
    · rw [cnt_none (by rw [addC_keys]; exact m)]; exact Nat.zero_le _
  refine ⟨⟨h.t.hk, h.t.h4, h.t.lt, h.t.s40, h.t.big, addC_ok h.t.ho, by rw [addC_keys]; exact h.t.pk, fun k => ?_⟩, fun k hk => ?_⟩
  · have := e k
    have := h.s k
    have := g.s k
    omega
  · have := e k
    rw [h.z k hk, g.z k hk] at this
    omega
/-- what holds of a sum of sizes that hold -/
theorem sum_in (hA : KnOk ks ts side a) (hB : KnOk ks ts side b) {a' b' c : Cnt} (la : Lst (mkWeb ks ts) a a') (lb : Lst (mkWeb ks ts) b b') (lc : Lst (mkWeb ks ts) (sortC (addC a b)) c) : leC c (sortC (addC a' b')) = true := by
  have tA := told_of hA.t.hk hA.t.tk hA.t.ho hA.t.keys la
  have tB := told_of hA.t.hk hA.t.tk hB.t.ho hB.t.keys lb
  have hS := (hA.add hB).1
  have kk : a'.map (·.1) = b'.map (·.1) := by rw [tA.ck, tB.ck]
  have cs : ∀ k, cnt (addC a' b') k = cnt a' k + cnt b' k := fun k => by
    by_cases m : k ∈ a'.map (·.1)
    · exact addC_cnt tA.co.nd m
    · rw [cnt_none (by rw [addC_keys]; exact m), cnt_none m, cnt_none (by rw [← kk]; exact m)]
  have cl : closedL (leads ts) (addC a' b') := fun l hl => by
    have h1 := tA.cl l hl
    have h2 := tB.cl l hl
    unfold ldC at h1 h2 ⊢
    rw [cs, cs]
    rcases h1 with h1 | ⟨h1, h1'⟩ <;> rcases h2 with h2 | ⟨h2, h2'⟩
    · left; omega
    · right
      refine ⟨by omega, fun s e => ⟨(h2' s e).1, ?_⟩⟩
      have := (h2' s e).2
      rw [h1, Nat.zero_add, Nat.add_mul]
      omega
    · right
      refine ⟨by omega, fun s e => ⟨(h1' s e).1, ?_⟩⟩
      have := (h1' s e).2
      rw [h2, Nat.add_zero, Nat.add_mul]
      omega
    · right
      refine ⟨by omega, fun s e => ⟨(h1' s e).1, ?_⟩⟩
      have := (h1' s e).2
      have := (h2' s e).2
      rw [Nat.add_mul, Nat.add_mul]
      omega
  have le : ∀ k, cnt c k ≤ cnt (addC a' b') k := lc.u.le _ ((closed_sort hA.t.tk.nd).mpr cl) fun k => by
    rw [sortC_twice (addC_ok hA.t.ho), cnt_sortC (addC_ok hA.t.ho).nd, cs]
    have h1 := la.u.ge k
    have h2 := lb.u.ge k
    rw [cnt_sortC hA.t.ho.nd] at h1
    rw [cnt_sortC hB.t.ho.nd] at h2
    by_cases m : k ∈ a.map (·.1)
    · rw [addC_cnt hA.t.ho.nd m]; omega
    · rw [cnt_none (by rw [addC_keys]; exact m)]; exact Nat.zero_le _
  have nc : (c.map (·.1)).Nodup := by rw [lc.u.ks, sortC_twice (addC_ok hA.t.ho), sortC_keys]; exact sortS_nodup (addC_ok hA.t.ho).nd
  unfold leC
  rw [List.all_eq_true]
  intro x hx
  refine decide_eq_true ?_
  have := le x.1
  rw [cnt_mem nc hx, ← cnt_sortC (addC_ok tA.co).nd] at this
  exact this
end
def sideOf (n : Nat) : Nat := match n with
  | 0 => 0
  | 1 => 40
  | 2 => 14
  | 3 => 8
  | _ => 6
end K53
end NK_
section NL_
set_option maxRecDepth 100000
set_option maxHeartbeats 4000000
/-! NL: one pot's look at the law: the walk. -/
namespace K53
open PySem PySem.Spec PyProof.Rows L2
section
variable {X : Cx} {e a b c it tg : Expr} {es : List Expr} {Γ : En} {M : Mu} {p q : Pv} {pos : Pos} {e0 : Eb} {P : Pst}
theorem xss_ifT {th rest : List Stmt} {Γ' : En} {M' : Mu} (hc : XT X c Γ M true) (h1 : XSs X e0 th Γ M { P with nx := fun G H σ => Sta e0 G H σ Γ' M' }) (k : XSs X e0 rest Γ' M' P) : XSs X e0 (.If c th [] pos :: rest) Γ M P := xss_cons (xs_if hc (fun _ => h1) fun z => Bool.noConfusion z) k
end
section
variable {X : Cx} {e a b c it tg : Expr} {es : List Expr} {Γ : En} {M : Mu} {p q : Pv} {pos : Pos} {e0 : Eb} {P : Pst} {C : Addr} {n j : Nat} {pn : List Str} {δ ι κ : Type} {args : δ → List Pv} {ok : δ → Prop} {res : δ → Pv} {φ : ι → Prop} {ψ : κ → Prop} {T : Addr} {G0 H0 : Hp}
theorem xe_binE {op : Operator} {fs : ι → List (Str × Pv)} {gs : κ → List (Str × Pv)} (F : Md X.prog X.w X.K X.mg X.base C (PySem.dunder op.info.2) n pn (spP args ok res)) (D : ι → κ → δ) (hr : Room j X.A) (hc : PySem.W.selfFirst X.K C = true) (ha : XE X a Γ M (vEx φ fun x => vIns C (fs x))) (hb : XE X b Γ M (vEx ψ fun y => vIns C (gs y))) (hd : ∀ x y, args (D x y) = [vIns C (fs x), vIns C (gs y)]) (hok : ∀ x y, φ x → ψ y → ok (D x y)) (hj : n ≤ j := by decide) :
    XE X (.BinOp a op b pos) Γ M (vEx (fun z : ι × κ => φ z.1 ∧ ψ z.2) fun z => res (D z.1 z.2)) := by
  obtain ⟨f, fd, hm', hb', F⟩ := F.ex
  refine xe_opG (op_bin (C := C) (W := fun H a => ∃ dx vs, H a = some (.ins C dx vs)) (fun pins σ H s a I ⟨dx, vs, h⟩ => ?_) hc hm'.at_ hm'.fn (F.raw hb' .nil) (hr.mono hj)) ha hb fun G H v w i rv rw Q kq => ?_
  · obtain ⟨od, J⟩ := ins_inst I h
    exact ⟨_, _, J⟩
  · obtain ⟨x, hx, a1, dx1, xs1, rfl, h1, al1⟩ := rv
    obtain ⟨y, hy, a2, dx2, xs2, rfl, h2, al2⟩ := rw
    refine ⟨a1, a2, rfl, rfl, ⟨_, _, i _ _ h1⟩, ⟨_, _, i _ _ h2⟩, D x y, G, i, ?_, hok x y hx hy, fun v G3 H3 t3 r3 => kq v G3 H3 t3 ⟨(x, y), ⟨hx, hy⟩, r3⟩⟩
    rw [hd]
    exact .cons ⟨a1, dx1, xs1, rfl, h1, al1⟩ (.cons ⟨a2, dx2, xs2, rfl, h2, al2⟩ .nil)
theorem xss_consL {st : Stmt} {rest : List Stmt} {Γs : ι → En} {Ms : ι → Mu} {I : Nat → ι → Prop} (h : XS X e0 st Γ M { P with nx := LI T G0 H0 Γs Ms I n }) (hr : ∀ x e1, I n x → Rb T G0 H0 e1 → XSs X e1 rest (Γs x) (Ms x) P) : XSs X e0 (st :: rest) Γ M P := fun G H σ s D F =>
  ⟨_, pss_cons ps_w pss_w, h G H σ s _ ⟨fun G1 H1 σ1 ⟨x, e1, hx, r1, s1⟩ => hr x e1 hx r1 G1 H1 σ1 s1 D F, F.rt, F.bk, F.ct⟩⟩
end
theorem dig_open {G : Hp} {ss : List Str} : ∀ {kv : List (Key × V)}, AlD G kv (ss.map fun s => (s, vDig 7)) → ∃ c : Cnt, c.map (·.1) = ss ∧ (∀ x ∈ c, x.2 < 7) ∧ AlD G kv (pCnt c) := by
  induction ss with
  | nil => intro kv h; cases h; exact ⟨[], rfl, fun x hx => by simp at hx, .nil⟩
  | cons s ss ih =>
    intro kv h
    rw [List.map_cons] at h
    cases h with
    | cons h t =>
      obtain ⟨c, h1, h2, h3⟩ := ih t
      obtain ⟨d, hd, rv⟩ := h
      refine ⟨(s, d) :: c, by rw [List.map_cons, h1], fun x hx => ?_, .cons rv h3⟩
      rcases List.mem_cons.mp hx with rfl | hx
      · exact hd
      · exact h2 x hx
/-- drawn sizes -/
structure HdOk (ks : List Str) (c : Cnt) : Prop where
  pk : (c.map (·.1)).Perm ks
  s : ∀ x ∈ c, x.2 < 7
theorem HdOk.cnt {ks : List Str} {c : Cnt} (h : HdOk ks c) (nd : ks.Nodup) (k : Str) : cnt c k ≤ 6 := by
  by_cases m : k ∈ c.map (·.1)
  · obtain ⟨x, hx, rfl⟩ := List.mem_map.mp m
    rw [cnt_mem (h.pk.nodup_iff.mpr nd) hx]
    have := h.s x hx
    omega
  · rw [cnt_none m]; exact Nat.zero_le _
section
variable {P : Program} {w : World} {K : PySem.W.Frag} {mg : Str → Option Value} {base : Heap}
theorem fd_draw7 (T : Txt K mg) : Fd P w K mg base "_law_draw" 1 ["_law_pot_here", "_law_size"] [] (spP (δ := Unit) (fun _ => [vPot, vOne [vInt 1, vInt 2, vInt 4, vInt 7]]) (fun _ => True) (fun _ => vDig 7)) := by
  obtain ⟨f, fd, ds, h1, h2, h3, h4, F⟩ := (fd_law_draw (P := P) (w := w) (base := base) T).ex
  refine ⟨f, fd, ds, h1, h2, h3, h4, F.imp fun vs H Q E ⟨d, G, i, a, o, q⟩ => ?_⟩
  obtain ⟨v, u, rfl, rv, p, hp, ru⟩ := alA2 a
  have go : ∀ n : Nat, 0 < n → n < 8 → (vInt (n : Int)).r G u → spP (δ := Nat) (fun n => [vPot, vInt (n : Int)]) (fun n => 0 < n ∧ n < 1073741824) (fun n => vDig n) [v, u] H Q E := fun n h0 h8 r => ⟨n, G, i, .cons rv (.cons r .nil), ⟨h0, by omega⟩, fun v G' H' t ⟨d, hd, r⟩ => q v G' H' t ⟨d, by show d < 7; have : d < n := hd; omega, r⟩⟩
  simp only [List.mem_cons, List.not_mem_nil, or_false] at hp
  rcases hp with rfl | rfl | rfl | rfl
  · exact go 1 (by decide) (by decide) ru
  · exact go 2 (by decide) (by decide) ru
  · exact go 4 (by decide) (by decide) ru
  · exact go 7 (by decide) (by decide) ru
theorem md_isw (T : Txt K mg) {ks : List Str} {ts : Ties} {side : Nat} {a b c : Cnt} (hA : KnOk ks ts side a) (hB : KnOk ks ts side b) (lc : Lst (mkWeb ks ts) (sortC (addC a b)) c) : Md P w K mg base (He.ga K "Sizes") "is_within" 3 ["self", "other"] (spP (δ := Unit) (fun _ => [vSizes K c, vEx (fun z : Cnt × Cnt => Lst (mkWeb ks ts) a z.1 ∧ Lst (mkWeb ks ts) b z.2) fun z => vSizes K (sortC (addC z.1 z.2))]) (fun _ => True) (fun _ => vBl true)) := by
  obtain ⟨f, fd, h1, h2, F⟩ := (md_Sizes_is_within (P := P) (w := w) (base := base) T).ex
  refine ⟨f, fd, h1, h2, F.imp fun vs H Q E ⟨d, G, i, al, o, q⟩ => ?_⟩
  obtain ⟨v, u, rfl, rv, z, ⟨la, lb⟩, ru⟩ := alA2 al
  have tA := told_of hA.t.hk hA.t.tk hA.t.ho hA.t.keys la
  have hS := (hA.add hB).1
  have tC := told_of hS.hk hS.tk hS.srt.ho hS.srt.keys lc
  refine ⟨(c, sortC (addC z.1 z.2)), G, i, .cons rv (.cons ru .nil), ⟨?_, tC.co, sortC_ok (addC_ok tA.co)⟩, fun v G' H' t r => q v G' H' t ?_⟩
  · show c.map (·.1) = _
    rw [tC.ck, sortC_keys, addC_keys, tA.ck, sortS_sortS]
  · have r : (vBl (leC c (sortC (addC z.1 z.2)))).r G' v := r
    rw [sum_in hA hB la lb lc] at r
    exact r
abbrev nRt : List Str := ["_law_pot_here", "_law_sorts", "_law_ties_here", "_law_web", "_law_side", "_law_box_here", "_law_known", "_law_nothing", "_law_turn", "_law_held", "_law_whole", "_law_sort"]
theorem fd_law_right (T : Txt K mg) (EX : ExcT P w K mg) {c Pt : Addr} (LF : LamF K mg base c Pt) : Fd P w K mg base "_law_right" 27 ["_law_pot_here"] [] (spL (δ := Unit) Pt (fun _ => [vPot]) (fun _ => True) (fun _ => vBl true)) := by
  obtain ⟨g, fd, F⟩ := T.fn i_law_right d_law_right rfl
  refine ⟨_, fd, [], g rfl, F.kp, .nil, F.bindsN fun _ _ _ _ _ _ us hl => match us, hl with | [_], _ => rfl, ?_⟩
  have S : FnScope nRt ["_law_pot_here"] (defScope s_law_right) := ⟨rfl, rfl, rfl, by decide +kernel, rfl, by decide +kernel, by decide +kernel⟩
  refine fdl_of (N := nRt) F S (fun _ => rfl) (by decide) ?_
  intro cdv A outer s H E hr d G _ e0 r
  refine xss_set (i := 1) (p := vEx (NmOk 1 5) fun ss => vLst (ss.map fun s => vStr s)) (xe_call (fd_law_names T) (1, 5) hr (xa_cons (xv 0) (xa_cons ((xe_addD xe_int (xe_call (fd_law_draw T) 4 hr (xa_cons (xv 0) (xa_cons xe_int xa_nil)) ⟨by decide, by decide⟩)).weak fun G v ⟨d, hd, r⟩ => ⟨1 + d, ⟨by omega, by have : d < 4 := hd; show 1 + d < 5; omega⟩, ?_⟩) xa_nil)) (by decide)) S.nd ?_
  · rw [r]; rfl
  refine xss_open (i := 1) (ι := { ss : List Str // NmOk 1 5 ss }) (g := fun ss => vLst (ss.1.map fun s => vStr s)) rfl (fun G v ⟨x, h, r⟩ => ⟨⟨x, h⟩, r⟩) ?_
  rintro ⟨ks, hnm⟩
  have hk : KsOk ks := ⟨fun z => by have := hnm.lo; subst z; simp at this, hnm.ok, hnm.nd, by have := hnm.hi; omega⟩
  have h4 : ks.length ≤ 4 := by have := hnm.hi; omega
  have h1 : 1 ≤ ks.length := hnm.lo
  refine xss_set (i := 2) (p := vEx (LTs ks) fun ts => vDic (pLTs ts)) (xe_call (fd_law_ties T) ks hr (xa_cons (xv 0) (xa_cons (xv 1) (xa_cons xe_int (xa_cons xe_int xa_nil)))) ⟨hk.ne, by omega⟩) S.nd ?_
  refine xss_open (i := 2) (ι := { ts : Ties // LTs ks ts }) (g := fun ts => vDic (pLTs ts.1)) rfl (fun G v ⟨x, h, r⟩ => ⟨⟨x, h⟩, r⟩) ?_
  rintro ⟨ts, lt⟩
  have tk : TsOk ks ts := lt.ok hk.nm
  obtain ⟨side, hside, s40, big⟩ : ∃ side : Nat, atI [vInt 0, vInt 40, vInt 14, vInt 8, vInt 6] (ks.length : Int) = some (vInt (side : Int)) ∧ (1 ≤ side ∧ side ≤ 40) ∧ side ^ ks.length ≤ 1600 := by
    have : ks.length = 1 ∨ ks.length = 2 ∨ ks.length = 3 ∨ ks.length = 4 := by omega
    rcases this with e | e | e | e <;> rw [e]
    · exact ⟨40, rfl, by decide, by decide⟩
    · exact ⟨14, rfl, by decide, by decide⟩
    · exact ⟨8, rfl, by decide, by decide⟩
    · exact ⟨6, rfl, by decide, by decide⟩
  refine xss_par (i := 3) (j := 4) (p := vWeb K (mkWeb ks ts)) (q := vInt (side : Int)) rfl S.nd (xe_call (fd_law_made T) (ks, ts) hr (xa_cons (xv 1) (xa_cons (xv 2) xa_nil)) ⟨hk, tk⟩) (xe_ixL (XN.lst (xn_lst (xa_cons xe_int (xa_cons xe_int (xa_cons xe_int (xa_cons xe_int (xa_cons xe_int xa_nil))))))) (XE.is (xe_lenL (T.free "len" rfl) (xv 1) vwL) (by rw [List.length_map])) vwL hside) ?_
  refine xss_tup3ENE (i := 5) (j := 6) (l := 7) (p := vLst ((boxL ks ts side).map vCnt)) (mo := mLst []) (r := vLst ((lawEmpty ks ts).map fun s => vStr s)) rfl S.nd (xe_call (fd_law_box T) (ks, ts, side) hr (xa_cons (xv 1) (xa_cons (xv 2) (xa_cons (xv 4) xa_nil))) ⟨hk, tk, s40.1, s40.2, big⟩) (xn_lst xa_nil) (fun a2 => xe_call (fd_law_empty T) (ks, ts) hr (xa_cons (xv 1) (xa_cons (xv 2) xa_nil)) ⟨hk, h4, lt⟩) fun an => ?_
  let Gb : Option Pv → Option Pv → List (Option Pv) := fun tn hd => [some vPot, some (vLst (ks.map fun s => vStr s)), some (vDic (pLTs ts)), some (vWeb K (mkWeb ks ts)), some (vInt (side : Int)), some (vLst ((boxL ks ts side).map vCnt)), some (vVal (.ref an)), some (vLst ((lawEmpty ks ts).map fun s => vStr s)), tn, hd, none]
  let Ms : List Cnt → Mu := fun hs => [(an, mLst (hs.map fun h => vSizes K (sortC h)))]
  let I : Nat → List Cnt → Prop := fun i hs => hs.length = i - 1 ∧ ∀ h ∈ hs, KnOk ks ts side h
  have tr : ∀ {c : Cnt}, HdOk ks c → TrOk ks ts side c := fun {c} h => by
    have nd : (c.map (·.1)).Nodup := h.pk.nodup_iff.mpr hk.nd
    have ln : c.length = ks.length := by have := h.pk.length_eq; rwa [List.length_map] at this
    refine ⟨hk, h4, lt, s40, big, ⟨fun z => ?_, fun x hx => hk.nm _ (h.pk.mem_iff.mp (List.mem_map_of_mem hx)), nd, by omega⟩, h.pk, fun k => Nat.le_trans (h.cnt hk.nd k) (by decide)⟩
    subst z
    have : (0 : Nat) = ks.length := ln
    omega
  refine xss_consL (n := 4) (Γs := fun _ : List Cnt => Gb none none ++ [none]) (Ms := Ms) (I := I) (xs_forL (n := 4) (fun _ : List Cnt => Gb none none ++ [none]) Ms I r rfl (T.free "range" rfl) xe_int (by decide) (fun G H σ s => ⟨[], ⟨rfl, fun h hh => by simp at hh⟩, s.fg (by repeat (first | exact fg_nil | apply fg_keep | apply fg_drop))⟩) (fun i hs e1 hi hI r1 => ?_) (fun G H σ q => q)) fun hs e1 hI r1 => ?_
  · refine ⟨_, _, xg_name 8 S.nd, ?_⟩
    refine xss_set (i := 9) (p := vEx (HdOk ks) fun c => vDic (pCnt c)) ((xe_dictPE (φ := fun ss : List Str => ss.Perm ks) (kp := fun ss => ss.map fun s => (s, vDig 7)) rfl (T.free "dict" rfl) ((xe_lcE (φ := fun ss : List Str => ss.Perm ks) (ds := fun ss => ss) (f := fun s => vStr s) (g := fun s => vTup [vStr s, vDig 7]) (own := [("_law_sort", 11)]) (fun s => Gb (some (vInt (i : Int))) none ++ [some (vStr s)]) rfl S.nd ((xe_call (fd_law_mixed T) (ks.map fun s => vStr s) hr (xa_cons (xv 0) (xa_cons (xv 1) xa_nil)) (by show (ks.map _).length < 1000; rw [List.length_map]; omega)).weak fun G v ⟨qs, hq, rv⟩ => ?_) (blkOk_by (by kernel_rfl)) (fun _ _ _ _ _ _ _ _ _ => xg_name 11 S.nd) (fun _ _ _ _ _ _ _ s _ => xe_tup (xa_cons (xv 11) (xa_cons (xe_call (fd_draw7 T) () hr (xa_cons (xv 0) (xa_cons (XE.is (xe_call (fd_law_pick T) [vInt 1, vInt 2, vInt 4, vInt 7] hr (xa_cons (xv 0) (xa_cons (XN.lst (xn_lst (xa_cons xe_int (xa_cons xe_int (xa_cons xe_int (xa_cons xe_int xa_nil)))))) xa_nil)) ⟨by simp, by show 4 < 1073741824; decide⟩) rfl) xa_nil)) trivial) xa_nil))) (fun ss h => by rw [h.length_eq, sizeLine_eq]; omega)).weak fun G v ⟨ss, h, rv⟩ => ⟨ss, h, by show (vLst (List.map _ (List.map _ ss))).r G v; rw [List.map_map]; exact rv⟩) (fun ss h => by show (List.map _ (List.map _ ss)).Nodup; rw [List.map_map]; show (List.map (fun s => s) ss).Nodup; rw [List.map_id']; exact List.Perm.nodup_iff h |>.mpr hk.nd)).weak fun G v ⟨ss, h, d, hv, kv, rd, al⟩ => ?_) S.nd ?_
    · obtain ⟨m, h1, rfl⟩ := perm_map_inv hq rfl
      exact ⟨m, h1, rv⟩
    · obtain ⟨c, h1, h2, h3⟩ := dig_open al
      exact ⟨c, ⟨by rw [h1]; exact h, h2⟩, d, hv, kv, rd, h3⟩
    refine xss_open (i := 9) (ι := { c : Cnt // HdOk ks c }) (g := fun c => vDic (pCnt c.1)) rfl (fun G v ⟨x, h, r⟩ => ⟨⟨x, h⟩, r⟩) ?_
    rintro ⟨c, hc⟩
    have tc := tr hc
    refine xss_consI (fun x : Cnt × List Cnt => Gb (some (vInt (i : Int))) (some (vDic (pCnt x.1))) ++ [none]) (fun x => Ms x.2) (fun x => TrOk ks ts side x.1 ∧ I (i + 1) x.2) ?_ ?_
    · by_cases i0 : i = 0
      · subst i0
        exact xs_if (u := false) (XT.is (xt_gt (xv 8) xe_int) (by decide)) (fun z => nomatch z) (fun _ => xss_nil fun G H σ s => ⟨(c, hs), ⟨tc, hI⟩, s⟩)
      · refine xs_if (u := true) (XT.is (xt_gt (xv 8) xe_int) (decide_eq_true (by omega))) (fun _ => ?_) (fun z => nomatch z)
        refine xss_open (i := 9) (g := fun a => vDicAt a (pCnt c)) rfl vDic_open fun a => ?_
        have kn := tc.zer (hc.cnt hk.nd)
        refine xss_set (i := 9) (p := vDic (pCnt (zer ks ts c))) (XN.dic (xn_dictP rfl (T.free "dict" rfl) (XE.is (xe_lcD0 (d := a) (kp := pCnt c) (own := [("_law_sort", 11)]) (g := fun x => vTup [vStr x.1, vInt (((cnt c x.1 : Nat) : Int) * (if (!decide (x.1 ∈ lawEmpty ks ts)) = true then 1 else 0))]) (fun x => Gb (some (vInt (i : Int))) (some (vDicAt a (pCnt c))) ++ [some (vStr x.1)]) rfl S.nd (hvD (i := 9) rfl) ((xv 9).weak vDicAt_ref) (blkOk_by (by kernel_rfl)) (fun _ _ _ _ _ _ _ => xg_name 11 S.nd) (fun _ _ _ _ _ x hx => ?_) (pCnt_small tc.ho)) ?_) (by rw [pCnt_keys]; exact kn.t.ho.nd))) S.nd ?_
        · obtain ⟨y, hy, rfl⟩ := List.mem_map.mp hx
          have m1 : y.1 ∈ c.map (·.1) := List.mem_map_of_mem (f := (·.1)) hy
          have hb : cnt c y.1 ≤ 6 := hc.cnt hk.nd y.1
          refine xe_tup (xa_cons (xv 11) (xa_cons (xe_mul (xe_dget (u1 hr) (xv 9) (xv 11) vwD_at (cntP m1)) (xe_intB (T.free "int" rfl) (xe_ninS (t := false) (xv 11) (xv 7))) (.inl ⟨by rw [two64]; omega, by rw [two64]; show ((cnt c y.1 : Nat) : Int) < _; omega⟩)) xa_nil))
        · unfold pCnt zer
          rw [List.map_map, List.map_map, List.map_map]
          refine congrArg vLst (List.map_congr_left fun x hx => ?_)
          show vTup [vStr x.1, vInt (((cnt c x.1 : Nat) : Int) * (if (!decide (x.1 ∈ lawEmpty ks ts)) = true then 1 else 0))] = vTup [vStr x.1, vInt (((if x.1 ∈ lawEmpty ks ts then 0 else x.2 : Nat) : Nat) : Int)]
          rw [cnt_mem tc.ho.nd hx]
          by_cases m : x.1 ∈ lawEmpty ks ts
          · rw [if_pos m, decide_eq_true m]; simp
          · rw [if_neg m, decide_eq_false m]; simp
        · refine xss_one (xs_append (M1 := []) (M2 := []) (p := vSizes K (sortC (zer ks ts c))) (xv 6) (xe_make (id_Sizes T) (zer ks ts c) hr T.sizes.g (xa_cons (xv 9) xa_nil) kn.t.ho) (fun G H σ s => ⟨(zer ks ts c, hs ++ [zer ks ts c]), ⟨kn.t, ?_, fun h hh => ?_⟩, ?_⟩) ?_)
          · have := hI.1
            rw [List.length_append]
            show hs.length + 1 = i + 1 - 1
            omega
          · rcases List.mem_append.mp hh with hh | hh
            · exact hI.2 h hh
            · rw [List.mem_singleton] at hh
              rw [hh]; exact kn
          · show Sta _ _ _ _ _ [(an, mLst (List.map _ (hs ++ [zer ks ts c])))]
            rw [List.map_append]
            exact s
          · rw [List.length_map, sizeLine_eq]
            have := hI.1
            omega
    · rintro ⟨c', hs'⟩ ⟨tc', hI'⟩
      have tc' : TrOk ks ts side c' := tc'
      refine xss_notL (XEL.is (xel_call (fd_law_told_right T EX LF) (ks, ts, side, c') hr (xa_cons (xv 3) (xa_cons (xv 1) (xa_cons (xv 2) (xa_cons (xv 5) (xa_cons (xv 4) (xa_cons (xv 9) xa_nil)))))) tc') rfl) r1 moN_lst fun e2 r2 => ?_
      have neD : ts ≠ [] → (!(pLTs ts).isEmpty) = true := fun z => by
        cases ts with
        | nil => exact absurd rfl z
        | cons x r => rfl
      by_cases hts : ts = []
      · exact xss_iff (XT.is (xw_and (u := false) (w := false) (XT.is (xt_neNilD hr (xv 2) vwD) (by rw [hts]; rfl)) (fun z => nomatch z)).pt rfl) (xss_nil fun G H σ s => ⟨hs', e2, hI', r2, s.fg (by repeat (first | exact fg_nil | apply fg_keep | apply fg_drop))⟩)
      · by_cases h1 : 1 < i
        · exact xss_ifL ((xwl_and (XT.is (xt_neNilD hr (xv 2) vwD) (neD hts)) (xwl_and (XT.is (xt_gt (xv 8) xe_int) (decide_eq_true (by omega))) (xwl_and1 (xtl_not (u := true) (xtl_val (XEL.is (xel_call (fd_law_changed_right T EX LF) (ks, ts, side, c') hr (xa_cons (xv 0) (xa_cons (xv 3) (xa_cons (xv 1) (xa_cons (xv 2) (xa_cons (xv 4) (xa_cons (xv 9) xa_nil)))))) ⟨tc', hts⟩) rfl)))))).pt) r2 moN_lst fun e3 r3 => xss_nil fun G H σ s => ⟨hs', e3, hI', r3, s.fg (by repeat (first | exact fg_nil | apply fg_keep | apply fg_drop))⟩
        · exact xss_iff (XT.is (xw_and (u := true) (w := false) (XT.is (xt_neNilD hr (xv 2) vwD) (neD hts)) (fun _ => xw_and (u := false) (w := false) (XT.is (xt_gt (xv 8) xe_int) (decide_eq_false (by omega))) (fun z => nomatch z))).pt rfl) (xss_nil fun G H σ s => ⟨hs', e2, hI', r2, s.fg (by repeat (first | exact fg_nil | apply fg_keep | apply fg_drop))⟩)
  · obtain ⟨hl, hall⟩ := hI
    match hs, hl, hall with
    | [a1, a2, a3], _, hall =>
      have k1 := (hall a1 (by simp)).srt
      have k2 := (hall a2 (by simp)).srt
      obtain ⟨kS, kz⟩ := k1.add k2
      have kz2 : ∀ k ∈ lawEmpty ks ts, cnt (sortC (addC (sortC a1) (sortC a2))) k = 0 := fun k hk => by rw [cnt_sortC kS.ho.nd]; exact kz k hk
      refine xss_pub (i := 6) (a := an) (M1 := []) (M2 := []) (p := vLst [vSizes K (sortC a1), vSizes K (sortC a2), vSizes K (sortC a3)]) rfl (fun G u h e => mLst_lst h e) ?_
      refine xss_set (i := 10) (p := vEx (Lst (mkWeb ks ts) (sortC (addC (sortC a1) (sortC a2)))) (vSizes K)) (xe_callX (fd_least_sizes T EX) (mkWeb ks ts, sortC (addC (sortC a1) (sortC a2)), true) hr (xa_cons (xv 3) (xa_cons (XE.is (xe_binI (op := .Add) (md_Sizes_add T) (sortC a1, sortC a2) hr (T.selfF "Sizes" (by simp)) (xe_ixL (i := 0) (xv 6) xe_int vwL rfl) (xe_ixL (i := 1) (xv 6) xe_int vwL rfl) rfl ⟨?_, k1.t.ho, k2.t.ho⟩) rfl) xa_nil)) kS.srt.ls (noExc (kS.srt.nof kz2))) S.nd ?_
      · show (sortC a1).map (·.1) = (sortC a2).map (·.1)
        rw [sortC_keys, sortC_keys, (hall a1 (by simp)).t.keys, (hall a2 (by simp)).t.keys]
      refine xss_open (i := 10) (ι := { c : Cnt // Lst (mkWeb ks ts) (sortC (addC (sortC a1) (sortC a2))) c }) (g := fun c => vSizes K c.1) rfl (fun G v ⟨x, h, r⟩ => ⟨⟨x, h⟩, r⟩) ?_
      rintro ⟨cw, lw⟩
      refine xss_one (xs_retL (XE.is (xe_meth (md_isw T k1 k2 lw) () hr T.sizes.cl (xv 10) rfl (xa_cons (xe_binE (op := .Add) (φ := Lst (mkWeb ks ts) (sortC a1)) (ψ := Lst (mkWeb ks ts) (sortC a2)) (fs := fsSizes) (gs := fsSizes) (md_Sizes_add T) (fun x y => (x, y)) hr (T.selfF "Sizes" (by simp)) (xe_callX (fd_least_sizes T EX) (mkWeb ks ts, sortC a1, true) hr (xa_cons (xv 3) (xa_cons (xe_ixL (i := 0) (xv 6) xe_int vwL rfl) xa_nil)) k1.t.ls (noExc (k1.t.nof k1.z))) (xe_callX (fd_least_sizes T EX) (mkWeb ks ts, sortC a2, true) hr (xa_cons (xv 3) (xa_cons (xe_ixL (i := 1) (xv 6) xe_int vwL rfl) xa_nil)) k2.t.ls (noExc (k2.t.nof k2.z))) (fun _ _ => rfl) (fun x y hx hy => ?_)) xa_nil) rfl trivial) rfl) r1)
      have tA := told_of hk tk k1.t.ho k1.t.keys hx
      have tB := told_of hk tk k2.t.ho k2.t.keys hy
      exact ⟨by show x.map (·.1) = y.map (·.1); rw [tA.ck, tB.ck], tA.co, tB.co⟩
end
end K53
end NL_
section NM_
set_option maxRecDepth 100000
set_option maxHeartbeats 4000000
/-! NM: the law itself. -/
namespace K53
open PySem PySem.Spec PyProof.Rows L2
/-- the script: read, never written -/
def vScr (K : PySem.W.Frag) (is : List Int) : Pv := ⟨fun G v => ∃ a, v = .ref a ∧ SqL K G a (is.map V.int), fun l ⟨a, e, h⟩ => ⟨a, e, l.sqL h⟩⟩
theorem sqL_same {K : PySem.W.Frag} {H H' : Hp} {a : Addr} {xs : List V} (s : Same H H') (h : SqL K H a xs) : SqL K H' a xs := by
  rcases h with (h | ⟨o, h⟩) | h
  · exact .inl (.inl (s _ _ h))
  · exact .inl (.inr ⟨o, s _ _ h⟩)
  · exact .inr h
section
variable {X : Cx} {e o k : Expr} {Γ : En} {M : Mu} {pos pp : Pos} {is : List Int}
theorem xe_lenScr (hm : X.mg "len" = none) (h : XE X e Γ M (vScr X.K is)) (hg : Gl X "len" := by rfl) (he : starEach [e] X.env = (false, eval e X.env) :: starEach [] X.env := by rfl) : XE X (.Call (.Name "len" pp) [e] [] pos) Γ M (vInt (is.length : Int)) :=
  xe_cb1 call_len_seq hm (by decide +kernel) h (fun G H σ Γ v st rv Q k => by
    obtain ⟨a, rfl, h1⟩ := rv
    exact ⟨a, _, rfl, .inl (sqL_same st.i h1), by rw [List.length_map]; exact k _ G H (.refl st.i) rfl⟩) hg (by decide) (by decide) he
theorem xe_ixScr {i : Nat} {z : Int} (ho : XE X o Γ M (vScr X.K is)) (hk : XE X k Γ M (vInt (i : Int))) (hl : is[i]? = some z) (hs : PlainIx k := by exact fun _ _ => rfl) : XE X (.Subscript o k pos) Γ M (vInt z) := fun G H σ st Q w =>
  ⟨_, pe_ix ix_list pe_w pe_w hs, x2s ho hk st fun v u G' H' s' t rv ru => by
    obtain ⟨a, rfl, h1⟩ := rv
    cases ru
    exact ⟨a, _, i, .int z, rfl, rfl, sqL_same s'.i h1, by rw [atI_nat, List.getElem?_map, hl]; rfl, w _ G' H' t rfl⟩⟩
end
section
variable {P : Program} {w : World} {K : PySem.W.Frag} {mg : Str → Option Value} {base : Heap}
namespace Scr
theorem fd_law_pot (T : Txt K mg) : Fd P w K mg base "_law_pot" 1 ["_law_script", "_law_k"] [] (spP (δ := List Int × Nat) (fun d => [vScr K d.1, vInt (d.2 : Int)]) (fun d => d.2 < 4 ∧ d.1.length ≤ 1000) (fun _ => vPot)) := by
  obtain ⟨g, fd, F⟩ := T.fn i_law_pot d_law_pot rfl
  refine ⟨_, fd, [], g rfl, F.kp, .nil, F.bindsN fun _ _ _ _ _ _ us hl => match us, hl with | [_, _], _ => rfl, ?_⟩
  have S : FnScope ["_law_script", "_law_k", "_law_cell"] ["_law_script", "_law_k"] (defScope s_law_pot) := ⟨rfl, rfl, rfl, by decide +kernel, rfl, by decide +kernel, by decide +kernel⟩
  refine fd_of (N := ["_law_script", "_law_k", "_law_cell"]) F S (fun _ => rfl) (by decide) ?_
  intro cdv A outer s H E hr ⟨is, k⟩ G ok
  obtain ⟨h1, h2⟩ : k < 4 ∧ is.length ≤ 1000 := ok
  have fin : ∀ {c : Int}, ∃ i j : Nat, j < 4294967296 ∧ (if c - 10 ^ 18 > 0 then c - 10 ^ 18 else 0) = (i : Int) ∧ (c % 2147483587 * 48271 + 60013 * (k : Int) + 531) % 2147483647 = (j : Int) := fun {c} => by
    refine ⟨(if c - 10 ^ 18 > 0 then c - 10 ^ 18 else 0).toNat, ((c % 2147483587 * 48271 + 60013 * (k : Int) + 531) % 2147483647).toNat, ?_, ?_, ?_⟩
    · omega
    · split <;> omega
    · omega
  let c : Int := if k < is.length then (if is.getD k 0 < 0 then -(is.getD k 0) else is.getD k 0) else 37 * (k : Int) + 3
  have ik : k < is.length → is[k]? = some (is.getD k 0) := fun h => by
    rw [List.getD_eq_getElem?_getD, List.getElem?_eq_getElem h]; rfl
  refine xss_set (i := 2) (p := vInt c) (xe_if (u := decide (k < is.length)) (XT.is (xt_lt (xv 1) (xe_lenScr (T.free "len" rfl) (xv 0))) (by exact decide_eq_decide.mpr (by show (k : Int) < (is.length : Int) ↔ k < is.length; omega))) (fun h => XE.is (xe_abs (T.free "abs" rfl) (xe_ixScr (xv 0) (xv 1) (ik (of_decide_eq_true h)))) (by show _ = vInt (if _ then _ else _); rw [if_pos (of_decide_eq_true h)])) (fun h => XE.is (xe_add (xe_mul xe_int (xv 1) (.inl ⟨by rw [two64]; omega, by rw [two64]; omega⟩)) xe_int) (by show _ = vInt (if _ then _ else _); rw [if_neg (of_decide_eq_false h)]))) S.nd ?_
  obtain ⟨i, j, hj, e1, e2⟩ := fin (c := c)
  exact xss_one (xs_ret (xe_asPot hj (xn_lst (xa_cons (XE.is (xe_max2 rfl (T.free "max" rfl) xe_int (xe_sub (xv 2) (xe_pow xe_int xe_int ⟨by decide, by decide, by decide⟩))) (congrArg (fun z => vInt z) e1)) (xa_cons (XE.is (xe_mod (xe_intI (T.free "int" rfl) (xe_add (xe_add (xe_mul (xe_mod (xe_intI (T.free "int" rfl) (xv 2)) xe_int (by decide)) xe_int (.inr ⟨by rw [two64]; omega, by rw [two64]; omega⟩)) (xe_mul xe_int (xv 1) (.inl ⟨by rw [two64]; omega, by rw [two64]; omega⟩))) xe_int)) xe_int (by decide)) (congrArg (fun z => vInt z) e2)) xa_nil)))) fun _ _ _ t r => ⟨t, r⟩)
end Scr
abbrev nLaw : List Str := ["_law_script", "_law_k"]
theorem ok_law (T : Txt K mg) (EX : ExcT P w K mg) {c Pt : Addr} (LF : LamF K mg base c Pt) {fd : FuncData} (F : FunD K d_law.name d_law.qual d_law.params d_law.body d_law.scope (d_law.dvs K) (d_law.kws K) (He.fAd K d_law.at_) fd) :
    FnOk P w K mg base CX0 28 (He.fAd K d_law.at_) fd ["_law_script"] (spL (δ := List Int) Pt (fun is => [vScr K is]) (fun is => is.length ≤ 63) (fun _ => vBl true)) := by
  have S : FnScope nLaw ["_law_script"] (defScope s_law) := ⟨rfl, rfl, rfl, by decide +kernel, rfl, by decide +kernel, by decide +kernel⟩
  refine fdl_of (N := nLaw) F S (fun _ => rfl) (by decide) ?_
  intro cdv A outer s H E hr is G ok e0 r
  have ok : is.length ≤ 63 := ok
  obtain ⟨n, hn, h4⟩ : ∃ n : Nat, (if (if ((is.length : Int)) < 4 then (is.length : Int) else 4) > 1 then (if ((is.length : Int)) < 4 then (is.length : Int) else 4) else 1) = (n : Int) ∧ n ≤ 4 := by
    refine ⟨(if (if ((is.length : Int)) < 4 then (is.length : Int) else 4) > 1 then (if ((is.length : Int)) < 4 then (is.length : Int) else 4) else 1).toNat, ?_, ?_⟩
    · omega
    · omega
  refine xss_one (xs_retXL (XEL.is (xel_all (bs := List.replicate n true) rfl (T.free "all" rfl) (XEL.is (xel_lcR (n := n) (p := vBl true) (own := [("_law_k", 1)]) (fun i => [some (vScr K is), some (vInt (i : Int))]) rfl S.nd (T.free "range" rfl) (XE.is (xe_max2 rfl (T.free "max" rfl) xe_int (xe_min2 rfl (T.free "min" rfl) xe_int (xe_lenScr (T.free "len" rfl) (xv 0)))) (congrArg (fun z => vInt z) hn)) (by omega) (blkOk_by (by kernel_rfl)) (fun _ _ _ _ _ _ _ => xg_name 1 S.nd) (fun _ _ _ _ _ i hi => XEL.is (xel_call (fd_law_right T EX LF) () hr (xa_cons (XE.is (xe_call (Scr.fd_law_pot T) (is, i) hr (xa_cons (xv 0) (xa_cons (xv 1) xa_nil)) ⟨Nat.lt_of_lt_of_le hi h4, Nat.le_trans ok (by decide)⟩) rfl) xa_nil) trivial) rfl)) (by rw [List.map_replicate]))) ?_) r moN_nil)
  exact congrArg vBl (List.all_eq_true.mpr fun b hb => (List.mem_replicate.mp hb).2)
end
end K53
end NM_
section ZA_
set_option maxRecDepth 100000
set_option maxHeartbeats 4000000
/-! ZA: from the looks to the facts. -/
namespace K53
open PySem PySem.Spec PyProof.Rows L2 PySem.EmX
open He (ga ma Fa ba)
section
variable {K : PySem.W.Frag} {h : Heap} {mg : Str → Option Value}
theorem eqB {a b : Option (Option Value)} (e : He.eqO a b = true) : a = b := He.eqO_ok e
theorem cisi_of {C : Addr} (e : cisiB K C = true) : CIsi K C := by
  obtain ⟨a, e⟩ := ba e
  obtain ⟨b, e⟩ := ba e
  obtain ⟨c, d⟩ := ba e
  exact ⟨eqB a, eqB b, of_decide_eq_true c, of_decide_eq_true d⟩
theorem own_of (X : K.In h) (G : h.Ns mainGlobals mg) {c : Str} {fs ms : List Str} (e : ownB K c fs ms = true) : Own K mg c fs ms := by
  obtain ⟨e1, e⟩ := ba e
  obtain ⟨e2, e⟩ := ba e
  obtain ⟨e3, e⟩ := ba e
  obtain ⟨e4, e⟩ := ba e
  obtain ⟨e5, e6⟩ := ba e
  exact ⟨He.glo_ok X G e1, He.cls_ok e2, cisi_of e3, He.mkr_ok e4, fun f hf => He.noat_ok (List.all_eq_true.mp e5 f hf), fun m hm => He.meth_ok (List.all_eq_true.mp e6 m hm)⟩
theorem slot_of {C : Addr} {f : Str} {i : Nat} (e : slot1B K C f i = true) : SlX.Slot1 K C f (ma K C f) i := by
  obtain ⟨e1, e⟩ := ba e
  obtain ⟨e2, e⟩ := ba e
  obtain ⟨e3, e⟩ := ba e
  obtain ⟨e4, e⟩ := ba e
  obtain ⟨e5, e6⟩ := ba e
  exact ⟨eqB e1, eqB e2, of_decide_eq_true e3, of_decide_eq_true e4, of_decide_eq_true e5, of_decide_eq_true e6⟩
theorem ownS_of (X : K.In h) (G : h.Ns mainGlobals mg) {c : Str} {fs : List (Str × Nat)} {ms : List Str} (e : ownSB K c fs ms = true) : OwnS K mg c fs ms := by
  obtain ⟨e1, e⟩ := ba e
  obtain ⟨e2, e⟩ := ba e
  obtain ⟨e3, e⟩ := ba e
  obtain ⟨e4, e⟩ := ba e
  obtain ⟨e5, e⟩ := ba e
  obtain ⟨e6, e⟩ := ba e
  obtain ⟨e7, e⟩ := ba e
  obtain ⟨e8, e9⟩ := ba e
  exact ⟨He.glo_ok X G e1, ⟨e2, e3, e4, eqB e5⟩, cisi_of e6, He.mkr_ok e7, fun q hq => slot_of (List.all_eq_true.mp e8 q hq), fun m hm => He.meth_ok (List.all_eq_true.mp e9 m hm)⟩
theorem fnE_of {f : Addr} {name qual : Str} {st : Stmt} {cl : List Str} (e : fnE K f = some (name, qual, defArgs st, .stmts (defBody st), defScope st, mainGlobals, cl, .none, .none, builtinsNs)) :
    ∃ (oc : Value) (od : Option Addr) (osl : Array (Option Value)) (clo : List (Str × Addr)) (doc pm cdv ct : Value) (an : Option Addr), clo.map (·.1) = cl ∧ K.lookup f = some ⟨oc, od, .func { PySem.W.fnOf name qual (defArgs st) (defBody st) (defScope st) .none .none doc pm an cdv ct with closure := clo }, osl⟩ := by
  unfold fnE at e
  cases q : K.lookup f with
  | none => rw [q] at e; cases e
  | some o =>
    obtain ⟨oc, od, dt, osl⟩ := o
    rw [q] at e
    cases dt with
    | func fd =>
      obtain ⟨n1, n2, n3, n4, n5, n6, n7, n8, n9, n10, n11, n12, n13, n14, n15⟩ := fd
      have e2 : (some (n1, n2, n3, n4, n5, n6, n7.map (·.1), n8, n9, n15) : FnE) = some (name, qual, defArgs st, .stmts (defBody st), defScope st, mainGlobals, cl, .none, .none, builtinsNs) := e
      simp only [Option.some.injEq, Prod.mk.injEq] at e2
      obtain ⟨h1, h2, h3, h4, h5, h6, h7, h8, h9, h10⟩ := e2
      subst h1 h2 h3 h4 h5 h6 h8 h9 h10
      exact ⟨oc, od, osl, n7, n10, n11, n13, n14, n12, h7, rfl⟩
    | _ => cases e
theorem ownP_of {C : Addr} {f qual : Str} {st : Stmt} (e : ownPB K C f qual = true) (v : fnE K (pg K C f) = geFn f qual st) : OwnP K C f qual st := by
  obtain ⟨e1, e⟩ := ba e
  obtain ⟨e2, e⟩ := ba e
  obtain ⟨e3, e⟩ := ba e
  obtain ⟨e4, e5⟩ := ba e
  obtain ⟨kp, e6⟩ := ba e5
  refine ⟨eqB e1, eqB e2, of_decide_eq_true e3, ?_, ?_⟩
  · unfold pg
    split at e4
    · rename_i g rest q
      rw [q]
      exact ⟨rest, rfl⟩
    · cases e4
  · obtain ⟨oc, od, osl, clo, doc, pm, cdv, ct, an, hc, lk⟩ := fnE_of v
    have hc0 : clo = [] := List.map_eq_nil_iff.mp hc
    subst hc0
    rw [lk] at e6
    obtain ⟨e7, _⟩ := ba (show (PySem.W.codeIn K cdv qual && _) = true from e6)
    exact ⟨_, ⟨oc, od, .none, .none, doc, pm, an, cdv, ct, osl, rfl, lk, e7, .inl ⟨rfl, rfl⟩, .inl rfl⟩, kp⟩
theorem exT_of {P : Program} (hP : P = PySem.Challenge.pw_howmanyeach_k53_whole_least_sizes_in_a_b) {C fI : Addr} {B i newId : String} {bm : List Value} {fs : List Str} {qual : Str} {st : Stmt} (ms : mg "super" = none) (e : excB K C fI B i newId bm fs = true) (e' : excFB K C fI qual = true) (v : fnE K fI = exFn qual st) :
    ExT P K mg C fI B i newId bm qual (defArgs st) (defBody st) (defScope st) fs := by
  obtain ⟨e1, e⟩ := ba e
  obtain ⟨e2, e⟩ := ba e
  obtain ⟨e3, e⟩ := ba e
  obtain ⟨e4, e⟩ := ba e
  obtain ⟨e5, e⟩ := ba e
  obtain ⟨e6, e⟩ := ba e
  obtain ⟨e7, e⟩ := ba e
  obtain ⟨e8, e⟩ := ba e
  obtain ⟨e9, e⟩ := ba e
  obtain ⟨e10, e⟩ := ba e
  obtain ⟨e11, e⟩ := ba e
  obtain ⟨e12, e⟩ := ba e
  obtain ⟨e13, e⟩ := ba e
  obtain ⟨e14, e15⟩ := ba e
  refine ⟨e1, e2, e3, eqB e4, eqB e5, eqB e6, fun f hf => eqB (List.all_eq_true.mp e7 f hf), eqB e8, of_decide_eq_true e9, e10, of_decide_eq_true e11, of_decide_eq_true e12, eqB e13, of_decide_eq_true e14, eqB e15, ms, by rw [hP]; kernel_rfl, ?_⟩
  obtain ⟨oc, od, osl, clo, doc, pm, cdv, ct, an, hc, lk⟩ := fnE_of v
  unfold excFB at e'
  rw [lk] at e'
  obtain ⟨k1, k2⟩ := ba (show (PySem.W.codeIn K cdv qual && _) = true from e')
  obtain ⟨cda, rfl⟩ := He.codeIn_ref k1
  obtain ⟨k3, k4⟩ := ba k2
  match clo, hc with
  | [(x, cc)], hc =>
    have hx : x = ("__class__" : Str) := by simpa using hc
    subst hx
    refine ⟨oc, od, doc, pm, an, cda, ct, cc, osl, lk, k1, ?_, ?_⟩
    · have k3 : (match K.lookup cda with
        | some ⟨_, _, .fields vs, _⟩ => (match (vs[2]? : Option Value) with
          | some (.str file _) => PySem.Challenge.pw_howmanyeach_k53_whole_least_sizes_in_a_b.main.file == file
          | _ => false)
        | _ => false) = true := k3
      split at k3
      · rename_i c1 c2 vs sl q
        split at k3
        · rename_i file tf q2
          exact ⟨c1, c2, vs, sl, file, tf, q, q2, by rw [hP]; exact k3⟩
        · cases k3
      · cases k3
    · have k4 : (match K.lookup cc with
        | some ⟨_, _, .cell (some (.ref D)), _⟩ => decide (D = C)
        | _ => false) = true := k4
      split at k4
      · rename_i c1 c2 D sl q
        have := of_decide_eq_true k4
        subst this
        exact ⟨c1, c2, sl, q⟩
      · cases k4
theorem cval_of {c f : Str} {i : Int} (e : cvalB K c f i = true) : ∃ u, ClX.CVal K (ga K c) (.type "type") f (.int i) u := by
  unfold cvalB at e
  split at e
  · rename_i j t q
    have := of_decide_eq_true e
    subst this
    exact ⟨_, q, ⟨t, rfl⟩⟩
  · cases e
end
end K53
end ZA_
section ZB_
set_option maxRecDepth 100000
set_option maxHeartbeats 8000000
/-! ZB: the Hook, and the law. -/
namespace K53
open PySem PySem.Spec PyProof.Rows L2 PySem.EmX
open He (ga ma Fa ba)
def looksL (K : PySem.W.Frag) : List Bool := looks1 K ++ looks2 K ++ looks3 K ++ looks4 K
theorem looksL_of {K : PySem.W.Frag} (h1 : (looks1 K ++ looks3 K ++ looks4 K).all id = true) (h2 : (looks2 K).all id = true) : (looksL K).all id = true := by
  unfold looksL
  rw [List.all_append, List.all_append] at h1
  obtain ⟨h1, h4⟩ := ba h1
  obtain ⟨h1, h3⟩ := ba h1
  rw [List.all_append, List.all_append, List.all_append, h1, h2, h3, h4]; rfl
/-- what is said of the heap behind the top -/
structure Says (K : PySem.W.Frag) (h : Heap) : Prop where
  l : (looksL K).all id = true
  d : defsB K = true
  v : defsV K = defsW
  e : excV K = excW
  hd : PySem.W.codeHdIn K (He.cT K cTab).1 (He.cT K cTab).2 = true
  out : K.lookup (He.cT K cTab).2 = none
  tab : h.get? (He.cT K cTab).2 = some { cls := .none, data := .fields #[] }
theorem says_of {h : Heap} (e : obsK h.get? = obsW) : Says (KK h.get?) h := by
  have e1 : looks h.get? (KK h.get?) = true := congrArg (fun z : ObsT => z.1) e
  have e2 : defsV (KK h.get?) = defsW := congrArg (fun z : ObsT => z.2.1) e
  have e3 : excV (KK h.get?) = excW := congrArg (fun z : ObsT => z.2.2) e
  obtain ⟨e4, e5⟩ := ba e1
  obtain ⟨g1, h3⟩ := ba e4
  obtain ⟨g2, h2⟩ := ba e5
  have h1 := looksL_of g1 g2
  unfold tabB He.tabsB at h3
  have h4 := List.all_eq_true.mp h3 cTab (List.mem_singleton_self _)
  obtain ⟨h5, h6⟩ := ba h4
  cases q : h.get? (He.cT (KK h.get?) cTab).2 with
  | none => rw [q] at h6; cases h6
  | some o =>
    rw [q] at h6
    have h6 : He.emptyTab o = true := h6
    exact ⟨h1, h2, e2, e3, h5, He.frT_none q h6, by rw [q, He.emptyTab_eq h6]⟩
def hk : PySem.W.Hook where
  α := ObsT
  obs := fun s => obsK s.heap.get?
  val := fun _ => obsW
  says := fun _ h => ∃ K : PySem.W.Frag, K.In h ∧ Says K h
  of := fun _ _ e => ⟨_, He.frT_in, says_of e⟩
  keeps := fun _ _ _ ⟨K, hK, c⟩ k => ⟨K, PySem.W.Frag.In.keeps hK k, ⟨c.l, c.d, c.v, c.e, c.hd, c.out, k _ _ c.tab⟩⟩
def ob (s : PySem.W.SharedT) : ObsT := obsK (HandSHeadRun.getT s)
theorem ob_eq (s : PySem.W.SharedT) : ob s = hk.obs s.abs := by
  have e : HandSHeadRun.getT s = s.abs.heap.get? := funext (HandSHeadRun.getT_eq s)
  show obsK _ = obsK _
  rw [e]
theorem runEq (w : World) : HandSHeadRun.RunEq Rw (PySem.W.view Rw.prog [111]) hk ob 20000 loose w := fun os => by
  obtain ⟨s, hs, a1⟩ := Option.map_eq_some_iff.mp (run_a w os)
  have b := run_b w os
  have c1 := run_c1 w os
  have c2 := run_c2 w os
  rw [hs, Option.map_some] at b c1 c2
  rw [hs, Option.map_some]
  obtain ⟨a2, b⟩ := Prod.mk.inj (Option.some.inj b)
  obtain ⟨g1, g2⟩ := ba a1
  refine congrArg some (Prod.ext (Option.some.inj c1) (Prod.ext (Option.some.inj c2) ?_))
  show (looks _ _, defsV _, excV _) = (true, defsW, excW)
  refine Prod.ext ?_ b
  show (((looks1 _ ++ looks3 _ ++ looks4 _).all id && tabB _ _) && ((looks2 _).all id && defsB _)) = true
  rw [g1, g2, a2]; rfl
section
variable {P : Program} {w : World} {K : PySem.W.Frag} {h : Heap} {mg : Str → Option Value}
theorem Says.at (c : Says K h) (i : Nat) {b : Bool} (e : (looksL K)[i]? = some b := by rfl) : b = true := List.all_eq_true.mp c.l b (List.mem_of_getElem? e)
theorem Says.ex (c : Says K h) (i : Nat) {v u : FnE} (e : (excV K)[i]? = some v := by rfl) (e' : excW[i]? = some u := by rfl) : v = u := by
  rw [c.e, e'] at e
  exact (Option.some.inj e).symm
theorem kits_sub {q : Str × Str × Bool} (hq : q ∈ ([("Many", "Many", true), ("Ratio", "Ratio", true), ("Model", "Model", true), ("Sizes", "Sizes", true)] : List (Str × Str × Bool))) : q ∈ kits := by
  simp only [List.mem_cons, List.not_mem_nil, or_false] at hq
  unfold kits
  rcases hq with rfl | rfl | rfl | rfl <;> simp
theorem txt_of (X : K.In h) (G : h.Ns mainGlobals mg) (c : Says K h) : Txt K mg where
  fn := fun i d hd => by
    have hb := List.all_eq_true.mp c.d d (List.mem_of_getElem? hd)
    obtain ⟨h1, h2⟩ := ba hb
    have e : (defsV K)[i]? = defsW[i]? := by rw [c.v]
    have e2 : some (He.fnW K d.at_) = some d.val := by
      have e3 : (fns.map fun d => He.fnW K d.at_)[i]? = (fns.map He.DefD.val)[i]? := e
      rwa [List.getElem?_map, List.getElem?_map, hd] at e3
    refine ⟨fun hn => ?_, He.DefD.funD (Option.some.inj e2) h1⟩
    rw [hn] at h2
    have h3 : (Fa.glo d.at_.1).ok K = true := h2
    have := He.glo_ok X G h3
    unfold He.fAd
    rw [hn]
    exact this
  free := fun x hx => He.free_ok X G (List.all_eq_true.mp (c.at 0) x (List.contains_iff_mem.mp hx))
  letters := He.str_ok X G (c.at 1)
  most := He.int_ok X G (c.at 2)
  near := He.str_ok X G (c.at 3)
  far := He.str_ok X G (c.at 4)
  nearM := He.str_ok X G (c.at 5)
  model := own_of X G (c.at 6)
  map := own_of X G (c.at 7)
  sizes := own_of X G (c.at 8)
  line := own_of X G (c.at 9)
  many := ownS_of X G (c.at 10)
  ratio := ownS_of X G (c.at 11)
  least := ownP_of (c.at 12) (c.ex 2)
  mostP := ownP_of (c.at 13) (c.ex 3)
  kit := fun q hq => of_decide_eq_true (List.all_eq_true.mp (c.at 14 (b := kits.all fun q => decide (PySem.W.kitOne K (.ref (ga K q.1)) (.ref (ga K q.2.1)) = some q.2.2))) q (kits_sub hq))
  cread := fun x hx => by
    obtain ⟨h1, h2⟩ := ba (List.all_eq_true.mp (c.at 15) x hx)
    exact ⟨h1, eqB h2⟩
  cTop := cval_of (c.at 16)
  cKinds := cval_of (c.at 17)
  cLinks := cval_of (c.at 18)
  kitT := of_decide_eq_true (c.at 19)
  kitR := of_decide_eq_true (c.at 20)
  lines := ⟨He.glo_ok X G (c.at 21), fun H => He.tupB_ok (c.at 22) H⟩
  selfF := fun x hx => List.all_eq_true.mp (c.at 23) x hx
theorem exc_of (hP : P = PySem.Challenge.pw_howmanyeach_k53_whole_least_sizes_in_a_b) (X : K.In h) (G : h.Ns mainGlobals mg) (c : Says K h) : ExcT P w K mg := by
  have T := txt_of X G c
  have ms := T.free "super" rfl
  exact ⟨He.glo_ok X G (c.at 24), He.glo_ok X G (c.at 25), exT_of hP ms (c.at 27) (c.at 29) (c.ex 0), exT_of hP ms (c.at 28) (c.at 30) (c.ex 1), He.glo_ok X G (c.at 26),
    of_decide_eq_true (List.all_eq_true.mp (c.at 14 (b := kits.all fun q => decide (PySem.W.kitOne K (.ref (ga K q.1)) (.ref (ga K q.2.1)) = some q.2.2))) ("Empty", "StateError", true) (by simp [kits])), of_decide_eq_true (c.at 31)⟩
theorem lam_of (X : K.In h) (G : h.Ns mainGlobals mg) (c : Says K h) {base : Heap} (tb : LamX.TabB base mg (He.cT K cTab).1 (He.cT K cTab).2) : LamF K mg base (He.cT K cTab).1 (He.cT K cTab).2 := by
  refine ⟨tb, fun oc od fd osl lk => ?_⟩
  obtain ⟨_, fd', F⟩ := (txt_of X G c).fn i_law_told_right d_law_told_right rfl
  obtain ⟨oc', od', dV, kV, doc, pm, an, cdv, ct, osl', rfl, lk', hcd, _, _⟩ := F.ex
  rw [lk] at lk'
  cases lk'
  obtain ⟨c0, hc0⟩ := He.codeIn_ref hcd
  have e := He.codeOf_eq lk hc0
  show cdv = .ref (He.codeOf K cTab)
  rw [hc0]
  exact congrArg Value.ref e.symm
end
end K53
end ZB_
set_option maxRecDepth 100000
set_option maxHeartbeats 0
open PySem PySem.W PySem.Calls PyProof.Rows
theorem PySem.Challenge.cw_howmanyeach_k53_whole_least_sizes_in_a_b_holds : PySem.Challenge.rw_howmanyeach_k53_whole_least_sizes_in_a_b.Holds := by
  w_on; o_law
  refine HandSHeadRun.head_any (r := K53.Rw) (q := view K53.Rw.prog [111]) (H := K53.hk) (ob := K53.ob) (M := 20000) (loose := K53.loose) (d := HandSHeadRun.topDef K53.Rw.prog 111) (kwd := []) K53.ob_eq
    (by kernel_rfl) (fun s => by kernel_rfl) K53.runEq (by kernel_rfl) (by kernel_rfl) (by kernel_rfl) (by rfl) (by first | assumption | decide +kernel) (by decide +kernel) ⟨rfl, rfl, rfl, rfl, rfl, by decide +kernel⟩ ?hw ?hc
  case hw => w_witness2
  case hc =>
    refine LamX.walk_ofTsE (l := PySem.Challenge.rw_howmanyeach_k53_whole_least_sizes_in_a_b) (n := 63) (k := 28) (x := "_law_script") (CX := fun _ => L2.CX0) rfl (by decide) (by kernel_rfl) ⟨rfl, by decide, by decide⟩ ?F (fun _ _ _ _ _ z => z)
    intro w mg fa h Y G hmg0
    obtain ⟨K, KX, c⟩ := Y
    have hmg : mg ("law" : PySem.Str) = some (.ref fa) := by
      have e : (HandSHeadRun.topDef K53.Rw.prog 111).name = ("law" : PySem.Str) := by kernel_rfl
      rw [← e]
      exact hmg0
    have T := K53.txt_of KX G c
    obtain ⟨g, fd, F⟩ := T.fn K53.i_law K53.d_law rfl
    have e := hmg.symm.trans (g rfl)
    cases e
    refine ⟨K, KX, fd, [He.cT K K53.cTab], K53.spL (δ := List Int) (He.cT K K53.cTab).2 (fun is => [K53.vScr K is]) (fun is => is.length ≤ 63) (fun _ => K53.vBl true), ?_, ?_, ?_, ?_, ?_, ?_⟩
    · intro p hp
      rw [List.mem_singleton] at hp
      subst hp
      exact c.tab
    · intro p hp
      rw [List.mem_singleton] at hp
      subst hp
      exact c.out
    · intro p hp
      rw [List.mem_singleton] at hp
      subst hp
      exact codeHd_of_K KX c.hd
    · intro s u
      exact L2.FunD.bindsA (ps := ["_law_script"]) F (fun _ _ _ _ _ _ us hl => match us, hl with | [_], _ => rfl) s [u] rfl
    · intro H a ns hl _ hT hS
      exact ⟨ns, H, .refl _, fun p hp => by
        rw [List.mem_singleton] at hp
        subst hp
        exact LamX.TabS.nil (hT _ (List.mem_singleton_self _)), .cons ⟨a, rfl, hS⟩ .nil, hl, fun v _ _ _ _ r => r⟩
    · intro base KB GB TB
      exact K53.ok_law (K53.txt_of KX G c) (K53.exc_of rfl KX G c) (K53.lam_of KX G c (TB _ (List.mem_singleton_self _))) F
