import PyProof.Rows.All
import Wide.All
import OpenK.AllK
import Wide.FinOn
import HandS.ForMost
import HandS.Exc
import HandS.TryOnly
import HandS.ExcOwn
import HandS.WordsExc
import HandS.IsInst
import HandS.Wide
import HandS.SortInts
import HandS.SortRule
import HandS.TupLe
import HandS.ExcInit
import HandS.ExcField
import HandS.ExcIs
import HandS.TryMany
import KE.KExcIs
import Open.SpecLaws
import PyProof.P3Eq
import PySem.Challenge.RW_seldomenough_k38_phases_of_chains
section
set_option Elab.async false
set_option linter.all false
set_option maxRecDepth 100000
set_option maxHeartbeats 4000000
/-! Cv: a def's body read as a computation on plain data. -/
set_option autoImplicit false
namespace Cv
open PySem L2
/-- plain data -/
inductive D where
  | non | bl (b : Bool) | int (i : Int) | str (s : Str) | lst (xs : List D) | tup (xs : List D)
  /-- a list that is read alone (the script) -/
  | rls (xs : List D)
  | obj (c : Addr) (fs : List (Str × D))
mutual
inductive Rep (K : PySem.W.Frag) (G : Hp) : V → D → Prop
  | non : Rep K G .non .non
  | bl (b : Bool) : Rep K G (.bl b) (.bl b)
  | int (i : Int) : Rep K G (.int i) (.int i)
  | str (x : Str) : Rep K G (.str x) (.str x)
  | lst {a : Addr} {xs : List V} {ds : List D} : G a = some (.lst xs) → RepL K G xs ds → Rep K G (.ref a) (.lst ds)
  | rls {a : Addr} {xs : List V} {ds : List D} : SqL K G a xs → RepL K G xs ds → Rep K G (.ref a) (.rls ds)
  | tup {a : Addr} {xs : List V} {ds : List D} : G a = some (.tup xs) → RepL K G xs ds → Rep K G (.ref a) (.tup ds)
  | obj {a C dx : Addr} {fs : List (Str × V)} {gs : List (Str × D)} : G a = some (.ins C dx fs) → RepF K G fs gs → Rep K G (.ref a) (.obj C gs)
inductive RepL (K : PySem.W.Frag) (G : Hp) : List V → List D → Prop
  | nil : RepL K G [] []
  | cons {v : V} {d : D} {xs : List V} {ds : List D} : Rep K G v d → RepL K G xs ds → RepL K G (v :: xs) (d :: ds)
inductive RepF (K : PySem.W.Frag) (G : Hp) : List (Str × V) → List (Str × D) → Prop
  | nil : RepF K G [] []
  | cons {f : Str} {v : V} {d : D} {xs : List (Str × V)} {ds : List (Str × D)} : Rep K G v d → RepF K G xs ds → RepF K G ((f, v) :: xs) ((f, d) :: ds)
end
def notTbl (o : HO) : Prop := ∀ ps, o ≠ .tbl ps
theorem nt_lst {xs : List V} : notTbl (.lst xs) := fun _ h => by cases h
theorem nt_tup {xs : List V} : notTbl (.tup xs) := fun _ h => by cases h
theorem nt_ins {C dx : Addr} {fs : List (Str × V)} : notTbl (.ins C dx fs) := fun _ h => by cases h
theorem nt_frz {o : Obj} {u : HO} : notTbl (.frz o u) := fun _ h => by cases h
/-- all but tables is as it was -/
def Kp (H H' : Hp) : Prop := ∀ a o, H a = some o → notTbl o → H' a = some o
theorem Kp.refl (H : Hp) : Kp H H := fun _ _ h _ => h
theorem Kp.trans {H H1 H2 : Hp} (a : Kp H H1) (b : Kp H1 H2) : Kp H H2 := fun x o h n => b x o (a x o h n) n
theorem Kp.of {H H' : Hp} (e : Same H H') : Kp H H' := fun a o h _ => e a o h
section
variable {K : PySem.W.Frag} {H H' : Hp}
theorem SqL.kp {a : Addr} {xs : List V} (e : Kp H H') (h : SqL K H a xs) : SqL K H' a xs := by
  rcases h with (h | ⟨o, h⟩) | h
  · exact .inl (.inl (e _ _ h nt_lst))
  · exact .inl (.inr ⟨o, e _ _ h nt_frz⟩)
  · exact .inr h
theorem SqT.kp {a : Addr} {xs : List V} (e : Kp H H') (h : SqT K H a xs) : SqT K H' a xs := by
  rcases h with (h | ⟨o, h⟩) | h
  · exact .inl (.inl (e _ _ h nt_tup))
  · exact .inl (.inr ⟨o, e _ _ h nt_frz⟩)
  · exact .inr h
mutual
theorem Rep.mono (e : Kp H H') : ∀ {v : V} {d : D}, Rep K H v d → Rep K H' v d
  | _, _, .non => .non
  | _, _, .bl b => .bl b
  | _, _, .int i => .int i
  | _, _, .str x => .str x
  | _, _, .lst h r => .lst (e _ _ h nt_lst) (RepL.mono e r)
  | _, _, .rls h r => .rls (SqL.kp e h) (RepL.mono e r)
  | _, _, .tup h r => .tup (e _ _ h nt_tup) (RepL.mono e r)
  | _, _, .obj h r => .obj (e _ _ h nt_ins) (RepF.mono e r)
theorem RepL.mono (e : Kp H H') : ∀ {xs : List V} {ds : List D}, RepL K H xs ds → RepL K H' xs ds
  | _, _, .nil => .nil
  | _, _, .cons r t => .cons (Rep.mono e r) (RepL.mono e t)
theorem RepF.mono (e : Kp H H') : ∀ {xs : List (Str × V)} {ds : List (Str × D)}, RepF K H xs ds → RepF K H' xs ds
  | _, _, .nil => .nil
  | _, _, .cons r t => .cons (Rep.mono e r) (RepF.mono e t)
end
end
theorem RepL.length {K : PySem.W.Frag} {H : Hp} : ∀ {xs : List V} {ds : List D}, RepL K H xs ds → xs.length = ds.length
  | _, _, .nil => rfl
  | _, _, .cons _ t => congrArg (· + 1) (RepL.length t)
theorem RepL.get {K : PySem.W.Frag} {H : Hp} : ∀ {xs : List V} {ds : List D}, RepL K H xs ds → ∀ {i : Nat} {d : D}, ds[i]? = some d → ∃ v, xs[i]? = some v ∧ Rep K H v d
  | _, _, .nil, i, d, h => by simp at h
  | _, _, .cons r t, 0, d, h => by simp at h; subst h; exact ⟨_, rfl, r⟩
  | _, _, .cons r t, i + 1, d, h => by
    obtain ⟨v, h1, h2⟩ := RepL.get t (i := i) (d := d) (by simpa using h)
    exact ⟨v, by simpa using h1, h2⟩
theorem RepL.getV {K : PySem.W.Frag} {H : Hp} {xs : List V} {ds : List D} (r : RepL K H xs ds) {i : Nat} {v : V} (h : xs[i]? = some v) : ∃ d, ds[i]? = some d ∧ Rep K H v d := by
  have hl := r.length
  have hi : i < xs.length := (List.getElem?_eq_some_iff.mp h).1
  have hd : ds[i]? = some (ds[i]'(by omega)) := List.getElem?_eq_getElem (by omega)
  obtain ⟨v', h1, h2⟩ := r.get hd
  rw [h] at h1; cases h1
  exact ⟨_, hd, h2⟩
theorem RepL.append {K : PySem.W.Frag} {H : Hp} : ∀ {xs ys : List V} {ds es : List D}, RepL K H xs ds → RepL K H ys es → RepL K H (xs ++ ys) (ds ++ es)
  | _, _, _, _, .nil, s => s
  | _, _, _, _, .cons r t, s => .cons r (RepL.append t s)
theorem RepL.take {K : PySem.W.Frag} {H : Hp} : ∀ {xs : List V} {ds : List D} (n : Nat), RepL K H xs ds → RepL K H (xs.take n) (ds.take n)
  | _, _, 0, _ => .nil
  | _, _, _ + 1, .nil => .nil
  | _, _, n + 1, .cons r t => .cons r (RepL.take n t)
theorem RepL.drop {K : PySem.W.Frag} {H : Hp} : ∀ {xs : List V} {ds : List D} (n : Nat), RepL K H xs ds → RepL K H (xs.drop n) (ds.drop n)
  | _, _, 0, r => r
  | _, _, _ + 1, .nil => .nil
  | _, _, n + 1, .cons _ t => RepL.drop n t
theorem RepL.set {K : PySem.W.Frag} {H : Hp} {v : V} {d : D} (r : Rep K H v d) : ∀ {xs : List V} {ds : List D} (i : Nat), RepL K H xs ds → RepL K H (xs.set i v) (ds.set i d)
  | _, _, _, .nil => .nil
  | _, _, 0, .cons _ t => .cons r t
  | _, _, i + 1, .cons q t => .cons q (RepL.set r i t)
theorem RepL.eraseIdx {K : PySem.W.Frag} {H : Hp} : ∀ {xs : List V} {ds : List D} (i : Nat), RepL K H xs ds → RepL K H (xs.eraseIdx i) (ds.eraseIdx i)
  | _, _, _, .nil => .nil
  | _, _, 0, .cons _ t => t
  | _, _, i + 1, .cons q t => .cons q (RepL.eraseIdx i t)
theorem RepL.reverse {K : PySem.W.Frag} {H : Hp} : ∀ {xs : List V} {ds : List D}, RepL K H xs ds → RepL K H xs.reverse ds.reverse
  | _, _, .nil => .nil
  | _, _, .cons r t => by rw [List.reverse_cons, List.reverse_cons]; exact RepL.append (RepL.reverse t) (.cons r .nil)
theorem RepL.rep {K : PySem.W.Frag} {H : Hp} {xs : List V} {ds : List D} (h : RepL K H xs ds) : ∀ k : Nat, RepL K H (List.replicate k xs).flatten (List.replicate k ds).flatten
  | 0 => .nil
  | k + 1 => by
    rw [List.replicate_succ, List.replicate_succ, List.flatten_cons, List.flatten_cons]
    exact RepL.append h (RepL.rep h k)
theorem RepF.lookup {K : PySem.W.Frag} {H : Hp} {f : Str} {d : D} : ∀ {xs : List (Str × V)} {ds : List (Str × D)}, RepF K H xs ds → ds.lookup f = some d → ∃ v, xs.lookup f = some v ∧ Rep K H v d
  | _, _, .nil, h => by simp at h
  | _, _, .cons (f := g) (v := v) (d := d') (xs := xs) (ds := ds) r t, h => by
    by_cases e : f = g
    · subst e
      simp [List.lookup] at h
      subst h
      exact ⟨_, by simp [List.lookup], r⟩
    · have e' : (f == g) = false := by simpa using e
      simp only [List.lookup, e'] at h
      obtain ⟨w, h1, h2⟩ := RepF.lookup t h
      exact ⟨w, by simp only [List.lookup, e']; exact h1, h2⟩
theorem RepF.lookup_none {K : PySem.W.Frag} {H : Hp} {f : Str} : ∀ {xs : List (Str × V)} {ds : List (Str × D)}, RepF K H xs ds → ds.lookup f = none → xs.lookup f = none
  | _, _, .nil, h => by simp
  | _, _, .cons (f := g) r t, h => by
    by_cases e : f = g
    · subst e
      simp [List.lookup] at h
    · have e' : (f == g) = false := by simpa using e
      simp only [List.lookup, e'] at h ⊢
      exact RepF.lookup_none t h
theorem RepF.length {K : PySem.W.Frag} {H : Hp} : ∀ {xs : List (Str × V)} {ds : List (Str × D)}, RepF K H xs ds → xs.length = ds.length
  | _, _, .nil => rfl
  | _, _, .cons _ t => congrArg (· + 1) (RepF.length t)
/-- a field is put (behind the others where it is new) -/
def putD (f : Str) (v : D) : List (Str × D) → List (Str × D)
  | [] => [(f, v)]
  | (g, x) :: r => if g = f then (g, v) :: r else (g, x) :: putD f v r
theorem RepF.put {K : PySem.W.Frag} {H : Hp} {f : Str} {v : V} {d : D} (r : Rep K H v d) : ∀ {xs : List (Str × V)} {ds : List (Str × D)}, RepF K H xs ds → RepF K H (putF f v xs) (putD f d ds)
  | _, _, .nil => .cons r .nil
  | _, _, .cons (f := g) q t => by
    unfold putF putD
    by_cases e : g = f
    · rw [if_pos e, if_pos e]; exact .cons r t
    · rw [if_neg e, if_neg e]; exact .cons q (RepF.put r t)

/-! ### mutable objects, slots -/
inductive MO where
  | lst (ds : List D) | ins (c : Addr) (fs : List (Str × D))
def MO.toD : MO → D
  | .lst ds => .lst ds
  | .ins c fs => .obj c fs
inductive RepM (K : PySem.W.Frag) (G : Hp) : HO → MO → Prop
  | lst {xs : List V} {ds : List D} : RepL K G xs ds → RepM K G (.lst xs) (.lst ds)
  | ins {C dx : Addr} {fs : List (Str × V)} {gs : List (Str × D)} : RepF K G fs gs → RepM K G (.ins C dx fs) (.ins C gs)
theorem RepM.mono {K : PySem.W.Frag} {G G' : Hp} {o : HO} {m : MO} (e : Kp G G') : RepM K G o m → RepM K G' o m
  | .lst r => .lst (r.mono e)
  | .ins r => .ins (r.mono e)
theorem RepM.nt {K : PySem.W.Frag} {G : Hp} {o : HO} {m : MO} : RepM K G o m → notTbl o
  | .lst _ => nt_lst
  | .ins _ => nt_ins
theorem RepM.rep {K : PySem.W.Frag} {G : Hp} {o : HO} {m : MO} {p : Addr} (h : RepM K G o m) (hp : G p = some o) : Rep K G (.ref p) m.toD := by
  cases h with
  | lst r => exact .lst hp r
  | ins r => exact .obj hp r
/-- a slot: nothing known, data, an object that is mine, one that is my caller's -/
inductive Sl where
  | none | imm (d : D) | own (m : MO) | par (m : MO)
  /-- data that stands apart: nothing else leans on its objects -/
  | fre (d : D)
abbrev En := List Sl
def Sl.mo : Sl → Option MO
  | .own m => some m
  | .par m => some m
  | _ => Option.none
def SlOk (K : PySem.W.Frag) (G H : Hp) (x : Option V) : Sl → Prop
  | .none => True
  | .imm d => ∃ v, x = some v ∧ Rep K G v d
  | .fre _ => True
  | .own m => ∃ p o, x = some (.ref p) ∧ H p = some o ∧ G p = none ∧ RepM K G o m
  | .par m => ∃ p o, x = some (.ref p) ∧ H p = some o ∧ G p = none ∧ RepM K G o m
/-- at p stands an object of slot i -/
def OwnAt (σ : L2.St) (env : En) (i : Nat) (p : Addr) : Prop := σ[i]? = some (some (.ref p)) ∧ ∃ s m, env[i]? = some s ∧ s.mo = some m
def Own (σ : L2.St) (env : En) (p : Addr) : Prop := ∃ i, OwnAt σ env i p
/-- p is an object of my own making -/
def OwnO (σ : L2.St) (env : En) (p : Addr) : Prop := ∃ (i : Nat) (m : MO), σ[i]? = some (some (.ref p)) ∧ env[i]? = some (.own m)
theorem OwnO.own {σ : L2.St} {env : En} {p : Addr} (h : OwnO σ env p) : Own σ env p := let ⟨i, m, a, b⟩ := h; ⟨i, a, _, m, b, rfl⟩
structure Hold (K : PySem.W.Frag) (Z : Addr → Prop) (G H : Hp) (σ : L2.St) (env : En) : Prop where
  ex : Same G H
  nt : ∀ a o, G a = some o → notTbl o
  len : σ.length = env.length
  sl : ∀ (i : Nat) (s : Sl), env[i]? = some s → SlOk K G H (σ[i]?.join) s
  dis : ∀ (i j : Nat) (p : Addr), OwnAt σ env i p → OwnAt σ env j p → i = j
  fr : ∀ (i : Nat) (d : D), env[i]? = some (.fre d) → ∃ (v : V) (R : Hp), σ[i]? = some (some v) ∧ Same R H ∧ (∀ a o, R a = some o → G a = none ∧ ¬ Own σ env a ∧ ¬ Z a ∧ notTbl o) ∧ Rep K R v d
  zt : ∀ a, Z a → ∃ o, H a = some o
structure Step (Z : Addr → Prop) (G H : Hp) (σ : L2.St) (env : En) (G' H' : Hp) (σ' : L2.St) (env' : En) : Prop where
  g : Same G G'
  h : ∀ a o, H a = some o → notTbl o → ¬ Own σ env a → Z a → H' a = some o
  n : ∀ a o, H a = some o → G a = none → ¬ Own σ env a → Z a → G' a = none
  d : ∀ a, H' a = none → H a = none
  par : ∀ (i : Nat) (m' : MO), env'[i]? = some (Sl.par m') → (∃ m, env[i]? = some (Sl.par m)) ∧ σ'[i]? = σ[i]?
  ow : ∀ a, OwnO σ' env' a → OwnO σ env a ∨ H a = none
theorem Step.own {Z : Addr → Prop} {G H : Hp} {σ : L2.St} {env : En} {G' H' : Hp} {σ' : L2.St} {env' : En} (s : Step Z G H σ env G' H' σ' env') : ∀ a, Own σ' env' a → Own σ env a ∨ H a = none := by
  rintro a ⟨i, h, t, m, e, hm⟩
  cases t with
  | none => cases hm
  | imm d => cases hm
  | fre d => cases hm
  | own m' =>
    rcases s.ow a ⟨i, m', h, e⟩ with z | z
    · exact .inl z.own
    · exact .inr z
  | par m' =>
    obtain ⟨⟨m0, h0⟩, hs⟩ := s.par i m' e
    exact .inl ⟨i, by rw [← hs]; exact h, _, m0, h0, rfl⟩
theorem Step.refl {Z : Addr → Prop} {G H : Hp} {σ : L2.St} {env : En} : Step Z G H σ env G H σ env :=
  ⟨Same.refl _, fun _ _ h _ _ _ => h, fun _ _ _ h _ _ => h, fun _ h => h, fun _ _ h => ⟨⟨_, h⟩, rfl⟩, fun _ h => .inl h⟩
theorem Step.trans {Z : Addr → Prop} {G H G1 H1 G2 H2 : Hp} {σ σ1 σ2 : L2.St} {e e1 e2 : En} (a : Step Z G H σ e G1 H1 σ1 e1) (b : Step Z G1 H1 σ1 e1 G2 H2 σ2 e2) : Step Z G H σ e G2 H2 σ2 e2 where
  g := a.g.trans b.g
  h := fun x o hx nt no zx => by
    refine b.h x o (a.h x o hx nt no zx) nt (fun z => ?_) zx
    rcases a.own x z with z | z
    · exact no z
    · rw [hx] at z; cases z
  n := fun x o hx hg no zx => by
    have h1 : ∃ o', H1 x = some o' := by
      cases q : H1 x with
      | none => rw [a.d x q] at hx; cases hx
      | some o' => exact ⟨o', rfl⟩
    obtain ⟨o', h1⟩ := h1
    refine b.n x o' h1 (a.n x o hx hg no zx) (fun z => ?_) zx
    rcases a.own x z with z | z
    · exact no z
    · rw [hx] at z; cases z
  d := fun x h => a.d x (b.d x h)
  par := fun i m' h => by
    obtain ⟨⟨m1, h1⟩, s1⟩ := b.par i m' h
    obtain ⟨⟨m2, h2⟩, s2⟩ := a.par i m1 h1
    exact ⟨⟨m2, h2⟩, s1.trans s2⟩
  ow := fun x z => by
    rcases b.ow x z with z | z
    · exact a.ow x z
    · exact .inr (a.d x z)
theorem Hold.own_get {K : PySem.W.Frag} {Z : Addr → Prop} {G H : Hp} {σ : L2.St} {env : En} (h : Hold K Z G H σ env) {i : Nat} {s : Sl} {m : MO} (e : env[i]? = some s) (hm : s.mo = some m) :
    ∃ p o, σ[i]? = some (some (.ref p)) ∧ H p = some o ∧ G p = none ∧ RepM K G o m := by
  have q := h.sl i s e
  have f : ∀ p, σ[i]?.join = some (V.ref p) → σ[i]? = some (some (.ref p)) := fun p z => by
    cases w : σ[i]? with
    | none => rw [w] at z; cases z
    | some y => rw [w] at z; exact congrArg some z
  cases s with
  | none => cases hm
  | imm d => cases hm
  | fre d => cases hm
  | own m' => cases hm; obtain ⟨p, o, h1, h2, h3, h4⟩ := q; exact ⟨p, o, f p h1, h2, h3, h4⟩
  | par m' => cases hm; obtain ⟨p, o, h1, h2, h3, h4⟩ := q; exact ⟨p, o, f p h1, h2, h3, h4⟩
theorem Hold.imm_get {K : PySem.W.Frag} {Z : Addr → Prop} {G H : Hp} {σ : L2.St} {env : En} (h : Hold K Z G H σ env) {i : Nat} {d : D} (e : env[i]? = some (.imm d)) :
    ∃ v, σ[i]? = some (some v) ∧ Rep K G v d := by
  obtain ⟨v, q, r⟩ := h.sl i _ e
  cases w : σ[i]? with
  | none => rw [w] at q; cases q
  | some y => rw [w] at q; exact ⟨v, congrArg some q, r⟩
theorem Hold.not_in {K : PySem.W.Frag} {Z : Addr → Prop} {G H : Hp} {σ : L2.St} {env : En} (h : Hold K Z G H σ env) {p : Addr} (o : Own σ env p) : G p = none ∧ ∃ x, H p = some x ∧ notTbl x := by
  obtain ⟨i, hs, s, m, e, hm⟩ := o
  obtain ⟨q, x, h1, h2, h3, h4⟩ := h.own_get e hm
  rw [hs] at h1; cases h1
  exact ⟨h3, x, h2, h4.nt⟩
/-! ### nothing that I hold changes: the heap alone grows -/
/-- the heap has grown (nothing tracked has changed, but tables) -/
structure Grow (H H' : Hp) : Prop where
  k : Kp H H'
  d : ∀ a, H' a = none → H a = none
theorem Grow.there {H H' : Hp} (g : Grow H H') {a : Addr} (h : ∃ o, H a = some o) : ∃ o, H' a = some o := by
  cases q : H' a with
  | some o => exact ⟨o, rfl⟩
  | none =>
    obtain ⟨o, e⟩ := h
    rw [g.d a q] at e; cases e
theorem Grow.refl (H : Hp) : Grow H H := ⟨Kp.refl _, fun _ h => h⟩
theorem Grow.trans {H H1 H2 : Hp} (a : Grow H H1) (b : Grow H1 H2) : Grow H H2 := ⟨a.k.trans b.k, fun x h => a.d x (b.d x h)⟩
theorem Grow.new {H : Hp} {p : Addr} {o : HO} (h : H p = none) : Grow H (upd H p o) :=
  ⟨fun a u e _ => by rw [upd_ne (ne_of_none e h)]; exact e, fun a e => by
    by_cases z : a = p
    · rw [z]; exact h
    · rw [upd_ne z] at e; exact e⟩
theorem Hold.grow {K : PySem.W.Frag} {Z : Addr → Prop} {G H H' : Hp} {σ : L2.St} {env : En} (h : Hold K Z G H σ env) (g : Grow H H') : Hold K Z G H' σ env := by
  refine ⟨fun a o e => g.k a o (h.ex a o e) (h.nt a o e), h.nt, h.len, fun i s e => ?_, h.dis, fun i d e => ?_, fun a z => g.there (h.zt a z)⟩
  rotate_left
  · obtain ⟨v, R, h1, h2, h3, h4⟩ := h.fr i d e
    exact ⟨v, R, h1, fun a o z => g.k a o (h2 a o z) (h3 a o z).2.2.2, h3, h4⟩
  have q := h.sl i s e
  cases s with
  | none => trivial
  | fre d => trivial
  | imm d => exact q
  | own m => obtain ⟨p, o, h1, h2, h3, h4⟩ := q; exact ⟨p, o, h1, g.k p o h2 h4.nt, h3, h4⟩
  | par m => obtain ⟨p, o, h1, h2, h3, h4⟩ := q; exact ⟨p, o, h1, g.k p o h2 h4.nt, h3, h4⟩
theorem Step.grow {Z : Addr → Prop} {G H H' : Hp} {σ : L2.St} {env : En} (g : Grow H H') : Step Z G H σ env G H' σ env :=
  ⟨Same.refl _, fun a o h nt _ _ => g.k a o h nt, fun _ _ _ h _ _ => h, g.d, fun _ _ h => ⟨⟨_, h⟩, rfl⟩, fun _ h => .inl h⟩
/-- .. and a new object joins the data -/
theorem Hold.lay {K : PySem.W.Frag} {Z : Addr → Prop} {G H : Hp} {σ : L2.St} {env : En} (h : Hold K Z G H σ env) {p : Addr} {o : HO} (hp : H p = none) (nt : notTbl o) : Hold K Z (upd G p o) (upd H p o) σ env := by
  have gp : G p = none := by
    cases q : G p with
    | none => rfl
    | some u => rw [h.ex p u q] at hp; cases hp
  have sg : Same G (upd G p o) := fun a u e => by rw [upd_ne (ne_of_none e gp)]; exact e
  refine ⟨fun a u e => ?_, fun a u e => ?_, h.len, fun i s e => ?_, h.dis, fun i d e => ?_, fun a z => (Grow.new hp).there (h.zt a z)⟩
  rotate_right
  · obtain ⟨v, R, h1, h2, h3, h4⟩ := h.fr i d e
    have np : ∀ a o, R a = some o → a ≠ p := fun a o z => ne_of_none (h2 a o z) hp
    exact ⟨v, R, h1, fun a o z => by rw [upd_ne (np a o z)]; exact h2 a o z, fun a o z => ⟨by rw [upd_ne (np a o z)]; exact (h3 a o z).1, (h3 a o z).2⟩, h4⟩
  · by_cases z : a = p
    · subst z; rw [upd_same] at e ⊢; exact e
    · rw [upd_ne z] at e ⊢; exact h.ex a u e
  · by_cases z : a = p
    · subst z; rw [upd_same] at e; cases e; exact nt
    · rw [upd_ne z] at e; exact h.nt a u e
  · have q := h.sl i s e
    cases s with
    | none => trivial
    | fre d => trivial
    | imm d => obtain ⟨v, h1, h2⟩ := q; exact ⟨v, h1, h2.mono (Kp.of sg)⟩
    | own m => obtain ⟨q', u, h1, h2, h3, h4⟩ := q; exact ⟨q', u, h1, by rw [upd_ne (ne_of_none h2 hp)]; exact h2, by rw [upd_ne (ne_of_none h2 hp)]; exact h3, h4.mono (Kp.of sg)⟩
    | par m => obtain ⟨q', u, h1, h2, h3, h4⟩ := q; exact ⟨q', u, h1, by rw [upd_ne (ne_of_none h2 hp)]; exact h2, by rw [upd_ne (ne_of_none h2 hp)]; exact h3, h4.mono (Kp.of sg)⟩
theorem Step.lay {Z : Addr → Prop} {G H : Hp} {σ : L2.St} {env : En} {p : Addr} {o : HO} (hp : H p = none) (gp : G p = none) : Step Z G H σ env (upd G p o) (upd H p o) σ env :=
  ⟨fun a u e => by rw [upd_ne (ne_of_none e gp)]; exact e, fun a u h _ _ _ => by rw [upd_ne (ne_of_none h hp)]; exact h, fun a u h hg _ _ => by rw [upd_ne (ne_of_none h hp)]; exact hg,
    (Grow.new hp).d, fun _ _ h => ⟨⟨_, h⟩, rfl⟩, fun _ h => .inl h⟩
theorem Hold.gp {K : PySem.W.Frag} {Z : Addr → Prop} {G H : Hp} {σ : L2.St} {env : En} (h : Hold K Z G H σ env) {p : Addr} (hp : H p = none) : G p = none := by
  cases q : G p with
  | none => rfl
  | some u => rw [h.ex p u q] at hp; cases hp

/-! ### the small steps -/
section
variable {K : PySem.W.Frag} {Z : Addr → Prop} {G H : Hp} {σ : L2.St} {env : En}
theorem getElem?_set_cases {α : Type} {l : List α} {i j : Nat} {x y : α} (h : (l.set i x)[j]? = some y) : (i = j ∧ x = y ∧ j < l.length) ∨ (i ≠ j ∧ l[j]? = some y) := by
  by_cases e : i = j
  · subst e
    by_cases hl : i < l.length
    · rw [List.getElem?_set_self hl] at h
      exact .inl ⟨rfl, Option.some.inj h, hl⟩
    · have z : (l.set i x)[i]? = none := List.getElem?_eq_none (by simp; omega)
      rw [z] at h; cases h
  · rw [List.getElem?_set_ne e] at h
    exact .inr ⟨e, h⟩
theorem join_of {σ : L2.St} {i : Nat} {v : V} (h : σ[i]? = some (some v)) : σ[i]?.join = some v := by rw [h]; rfl
/-- what an own object's slot and another data slot say, G grown by p ↦ o -/
theorem SlOk.upG {x : Option V} {s : Sl} {p : Addr} {o : HO} (gp : G p = none) (hp : H p = some o) (q : SlOk K G H x s) (ne : ∀ m, s.mo = some m → x ≠ some (.ref p)) : SlOk K (upd G p o) H x s := by
  have sg : Kp G (upd G p o) := Kp.of fun a u e => by rw [upd_ne (ne_of_none e gp)]; exact e
  cases s with
  | none => trivial
  | fre d => trivial
  | imm d => obtain ⟨v, h1, h2⟩ := q; exact ⟨v, h1, h2.mono sg⟩
  | own m =>
    obtain ⟨q', u, h1, h2, h3, h4⟩ := q
    have n : q' ≠ p := fun z => ne m rfl (by rw [h1, z])
    exact ⟨q', u, h1, h2, by rw [upd_ne n]; exact h3, h4.mono sg⟩
  | par m =>
    obtain ⟨q', u, h1, h2, h3, h4⟩ := q
    have n : q' ≠ p := fun z => ne m rfl (by rw [h1, z])
    exact ⟨q', u, h1, h2, by rw [upd_ne n]; exact h3, h4.mono sg⟩
theorem slot_join {i : Nat} {v : V} (h : σ[i]?.join = some v) : σ[i]? = some (some v) := by
  cases w : σ[i]? with
  | none => rw [w] at h; cases h
  | some y => rw [w] at h; exact congrArg some h
theorem OwnAt.of {i : Nat} {p : Addr} {s : Sl} {m : MO} (h : σ[i]? = some (some (.ref p))) (e : env[i]? = some s) (hm : s.mo = some m) : OwnAt σ env i p := ⟨h, s, m, e, hm⟩
/-- slot i's own object becomes data -/
theorem Hold.freeze (h : Hold K Z G H σ env) {i : Nat} {m : MO} (e : env[i]? = some (.own m)) : ∃ p o, σ[i]? = some (some (.ref p)) ∧ Hold K Z (upd G p o) H σ (env.set i (.imm m.toD)) ∧
    Step Z G H σ env (upd G p o) H σ (env.set i (.imm m.toD)) ∧ Rep K (upd G p o) (.ref p) m.toD := by
  obtain ⟨p, o, h1, h2, h3, h4⟩ := h.own_get e rfl
  have hi : i < env.length := (List.getElem?_eq_some_iff.mp e).1
  have oi : OwnAt σ env i p := .of h1 e rfl
  have sg : Same G (upd G p o) := fun a u e => by rw [upd_ne (ne_of_none e h3)]; exact e
  have rep : Rep K (upd G p o) (.ref p) m.toD := (h4.mono (Kp.of sg)).rep upd_same
  have back : ∀ j a, OwnAt σ (env.set i (.imm m.toD)) j a → j ≠ i ∧ OwnAt σ env j a := fun j a ⟨q1, s, m', q2, q3⟩ => by
    rcases getElem?_set_cases q2 with ⟨_, z, _⟩ | ⟨n, z⟩
    · subst z; cases q3
    · exact ⟨Ne.symm n, q1, s, m', z, q3⟩
  refine ⟨p, o, h1, ⟨fun a u e' => ?_, fun a u e' => ?_, by rw [List.length_set]; exact h.len, fun j s e' => ?_, fun j k a z1 z2 => h.dis j k a (back j a z1).2 (back k a z2).2, fun j d e' => ?_, h.zt⟩, ⟨sg, fun a u q _ _ _ => q, fun a u q g no _ => ?_, fun _ q => q, fun j m' e' => ?_, fun a ⟨j, m', z1, z2⟩ => ?_⟩, rep⟩
  · by_cases z : a = p
    · subst z; rw [upd_same] at e'; rw [← e']; exact h2
    · rw [upd_ne z] at e'; exact h.ex a u e'
  · by_cases z : a = p
    · subst z; rw [upd_same] at e'; cases e'; exact h4.nt
    · rw [upd_ne z] at e'; exact h.nt a u e'
  · rcases getElem?_set_cases e' with ⟨z1, z2, _⟩ | ⟨n, z⟩
    · subst z1; subst z2
      exact ⟨_, join_of h1, rep⟩
    · exact SlOk.upG h3 h2 (h.sl j s z) fun m' hm q => n (h.dis i j p oi (.of (slot_join q) z hm))
  · rcases getElem?_set_cases e' with ⟨_, z2, _⟩ | ⟨n, z⟩
    · cases z2
    · obtain ⟨v, R, q1, q2, q3, q4⟩ := h.fr j d z
      have np : ∀ a o, R a = some o → a ≠ p := fun a o z w => (q3 a o z).2.1 (by rw [w]; exact ⟨i, oi⟩)
      exact ⟨v, R, q1, q2, fun a u w => ⟨by rw [upd_ne (np a u w)]; exact (q3 a u w).1, fun ⟨k, z⟩ => (q3 a u w).2.1 ⟨k, (back k a z).2⟩, (q3 a u w).2.2⟩, q4⟩
  · rw [upd_ne (fun z => no (by rw [z]; exact ⟨i, oi⟩))]; exact g
  · rcases getElem?_set_cases e' with ⟨_, z2, _⟩ | ⟨n, z⟩
    · cases z2
    · exact ⟨⟨m', z⟩, rfl⟩
  · rcases getElem?_set_cases z2 with ⟨_, z, _⟩ | ⟨n, z⟩
    · cases z
    · exact .inl ⟨j, m', z1, z⟩
theorem upd_there {H : Hp} {a p : Addr} {o : HO} (h : ∃ u, H a = some u) : ∃ u, upd H p o a = some u := by
  by_cases z : a = p
  · subst z; exact ⟨o, upd_same⟩
  · rw [upd_ne z]; exact h
/-- slot i's object is changed -/
theorem Hold.mut (h : Hold K Z G H σ env) {i : Nat} {s s' : Sl} {m m' : MO} {p : Addr} {o' : HO} (e : env[i]? = some s) (hm : s.mo = some m) (h1 : σ[i]? = some (some (.ref p))) (hs : (s = .own m ∧ s' = .own m') ∨ (s = .par m ∧ s' = .par m'))
    (r : RepM K G o' m') : Hold K Z G (upd H p o') σ (env.set i s') ∧ Step Z G H σ env G (upd H p o') σ (env.set i s') := by
  obtain ⟨p', o, h1', h2, h3, h4⟩ := h.own_get e hm
  rw [h1] at h1'; cases h1'
  have hi : i < env.length := (List.getElem?_eq_some_iff.mp e).1
  have oi : OwnAt σ env i p := .of h1 e hm
  have hm' : s'.mo = some m' := by rcases hs with ⟨_, z⟩ | ⟨_, z⟩ <;> (subst z; rfl)
  have back : ∀ j a, OwnAt σ (env.set i s') j a → OwnAt σ env j a := fun j a ⟨q1, t, m'', q2, q3⟩ => by
    rcases getElem?_set_cases q2 with ⟨z1, z, _⟩ | ⟨n, z⟩
    · subst z1; exact ⟨q1, s, m, e, hm⟩
    · exact ⟨q1, t, m'', z, q3⟩
  have np : ∀ a u, G a = some u → a ≠ p := fun a u z => ne_of_none z h3
  refine ⟨⟨fun a u q => by rw [upd_ne (np a u q)]; exact h.ex a u q, h.nt, by rw [List.length_set]; exact h.len, fun j t q => ?_, fun j k a z1 z2 => h.dis j k a (back j a z1) (back k a z2), fun j d q => ?_, fun a z => upd_there (h.zt a z)⟩,
    ⟨Same.refl _, fun a u q _ no _ => by rw [upd_ne (fun z => no (by rw [z]; exact ⟨i, oi⟩))]; exact q, fun _ _ _ g _ _ => g, fun a q => ?_, fun j m'' q => ?_, fun a ⟨j, m'', z1, z2⟩ => ?_⟩⟩
  · rcases getElem?_set_cases q with ⟨z1, z, _⟩ | ⟨n, z⟩
    · subst z1
      rcases hs with ⟨_, w⟩ | ⟨_, w⟩ <;> (subst w; subst z; exact ⟨p, o', join_of h1, upd_same, h3, r⟩)
    · have w := h.sl j t z
      have nj : ∀ m, t.mo = some m → σ[j]?.join ≠ some (.ref p) := fun m'' hm'' q' => n (h.dis i j p oi (.of (slot_join q') z hm''))
      cases t with
      | none => trivial
      | fre d => trivial
      | imm d => exact w
      | own m2 => obtain ⟨p2, u, w1, w2, w3, w4⟩ := w; exact ⟨p2, u, w1, by rw [upd_ne (fun z => nj m2 rfl (by rw [w1, z]))]; exact w2, w3, w4⟩
      | par m2 => obtain ⟨p2, u, w1, w2, w3, w4⟩ := w; exact ⟨p2, u, w1, by rw [upd_ne (fun z => nj m2 rfl (by rw [w1, z]))]; exact w2, w3, w4⟩
  · rcases getElem?_set_cases q with ⟨z1, z, _⟩ | ⟨n, z⟩
    · rcases hs with ⟨_, w⟩ | ⟨_, w⟩ <;> (subst w; cases z)
    · obtain ⟨v, R, q1, q2, q3, q4⟩ := h.fr j d z
      have np : ∀ a o, R a = some o → a ≠ p := fun a o z w => (q3 a o z).2.1 (by rw [w]; exact ⟨i, oi⟩)
      exact ⟨v, R, q1, fun a u w => by rw [upd_ne (np a u w)]; exact q2 a u w, fun a u w => ⟨(q3 a u w).1, fun ⟨k, z⟩ => (q3 a u w).2.1 ⟨k, back k a z⟩, (q3 a u w).2.2⟩, q4⟩
  · by_cases z : a = p
    · rw [z, upd_same] at q; cases q
    · rw [upd_ne z] at q; exact q
  · rcases getElem?_set_cases q with ⟨z1, z, _⟩ | ⟨n, z⟩
    · subst z1
      rcases hs with ⟨w1, w⟩ | ⟨w1, w⟩
      · subst w; cases z
      · exact ⟨⟨m, by rw [← w1]; exact e⟩, rfl⟩
    · exact ⟨⟨m'', z⟩, rfl⟩
  · rcases getElem?_set_cases z2 with ⟨w0, z, _⟩ | ⟨n, z⟩
    · subst w0
      rcases hs with ⟨w1, w⟩ | ⟨w1, w⟩
      · exact .inl ⟨i, m, z1, by rw [← w1]; exact e⟩
      · subst w; cases z
    · exact .inl ⟨j, m'', z1, z⟩
/-- slot i gets a value: data, a new object, data apart -/
theorem Hold.put (h : Hold K Z G H σ env) {i : Nat} {s : Sl} {v : V} (hi : i < env.length) (hs : SlOk K G H (some v) s) (hd : ∀ m, s.mo = some m → ∀ p, v = .ref p → ¬ Own σ env p)
    (hz : ∀ m, s.mo = some m → ∀ p, v = .ref p → Z p)
    (hf : ∀ d, s = .fre d → ∃ R : Hp, Same R H ∧ (∀ a o, R a = some o → G a = none ∧ ¬ Own σ env a ∧ ¬ Z a ∧ notTbl o) ∧ Rep K R v d) : Hold K Z G H (σ.set i (some v)) (env.set i s) := by
  have hl := h.len
  have hiσ : i < σ.length := by omega
  have back : ∀ j a, OwnAt (σ.set i (some v)) (env.set i s) j a → (j = i ∧ v = .ref a ∧ ∃ m, s.mo = some m) ∨ (j ≠ i ∧ OwnAt σ env j a) := fun j a ⟨q1, t, m, q2, q3⟩ => by
    rcases getElem?_set_cases q2 with ⟨z1, z, _⟩ | ⟨n, z⟩
    · subst z1; subst z
      rw [List.getElem?_set_self hiσ] at q1
      exact .inl ⟨rfl, Option.some.inj (Option.some.inj q1), m, q3⟩
    · rw [List.getElem?_set_ne n] at q1
      exact .inr ⟨Ne.symm n, q1, t, m, z, q3⟩
  refine ⟨h.ex, h.nt, by rw [List.length_set, List.length_set]; exact h.len, fun j t q => ?_, fun j k a z1 z2 => ?_, fun j d q => ?_, h.zt⟩
  · rcases getElem?_set_cases q with ⟨z1, z, _⟩ | ⟨n, z⟩
    · subst z1; subst z
      rw [List.getElem?_set_self hiσ]
      exact hs
    · rw [List.getElem?_set_ne n]
      exact h.sl j t z
  · rcases back j a z1 with ⟨e1, e2, m, e3⟩ | ⟨e1, e2⟩ <;> rcases back k a z2 with ⟨f1, f2, m', f3⟩ | ⟨f1, f2⟩
    · rw [e1, f1]
    · exact absurd ⟨k, f2⟩ (hd m e3 a e2)
    · exact absurd ⟨j, e2⟩ (hd m' f3 a f2)
    · exact h.dis j k a e2 f2
  · rcases getElem?_set_cases q with ⟨z1, z, _⟩ | ⟨n, z⟩
    · subst z1; subst z
      obtain ⟨R, r1, r2, r3⟩ := hf d rfl
      refine ⟨v, R, List.getElem?_set_self hiσ, r1, fun a o w => ⟨(r2 a o w).1, fun ⟨k, z⟩ => ?_, (r2 a o w).2.2⟩, r3⟩
      rcases back k a z with ⟨_, _, m, e3⟩ | ⟨_, e2⟩
      · cases e3
      · exact (r2 a o w).2.1 ⟨k, e2⟩
    · obtain ⟨v', R, r0, r1, r2, r3⟩ := h.fr j d z
      refine ⟨v', R, by rw [List.getElem?_set_ne n]; exact r0, r1, fun a o w => ⟨(r2 a o w).1, fun ⟨k, z'⟩ => ?_, (r2 a o w).2.2⟩, r3⟩
      rcases back k a z' with ⟨_, e2, m, e3⟩ | ⟨_, e2⟩
      · exact (r2 a o w).2.2.1 (hz m e3 a e2)
      · exact (r2 a o w).2.1 ⟨k, e2⟩
theorem Hold.weak {Z' : Addr → Prop} (h : Hold K Z' G H σ env) (hz : ∀ a, Z a → Z' a) : Hold K Z G H σ env :=
  ⟨h.ex, h.nt, h.len, h.sl, h.dis, fun i d e => let ⟨v, R, h1, h2, h3, h4⟩ := h.fr i d e; ⟨v, R, h1, h2, fun a o z => ⟨(h3 a o z).1, (h3 a o z).2.1, fun w => (h3 a o z).2.2.1 (hz a w), (h3 a o z).2.2.2⟩, h4⟩, fun a z => h.zt a (hz a z)⟩
theorem Step.weak {Z' : Addr → Prop} {G' H' : Hp} {σ' : L2.St} {env' : En} (hz : ∀ a, Z a → Z' a) (s : Step Z' G H σ env G' H' σ' env') : Step Z G H σ env G' H' σ' env' :=
  ⟨s.g, fun a o h nt no z => s.h a o h nt no (hz a z), fun a o h g no z => s.n a o h g no (hz a z), s.d, s.par, s.ow⟩
theorem Step.put {i : Nat} {s : Sl} {v : V} (hl : σ.length = env.length) (hp : ∀ m, s ≠ .par m) {G0 H0 : Hp} {σ0 : L2.St} {env0 : En} (hd : ∀ m, s = .own m → ∀ p, v = .ref p → OwnO σ0 env0 p ∨ H0 p = none) (st : Step Z G0 H0 σ0 env0 G H σ env) : Step Z G0 H0 σ0 env0 G H (σ.set i (some v)) (env.set i s) := by
  refine ⟨st.g, st.h, st.n, st.d, fun j m' q => ?_, fun a ⟨j, m, q1, q2⟩ => ?_⟩
  · rcases getElem?_set_cases q with ⟨_, z, _⟩ | ⟨n, z⟩
    · exact absurd z (hp m')
    · rw [List.getElem?_set_ne n]; exact st.par j m' z
  · rcases getElem?_set_cases q2 with ⟨z1, z, w⟩ | ⟨n, z⟩
    · subst z1; subst z
      rw [List.getElem?_set_self (by omega)] at q1
      exact hd m rfl a (Option.some.inj (Option.some.inj q1))
    · rw [List.getElem?_set_ne n] at q1
      exact st.ow a ⟨j, m, q1, z⟩
end
end Cv
end

section
set_option Elab.async false
set_option linter.all false
set_option maxRecDepth 100000
set_option maxHeartbeats 4000000
set_option autoImplicit false
/-! CvB: results, the judgements, expressions. -/
namespace Cv
open PySem L2
structure Exc where
  cls : Str
  fs : List (Str × D)
/-- what a pure reading computes -/
inductive RP (α : Type) where
  | ok (a : α) | exc (x : Exc) | bad
/-- what a reading computes, and what my slots hold behind it -/
inductive Res (α : Type) where
  | ok (a : α) (e : En) | exc (x : Exc) (e : En) | bad
def RP.bind {α β : Type} (r : RP α) (f : α → RP β) : RP β := match r with
  | .ok a => f a
  | .exc x => .exc x
  | .bad => .bad
def Res.bind {α β : Type} (r : Res α) (f : α → En → Res β) : Res β := match r with
  | .ok a e => f a e
  | .exc x e => .exc x e
  | .bad => .bad
def RP.of {α : Type} : Option α → RP α
  | some a => .ok a
  | none => .bad
def Res.of {α : Type} (e : En) : Option α → Res α
  | some a => .ok a e
  | none => .bad
/-- an exception that flies: its class at C, its own dict at a -/
def ExcAt (K : PySem.W.Frag) (mg : Str → Option Value) (H : Hp) (x : Exc) (C a : Addr) : Prop := mg x.cls = some (.ref C) ∧ ∃ fs, H a = some (.xd fs) ∧ RepF K H fs x.fs
section
variable (K : PySem.W.Frag) (mg : Str → Option Value) (W : WX) (Z : Addr → Prop) (G H : Hp) (σ : L2.St) (env : En)
def PoP (r : RP D) (Q : VK) : Prop := match r with
  | .ok d => ∀ H' v, Grow H H' → Rep K H' v d → Q v H'
  | .exc x => ∀ H' C a, Grow H H' → ExcAt K mg H' x C a → W (.ref C) (some a) σ H'
  | .bad => False
def PoTP (r : RP Bool) (Q : Bool → Hp → Prop) : Prop := match r with
  | .ok d => ∀ H', Grow H H' → Q d H'
  | .exc x => ∀ H' C a, Grow H H' → ExcAt K mg H' x C a → W (.ref C) (some a) σ H'
  | .bad => False
def PoAP (r : RP (List D)) (Q : List V → Hp → Prop) : Prop := match r with
  | .ok ds => ∀ H' vs, Grow H H' → RepL K H' vs ds → Q vs H'
  | .exc x => ∀ H' C a, Grow H H' → ExcAt K mg H' x C a → W (.ref C) (some a) σ H'
  | .bad => False
/-- the exception's way out, the slots as they are then -/
def PoX (x : Exc) (e : En) : Prop := ∀ G' H' C a, Step Z G H σ env G' H' σ e → Hold K Z G' H' σ e → ExcAt K mg H' x C a → W (.ref C) (some a) σ H'
def PoE (r : Res D) (Q : VK) : Prop := match r with
  | .ok d e => ∀ G' H' v, Step Z G H σ env G' H' σ e → Hold K Z G' H' σ e → Rep K G' v d → Q v H'
  | .exc x e => PoX K mg W Z G H σ env x e
  | .bad => False
def PoF (r : Res MO) (Q : VK) : Prop := match r with
  | .ok m e => ∀ G' H' p o, Step Z G H σ env G' H' σ e → Hold K (fun a => Z a ∨ a = p) G' H' σ e → H' p = some o → H p = none → G' p = none → ¬ Own σ e p → RepM K G' o m → Q (.ref p) H'
  | .exc x e => PoX K mg W Z G H σ env x e
  | .bad => False
def SeqAt (K : PySem.W.Frag) (H : Hp) (p : Addr) (b : Bool) (xs : List V) : Prop := if b = true then SqL K H p xs else SqT K H p xs
/-- a list (true) or a tuple whose items are data; it may be one of mine -/
def PoC (r : Res (Bool × List D)) (Q : VK) : Prop := match r with
  | .ok (b, ds) e => ∀ G' H' p xs, Step Z G H σ env G' H' σ e → Hold K Z G' H' σ e → SeqAt K H' p b xs → RepL K G' xs ds → Q (.ref p) H'
  | .exc x e => PoX K mg W Z G H σ env x e
  | .bad => False
def PoT (r : Res Bool) (Q : Bool → Hp → Prop) : Prop := match r with
  | .ok d e => ∀ G' H', Step Z G H σ env G' H' σ e → Hold K Z G' H' σ e → Q d H'
  | .exc x e => PoX K mg W Z G H σ env x e
  | .bad => False
/-- an argument: data, or my slot's object -/
inductive Ar where
  | v (d : D) | s (i : Nat)
def ArOk (K : PySem.W.Frag) (G : Hp) (σ : L2.St) : V → Ar → Prop
  | v, .v d => Rep K G v d
  | v, .s i => σ[i]? = some (some v)
def PoA (r : Res (List Ar)) (Q : List V → Hp → Prop) : Prop := match r with
  | .ok as e => ∀ G' H' vs, Step Z G H σ env G' H' σ e → Hold K Z G' H' σ e → Paired (ArOk K G' σ) vs as → Q vs H'
  | .exc x e => PoX K mg W Z G H σ env x e
  | .bad => False
end
section
variable (K : PySem.W.Frag) (mg : Str → Option Value) (W : WX)
def EvP (t : TE) (m : En → RP D) : Prop := ∀ Z G H σ env Q, Hold K Z G H σ env → PoP K mg W H σ (m env) Q → t σ H Q
def EvTP (t : TT) (m : En → RP Bool) : Prop := ∀ Z G H σ env Q, Hold K Z G H σ env → PoTP K mg W H σ (m env) Q → t σ H Q
def EvAP (t : TA) (m : En → RP (List D)) : Prop := ∀ Z G H σ env Q, Hold K Z G H σ env → PoAP K mg W H σ (m env) Q → t σ H Q
def EvE (t : TE) (m : En → Res D) : Prop := ∀ Z G H σ env Q, Hold K Z G H σ env → PoE K mg W Z G H σ env (m env) Q → t σ H Q
def EvF (t : TE) (m : En → Res MO) : Prop := ∀ Z G H σ env Q, Hold K Z G H σ env → PoF K mg W Z G H σ env (m env) Q → t σ H Q
def EvC (t : TE) (m : En → Res (Bool × List D)) : Prop := ∀ Z G H σ env Q, Hold K Z G H σ env → PoC K mg W Z G H σ env (m env) Q → t σ H Q
def EvT (t : TT) (m : En → Res Bool) : Prop := ∀ Z G H σ env Q, Hold K Z G H σ env → PoT K mg W Z G H σ env (m env) Q → t σ H Q
def EvA (t : TA) (m : En → Res (List Ar)) : Prop := ∀ Z G H σ env Q, Hold K Z G H σ env → PoA K mg W Z G H σ env (m env) Q → t σ H Q
end
/-! ### composing -/
section
variable {K : PySem.W.Frag} {mg : Str → Option Value} {W : WX} {Z : Addr → Prop} {G H G1 H1 : Hp} {σ : L2.St} {env e1 : En}
theorem ExcAt.mono {H' : Hp} {x : Exc} {C a : Addr} (g : Grow H H') (h : ExcAt K mg H x C a) : ExcAt K mg H' x C a := by
  obtain ⟨h1, fs, h2, h3⟩ := h
  exact ⟨h1, fs, g.k a _ h2 (fun _ z => by cases z), h3.mono g.k⟩
theorem PoX.back {x : Exc} {e : En} (st : Step Z G H σ env G1 H1 σ e1) (h : PoX K mg W Z G H σ env x e) : PoX K mg W Z G1 H1 σ e1 x e :=
  fun G' H' C a s hd ex => h G' H' C a (st.trans s) hd ex
theorem PoE.back {r : Res D} {Q : VK} (st : Step Z G H σ env G1 H1 σ e1) (h : PoE K mg W Z G H σ env r Q) : PoE K mg W Z G1 H1 σ e1 r Q := by
  cases r with
  | ok d e => exact fun G' H' v s hd rp => h G' H' v (st.trans s) hd rp
  | exc x e => exact PoX.back st h
  | bad => exact h
theorem PoC.back {r : Res (Bool × List D)} {Q : VK} (st : Step Z G H σ env G1 H1 σ e1) (h : PoC K mg W Z G H σ env r Q) : PoC K mg W Z G1 H1 σ e1 r Q := by
  cases r with
  | ok d e => exact fun G' H' p xs s hd rp r => h G' H' p xs (st.trans s) hd rp r
  | exc x e => exact PoX.back st h
  | bad => exact h
theorem PoF.back {r : Res MO} {Q : VK} (st : Step Z G H σ env G1 H1 σ e1) (h : PoF K mg W Z G H σ env r Q) : PoF K mg W Z G1 H1 σ e1 r Q := by
  cases r with
  | ok d e => exact fun G' H' p o s hd a b c d r => h G' H' p o (st.trans s) hd a (st.d p b) c d r
  | exc x e => exact PoX.back st h
  | bad => exact h
theorem PoT.back {r : Res Bool} {Q : Bool → Hp → Prop} (st : Step Z G H σ env G1 H1 σ e1) (h : PoT K mg W Z G H σ env r Q) : PoT K mg W Z G1 H1 σ e1 r Q := by
  cases r with
  | ok d e => exact fun G' H' s hd => h G' H' (st.trans s) hd
  | exc x e => exact PoX.back st h
  | bad => exact h
theorem PoA.back {r : Res (List Ar)} {Q : List V → Hp → Prop} (st : Step Z G H σ env G1 H1 σ e1) (h : PoA K mg W Z G H σ env r Q) : PoA K mg W Z G1 H1 σ e1 r Q := by
  cases r with
  | ok d e => exact fun G' H' vs s hd rp => h G' H' vs (st.trans s) hd rp
  | exc x e => exact PoX.back st h
  | bad => exact h
/-- a part, then the rest -/
theorem PoP.then {H1 : Hp} {r : RP D} {Q : VK} (g : Grow H H1) (h : PoP K mg W H σ r Q) : PoP K mg W H1 σ r Q := by
  cases r with
  | ok d => exact fun H' v s rp => h H' v (g.trans s) rp
  | exc x => exact fun H' C a s ex => h H' C a (g.trans s) ex
  | bad => exact h
theorem PoTP.then {H1 : Hp} {r : RP Bool} {Q : Bool → Hp → Prop} (g : Grow H H1) (h : PoTP K mg W H σ r Q) : PoTP K mg W H1 σ r Q := by
  cases r with
  | ok d => exact fun H' s => h H' (g.trans s)
  | exc x => exact fun H' C a s ex => h H' C a (g.trans s) ex
  | bad => exact h
theorem PoAP.then {H1 : Hp} {r : RP (List D)} {Q : List V → Hp → Prop} (g : Grow H H1) (h : PoAP K mg W H σ r Q) : PoAP K mg W H1 σ r Q := by
  cases r with
  | ok d => exact fun H' v s rp => h H' v (g.trans s) rp
  | exc x => exact fun H' C a s ex => h H' C a (g.trans s) ex
  | bad => exact h
end
/-! ### pure readings -/
def pVar (i : Nat) (env : En) : RP D := match env[i]? with
  | some (.imm d) => .ok d
  | some (.fre d) => .ok d
  | some (.own m) => .ok m.toD
  | some (.par m) => .ok m.toD
  | _ => .bad
def pC (d : D) (_ : En) : RP D := .ok d
def p1 (f : D → Option D) (a : En → RP D) (e : En) : RP D := (a e).bind fun x => .of (f x)
def p2 (f : D → D → Option D) (a b : En → RP D) (e : En) : RP D := (a e).bind fun x => (b e).bind fun y => .of (f x y)
def pAnd (a b : En → RP D) (e : En) : RP D := (a e).bind fun x => match x with
  | .bl true => b e
  | .bl false => .ok (.bl false)
  | _ => .bad
def pOr (a b : En → RP D) (e : En) : RP D := (a e).bind fun x => match x with
  | .bl true => .ok (.bl true)
  | .bl false => b e
  | _ => .bad
def dNot : D → Option D
  | .bl b => some (.bl (!b))
  | _ => none
def qB (a : En → RP D) (e : En) : RP Bool := (a e).bind fun x => match x with
  | .bl b => .ok b
  | _ => .bad
def qAnd (a b : En → RP Bool) (e : En) : RP Bool := (a e).bind fun x => if x = true then b e else .ok false
def qOr (a b : En → RP Bool) (e : En) : RP Bool := (a e).bind fun x => if x = true then .ok true else b e
def qNot (a : En → RP Bool) (e : En) : RP Bool := (a e).bind fun x => .ok (!x)
def pIf (c : En → RP Bool) (a b : En → RP D) (e : En) : RP D := (c e).bind fun x => if x = true then a e else b e
def pNil (_ : En) : RP (List D) := .ok []
def pCons (a : En → RP D) (b : En → RP (List D)) (e : En) : RP (List D) := (a e).bind fun x => (b e).bind fun xs => .ok (x :: xs)
section
variable {K : PySem.W.Frag} {mg : Str → Option Value} {W : WX}
theorem evp_var {i : Nat} : EvP K mg W (tVar i) (pVar i) := by
  intro Z G H σ env Q hd h
  unfold pVar at h
  cases e : env[i]? with
  | none => rw [e] at h; exact h.elim
  | some s =>
    rw [e] at h
    cases s with
    | none => exact h.elim
    | imm d =>
      obtain ⟨v, h1, h2⟩ := hd.imm_get e
      exact ⟨v, h1, h H v (Grow.refl H) (h2.mono (Kp.of hd.ex))⟩
    | fre d =>
      obtain ⟨v, R, h1, h2, h3, h4⟩ := hd.fr i d e
      exact ⟨v, h1, h H v (Grow.refl H) (h4.mono (Kp.of h2))⟩
    | own m =>
      obtain ⟨p, o, h1, h2, h3, h4⟩ := hd.own_get e rfl
      exact ⟨_, h1, h H _ (Grow.refl H) ((h4.mono (Kp.of hd.ex)).rep h2)⟩
    | par m =>
      obtain ⟨p, o, h1, h2, h3, h4⟩ := hd.own_get e rfl
      exact ⟨_, h1, h H _ (Grow.refl H) ((h4.mono (Kp.of hd.ex)).rep h2)⟩
theorem evp_c {v : V} {d : D} (r : ∀ H, Rep K H v d) : EvP K mg W (tC v) (pC d) := fun Z G H σ env Q hd h => h H v (Grow.refl H) (r H)
theorem EvP.after {t : TE} {m : En → RP D} (h : EvP K mg W t m) {β : Type} {Z : Addr → Prop} {G H : Hp} {σ : L2.St} {env : En} (hd : Hold K Z G H σ env) {f : D → RP β} {Q : VK} {Bad : RP β → Prop}
    (hb : Bad ((m env).bind f)) (h0 : ¬ Bad .bad) (hx : ∀ x, Bad (.exc x) → ∀ H' C a, Grow H H' → ExcAt K mg H' x C a → W (.ref C) (some a) σ H')
    (hk : ∀ d H1 v, Bad (f d) → Grow H H1 → Hold K Z G H1 σ env → Rep K H1 v d → Q v H1) : t σ H Q := by
  refine h Z G H σ env Q hd ?_
  cases e : m env with
  | ok d => rw [e] at hb; exact fun H' v g r => hk d H' v hb g (hd.grow g) r
  | exc x => rw [e] at hb; exact hx x hb
  | bad => rw [e] at hb; exact (h0 hb).elim
/-- a two-place operation on data -/
def Op2 (K : PySem.W.Frag) (r : R2) (f : D → D → Option D) : Prop := ∀ H x y d1 d2 z Q, Rep K H x d1 → Rep K H y d2 → f d1 d2 = some z → (∀ H' v, Grow H H' → Rep K H' v z → Q v H') → r x y H Q
def Op1 (K : PySem.W.Frag) (r : V → Hp → VK → Prop) (f : D → Option D) : Prop := ∀ H x d z Q, Rep K H x d → f d = some z → (∀ H' v, Grow H H' → Rep K H' v z → Q v H') → r x H Q
variable {ta tb : TE} {ma mb : En → RP D}
theorem evp_un {r : V → Hp → VK → Prop} {f : D → Option D} (o : Op1 K r f) (ha : EvP K mg W ta ma) : EvP K mg W (tUn r ta) (p1 f ma) := by
  intro Z G H σ env Q hd h
  refine ha.after hd (Bad := fun r => PoP K mg W H σ r Q) h (fun z => z) (fun x z => z) fun d H1 v hb g hd1 rv => ?_
  cases e : f d with
  | none => rw [e] at hb; exact False.elim hb
  | some z => rw [e] at hb; exact o H1 v d z Q rv e fun H' w g' rw' => hb H' w (g.trans g') rw'
theorem evp_op {r : R2} {f : D → D → Option D} (o : Op2 K r f) (ha : EvP K mg W ta ma) (hb : EvP K mg W tb mb) : EvP K mg W (tOp r ta tb) (p2 f ma mb) := by
  intro Z G H σ env Q hd h
  refine ha.after hd (Bad := fun r => PoP K mg W H σ r Q) h (fun z => z) (fun x z => z) fun d H1 v hb1 g hd1 rv => ?_
  refine hb.after hd1 (Bad := fun r => PoP K mg W H σ r Q) hb1 (fun z => z) (fun x z H' C a g' => z H' C a (g.trans g')) fun d2 H2 v2 hb2 g2 hd2 rv2 => ?_
  cases e : f d d2 with
  | none => rw [e] at hb2; exact False.elim hb2
  | some z => rw [e] at hb2; exact o H2 v v2 d d2 z Q (rv.mono g2.k) rv2 e fun H' w g' rw' => hb2 H' w ((g.trans g2).trans g') rw'
theorem evp_and (ha : EvP K mg W ta ma) (hb : EvP K mg W tb mb) : EvP K mg W (tAndV ta tb) (pAnd ma mb) := by
  intro Z G H σ env Q hd h
  refine ha.after hd (Bad := fun r => PoP K mg W H σ r Q) h (fun z => z) (fun x z => z) fun d H1 v hb1 g hd1 rv => ?_
  cases d with
  | bl b =>
    cases rv
    refine ⟨b, rfl, ?_⟩
    cases b with
    | true => exact hb Z G H1 σ env Q hd1 (PoP.then g hb1)
    | false => exact hb1 H1 _ g (.bl false)
  | _ => exact False.elim hb1
theorem evp_or (ha : EvP K mg W ta ma) (hb : EvP K mg W tb mb) : EvP K mg W (tOrV ta tb) (pOr ma mb) := by
  intro Z G H σ env Q hd h
  refine ha.after hd (Bad := fun r => PoP K mg W H σ r Q) h (fun z => z) (fun x z => z) fun d H1 v hb1 g hd1 rv => ?_
  cases d with
  | bl b =>
    cases rv
    refine ⟨b, rfl, ?_⟩
    cases b with
    | true => exact hb1 H1 _ g (.bl true)
    | false => exact hb Z G H1 σ env Q hd1 (PoP.then g hb1)
  | _ => exact False.elim hb1
theorem evp_not (ha : EvP K mg W ta ma) : EvP K mg W (tNotV ta) (p1 dNot ma) := by
  intro Z G H σ env Q hd h
  refine ha.after hd (Bad := fun r => PoP K mg W H σ r Q) h (fun z => z) (fun x z => z) fun d H1 v hb1 g hd1 rv => ?_
  cases d with
  | bl b => cases rv; exact ⟨b, rfl, hb1 H1 _ g (.bl _)⟩
  | _ => exact False.elim hb1
theorem evtp_B (ha : EvP K mg W ta ma) : EvTP K mg W (tB ta) (qB ma) := by
  intro Z G H σ env Q hd h
  refine ha.after hd (Bad := fun r => PoTP K mg W H σ r Q) h (fun z => z) (fun x z => z) fun d H1 v hb1 g hd1 rv => ?_
  cases d with
  | bl b => cases rv; exact ⟨b, rfl, hb1 H1 g⟩
  | _ => exact False.elim hb1
theorem evtp_test (ha : EvP K mg W ta ma) : EvTP K mg W (tTest ta) (qB ma) := evtp_B ha
variable {ua ub : TT} {na nb : En → RP Bool}
theorem EvTP.after {t : TT} {m : En → RP Bool} (h : EvTP K mg W t m) {β : Type} {Z : Addr → Prop} {G H : Hp} {σ : L2.St} {env : En} (hd : Hold K Z G H σ env) {f : Bool → RP β} {Q : Bool → Hp → Prop} {Bad : RP β → Prop}
    (hb : Bad ((m env).bind f)) (h0 : ¬ Bad .bad) (hx : ∀ x, Bad (.exc x) → ∀ H' C a, Grow H H' → ExcAt K mg H' x C a → W (.ref C) (some a) σ H')
    (hk : ∀ d H1, Bad (f d) → Grow H H1 → Hold K Z G H1 σ env → Q d H1) : t σ H Q := by
  refine h Z G H σ env Q hd ?_
  cases e : m env with
  | ok d => rw [e] at hb; exact fun H' g => hk d H' hb g (hd.grow g)
  | exc x => rw [e] at hb; exact hx x hb
  | bad => rw [e] at hb; exact (h0 hb).elim
theorem evtp_and (ha : EvTP K mg W ua na) (hb : EvTP K mg W ub nb) : EvTP K mg W (tAnd ua ub) (qAnd na nb) := by
  intro Z G H σ env Q hd h
  refine ha.after hd (Bad := fun r => PoTP K mg W H σ r Q) h (fun z => z) (fun x z => z) fun d H1 hb1 g hd1 => ?_
  cases d with
  | true => exact hb Z G H1 σ env Q hd1 (PoTP.then g hb1)
  | false => exact hb1 H1 g
theorem evtp_or (ha : EvTP K mg W ua na) (hb : EvTP K mg W ub nb) : EvTP K mg W (tOr ua ub) (qOr na nb) := by
  intro Z G H σ env Q hd h
  refine ha.after hd (Bad := fun r => PoTP K mg W H σ r Q) h (fun z => z) (fun x z => z) fun d H1 hb1 g hd1 => ?_
  cases d with
  | true => exact hb1 H1 g
  | false => exact hb Z G H1 σ env Q hd1 (PoTP.then g hb1)
theorem evtp_not (ha : EvTP K mg W ua na) : EvTP K mg W (tNot ua) (qNot na) := by
  intro Z G H σ env Q hd h
  exact ha.after hd (Bad := fun r => PoTP K mg W H σ r Q) h (fun z => z) (fun x z => z) fun d H1 hb1 g hd1 => hb1 H1 g
theorem evp_if (hc : EvTP K mg W ua na) (ha : EvP K mg W ta ma) (hb : EvP K mg W tb mb) : EvP K mg W (tIf ua ta tb) (pIf na ma mb) := by
  intro Z G H σ env Q hd h
  refine hc.after hd (Bad := fun r => PoP K mg W H σ r Q) h (fun z => z) (fun x z => z) fun d H1 hb1 g hd1 => ?_
  cases d with
  | true => exact ha Z G H1 σ env Q hd1 (PoP.then g hb1)
  | false => exact hb Z G H1 σ env Q hd1 (PoP.then g hb1)
theorem evap_nil : EvAP K mg W tNil pNil := fun Z G H σ env Q hd h => h H [] (Grow.refl H) .nil
theorem evap_cons {tr : TA} {mr : En → RP (List D)} (ha : EvP K mg W ta ma) (hr : EvAP K mg W tr mr) : EvAP K mg W (tCons ta tr) (pCons ma mr) := by
  intro Z G H σ env Q hd h
  refine ha.after hd (Bad := fun r => PoAP K mg W H σ r Q) h (fun z => z) (fun x z => z) fun d H1 v hb1 g hd1 rv => ?_
  refine hr Z G H1 σ env _ hd1 ?_
  cases e : mr env with
  | ok ds => rw [e] at hb1; exact fun H' vs g' rs => hb1 H' _ (g.trans g') (.cons (rv.mono g'.k) rs)
  | exc x => rw [e] at hb1; exact fun H' C a g' ex => hb1 H' C a (g.trans g') ex
  | bad => rw [e] at hb1; exact False.elim hb1
/-- a built-in's call -/
def OpN (K : PySem.W.Frag) (r : List V → Hp → VK → Prop) (f : List D → Option D) : Prop := ∀ H xs ds z Q, RepL K H xs ds → f ds = some z → (∀ H' v, Grow H H' → Rep K H' v z → Q v H') → r xs H Q
def pN (f : List D → Option D) (a : En → RP (List D)) (e : En) : RP D := (a e).bind fun x => .of (f x)
theorem evp_CB {r : List V → Hp → VK → Prop} {f : List D → Option D} {t : TA} {m : En → RP (List D)} (o : OpN K r f) (ha : EvAP K mg W t m) : EvP K mg W (tCB r t) (pN f m) := by
  intro Z G H σ env Q hd h
  refine ha Z G H σ env _ hd ?_
  unfold pN at h
  cases e : m env with
  | ok ds =>
    rw [e] at h
    intro H' vs g rs
    have h' : PoP K mg W H σ (.of (f ds)) Q := h
    cases e2 : f ds with
    | none => rw [e2] at h'; exact False.elim h'
    | some z => rw [e2] at h'; exact o H' vs ds z Q rs e2 fun H2 v g2 rv => h' H2 v (g.trans g2) rv
  | exc x => rw [e] at h; exact h
  | bad => rw [e] at h; exact h
end
end Cv
end

section
set_option Elab.async false
set_option linter.all false
set_option maxRecDepth 100000
set_option maxHeartbeats 4000000
set_option autoImplicit false
/-! CvC: readings that may change what is mine; containers. -/
namespace Cv
open PySem L2
def flat : D → Bool
  | .non => true
  | .bl _ => true
  | .int _ => true
  | .str _ => true
  | _ => false
theorem Rep.flat {K : PySem.W.Frag} {H G : Hp} {v : V} {d : D} (r : Rep K H v d) (f : flat d = true) : Rep K G v d := by
  cases r with
  | non => exact .non
  | bl b => exact .bl b
  | int i => exact .int i
  | str x => exact .str x
  | lst _ _ => cases f
  | rls _ _ => cases f
  | tup _ _ => cases f
  | obj _ _ => cases f
theorem RepL.flat {K : PySem.W.Frag} {H G : Hp} : ∀ {xs : List V} {ds : List D}, RepL K H xs ds → ds.all flat = true → RepL K G xs ds
  | _, _, .nil, _ => .nil
  | _, _, .cons r t, f => by
    rw [List.all_cons, Bool.and_eq_true] at f
    exact .cons (r.flat f.1) (RepL.flat t f.2)
def okF (d : D) (e : En) : Res D := if flat d = true then .ok d e else .bad
def liftP (m : En → RP D) (e : En) : Res D := match m e with
  | .ok d => okF d e
  | .exc x => .exc x e
  | .bad => .bad
def liftT (m : En → RP Bool) (e : En) : Res Bool := match m e with
  | .ok d => .ok d e
  | .exc x => .exc x e
  | .bad => .bad
section
variable {K : PySem.W.Frag} {mg : Str → Option Value} {W : WX} {Z : Addr → Prop} {G H : Hp} {σ : L2.St} {env : En}
theorem PoX.pure {x : Exc} (h : PoX K mg W Z G H σ env x env) (hd : Hold K Z G H σ env) : ∀ H' C a, Grow H H' → ExcAt K mg H' x C a → W (.ref C) (some a) σ H' :=
  fun H' C a g ex => h G H' C a (Step.grow g) (hd.grow g) ex
theorem eve_p {t : TE} {m : En → RP D} (h : EvP K mg W t m) : EvE K mg W t (liftP m) := by
  intro Z G H σ env Q hd q
  refine h Z G H σ env Q hd ?_
  unfold liftP at q
  cases e : m env with
  | ok d =>
    rw [e] at q
    have q' : PoE K mg W Z G H σ env (okF d env) Q := q
    unfold okF at q'
    cases f : flat d with
    | false => rw [f] at q'; exact False.elim q'
    | true => rw [f] at q'; exact fun H' v g r => q' G H' v (Step.grow g) (hd.grow g) (r.flat f)
  | exc x => rw [e] at q; exact PoX.pure q hd
  | bad => rw [e] at q; exact q
theorem evt_p {t : TT} {m : En → RP Bool} (h : EvTP K mg W t m) : EvT K mg W t (liftT m) := by
  intro Z G H σ env Q hd q
  refine h Z G H σ env Q hd ?_
  unfold liftT at q
  cases e : m env with
  | ok d => rw [e] at q; exact fun H' g => q G H' (Step.grow g) (hd.grow g)
  | exc x => rw [e] at q; exact PoX.pure q hd
  | bad => rw [e] at q; exact q
/-- a name read as data that stays: one of mine becomes data -/
def eVar (i : Nat) (env : En) : Res D := match env[i]? with
  | some (.imm d) => .ok d env
  | some (.own m) => .ok m.toD (env.set i (.imm m.toD))
  | _ => .bad
theorem eve_var {i : Nat} : EvE K mg W (tVar i) (eVar i) := by
  intro Z G H σ env Q hd h
  unfold eVar at h
  cases e : env[i]? with
  | none => rw [e] at h; exact h.elim
  | some s =>
    rw [e] at h
    cases s with
    | none => exact h.elim
    | imm d =>
      obtain ⟨v, h1, h2⟩ := hd.imm_get e
      exact ⟨v, h1, h G H v Step.refl hd h2⟩
    | fre d => exact h.elim
    | own m =>
      obtain ⟨p, o, h1, h2, h3, h4⟩ := hd.freeze e
      exact ⟨_, h1, h _ _ _ h3 h2 h4⟩
    | par m => exact h.elim
/-- one reading behind the other -/
theorem EvE.after {t : TE} {m : En → Res D} (h : EvE K mg W t m) {β : Type} (hd : Hold K Z G H σ env) {f : D → En → Res β} {Q : VK} {Bad : Res β → Prop}
    (hb : Bad ((m env).bind f)) (h0 : ¬ Bad .bad) (hx : ∀ x e, Bad (.exc x e) → PoX K mg W Z G H σ env x e)
    (hk : ∀ d e G1 H1 v, Bad (f d e) → Step Z G H σ env G1 H1 σ e → Hold K Z G1 H1 σ e → Rep K G1 v d → Q v H1) : t σ H Q := by
  refine h Z G H σ env Q hd ?_
  cases e : m env with
  | ok d e' => rw [e] at hb; exact fun G' H' v s hd' r => hk d e' G' H' v hb s hd' r
  | exc x e' => rw [e] at hb; exact hx x e' hb
  | bad => rw [e] at hb; exact (h0 hb).elim
theorem EvT.after {t : TT} {m : En → Res Bool} (h : EvT K mg W t m) {β : Type} (hd : Hold K Z G H σ env) {f : Bool → En → Res β} {Q : Bool → Hp → Prop} {Bad : Res β → Prop}
    (hb : Bad ((m env).bind f)) (h0 : ¬ Bad .bad) (hx : ∀ x e, Bad (.exc x e) → PoX K mg W Z G H σ env x e)
    (hk : ∀ d e G1 H1, Bad (f d e) → Step Z G H σ env G1 H1 σ e → Hold K Z G1 H1 σ e → Q d H1) : t σ H Q := by
  refine h Z G H σ env Q hd ?_
  cases e : m env with
  | ok d e' => rw [e] at hb; exact fun G' H' s hd' => hk d e' G' H' hb s hd'
  | exc x e' => rw [e] at hb; exact hx x e' hb
  | bad => rw [e] at hb; exact (h0 hb).elim
theorem EvC.after {t : TE} {m : En → Res (Bool × List D)} (h : EvC K mg W t m) {β : Type} (hd : Hold K Z G H σ env) {f : Bool × List D → En → Res β} {Q : VK} {Bad : Res β → Prop}
    (hb : Bad ((m env).bind f)) (h0 : ¬ Bad .bad) (hx : ∀ x e, Bad (.exc x e) → PoX K mg W Z G H σ env x e)
    (hk : ∀ b ds e G1 H1 p xs, Bad (f (b, ds) e) → Step Z G H σ env G1 H1 σ e → Hold K Z G1 H1 σ e → SeqAt K H1 p b xs → RepL K G1 xs ds → Q (.ref p) H1) : t σ H Q := by
  refine h Z G H σ env Q hd ?_
  cases e : m env with
  | ok d e' => rw [e] at hb; obtain ⟨b, ds⟩ := d; exact fun G' H' p xs s hd' r1 r2 => hk b ds e' G' H' p xs hb s hd' r1 r2
  | exc x e' => rw [e] at hb; exact hx x e' hb
  | bad => rw [e] at hb; exact (h0 hb).elim
def e1 (f : D → Option D) (a : En → Res D) (e : En) : Res D := (a e).bind fun x e1 => match f x with
  | some z => okF z e1
  | none => .bad
def e2 (f : D → D → Option D) (a b : En → Res D) (e : En) : Res D := (a e).bind fun x e1 => (b e1).bind fun y e2 => match f x y with
  | some z => okF z e2
  | none => .bad
variable {ta tb : TE} {ma mb : En → Res D}
theorem okF_elim {z : D} {e : En} {Q : VK} (h : PoE K mg W Z G H σ env (okF z e) Q) : flat z = true ∧ PoE K mg W Z G H σ env (.ok z e) Q := by
  unfold okF at h
  cases f : flat z with
  | false => rw [f] at h; exact False.elim h
  | true => rw [f] at h; exact ⟨rfl, h⟩
theorem eve_un {r : V → Hp → VK → Prop} {f : D → Option D} (o : Op1 K r f) (ha : EvE K mg W ta ma) : EvE K mg W (tUn r ta) (e1 f ma) := by
  intro Z G H σ env Q hd h
  refine ha.after hd (Bad := fun r => PoE K mg W Z G H σ env r Q) h (fun z => z) (fun x e z => z) fun d e G1 H1 v hb s hd1 rv => ?_
  cases q : f d with
  | none => rw [q] at hb; exact False.elim hb
  | some z =>
    rw [q] at hb
    obtain ⟨fl, hb⟩ := okF_elim hb
    exact o H1 v d z Q (rv.mono (Kp.of hd1.ex)) q fun H' w g r => hb G1 H' w (s.trans (Step.grow g)) (hd1.grow g) (r.flat fl)
theorem eve_op {r : R2} {f : D → D → Option D} (o : Op2 K r f) (ha : EvE K mg W ta ma) (hb : EvE K mg W tb mb) : EvE K mg W (tOp r ta tb) (e2 f ma mb) := by
  intro Z G H σ env Q hd h
  refine ha.after hd (Bad := fun r => PoE K mg W Z G H σ env r Q) h (fun z => z) (fun x e z => z) fun d e G1 H1 v h1 s hd1 rv => ?_
  refine hb.after hd1 (Bad := fun r => PoE K mg W Z G H σ env r Q) h1 (fun z => z) (fun x e z => PoX.back s z) fun d2 e2 G2 H2 v2 h2 s2 hd2 rv2 => ?_
  cases q : f d d2 with
  | none => rw [q] at h2; exact False.elim h2
  | some z =>
    rw [q] at h2
    obtain ⟨fl, h2⟩ := okF_elim h2
    exact o H2 v v2 d d2 z Q ((rv.mono (Kp.of s2.g)).mono (Kp.of hd2.ex)) (rv2.mono (Kp.of hd2.ex)) q fun H' w g r => h2 G2 H' w ((s.trans s2).trans (Step.grow g)) (hd2.grow g) (r.flat fl)
def eAnd (a b : En → Res D) (e : En) : Res D := (a e).bind fun x e1 => match x with
  | .bl true => b e1
  | .bl false => .ok (.bl false) e1
  | _ => .bad
def eOr (a b : En → Res D) (e : En) : Res D := (a e).bind fun x e1 => match x with
  | .bl true => .ok (.bl true) e1
  | .bl false => b e1
  | _ => .bad
theorem eve_and (ha : EvE K mg W ta ma) (hb : EvE K mg W tb mb) : EvE K mg W (tAndV ta tb) (eAnd ma mb) := by
  intro Z G H σ env Q hd h
  refine ha.after hd (Bad := fun r => PoE K mg W Z G H σ env r Q) h (fun z => z) (fun x e z => z) fun d e G1 H1 v h1 s hd1 rv => ?_
  cases d with
  | bl b =>
    cases rv
    refine ⟨b, rfl, ?_⟩
    cases b with
    | true => exact hb Z G1 H1 σ e Q hd1 (PoE.back s h1)
    | false => exact h1 G1 H1 _ s hd1 (.bl false)
  | _ => exact False.elim h1
theorem eve_or (ha : EvE K mg W ta ma) (hb : EvE K mg W tb mb) : EvE K mg W (tOrV ta tb) (eOr ma mb) := by
  intro Z G H σ env Q hd h
  refine ha.after hd (Bad := fun r => PoE K mg W Z G H σ env r Q) h (fun z => z) (fun x e z => z) fun d e G1 H1 v h1 s hd1 rv => ?_
  cases d with
  | bl b =>
    cases rv
    refine ⟨b, rfl, ?_⟩
    cases b with
    | true => exact h1 G1 H1 _ s hd1 (.bl true)
    | false => exact hb Z G1 H1 σ e Q hd1 (PoE.back s h1)
  | _ => exact False.elim h1
theorem eve_not (ha : EvE K mg W ta ma) : EvE K mg W (tNotV ta) (e1 dNot ma) := by
  intro Z G H σ env Q hd h
  refine ha.after hd (Bad := fun r => PoE K mg W Z G H σ env r Q) h (fun z => z) (fun x e z => z) fun d e G1 H1 v h1 s hd1 rv => ?_
  cases d with
  | bl b => cases rv; exact ⟨b, rfl, h1 G1 H1 _ s hd1 (.bl _)⟩
  | _ => exact False.elim h1
def tBm (a : En → Res D) (e : En) : Res Bool := (a e).bind fun x e1 => match x with
  | .bl b => .ok b e1
  | _ => .bad
theorem evt_B (ha : EvE K mg W ta ma) : EvT K mg W (tB ta) (tBm ma) := by
  intro Z G H σ env Q hd h
  refine ha.after hd (Bad := fun r => PoT K mg W Z G H σ env r Q) h (fun z => z) (fun x e z => z) fun d e G1 H1 v h1 s hd1 rv => ?_
  cases d with
  | bl b => cases rv; exact ⟨b, rfl, h1 G1 H1 s hd1⟩
  | _ => exact False.elim h1
def tAndm (a b : En → Res Bool) (e : En) : Res Bool := (a e).bind fun x e1 => if x = true then b e1 else .ok false e1
def tOrm (a b : En → Res Bool) (e : En) : Res Bool := (a e).bind fun x e1 => if x = true then .ok true e1 else b e1
def tNotm (a : En → Res Bool) (e : En) : Res Bool := (a e).bind fun x e1 => .ok (!x) e1
def eIf (c : En → Res Bool) (a b : En → Res D) (e : En) : Res D := (c e).bind fun x e1 => if x = true then a e1 else b e1
variable {ua ub : TT} {na nb : En → Res Bool}
theorem evt_and (ha : EvT K mg W ua na) (hb : EvT K mg W ub nb) : EvT K mg W (tAnd ua ub) (tAndm na nb) := by
  intro Z G H σ env Q hd h
  refine ha.after hd (Bad := fun r => PoT K mg W Z G H σ env r Q) h (fun z => z) (fun x e z => z) fun d e G1 H1 h1 s hd1 => ?_
  cases d with
  | true => exact hb Z G1 H1 σ e Q hd1 (PoT.back s h1)
  | false => exact h1 G1 H1 s hd1
theorem evt_or (ha : EvT K mg W ua na) (hb : EvT K mg W ub nb) : EvT K mg W (tOr ua ub) (tOrm na nb) := by
  intro Z G H σ env Q hd h
  refine ha.after hd (Bad := fun r => PoT K mg W Z G H σ env r Q) h (fun z => z) (fun x e z => z) fun d e G1 H1 h1 s hd1 => ?_
  cases d with
  | true => exact h1 G1 H1 s hd1
  | false => exact hb Z G1 H1 σ e Q hd1 (PoT.back s h1)
theorem evt_not (ha : EvT K mg W ua na) : EvT K mg W (tNot ua) (tNotm na) := by
  intro Z G H σ env Q hd h
  exact ha.after hd (Bad := fun r => PoT K mg W Z G H σ env r Q) h (fun z => z) (fun x e z => z) fun d e G1 H1 h1 s hd1 => h1 G1 H1 s hd1
theorem eve_if (hc : EvT K mg W ua na) (ha : EvE K mg W ta ma) (hb : EvE K mg W tb mb) : EvE K mg W (tIf ua ta tb) (eIf na ma mb) := by
  intro Z G H σ env Q hd h
  refine hc.after hd (Bad := fun r => PoE K mg W Z G H σ env r Q) h (fun z => z) (fun x e z => z) fun d e G1 H1 h1 s hd1 => ?_
  cases d with
  | true => exact ha Z G1 H1 σ e Q hd1 (PoE.back s h1)
  | false => exact hb Z G1 H1 σ e Q hd1 (PoE.back s h1)
end
/-! ### items and arguments -/
section
variable (K : PySem.W.Frag) (mg : Str → Option Value) (W : WX)
def PoV (Z : Addr → Prop) (G H : Hp) (σ : L2.St) (env : En) (r : Res (List D)) (Q : List V → Hp → Prop) : Prop := match r with
  | .ok ds e => ∀ G' H' vs, Step Z G H σ env G' H' σ e → Hold K Z G' H' σ e → RepL K G' vs ds → Q vs H'
  | .exc x e => PoX K mg W Z G H σ env x e
  | .bad => False
/-- several values that stay -/
def EvV (t : TA) (m : En → Res (List D)) : Prop := ∀ Z G H σ env Q, Hold K Z G H σ env → PoV K mg W Z G H σ env (m env) Q → t σ H Q
end
def vNil (e : En) : Res (List D) := .ok [] e
def vCons (a : En → Res D) (b : En → Res (List D)) (e : En) : Res (List D) := (a e).bind fun x e1 => (b e1).bind fun xs e2 => .ok (x :: xs) e2
def aNil (e : En) : Res (List Ar) := .ok [] e
def aV (a : En → Res D) (b : En → Res (List Ar)) (e : En) : Res (List Ar) := (a e).bind fun x e1 => (b e1).bind fun xs e2 => .ok (.v x :: xs) e2
/-- slot i's own object is handed on -/
def aS (i : Nat) (b : En → Res (List Ar)) (e : En) : Res (List Ar) := match e[i]? with
  | some (.own _) => (b e).bind fun xs e2 => .ok (.s i :: xs) e2
  | some (.par _) => (b e).bind fun xs e2 => .ok (.s i :: xs) e2
  | _ => .bad
section
variable {K : PySem.W.Frag} {mg : Str → Option Value} {W : WX} {Z : Addr → Prop} {G H : Hp} {σ : L2.St} {env : En}
theorem evv_nil : EvV K mg W tNil vNil := fun Z G H σ env Q hd h => h G H [] Step.refl hd .nil
theorem evv_cons {ta : TE} {ma : En → Res D} {t : TA} {m : En → Res (List D)} (ha : EvE K mg W ta ma) (hr : EvV K mg W t m) : EvV K mg W (tCons ta t) (vCons ma m) := by
  intro Z G H σ env Q hd h
  refine ha.after hd (Bad := fun r => PoV K mg W Z G H σ env r Q) h (fun z => z) (fun x e z => z) fun d e G1 H1 v h1 s hd1 rv => ?_
  refine hr Z G1 H1 σ e _ hd1 ?_
  cases q : m e with
  | ok ds e2 => rw [q] at h1; exact fun G' H' vs s' hd' rs => h1 G' H' _ (s.trans s') hd' (.cons (rv.mono (Kp.of s'.g)) rs)
  | exc x e2 => rw [q] at h1; exact PoX.back s h1
  | bad => rw [q] at h1; exact False.elim h1
theorem eva_nil : EvA K mg W tNil aNil := fun Z G H σ env Q hd h => h G H [] Step.refl hd .nil
theorem ArOk.mono {G' : Hp} (e : Kp G G') {v : V} {a : Ar} (h : ArOk K G σ v a) : ArOk K G' σ v a := by
  cases a with
  | v d => exact Rep.mono e (show Rep K G v d from h)
  | s i => exact h
theorem eva_v {ta : TE} {ma : En → Res D} {t : TA} {m : En → Res (List Ar)} (ha : EvE K mg W ta ma) (hr : EvA K mg W t m) : EvA K mg W (tCons ta t) (aV ma m) := by
  intro Z G H σ env Q hd h
  refine ha.after hd (Bad := fun r => PoA K mg W Z G H σ env r Q) h (fun z => z) (fun x e z => z) fun d e G1 H1 v h1 s hd1 rv => ?_
  refine hr Z G1 H1 σ e _ hd1 ?_
  cases q : m e with
  | ok ds e2 => rw [q] at h1; exact fun G' H' vs s' hd' rs => h1 G' H' _ (s.trans s') hd' (.cons (show Rep K G' v d from rv.mono (Kp.of s'.g)) rs)
  | exc x e2 => rw [q] at h1; exact PoX.back s h1
  | bad => rw [q] at h1; exact False.elim h1
theorem eva_s {i : Nat} {t : TA} {m : En → Res (List Ar)} (hr : EvA K mg W t m) : EvA K mg W (tCons (tVar i) t) (aS i m) := by
  intro Z G H σ env Q hd h
  have key : ∀ s mo, env[i]? = some s → s.mo = some mo → PoA K mg W Z G H σ env ((m env).bind fun xs e2 => .ok (.s i :: xs) e2) Q → tCons (tVar i) t σ H Q := fun s mo e hm h => by
    obtain ⟨p, o, h1, h2, h3, h4⟩ := hd.own_get e hm
    refine ⟨_, h1, ?_⟩
    refine hr Z G H σ env _ hd ?_
    cases q : m env with
    | ok ds e2 => rw [q] at h; exact fun G' H' vs s' hd' rs => h G' H' _ s' hd' (.cons (show σ[i]? = some (some (.ref p)) from h1) rs)
    | exc x e2 => rw [q] at h; exact h
    | bad => rw [q] at h; exact False.elim h
  unfold aS at h
  cases e : env[i]? with
  | none => rw [e] at h; exact False.elim h
  | some s =>
    rw [e] at h
    cases s with
    | own mo => exact key _ mo e rfl h
    | par mo => exact key _ mo e rfl h
    | none => exact False.elim h
    | imm d => exact False.elim h
    | fre d => exact False.elim h
/-- a new tuple -/
def eTup (a : En → Res (List D)) (e : En) : Res D := (a e).bind fun ds e1 => if ds.length ≤ sizeLine then .ok (.tup ds) e1 else .bad
def fLst (a : En → Res (List D)) (e : En) : Res MO := (a e).bind fun ds e1 => if ds.length ≤ sizeLine then .ok (.lst ds) e1 else .bad
theorem EvV.after {t : TA} {m : En → Res (List D)} (h : EvV K mg W t m) {β : Type} (hd : Hold K Z G H σ env) {f : List D → En → Res β} {Q : List V → Hp → Prop} {Bad : Res β → Prop}
    (hb : Bad ((m env).bind f)) (h0 : ¬ Bad .bad) (hx : ∀ x e, Bad (.exc x e) → PoX K mg W Z G H σ env x e)
    (hk : ∀ ds e G1 H1 vs, Bad (f ds e) → Step Z G H σ env G1 H1 σ e → Hold K Z G1 H1 σ e → RepL K G1 vs ds → Q vs H1) : t σ H Q := by
  refine h Z G H σ env Q hd ?_
  cases e : m env with
  | ok d e' => rw [e] at hb; exact fun G' H' v s hd' r => hk d e' G' H' v hb s hd' r
  | exc x e' => rw [e] at hb; exact hx x e' hb
  | bad => rw [e] at hb; exact (h0 hb).elim
theorem eve_tup {t : TA} {m : En → Res (List D)} (ha : EvV K mg W t m) : EvE K mg W (tTup t) (eTup m) := by
  intro Z G H σ env Q hd h
  refine ha.after hd (Bad := fun r => PoE K mg W Z G H σ env r Q) h (fun z => z) (fun x e z => z) fun ds e G1 H1 vs h1 s hd1 rv => ?_
  by_cases l : ds.length ≤ sizeLine
  · rw [if_pos l] at h1
    refine ⟨by rw [rv.length]; exact l, fun p hp => ?_⟩
    have gp := hd1.gp hp
    refine h1 _ _ _ (s.trans (Step.lay hp gp)) (hd1.lay hp nt_tup) (.tup upd_same (rv.mono (Kp.of fun a u e => by rw [upd_ne (ne_of_none e gp)]; exact e)))
  · rw [if_neg l] at h1; exact False.elim h1
/-- Hold with a further address kept out of all that stands apart -/
theorem Hold.growZ {H' : Hp} (h : Hold K Z G H σ env) (g : Grow H H') {p : Addr} (hp : H p = none) (hp' : ∃ o, H' p = some o) : Hold K (fun a => Z a ∨ a = p) G H' σ env := by
  have q := h.grow g
  refine ⟨q.ex, q.nt, q.len, q.sl, q.dis, fun i d e => ?_, fun a z => by
    rcases z with z | z
    · exact g.there (h.zt a z)
    · rw [z]; exact hp'⟩
  obtain ⟨v, R, h1, h2, h3, h4⟩ := h.fr i d e
  refine ⟨v, R, h1, fun a o z => g.k a o (h2 a o z) (h3 a o z).2.2.2, fun a o z => ⟨(h3 a o z).1, (h3 a o z).2.1, fun w => ?_, (h3 a o z).2.2.2⟩, h4⟩
  rcases w with w | w
  · exact (h3 a o z).2.2.1 w
  · rw [w] at z; rw [h2 p o z] at hp; cases hp
theorem not_own_new (h : Hold K Z G H σ env) {p : Addr} (hp : H p = none) : ¬ Own σ env p := fun o => by
  obtain ⟨_, x, e, _⟩ := h.not_in o
  rw [e] at hp; cases hp
/-- a new list of items that stay -/
theorem new_own {Q : VK} {m : MO} {e : En} {G1 H1 : Hp} {o : HO} (hd : Hold K Z G H σ env) (s : Step Z G H σ env G1 H1 σ e) (hd1 : Hold K Z G1 H1 σ e) (r : RepM K G1 o m) (h : PoF K mg W Z G H σ env (.ok m e) Q) : ∀ p, H1 p = none → Q (.ref p) (upd H1 p o) := fun p hp =>
  h G1 (upd H1 p o) p o (s.trans (Step.grow (Grow.new hp))) (hd1.growZ (Grow.new hp) hp ⟨_, upd_same⟩) upd_same (s.d p hp) (hd1.gp hp) (not_own_new hd1 hp) r
theorem evf_lst {t : TA} {m : En → Res (List D)} (ha : EvV K mg W t m) : EvF K mg W (tLst t) (fLst m) := by
  intro Z G H σ env Q hd h
  refine ha.after hd (Bad := fun r => PoF K mg W Z G H σ env r Q) h (fun z => z) (fun x e z => z) fun ds e G1 H1 vs h1 s hd1 rv => ?_
  by_cases l : ds.length ≤ sizeLine
  · rw [if_pos l] at h1
    exact ⟨by rw [rv.length]; exact l, new_own hd s hd1 (.lst rv) h1⟩
  · rw [if_neg l] at h1; exact False.elim h1
/-! ### from one kind to another -/
def eOfF (a : En → Res MO) (e : En) : Res D := (a e).bind fun m e1 => .ok m.toD e1
theorem EvF.after {t : TE} {m : En → Res MO} (h : EvF K mg W t m) {β : Type} (hd : Hold K Z G H σ env) {f : MO → En → Res β} {Q : VK} {Bad : Res β → Prop}
    (hb : Bad ((m env).bind f)) (h0 : ¬ Bad .bad) (hx : ∀ x e, Bad (.exc x e) → PoX K mg W Z G H σ env x e)
    (hk : ∀ mo e G1 H1 p o, Bad (f mo e) → Step Z G H σ env G1 H1 σ e → Hold K (fun a => Z a ∨ a = p) G1 H1 σ e → H1 p = some o → H p = none → G1 p = none → ¬ Own σ e p → RepM K G1 o mo → Q (.ref p) H1) : t σ H Q := by
  refine h Z G H σ env Q hd ?_
  cases e : m env with
  | ok d e' => rw [e] at hb; exact fun G' H' p o s hd' a b c d r => hk _ e' G' H' p o hb s hd' a b c d r
  | exc x e' => rw [e] at hb; exact hx x e' hb
  | bad => rw [e] at hb; exact (h0 hb).elim
/-- an object of nobody's joins the data -/
theorem Hold.join {p : Addr} {o : HO} (h : Hold K (fun a => Z a ∨ a = p) G H σ env) (hp : H p = some o) (gp : G p = none) (no : ¬ Own σ env p) (nt : notTbl o) : Hold K Z (upd G p o) H σ env ∧ ∀ Z' G0 H0 σ0 e0, H0 p = none → Step Z' G0 H0 σ0 e0 G H σ env → Step Z' G0 H0 σ0 e0 (upd G p o) H σ env := by
  have sg : Same G (upd G p o) := fun a u e => by rw [upd_ne (ne_of_none e gp)]; exact e
  refine ⟨⟨fun a u e => ?_, fun a u e => ?_, h.len, fun i s e => ?_, h.dis, fun i d e => ?_, fun a z => h.zt a (.inl z)⟩, fun Z' G0 H0 σ0 e0 h0 st => ⟨st.g.trans sg, st.h, fun a u hx hg no' zx => ?_, st.d, st.par, st.ow⟩⟩
  · by_cases z : a = p
    · subst z; rw [upd_same] at e; rw [← e]; exact hp
    · rw [upd_ne z] at e; exact h.ex a u e
  · by_cases z : a = p
    · subst z; rw [upd_same] at e; cases e; exact nt
    · rw [upd_ne z] at e; exact h.nt a u e
  · exact SlOk.upG gp hp (h.sl i s e) fun m hm q => no ⟨i, .of (slot_join q) e hm⟩
  · obtain ⟨v, R, q1, q2, q3, q4⟩ := h.fr i d e
    refine ⟨v, R, q1, q2, fun a u w => ⟨?_, (q3 a u w).2.1, fun z => (q3 a u w).2.2.1 (.inl z), (q3 a u w).2.2.2⟩, q4⟩
    rw [upd_ne fun z => (q3 a u w).2.2.1 (.inr z)]
    exact (q3 a u w).1
  · have ne : a ≠ p := ne_of_none hx h0
    rw [upd_ne ne]; exact st.n a u hx hg no' zx
theorem eve_f {t : TE} {m : En → Res MO} (ha : EvF K mg W t m) : EvE K mg W t (eOfF m) := by
  intro Z G H σ env Q hd h
  refine ha.after hd (Bad := fun r => PoE K mg W Z G H σ env r Q) h (fun z => z) (fun x e z => z) fun mo e G1 H1 p o h1 s hd1 hp h0 gp no r => ?_
  obtain ⟨j1, j2⟩ := hd1.join hp gp no r.nt
  exact h1 _ _ _ (j2 Z G H σ env h0 s) j1 ((r.mono (Kp.of fun a u e => by rw [upd_ne (ne_of_none e gp)]; exact e)).rep upd_same)
def cOfF (a : En → Res MO) (e : En) : Res (Bool × List D) := (a e).bind fun m e1 => match m with
  | .lst ds => .ok (true, ds) e1
  | _ => .bad
def cOfE (a : En → Res D) (e : En) : Res (Bool × List D) := (a e).bind fun m e1 => match m with
  | .lst ds => .ok (true, ds) e1
  | .rls ds => .ok (true, ds) e1
  | .tup ds => .ok (false, ds) e1
  | _ => .bad
theorem evc_f {t : TE} {m : En → Res MO} (ha : EvF K mg W t m) : EvC K mg W t (cOfF m) := by
  intro Z G H σ env Q hd h
  refine ha.after hd (Bad := fun r => PoC K mg W Z G H σ env r Q) h (fun z => z) (fun x e z => z) fun mo e G1 H1 p o h1 s hd1 hp h0 gp no r => ?_
  cases mo with
  | lst ds => cases r with | lst r => exact h1 G1 H1 p _ s (hd1.weak fun a z => .inl z) (SqL.of hp) r
  | ins c fs => exact False.elim h1
theorem seq_of {G1 H1 : Hp} {v : V} {d : D} (ex : Same G1 H1) (r : Rep K G1 v d) : (∀ ds, d = .lst ds → ∃ p xs, v = .ref p ∧ SeqAt K H1 p true xs ∧ RepL K G1 xs ds) ∧
    (∀ ds, d = .rls ds → ∃ p xs, v = .ref p ∧ SeqAt K H1 p true xs ∧ RepL K G1 xs ds) ∧ (∀ ds, d = .tup ds → ∃ p xs, v = .ref p ∧ SeqAt K H1 p false xs ∧ RepL K G1 xs ds) := by
  refine ⟨fun ds e => ?_, fun ds e => ?_, fun ds e => ?_⟩
  · subst e; cases r with | lst h r => exact ⟨_, _, rfl, SqL.of (ex _ _ h), r⟩
  · subst e; cases r with | rls h r => exact ⟨_, _, rfl, SqL.kp (Kp.of ex) h, r⟩
  · subst e; cases r with | tup h r => exact ⟨_, _, rfl, SqT.of (ex _ _ h), r⟩
theorem evc_e {t : TE} {m : En → Res D} (ha : EvE K mg W t m) : EvC K mg W t (cOfE m) := by
  intro Z G H σ env Q hd h
  refine ha.after hd (Bad := fun r => PoC K mg W Z G H σ env r Q) h (fun z => z) (fun x e z => z) fun d e G1 H1 v h1 s hd1 rv => ?_
  obtain ⟨q1, q2, q3⟩ := seq_of hd1.ex rv
  cases d with
  | lst ds => obtain ⟨p, xs, rfl, a, b⟩ := q1 ds rfl; exact h1 G1 H1 p xs s hd1 a b
  | rls ds => obtain ⟨p, xs, rfl, a, b⟩ := q2 ds rfl; exact h1 G1 H1 p xs s hd1 a b
  | tup ds => obtain ⟨p, xs, rfl, a, b⟩ := q3 ds rfl; exact h1 G1 H1 p xs s hd1 a b
  | _ => exact False.elim h1
/-- a name's list or tuple, lent -/
def cVar (i : Nat) (env : En) : Res (Bool × List D) := match env[i]? with
  | some (.imm (.lst ds)) => .ok (true, ds) env
  | some (.imm (.rls ds)) => .ok (true, ds) env
  | some (.imm (.tup ds)) => .ok (false, ds) env
  | some (.own (.lst ds)) => .ok (true, ds) env
  | some (.par (.lst ds)) => .ok (true, ds) env
  | _ => .bad
theorem evc_var {i : Nat} : EvC K mg W (tVar i) (cVar i) := by
  intro Z G H σ env Q hd h
  have key : ∀ s ds, env[i]? = some s → s.mo = some (.lst ds) → PoC K mg W Z G H σ env (.ok (true, ds) env) Q → tVar i σ H Q := fun s ds e hm h => by
    obtain ⟨p, o, h1, h2, h3, h4⟩ := hd.own_get e hm
    cases h4 with
    | lst r => exact ⟨_, h1, h G H p _ Step.refl hd (SqL.of h2) r⟩
  have key2 : ∀ d, env[i]? = some (.imm d) → (∀ v, Rep K G v d → Q v H) → tVar i σ H Q := fun d e k => by
    obtain ⟨v, h1, h2⟩ := hd.imm_get e
    exact ⟨v, h1, k v h2⟩
  unfold cVar at h
  cases e : env[i]? with
  | none => rw [e] at h; exact False.elim h
  | some s =>
    rw [e] at h
    cases s with
    | none => exact False.elim h
    | fre d => exact False.elim h
    | own m =>
      cases m with
      | lst ds => exact key _ ds e rfl h
      | ins c fs => exact False.elim h
    | par m =>
      cases m with
      | lst ds => exact key _ ds e rfl h
      | ins c fs => exact False.elim h
    | imm d =>
      refine key2 d e fun v rv => ?_
      obtain ⟨q1, q2, q3⟩ := seq_of hd.ex rv
      cases d with
      | lst ds => obtain ⟨p, xs, rfl, a, b⟩ := q1 ds rfl; exact h G H p xs Step.refl hd a b
      | rls ds => obtain ⟨p, xs, rfl, a, b⟩ := q2 ds rfl; exact h G H p xs Step.refl hd a b
      | tup ds => obtain ⟨p, xs, rfl, a, b⟩ := q3 ds rfl; exact h G H p xs Step.refl hd a b
      | _ => exact False.elim h
end
end Cv
end

section
set_option Elab.async false
set_option linter.all false
set_option maxRecDepth 100000
set_option maxHeartbeats 4000000
set_option autoImplicit false
/-! CvD: what operators and built-ins compute on data. -/
namespace Cv
open PySem L2
/-! ### whole numbers -/
def dSub : D → D → Option D
  | .int i, .int j => some (.int (i - j))
  | _, _ => none
def dAdd : D → D → Option D
  | .int i, .int j => some (.int (i + j))
  | .str a, .str b => if a.length + b.length ≤ sizeLine then some (.str (a ++ b)) else none
  | _, _ => none
instance (i j : Int) : Decidable (CMul i j) := by unfold CMul; infer_instance
instance (i j : Int) : Decidable (CMulW i j) := by unfold CMulW; infer_instance
instance (i j : Int) : Decidable (CDivW i j) := by unfold CDivW; infer_instance
instance (i j : Int) : Decidable (CPow i j) := by unfold CPow; infer_instance
def dMul : D → D → Option D
  | .int i, .int j => if CMul i j ∨ CMulW i j then some (.int (i * j)) else none
  | _, _ => none
def dFdiv : D → D → Option D
  | .int i, .int j => if CDivW i j then some (.int (i / j)) else none
  | _, _ => none
def dMod : D → D → Option D
  | .int i, .int j => if 0 < j then some (.int (i % j)) else none
  | _, _ => none
def dPow : D → D → Option D
  | .int i, .int j => if CPow i j then some (.int (i ^ j.toNat)) else none
  | _, _ => none
def dNeg : D → Option D
  | .int i => some (.int (-i))
  | _ => none
def dLt : D → D → Option D
  | .int i, .int j => some (.bl (decide (i < j)))
  | _, _ => none
def dLe : D → D → Option D
  | .int i, .int j => some (.bl (decide (i ≤ j)))
  | _, _ => none
def dGt : D → D → Option D
  | .int i, .int j => some (.bl (decide (j < i)))
  | _, _ => none
def dGe : D → D → Option D
  | .int i, .int j => some (.bl (decide (j ≤ i)))
  | _, _ => none
section
variable {K : PySem.W.Frag}
theorem rep_int {H : Hp} {v : V} {i : Int} (r : Rep K H v (.int i)) : v = .int i := by cases r; rfl
theorem op2_I0 {g : Int → Int → V} {h : Int → Int → D} {f : D → D → Option D} (hr : ∀ H i j, Rep K H (g i j) (h i j)) (hf : ∀ x y z, f x y = some z → ∃ i j, x = .int i ∧ y = .int j ∧ z = h i j) : Op2 K (rI0 g) f := by
  intro H x y d1 d2 z Q r1 r2 e q
  obtain ⟨i, j, rfl, rfl, rfl⟩ := hf _ _ _ e
  exact ⟨i, j, rep_int r1, rep_int r2, q H _ (Grow.refl H) (hr H i j)⟩
theorem op2_I {C : Int → Int → Prop} {g : Int → Int → V} {h : Int → Int → D} {f : D → D → Option D} (hr : ∀ H i j, Rep K H (g i j) (h i j)) (hf : ∀ x y z, f x y = some z → ∃ i j, x = .int i ∧ y = .int j ∧ z = h i j ∧ C i j) : Op2 K (rI C g) f := by
  intro H x y d1 d2 z Q r1 r2 e q
  obtain ⟨i, j, rfl, rfl, rfl, c⟩ := hf _ _ _ e
  exact ⟨i, j, rep_int r1, rep_int r2, c, q H _ (Grow.refl H) (hr H i j)⟩
theorem o_sub : Op2 K (rI0 fun i j => .int (i - j)) dSub := op2_I0 (h := fun i j => .int (i - j)) (fun _ _ _ => .int _) fun x y z e => by
  unfold dSub at e; split at e <;> first | (cases e; exact ⟨_, _, rfl, rfl, rfl⟩) | cases e
theorem o_lt : Op2 K (rI0 fun i j => .bl (decide (i < j))) dLt := op2_I0 (h := fun i j => .bl (decide (i < j))) (fun _ _ _ => .bl _) fun x y z e => by
  unfold dLt at e; split at e <;> first | (cases e; exact ⟨_, _, rfl, rfl, rfl⟩) | cases e
theorem o_le : Op2 K (rI0 fun i j => .bl (decide (i ≤ j))) dLe := op2_I0 (h := fun i j => .bl (decide (i ≤ j))) (fun _ _ _ => .bl _) fun x y z e => by
  unfold dLe at e; split at e <;> first | (cases e; exact ⟨_, _, rfl, rfl, rfl⟩) | cases e
theorem o_gt : Op2 K (rI0 fun i j => .bl (decide (j < i))) dGt := op2_I0 (h := fun i j => .bl (decide (j < i))) (fun _ _ _ => .bl _) fun x y z e => by
  unfold dGt at e; split at e <;> first | (cases e; exact ⟨_, _, rfl, rfl, rfl⟩) | cases e
theorem o_ge : Op2 K (rI0 fun i j => .bl (decide (j ≤ i))) dGe := op2_I0 (h := fun i j => .bl (decide (j ≤ i))) (fun _ _ _ => .bl _) fun x y z e => by
  unfold dGe at e; split at e <;> first | (cases e; exact ⟨_, _, rfl, rfl, rfl⟩) | cases e
theorem o_fdiv : Op2 K (rI CDivW fun i j => .int (i / j)) dFdiv := op2_I (h := fun i j => .int (i / j)) (fun _ _ _ => .int _) fun x y z e => by
  unfold dFdiv at e; split at e
  · split at e
    · cases e; exact ⟨_, _, rfl, rfl, rfl, by assumption⟩
    · cases e
  · cases e
theorem o_mod : Op2 K (rI (fun _ j => 0 < j) fun i j => .int (i % j)) dMod := op2_I (h := fun i j => .int (i % j)) (fun _ _ _ => .int _) fun x y z e => by
  unfold dMod at e; split at e
  · split at e
    · cases e; exact ⟨_, _, rfl, rfl, rfl, by assumption⟩
    · cases e
  · cases e
theorem o_pow : Op2 K (rI CPow fun i j => .int (i ^ j.toNat)) dPow := op2_I (h := fun i j => .int (i ^ j.toNat)) (fun _ _ _ => .int _) fun x y z e => by
  unfold dPow at e; split at e
  · split at e
    · cases e; exact ⟨_, _, rfl, rfl, rfl, by assumption⟩
    · cases e
  · cases e
/-- a product: one factor small, or both of a bounded size -/
def rMulU : R2 := fun x y H Q => rI CMul (fun i j => .int (i * j)) x y H Q ∨ rI CMulW (fun i j => .int (i * j)) x y H Q
theorem op_mulU {X : Cx} : OpR X (binaryOp .Mult) rMulU := OpR.or op_mul op_mulW
theorem o_mul : Op2 K rMulU dMul := by
  intro H x y d1 d2 z Q r1 r2 e q
  unfold dMul at e; split at e
  · split at e
    · rename_i h
      cases e
      rcases h with h | h
      · exact .inl ⟨_, _, rep_int r1, rep_int r2, h, q H _ (Grow.refl H) (.int _)⟩
      · exact .inr ⟨_, _, rep_int r1, rep_int r2, h, q H _ (Grow.refl H) (.int _)⟩
    · cases e
  · cases e
def rStrCat : R2 := fun x y H Q => ∃ i j, x = .str i ∧ y = .str j ∧ i.length + j.length ≤ sizeLine ∧ Q (.str (i ++ j)) H
def rAddU : R2 := fun x y H Q => rI0 (fun i j => .int (i + j)) x y H Q ∨ rStrCat x y H Q
theorem op_addU {X : Cx} : OpR X (binaryOp .Add) rAddU := OpR.or op_add op_add_str
theorem o_add : Op2 K rAddU dAdd := by
  intro H x y d1 d2 z Q r1 r2 e q
  unfold dAdd at e; split at e
  · cases e
    exact .inl ⟨_, _, rep_int r1, rep_int r2, q H _ (Grow.refl H) (.int _)⟩
  · split at e
    · cases e; cases r1; cases r2
      exact .inr ⟨_, _, rfl, rfl, by assumption, q H _ (Grow.refl H) (.str _)⟩
    · cases e
  · cases e
theorem o_neg : Op1 K (rU fun i => .int (-i)) dNeg := by
  intro H x d z Q r e q
  unfold dNeg at e; split at e
  · cases e; exact ⟨_, rep_int r, q H _ (Grow.refl H) (.int _)⟩
  · cases e
/-! ### equality -/
mutual
def toPy : D → Option PyData
  | .non => some .none
  | .bl b => some (.bool b)
  | .int i => some (.int i)
  | .str s => some (.str s)
  | .lst xs => (toPyL xs).map .list
  | .tup xs => (toPyL xs).map .tuple
  | .rls _ => none
  | .obj _ _ => none
def toPyL : List D → Option (List PyData)
  | [] => some []
  | x :: xs => (toPy x).bind fun p => (toPyL xs).map (p :: ·)
end
mutual
theorem dp_of {H : Hp} : ∀ {d : D} {v : V} {p : PyData}, Rep K H v d → toPy d = some p → Dp K H v p
  | .non, _, _, .non, e => by cases e; exact .non
  | .bl b, _, _, .bl _, e => by cases e; exact .bl b
  | .int i, _, _, .int _, e => by cases e; exact .int i
  | .str s, _, _, .str _, e => by cases e; exact .str s
  | .lst xs, _, p, .lst h r, e => by
    unfold toPy at e
    cases q : toPyL xs with
    | none => rw [q] at e; cases e
    | some ps => rw [q] at e; cases e; exact .lst (SqL.of h) (dpl_of r q)
  | .tup xs, _, p, .tup h r, e => by
    unfold toPy at e
    cases q : toPyL xs with
    | none => rw [q] at e; cases e
    | some ps => rw [q] at e; cases e; exact .tup (SqT.of h) (dpl_of r q)
  | .rls _, _, _, _, e => by cases e
  | .obj _ _, _, _, _, e => by cases e
theorem dpl_of {H : Hp} : ∀ {ds : List D} {vs : List V} {ps : List PyData}, RepL K H vs ds → toPyL ds = some ps → DpAll K H vs ps
  | [], _, _, .nil, e => by cases e; exact .nil
  | x :: xs, _, _, .cons r t, e => by
    unfold toPyL at e
    cases q : toPy x with
    | none => rw [q] at e; cases e
    | some p =>
      rw [q] at e
      cases q2 : toPyL xs with
      | none => rw [q2] at e; cases e
      | some ps => rw [q2] at e; cases e; exact .cons (dp_of r q) (dpl_of t q2)
end
def dEqv (x y : D) : Option Bool := (toPy x).bind fun p => (toPy y).bind fun q => if PySem.SeqAt.shaped p = true ∧ PySem.SeqAt.shaped q = true then some (PyData.eqv p q) else none
def dEq (x y : D) : Option D := (dEqv x y).map .bl
def dNe (x y : D) : Option D := (dEqv x y).map fun b => .bl (!b)
theorem dEqv_some {x y : D} {b : Bool} (h : dEqv x y = some b) : ∃ p q, toPy x = some p ∧ toPy y = some q ∧ PySem.SeqAt.shaped p = true ∧ PySem.SeqAt.shaped q = true ∧ b = PyData.eqv p q := by
  unfold dEqv at h
  cases e : toPy x with
  | none => rw [e] at h; cases h
  | some p =>
    rw [e] at h
    cases e2 : toPy y with
    | none => rw [e2] at h; cases h
    | some q =>
      rw [e2] at h
      simp only [Option.bind_some] at h
      split at h
      · rename_i c; cases h; exact ⟨p, q, rfl, rfl, c.1, c.2, rfl⟩
      · cases h
theorem o_eq : Op2 K (rEqD K) dEq := by
  intro H x y d1 d2 z Q r1 r2 e q
  unfold dEq at e
  cases h : dEqv d1 d2 with
  | none => rw [h] at e; cases e
  | some b =>
    rw [h] at e; cases e
    obtain ⟨p, q', h1, h2, h3, h4, rfl⟩ := dEqv_some h
    exact ⟨p, q', dp_of r1 h1, dp_of r2 h2, h3, h4, q H _ (Grow.refl H) (.bl _)⟩
theorem o_ne : Op2 K (rNeD K) dNe := by
  intro H x y d1 d2 z Q r1 r2 e q
  unfold dNe at e
  cases h : dEqv d1 d2 with
  | none => rw [h] at e; cases e
  | some b =>
    rw [h] at e; cases e
    obtain ⟨p, q', h1, h2, h3, h4, rfl⟩ := dEqv_some h
    exact ⟨p, q', dp_of r1 h1, dp_of r2 h2, h3, h4, q H _ (Grow.refl H) (.bl _)⟩
/-- == of two scalars of one kind (in an except suite) -/
def dEqS : D → D → Option D
  | .int i, .int j => some (.bl (decide (i = j)))
  | .str i, .str j => some (.bl (decide (i = j)))
  | _, _ => none
theorem o_eqS : Op2 K rEq dEqS := by
  intro H x y d1 d2 z Q r1 r2 e q
  unfold dEqS at e; split at e
  · cases e; cases r1; cases r2
    refine ⟨rfl, q H _ (Grow.refl H) ?_⟩
    rename_i i j
    have : decide (V.int i = V.int j) = decide (i = j) := by
      by_cases c : i = j
      · subst c; simp
      · rw [decide_eq_false c, decide_eq_false fun z => c (V.int.inj z)]
    rw [this]; exact .bl _
  · cases e; cases r1; cases r2
    refine ⟨rfl, q H _ (Grow.refl H) ?_⟩
    rename_i i j
    have : decide (V.str i = V.str j) = decide (i = j) := by
      by_cases c : i = j
      · subst c; simp
      · rw [decide_eq_false c, decide_eq_false fun z => c (V.str.inj z)]
    rw [this]; exact .bl _
  · cases e
def dIsN : D → D → Option D
  | .non, .non => some (.bl true)
  | .bl _, .non => some (.bl false)
  | .int _, .non => some (.bl false)
  | .str _, .non => some (.bl false)
  | .lst _, .non => some (.bl false)
  | .tup _, .non => some (.bl false)
  | .rls _, .non => some (.bl false)
  | .obj _ _, .non => some (.bl false)
  | _, _ => none
theorem o_isN : Op2 K (fun x y H Q => y = .non ∧ Q (.bl (decide (x = .non))) H) dIsN := by
  intro H x y d1 d2 z Q r1 r2 e q
  unfold dIsN at e
  split at e <;> first
    | (cases e; cases r1; cases r2; exact ⟨rfl, q H _ (Grow.refl H) (.bl _)⟩)
    | cases e
def dNotN (x y : D) : Option D := (dIsN x y).bind dNot
theorem o_notN : Op2 K (fun x y H Q => y = .non ∧ Q (.bl (!decide (x = .non))) H) dNotN := by
  intro H x y d1 d2 z Q r1 r2 e q
  unfold dNotN dIsN at e
  split at e <;> first
    | (cases e; cases r1; cases r2; exact ⟨rfl, q H _ (Grow.refl H) (.bl _)⟩)
    | cases e
/-! ### built-ins of one value -/
def dInt : List D → Option D
  | [.int i] => some (.int i)
  | [.bl k] => some (.int (if k then 1 else 0))
  | _ => none
def dAbs : List D → Option D
  | [.int i] => some (.int (if i < 0 then -i else i))
  | _ => none
def dMin2 : List D → Option D
  | [.int i, .int j] => some (.int (if j < i then j else i))
  | _ => none
def dMax2 : List D → Option D
  | [.int i, .int j] => some (.int (if j > i then j else i))
  | _ => none
def rInt1 : List V → Hp → VK → Prop := fun xs H Q => (∃ i, xs = [.int i] ∧ Q (.int i) H) ∨ ∃ k, xs = [.bl k] ∧ Q (.int (if k then 1 else 0)) H
theorem n_int : OpN K rInt1 dInt := by
  intro H xs ds z Q r e q
  unfold dInt at e; split at e
  · cases e; cases r with | cons a b => cases b; cases a; exact .inl ⟨_, rfl, q H _ (Grow.refl H) (.int _)⟩
  · cases e; cases r with | cons a b => cases b; cases a; exact .inr ⟨_, rfl, q H _ (Grow.refl H) (.int _)⟩
  · cases e
def rAbs : List V → Hp → VK → Prop := fun xs H Q => ∃ i, xs = [.int i] ∧ Q (.int (if i < 0 then -i else i)) H
theorem n_abs : OpN K rAbs dAbs := by
  intro H xs ds z Q r e q
  unfold dAbs at e; split at e
  · cases e; cases r with | cons a b => cases b; cases a; exact ⟨_, rfl, q H _ (Grow.refl H) (.int _)⟩
  · cases e
def rMin2 : List V → Hp → VK → Prop := fun xs H Q => ∃ i j, xs = [.int i, .int j] ∧ Q (.int (if j < i then j else i)) H
def rMax2 : List V → Hp → VK → Prop := fun xs H Q => ∃ i j, xs = [.int i, .int j] ∧ Q (.int (if j > i then j else i)) H
theorem n_min2 : OpN K rMin2 dMin2 := by
  intro H xs ds z Q r e q
  unfold dMin2 at e; split at e
  · cases e; cases r with | cons a b => cases b with | cons b c => cases c; cases a; cases b; exact ⟨_, _, rfl, q H _ (Grow.refl H) (.int _)⟩
  · cases e
theorem n_max2 : OpN K rMax2 dMax2 := by
  intro H xs ds z Q r e q
  unfold dMax2 at e; split at e
  · cases e; cases r with | cons a b => cases b with | cons b c => cases c; cases a; cases b; exact ⟨_, _, rfl, q H _ (Grow.refl H) (.int _)⟩
  · cases e
def dLen : List D → Option D
  | [.lst ds] => some (.int ds.length)
  | [.rls ds] => some (.int ds.length)
  | [.tup ds] => some (.int ds.length)
  | [.str s] => if s.length ≤ sizeLine then some (.int s.length) else none
  | _ => none
def rLenU (K : PySem.W.Frag) : List V → Hp → VK → Prop := fun xs H Q => (∃ p ys, xs = [.ref p] ∧ (SqL K H p ys ∨ SqT K H p ys) ∧ Q (.int ys.length) H) ∨ ∃ z, xs = [.str z] ∧ z.length ≤ sizeLine ∧ Q (.int z.length) H
theorem call_lenU {X : Cx} : CallR X (.builtin "len") (rLenU X.K) := CallR.or call_len_seq call_len_str
theorem n_len : OpN K (rLenU K) dLen := by
  intro H xs ds z Q r e q
  unfold dLen at e; split at e
  · cases e; cases r with | cons a b => cases b; cases a with | lst h r => exact .inl ⟨_, _, rfl, .inl (SqL.of h), q H _ (Grow.refl H) (by rw [r.length]; exact .int _)⟩
  · cases e; cases r with | cons a b => cases b; cases a with | rls h r => exact .inl ⟨_, _, rfl, .inl h, q H _ (Grow.refl H) (by rw [r.length]; exact .int _)⟩
  · cases e; cases r with | cons a b => cases b; cases a with | tup h r => exact .inl ⟨_, _, rfl, .inr (SqT.of h), q H _ (Grow.refl H) (by rw [r.length]; exact .int _)⟩
  · split at e
    · cases e; cases r with | cons a b => cases b; cases a; exact .inr ⟨_, rfl, by assumption, q H _ (Grow.refl H) (.int _)⟩
    · cases e
  · cases e
/-- the name of a value's built-in type -/
def tyName : D → Option String
  | .non => some "NoneType"
  | .bl _ => some "bool"
  | .int _ => some "int"
  | .str _ => some "str"
  | .lst _ => some "list"
  | .rls _ => some "list"
  | .tup _ => some "tuple"
  | .obj _ _ => none
theorem tyx_of {H : Hp} {v : V} {d : D} {n : String} (r : Rep K H v d) (e : tyName d = some n) : TyX K H v (.type n) := by
  cases r with
  | non => cases e; exact .base .non
  | bl b => cases e; exact .base (.bl b)
  | int i => cases e; exact .base (.int i)
  | str x => cases e; exact .base (.str x)
  | lst h _ => cases e; exact .base (.lst h)
  | tup h _ => cases e; exact .base (.tup h)
  | rls h _ =>
    cases e
    rcases h with (h | ⟨o, h⟩) | ⟨o, its, n, h, hc, _⟩
    · exact .base (.lst h)
    · exact .base (.frz h)
    · exact .kList h hc
  | obj _ _ => cases e
/-- the answer of isinstance, its class a written built-in -/
def dIsi (T : String) (d : D) : Option D := (tyName d).bind fun n => (kitB n T).map .bl
/-- isinstance(x, T), T the name of a built-in type -/
def rIsB (K : PySem.W.Frag) (T : String) : List V → Hp → VK → Prop := fun xs H Q => ∃ x n b, xs = [x, .ty T] ∧ TyX K H x (.type n) ∧ kitB n T = some b ∧ Q (.bl b) H
theorem call_isB {X : Cx} (T : String) : CallR X (.builtin "isinstance") (rIsB X.K T) := by
  intro pins s σ H xs us Q I rv h
  obtain ⟨x, n, b, rfl, ty, k, q⟩ := h
  exact call_isi pins s σ H [x, .ty T] us Q I rv ⟨x, .ty T, _, _, b, rfl, .ty T, ty, kit_ty k, q⟩
def dIsL (T : String) : List D → Option D
  | [x, .non] => dIsi T x
  | _ => none
/-- isinstance(x, T) as a reading of x alone -/
theorem evp_isi {mg : Str → Option Value} {W : WX} {T : String} {ta : TE} {ma : En → RP D} (ha : EvP K mg W ta ma) : EvP K mg W (tCB (rIsB K T) (tCons ta (tCons (tC (.ty T)) tNil))) (p1 (dIsi T) ma) := by
  intro Z G H σ env Q hd h
  refine ha.after hd (Bad := fun r => PoP K mg W H σ r Q) h (fun z => z) (fun x z => z) fun d H1 v hb g hd1 rv => ?_
  unfold dIsi at hb
  cases e : tyName d with
  | none => rw [e] at hb; exact False.elim hb
  | some n =>
    rw [e] at hb
    simp only [Option.bind_some] at hb
    cases k : kitB n T with
    | none => rw [k] at hb; exact False.elim hb
    | some b => rw [k] at hb; exact ⟨v, n, b, rfl, tyx_of rv e, k, hb H1 _ g (.bl b)⟩
/-! ### an item by its place -/
def dIx : D → D → Option D
  | .lst ds, .int i => atI ds i
  | .rls ds, .int i => atI ds i
  | .tup ds, .int i => atI ds i
  | _, _ => none
theorem atI_rep {H : Hp} {xs : List V} {ds : List D} {i : Int} {d : D} (r : RepL K H xs ds) (h : atI ds i = some d) : ∃ v, atI xs i = some v ∧ Rep K H v d := by
  unfold atI at h ⊢
  rw [r.length]
  cases e : ixN ds.length i with
  | none => rw [e] at h; cases h
  | some j => rw [e] at h; exact r.get h
theorem o_ix : Op2 K (rIx K) dIx := by
  intro H x y d1 d2 z Q r1 r2 e q
  unfold dIx at e; split at e
  · cases r1 with | lst h r => obtain ⟨v, h1, h2⟩ := atI_rep r e; exact .inl ⟨_, _, _, v, rfl, rep_int r2, SqL.of h, h1, q H v (Grow.refl H) h2⟩
  · cases r1 with | rls h r => obtain ⟨v, h1, h2⟩ := atI_rep r e; exact .inl ⟨_, _, _, v, rfl, rep_int r2, h, h1, q H v (Grow.refl H) h2⟩
  · cases r1 with | tup h r => obtain ⟨v, h1, h2⟩ := atI_rep r e; exact .inr (.inl ⟨_, _, _, v, rfl, rep_int r2, SqT.of h, h1, q H v (Grow.refl H) h2⟩)
  · cases e
variable {mg : Str → Option Value} {W : WX}
/-- xs[i] that stays: the items are data -/
def eIx (a b : En → Res D) (e : En) : Res D := (a e).bind fun x e1 => (b e1).bind fun y e2 => .of e2 (dIx x y)
theorem eve_ix {ta tb : TE} {ma mb : En → Res D} (ha : EvE K mg W ta ma) (hb : EvE K mg W tb mb) : EvE K mg W (tOp (rIx K) ta tb) (eIx ma mb) := by
  intro Z G H σ env Q hd h
  refine ha.after hd (Bad := fun r => PoE K mg W Z G H σ env r Q) h (fun z => z) (fun x e z => z) fun d e G1 H1 v h1 s hd1 rv => ?_
  refine hb.after hd1 (Bad := fun r => PoE K mg W Z G H σ env r Q) h1 (fun z => z) (fun x e z => PoX.back s z) fun d2 e2 G2 H2 v2 h2 s2 hd2 rv2 => ?_
  cases q : dIx d d2 with
  | none => rw [q] at h2; exact False.elim h2
  | some z =>
    rw [q] at h2
    have rv' := rv.mono (Kp.of s2.g)
    have ex := Kp.of hd2.ex
    unfold dIx at q; split at q
    · cases rv' with | lst h r => obtain ⟨w, a, b⟩ := atI_rep r q; exact .inl ⟨_, _, _, w, rfl, rep_int rv2, SqL.of (hd2.ex _ _ h), a, h2 G2 H2 w (s.trans s2) hd2 b⟩
    · cases rv' with | rls h r => obtain ⟨w, a, b⟩ := atI_rep r q; exact .inl ⟨_, _, _, w, rfl, rep_int rv2, SqL.kp ex h, a, h2 G2 H2 w (s.trans s2) hd2 b⟩
    · cases rv' with | tup h r => obtain ⟨w, a, b⟩ := atI_rep r q; exact .inr (.inl ⟨_, _, _, w, rfl, rep_int rv2, SqT.of (hd2.ex _ _ h), a, h2 G2 H2 w (s.trans s2) hd2 b⟩)
    · cases q
/-- .. of a container that may be mine; the place is read purely -/
def cIx (a : En → Res (Bool × List D)) (b : En → RP D) (e : En) : Res D := (a e).bind fun x e1 => match b e1 with
  | .ok (.int i) => .of e1 (atI x.2 i)
  | .ok _ => .bad
  | .exc y => .exc y e1
  | .bad => .bad
theorem SeqAt.grow {H H' : Hp} {p : Addr} {b : Bool} {xs : List V} (g : Grow H H') (h : SeqAt K H p b xs) : SeqAt K H' p b xs := by
  cases b with
  | true => exact SqL.kp g.k h
  | false => exact SqT.kp g.k h
theorem eve_ixC {ta tb : TE} {ma : En → Res (Bool × List D)} {mb : En → RP D} (ha : EvC K mg W ta ma) (hb : EvP K mg W tb mb) : EvE K mg W (tOp (rIx K) ta tb) (cIx ma mb) := by
  intro Z G H σ env Q hd h
  refine ha.after hd (Bad := fun r => PoE K mg W Z G H σ env r Q) h (fun z => z) (fun x e z => z) fun b ds e G1 H1 p xs h1 s hd1 sq rs => ?_
  refine hb Z G1 H1 σ e _ hd1 ?_
  dsimp only at h1
  cases q : mb e with
  | ok d =>
    rw [q] at h1
    cases d with
    | int i =>
      dsimp only at h1
      cases q2 : atI ds i with
      | none => rw [q2] at h1; exact False.elim h1
      | some z =>
        rw [q2] at h1
        intro H' v g rv
        obtain ⟨w, a, b'⟩ := atI_rep rs q2
        have fin := h1 G1 H' w (s.trans (Step.grow g)) (hd1.grow g) b'
        have sq' := sq.grow g
        cases b with
        | true => exact .inl ⟨_, _, _, w, rfl, rep_int rv, sq', a, fin⟩
        | false => exact .inr (.inl ⟨_, _, _, w, rfl, rep_int rv, sq', a, fin⟩)
    | _ => exact False.elim h1
  | exc x => rw [q] at h1; exact fun H' C a g ex => h1 G1 H' C a (s.trans (Step.grow g)) (hd1.grow g) ex
  | bad => rw [q] at h1; exact False.elim h1
end
end Cv
end

section
set_option Elab.async false
set_option linter.all false
set_option maxRecDepth 100000
set_option maxHeartbeats 4000000
set_option autoImplicit false
/-! CvE: containers made and walked; comprehensions. -/
namespace Cv
open PySem L2
section
variable {K : PySem.W.Frag} {mg : Str → Option Value} {W : WX} {Z : Addr → Prop} {G H : Hp} {σ : L2.St} {env : En}
/-! ### a built-in of one container -/
/-- it gives a scalar -/
def OpCs (K : PySem.W.Frag) (r : List V → Hp → VK → Prop) (f : Bool → List D → Option D) : Prop := ∀ H p b xs ds z Q, SeqAt K H p b xs → RepL K H xs ds → f b ds = some z → (∀ v, Rep K H v z → Q v H) → r [.ref p] H Q
/-- it gives a new list of its items (some arrangement) or of scalars -/
def OpCl (K : PySem.W.Frag) (r : List V → Hp → VK → Prop) (f : Bool → List D → Option (List D)) : Prop := ∀ H G p b xs ds zs Q, SeqAt K H p b xs → RepL K H xs ds → RepL K G xs ds → f b ds = some zs → (∀ q ys, H q = none → RepL K G ys zs → Q (.ref q) (upd H q (.lst ys))) → r [.ref p] H Q
def cS (f : Bool → List D → Option D) (a : En → Res (Bool × List D)) (e : En) : Res D := (a e).bind fun x e1 => match f x.1 x.2 with
  | some z => okF z e1
  | none => .bad
def cL (f : Bool → List D → Option (List D)) (a : En → Res (Bool × List D)) (e : En) : Res MO := (a e).bind fun x e1 => match f x.1 x.2 with
  | some z => .ok (.lst z) e1
  | none => .bad
theorem eve_cs {r : List V → Hp → VK → Prop} {f : Bool → List D → Option D} (o : OpCs K r f) {ta : TE} {ma : En → Res (Bool × List D)} (ha : EvC K mg W ta ma) : EvE K mg W (tCB r (tCons ta tNil)) (cS f ma) := by
  intro Z G H σ env Q hd h
  refine ha.after hd (Bad := fun r => PoE K mg W Z G H σ env r Q) h (fun z => z) (fun x e z => z) fun b ds e G1 H1 p xs h1 s hd1 sq rs => ?_
  dsimp only at h1
  cases q : f b ds with
  | none => rw [q] at h1; exact False.elim h1
  | some z =>
    rw [q] at h1
    obtain ⟨fl, h1⟩ := okF_elim h1
    exact o H1 p b xs ds z Q sq (rs.mono (Kp.of hd1.ex)) q fun v rv => h1 G1 H1 v s hd1 (rv.flat fl)
theorem evf_cl {r : List V → Hp → VK → Prop} {f : Bool → List D → Option (List D)} (o : OpCl K r f) {ta : TE} {ma : En → Res (Bool × List D)} (ha : EvC K mg W ta ma) : EvF K mg W (tCB r (tCons ta tNil)) (cL f ma) := by
  intro Z G H σ env Q hd h
  refine ha.after hd (Bad := fun r => PoF K mg W Z G H σ env r Q) h (fun z => z) (fun x e z => z) fun b ds e G1 H1 p xs h1 s hd1 sq rs => ?_
  dsimp only at h1
  cases q : f b ds with
  | none => rw [q] at h1; exact False.elim h1
  | some zs =>
    rw [q] at h1
    exact o H1 G1 p b xs ds zs Q sq (rs.mono (Kp.of hd1.ex)) rs q fun l ys hl ry => new_own hd s hd1 (.lst ry) h1 l hl
def intsD : List D → Option (List Int)
  | [] => some []
  | .int i :: r => (intsD r).map (i :: ·)
  | _ :: _ => none
theorem repl_ints {H : Hp} : ∀ {ds : List D} {xs : List V} {ns : List Int}, RepL K H xs ds → intsD ds = some ns → xs = ns.map V.int
  | [], _, _, .nil, e => by cases e; rfl
  | .int i :: r, _, ns, .cons a t, e => by
    unfold intsD at e
    cases q : intsD r with
    | none => rw [q] at e; cases e
    | some m => rw [q] at e; cases e; cases a; rw [repl_ints t q]; rfl
  | .non :: _, _, _, _, e => by cases e
  | .bl _ :: _, _, _, _, e => by cases e
  | .str _ :: _, _, _, _, e => by cases e
  | .lst _ :: _, _, _, _, e => by cases e
  | .tup _ :: _, _, _, _, e => by cases e
  | .rls _ :: _, _, _, _, e => by cases e
  | .obj _ _ :: _, _, _, _, e => by cases e
theorem repl_of_ints {G : Hp} : ∀ ns : List Int, RepL K G (ns.map V.int) (ns.map D.int)
  | [] => .nil
  | n :: r => .cons (.int n) (repl_of_ints r)
def sLen (_ : Bool) (ds : List D) : Option D := some (.int ds.length)
def sSum (b : Bool) (ds : List D) : Option D := if b = true then (intsD ds).map fun ns => .int ns.sum else none
theorem cs_len : OpCs K (rLenU K) sLen := by
  intro H p b xs ds z Q sq r e q
  cases e
  refine .inl ⟨p, xs, rfl, ?_, q _ (by rw [r.length]; exact .int _)⟩
  cases b with
  | true => exact .inl sq
  | false => exact .inr sq
theorem cs_sum : OpCs K (rSum K) sSum := by
  intro H p b xs ds z Q sq r e q
  unfold sSum at e
  cases b with
  | false => cases e
  | true =>
    rw [if_pos rfl] at e
    cases h : intsD ds with
    | none => rw [h] at e; cases e
    | some ns => rw [h] at e; cases e; rw [repl_ints r h] at sq; exact ⟨p, ns, rfl, sq, q _ (.int _)⟩
/-- the greatest, the least of a list of ints -/
def maxI : List Int → Int
  | [] => 0
  | [a] => a
  | a :: r => if maxI r > a then maxI r else a
def minI : List Int → Int
  | [] => 0
  | [a] => a
  | a :: r => if minI r < a then minI r else a
theorem maxI_spec : ∀ ns : List Int, ns ≠ [] → maxI ns ∈ ns ∧ ∀ y ∈ ns, y ≤ maxI ns
  | [], h => absurd rfl h
  | [a], _ => ⟨by simp [maxI], fun y hy => by simp at hy; subst hy; simp [maxI]⟩
  | a :: b :: r, _ => by
    obtain ⟨h1, h2⟩ := maxI_spec (b :: r) (by simp)
    have e : maxI (a :: b :: r) = if maxI (b :: r) > a then maxI (b :: r) else a := rfl
    rw [e]
    by_cases c : maxI (b :: r) > a
    · rw [if_pos c]
      refine ⟨List.mem_cons_of_mem _ h1, fun y hy => ?_⟩
      rcases List.mem_cons.mp hy with q | q
      · omega
      · exact h2 y q
    · rw [if_neg c]
      refine ⟨List.mem_cons_self, fun y hy => ?_⟩
      rcases List.mem_cons.mp hy with q | q
      · omega
      · have := h2 y q; omega
theorem minI_spec : ∀ ns : List Int, ns ≠ [] → minI ns ∈ ns ∧ ∀ y ∈ ns, minI ns ≤ y
  | [], h => absurd rfl h
  | [a], _ => ⟨by simp [minI], fun y hy => by simp at hy; subst hy; simp [minI]⟩
  | a :: b :: r, _ => by
    obtain ⟨h1, h2⟩ := minI_spec (b :: r) (by simp)
    have e : minI (a :: b :: r) = if minI (b :: r) < a then minI (b :: r) else a := rfl
    rw [e]
    by_cases c : minI (b :: r) < a
    · rw [if_pos c]
      refine ⟨List.mem_cons_of_mem _ h1, fun y hy => ?_⟩
      rcases List.mem_cons.mp hy with q | q
      · omega
      · exact h2 y q
    · rw [if_neg c]
      refine ⟨List.mem_cons_self, fun y hy => ?_⟩
      rcases List.mem_cons.mp hy with q | q
      · omega
      · have := h2 y q; omega
def sMax (b : Bool) (ds : List D) : Option D := if b = true then (intsD ds).bind fun ns => if ns = [] then none else some (.int (maxI ns)) else none
def sMin (b : Bool) (ds : List D) : Option D := if b = true then (intsD ds).bind fun ns => if ns = [] then none else some (.int (minI ns)) else none
theorem cs_max : OpCs K (rMax K) sMax := by
  intro H p b xs ds z Q sq r e q
  unfold sMax at e
  cases b with
  | false => cases e
  | true =>
    rw [if_pos rfl] at e
    cases h : intsD ds with
    | none => rw [h] at e; cases e
    | some ns =>
      rw [h] at e
      simp only [Option.bind_some] at e
      by_cases c : ns = []
      · rw [if_pos c] at e; cases e
      · rw [if_neg c] at e; cases e
        rw [repl_ints r h] at sq
        refine ⟨p, ns, rfl, sq, by cases ns with | nil => exact absurd rfl c | cons _ _ => simp, fun m h1 h2 => ?_⟩
        obtain ⟨k1, k2⟩ := maxI_spec ns c
        have : m = maxI ns := Int.le_antisymm (k2 m h1) (h2 _ k1)
        subst this; exact q _ (.int _)
theorem cs_min : OpCs K (rMin K) sMin := by
  intro H p b xs ds z Q sq r e q
  unfold sMin at e
  cases b with
  | false => cases e
  | true =>
    rw [if_pos rfl] at e
    cases h : intsD ds with
    | none => rw [h] at e; cases e
    | some ns =>
      rw [h] at e
      simp only [Option.bind_some] at e
      by_cases c : ns = []
      · rw [if_pos c] at e; cases e
      · rw [if_neg c] at e; cases e
        rw [repl_ints r h] at sq
        refine ⟨p, ns, rfl, sq, by cases ns with | nil => exact absurd rfl c | cons _ _ => simp, fun m h1 h2 => ?_⟩
        obtain ⟨k1, k2⟩ := minI_spec ns c
        have : m = minI ns := Int.le_antisymm (h2 _ k1) (k2 m h1)
        subst this; exact q _ (.int _)
def lAll (_ : Bool) (ds : List D) : Option (List D) := some ds
def rListU (K : PySem.W.Frag) : List V → Hp → VK → Prop := fun xs H Q => ∃ p ys, xs = [.ref p] ∧ (SqL K H p ys ∨ SqT K H p ys) ∧ ∀ l, H l = none → Q (.ref l) (upd H l (.lst ys))
theorem cl_list : OpCl K (rListU K) lAll := by
  intro H G p b xs ds zs Q sq r rg e q
  cases e
  refine ⟨p, xs, rfl, ?_, fun l hl => q l xs hl rg⟩
  cases b with
  | true => exact .inl sq
  | false => exact .inr sq
/-- the sorted list of ints -/
def sortI (ns : List Int) : List Int := ns.mergeSort (fun a b => decide (a ≤ b))
theorem sortI_perm (ns : List Int) : (sortI ns).Perm ns := List.mergeSort_perm ns _
theorem sortI_sorted (ns : List Int) : (sortI ns).Pairwise (· ≤ ·) := by
  have h := List.pairwise_mergeSort (le := fun a b : Int => decide (a ≤ b)) (fun a b c h1 h2 => by simp at *; omega) (fun a b => by simp; omega) ns
  exact h.imp fun h => by simpa using h
theorem sortI_unique {ns l : List Int} (p : l.Perm ns) (s : l.Pairwise (· ≤ ·)) : l = sortI ns :=
  List.Perm.eq_of_pairwise (le := (· ≤ ·)) (fun a b _ _ h1 h2 => Int.le_antisymm h1 h2) s (sortI_sorted ns) (p.trans (sortI_perm ns).symm)
def lSortI (b : Bool) (ds : List D) : Option (List D) := if b = true then (intsD ds).map fun ns => (sortI ns).map .int else none
theorem cl_sortI : OpCl K (rSortedI K) lSortI := by
  intro H G p b xs ds zs Q sq r rg e q
  unfold lSortI at e
  cases b with
  | false => cases e
  | true =>
    rw [if_pos rfl] at e
    cases h : intsD ds with
    | none => rw [h] at e; cases e
    | some ns =>
      rw [h] at e; cases e
      rw [repl_ints r h] at sq
      refine ⟨p, ns, rfl, sq, fun ns' l pm st hl => ?_⟩
      rw [sortI_unique pm st]
      exact q l _ hl (repl_of_ints _)
/-! ### slices of lists -/
/-- a slice's part, read purely -/
def PoO (r : RP (Option Int)) (K : PySem.W.Frag) (mg : Str → Option Value) (W : WX) (H : Hp) (σ : L2.St) (Q : Option Int → Hp → Prop) : Prop := match r with
  | .ok o => ∀ H', Grow H H' → Q o H'
  | .exc x => ∀ H' C a, Grow H H' → ExcAt K mg H' x C a → W (.ref C) (some a) σ H'
  | .bad => False
def EvO (K : PySem.W.Frag) (mg : Str → Option Value) (W : WX) (t : TO) (m : En → RP (Option Int)) : Prop := ∀ Z G H σ env Q, Hold K Z G H σ env → PoO (m env) K mg W H σ Q → t σ H Q
def oNo (_ : En) : RP (Option Int) := .ok none
def oI (a : En → RP D) (e : En) : RP (Option Int) := (a e).bind fun x => match x with
  | .int i => .ok (some i)
  | _ => .bad
theorem evo_no : EvO K mg W tNoPart oNo := fun Z G H σ env Q hd h => h H (Grow.refl H)
theorem evo_i {ta : TE} {ma : En → RP D} (ha : EvP K mg W ta ma) : EvO K mg W (tPart ta) (oI ma) := by
  intro Z G H σ env Q hd h
  refine ha.after hd (Bad := fun r => PoO r K mg W H σ Q) h (fun z => z) (fun x z => z) fun d H1 v hb g hd1 rv => ?_
  cases d with
  | int i => cases rv; exact ⟨i, rfl, hb H1 g⟩
  | _ => exact False.elim hb
def cutD (ds : List D) (lo hi : Option Int) : List D := (ds.drop (HT.sIx ds.length 0 lo)).take (HT.sIx ds.length ds.length hi - HT.sIx ds.length 0 lo)
theorem RepL.cut {H : Hp} {xs : List V} {ds : List D} (r : RepL K H xs ds) (lo hi : Option Int) : RepL K H (cutV xs lo hi) (cutD ds lo hi) := by
  unfold cutV cutD; rw [r.length]; exact (r.drop _).take _
def fCut (a : En → Res (Bool × List D)) (l h : En → RP (Option Int)) (e : En) : Res MO := (a e).bind fun x e1 => match l e1 with
  | .ok lo => (match h e1 with
    | .ok hi => if x.1 = true then .ok (.lst (cutD x.2 lo hi)) e1 else .bad
    | .exc y => .exc y e1
    | .bad => .bad)
  | .exc y => .exc y e1
  | .bad => .bad
theorem evf_cut {ta : TE} {ma : En → Res (Bool × List D)} {tl th : TO} {ml mh : En → RP (Option Int)} (ha : EvC K mg W ta ma) (hl : EvO K mg W tl ml) (hh : EvO K mg W th mh) : EvF K mg W (tSl (rSlL K) ta tl th) (fCut ma ml mh) := by
  intro Z G H σ env Q hd h
  refine ha.after hd (Bad := fun r => PoF K mg W Z G H σ env r Q) h (fun z => z) (fun x e z => z) fun b ds e G1 H1 p xs h1 s hd1 sq rs => ?_
  dsimp only at h1
  refine hl Z G1 H1 σ e _ hd1 ?_
  cases q : ml e with
  | exc y => rw [q] at h1; exact fun H' C a g ex => h1 G1 H' C a (s.trans (Step.grow g)) (hd1.grow g) ex
  | bad => rw [q] at h1; exact False.elim h1
  | ok lo =>
    rw [q] at h1
    intro H2 g2
    have hd2 := hd1.grow g2
    refine hh Z G1 H2 σ e _ hd2 ?_
    dsimp only at h1
    cases q2 : mh e with
    | exc y => rw [q2] at h1; exact fun H' C a g ex => h1 G1 H' C a (s.trans (Step.grow (g2.trans g))) (hd2.grow g) ex
    | bad => rw [q2] at h1; exact False.elim h1
    | ok hi =>
      rw [q2] at h1
      intro H3 g3
      have hd3 := hd2.grow g3
      have s3 := s.trans (Step.grow (g2.trans g3))
      cases b with
      | false => exact False.elim h1
      | true => exact ⟨p, xs, rfl, SeqAt.grow (b := true) (g2.trans g3) sq, new_own hd s3 hd3 (.lst (rs.cut lo hi)) h1⟩
/-! ### list + list, list * int -/
/-- a list as it stands (tracked), purely read: its items are data -/
def PoK (K : PySem.W.Frag) (mg : Str → Option Value) (W : WX) (G H : Hp) (σ : L2.St) (r : RP (List D)) (Q : VK) : Prop := match r with
  | .ok ds => ∀ H' p xs, Grow H H' → H' p = some (.lst xs) → RepL K G xs ds → Q (.ref p) H'
  | .exc x => ∀ H' C a, Grow H H' → ExcAt K mg H' x C a → W (.ref C) (some a) σ H'
  | .bad => False
def EvK (K : PySem.W.Frag) (mg : Str → Option Value) (W : WX) (t : TE) (m : En → RP (List D)) : Prop := ∀ Z G H σ env Q, Hold K Z G H σ env → PoK K mg W G H σ (m env) Q → t σ H Q
def kVar (i : Nat) (env : En) : RP (List D) := match env[i]? with
  | some (.imm (.lst ds)) => .ok ds
  | some (.own (.lst ds)) => .ok ds
  | some (.par (.lst ds)) => .ok ds
  | _ => .bad
theorem evk_var {i : Nat} : EvK K mg W (tVar i) (kVar i) := by
  intro Z G H σ env Q hd h
  have key : ∀ s ds, env[i]? = some s → s.mo = some (.lst ds) → PoK K mg W G H σ (.ok ds) Q → tVar i σ H Q := fun s ds e hm h => by
    obtain ⟨p, o, h1, h2, h3, h4⟩ := hd.own_get e hm
    cases h4 with
    | lst r => exact ⟨_, h1, h H p _ (Grow.refl H) h2 r⟩
  unfold kVar at h
  cases e : env[i]? with
  | none => rw [e] at h; exact False.elim h
  | some s =>
    rw [e] at h
    cases s with
    | none => exact False.elim h
    | fre d => exact False.elim h
    | own m =>
      cases m with
      | lst ds => exact key _ ds e rfl h
      | ins c fs => exact False.elim h
    | par m =>
      cases m with
      | lst ds => exact key _ ds e rfl h
      | ins c fs => exact False.elim h
    | imm d =>
      obtain ⟨v, h1, h2⟩ := hd.imm_get e
      cases d with
      | lst ds => cases h2 with | lst a r => exact ⟨_, h1, h H _ _ (Grow.refl H) (hd.ex _ _ a) r⟩
      | _ => exact False.elim h
/-- a display of scalars -/
def kLst (m : En → RP (List D)) (e : En) : RP (List D) := (m e).bind fun ds => if ds.all flat = true ∧ ds.length ≤ sizeLine then .ok ds else .bad
theorem evk_lst {t : TA} {m : En → RP (List D)} (ha : EvAP K mg W t m) : EvK K mg W (tLst t) (kLst m) := by
  intro Z G H σ env Q hd h
  unfold kLst at h
  refine ha Z G H σ env _ hd ?_
  cases q : m env with
  | ok ds =>
    rw [q] at h
    have h : PoK K mg W G H σ (if ds.all flat = true ∧ ds.length ≤ sizeLine then .ok ds else .bad) Q := h
    by_cases c : ds.all flat = true ∧ ds.length ≤ sizeLine
    · rw [if_pos c] at h
      exact fun H' vs g rs => ⟨by rw [rs.length]; exact c.2, fun p hp => h _ p vs (g.trans (Grow.new hp)) upd_same (rs.flat c.1)⟩
    · rw [if_neg c] at h; exact False.elim h
  | exc x => rw [q] at h; exact h
  | bad => rw [q] at h; exact h
def kRep (a : En → RP (List D)) (b : En → RP D) (e : En) : RP (List D) := (a e).bind fun ds => (b e).bind fun x => match x with
  | .int k => if -(2 ^ 63) ≤ k ∧ k < 2 ^ 63 ∧ ds.length * k.toNat ≤ sizeLine then .ok (List.replicate k.toNat ds).flatten else .bad
  | _ => .bad
theorem EvK.after {t : TE} {m : En → RP (List D)} (h : EvK K mg W t m) {β : Type} (hd : Hold K Z G H σ env) {f : List D → RP β} {Q : VK} {Bad : RP β → Prop}
    (hb : Bad ((m env).bind f)) (h0 : ¬ Bad .bad) (hx : ∀ x, Bad (.exc x) → ∀ H' C a, Grow H H' → ExcAt K mg H' x C a → W (.ref C) (some a) σ H')
    (hk : ∀ ds H1 p xs, Bad (f ds) → Grow H H1 → Hold K Z G H1 σ env → H1 p = some (.lst xs) → RepL K G xs ds → Q (.ref p) H1) : t σ H Q := by
  refine h Z G H σ env Q hd ?_
  cases e : m env with
  | ok d => rw [e] at hb; exact fun H' p xs g a r => hk d H' p xs hb g (hd.grow g) a r
  | exc x => rw [e] at hb; exact hx x hb
  | bad => rw [e] at hb; exact (h0 hb).elim
theorem evk_rep {ta tb : TE} {ma : En → RP (List D)} {mb : En → RP D} (ha : EvK K mg W ta ma) (hb : EvP K mg W tb mb) : EvK K mg W (tOp rRep ta tb) (kRep ma mb) := by
  intro Z G H σ env Q hd h
  refine ha.after hd (Bad := fun r => PoK K mg W G H σ r Q) h (fun z => z) (fun x z => z) fun ds H1 p xs h1 g hd1 hp rs => ?_
  refine hb.after hd1 (Bad := fun r => PoK K mg W G H σ r Q) h1 (fun z => z) (fun x z H' C a g' => z H' C a (g.trans g')) fun d H2 v h2 g2 hd2 rv => ?_
  cases d with
  | int k =>
    cases rv
    dsimp only at h2
    by_cases c : -(2 ^ 63) ≤ k ∧ k < 2 ^ 63 ∧ ds.length * k.toNat ≤ sizeLine
    · rw [if_pos c] at h2
      exact ⟨p, k, xs, rfl, rfl, g2.k p _ hp nt_lst, c.1, c.2.1, by rw [rs.length]; exact c.2.2, fun l hl => h2 _ l _ ((g.trans g2).trans (Grow.new hl)) upd_same (rs.rep _)⟩
    · rw [if_neg c] at h2; exact False.elim h2
  | _ => exact False.elim h2
def kCat (a b : En → RP (List D)) (e : En) : RP (List D) := (a e).bind fun xs => (b e).bind fun ys => if xs.length + ys.length ≤ sizeLine then .ok (xs ++ ys) else .bad
theorem evk_cat {ta tb : TE} {ma mb : En → RP (List D)} (ha : EvK K mg W ta ma) (hb : EvK K mg W tb mb) : EvK K mg W (tOp rCat ta tb) (kCat ma mb) := by
  intro Z G H σ env Q hd h
  refine ha.after hd (Bad := fun r => PoK K mg W G H σ r Q) h (fun z => z) (fun x z => z) fun ds H1 p xs h1 g hd1 hp rs => ?_
  refine hb.after hd1 (Bad := fun r => PoK K mg W G H σ r Q) h1 (fun z => z) (fun x z H' C a g' => z H' C a (g.trans g')) fun es H2 q ys h2 g2 hd2 hq rq => ?_
  by_cases c : ds.length + es.length ≤ sizeLine
  · rw [if_pos c] at h2
    exact ⟨p, q, xs, ys, rfl, rfl, g2.k p _ hp nt_lst, hq, by rw [rs.length, rq.length]; exact c, fun l hl => h2 _ l _ ((g.trans g2).trans (Grow.new hl)) upd_same (rs.append rq)⟩
  · rw [if_neg c] at h2; exact False.elim h2
/-- a slice of a list, purely read -/
def kCut (a : En → RP (List D)) (l h : En → RP (Option Int)) (e : En) : RP (List D) := (a e).bind fun x => (l e).bind fun lo => (h e).bind fun hi => .ok (cutD x lo hi)
theorem evk_cut {ta : TE} {ma : En → RP (List D)} {tl th : TO} {ml mh : En → RP (Option Int)} (ha : EvK K mg W ta ma) (hl : EvO K mg W tl ml) (hh : EvO K mg W th mh) : EvK K mg W (tSl (rSlL K) ta tl th) (kCut ma ml mh) := by
  intro Z G H σ env Q hd h
  refine ha.after hd (Bad := fun r => PoK K mg W G H σ r Q) h (fun z => z) (fun x z => z) fun ds H1 p xs h1 g hd1 hp rs => ?_
  refine hl Z G H1 σ env _ hd1 ?_
  cases q : ml env with
  | exc y => rw [q] at h1; exact fun H' C a g' ex => h1 H' C a (g.trans g') ex
  | bad => rw [q] at h1; exact False.elim h1
  | ok lo =>
    rw [q] at h1
    intro H2 g2
    have hd2 := hd1.grow g2
    refine hh Z G H2 σ env _ hd2 ?_
    have h1 : PoK K mg W G H σ ((mh env).bind fun hi => .ok (cutD ds lo hi)) Q := h1
    cases q2 : mh env with
    | exc y => rw [q2] at h1; exact fun H' C a g' ex => h1 H' C a ((g.trans g2).trans g') ex
    | bad => rw [q2] at h1; exact False.elim h1
    | ok hi =>
      rw [q2] at h1
      intro H3 g3
      exact ⟨p, xs, rfl, SqL.of ((g2.trans g3).k p _ hp nt_lst), fun l hl => h1 _ l _ (((g.trans g2).trans g3).trans (Grow.new hl)) upd_same (rs.cut lo hi)⟩
/-- a new list of the same (list(x), x a list or tuple lent) -/
def fOfK (a : En → RP (List D)) (e : En) : Res MO := match a e with
  | .ok ds => .ok (.lst ds) e
  | .exc y => .exc y e
  | .bad => .bad
/-- the last + or * of such a reading gives a list of my own -/
theorem evf_cat {ta tb : TE} {ma mb : En → RP (List D)} (ha : EvK K mg W ta ma) (hb : EvK K mg W tb mb) : EvF K mg W (tOp rCat ta tb) (fOfK (kCat ma mb)) := by
  intro Z G H σ env Q hd h
  unfold fOfK at h
  have key : ∀ r : RP (List D), (kCat ma mb env = r) → PoF K mg W Z G H σ env (match r with | .ok ds => .ok (.lst ds) env | .exc y => .exc y env | .bad => .bad) Q → tOp rCat ta tb σ H Q := fun r e h => by
    unfold kCat at e
    refine ha.after hd (Bad := fun r' => r' = r) e (fun z => ?_) (fun x z => ?_) fun ds H1 p xs h1 g hd1 hp rs => ?_
    · subst z; exact h
    · subst z; exact PoX.pure h hd
    · refine hb.after hd1 (Bad := fun r' => r' = r) h1 (fun z => ?_) (fun x z => ?_) fun es H2 q ys h2 g2 hd2 hq rq => ?_
      · subst z; exact h
      · subst z; exact fun H' C a g' ex => PoX.pure h hd H' C a (g.trans g') ex
      · by_cases c : ds.length + es.length ≤ sizeLine
        · rw [if_pos c] at h2
          subst h2
          exact ⟨p, q, xs, ys, rfl, rfl, g2.k p _ hp nt_lst, hq, by rw [rs.length, rq.length]; exact c, new_own hd (Step.grow (g.trans g2)) hd2 (.lst (rs.append rq)) h⟩
        · rw [if_neg c] at h2; subst h2; exact False.elim h
  exact key _ rfl h
theorem evf_rep {ta tb : TE} {ma : En → RP (List D)} {mb : En → RP D} (ha : EvK K mg W ta ma) (hb : EvP K mg W tb mb) : EvF K mg W (tOp rRep ta tb) (fOfK (kRep ma mb)) := by
  intro Z G H σ env Q hd h
  unfold fOfK at h
  have key : ∀ r : RP (List D), (kRep ma mb env = r) → PoF K mg W Z G H σ env (match r with | .ok ds => .ok (.lst ds) env | .exc y => .exc y env | .bad => .bad) Q → tOp rRep ta tb σ H Q := fun r e h => by
    unfold kRep at e
    refine ha.after hd (Bad := fun r' => r' = r) e (fun z => ?_) (fun x z => ?_) fun ds H1 p xs h1 g hd1 hp rs => ?_
    · subst z; exact h
    · subst z; exact PoX.pure h hd
    · refine hb.after hd1 (Bad := fun r' => r' = r) h1 (fun z => ?_) (fun x z => ?_) fun d H2 v h2 g2 hd2 rv => ?_
      · subst z; exact h
      · subst z; exact fun H' C a g' ex => PoX.pure h hd H' C a (g.trans g') ex
      · cases d with
        | int k =>
          cases rv
          dsimp only at h2
          by_cases c : -(2 ^ 63) ≤ k ∧ k < 2 ^ 63 ∧ ds.length * k.toNat ≤ sizeLine
          · rw [if_pos c] at h2
            subst h2
            exact ⟨p, k, xs, rfl, rfl, g2.k p _ hp nt_lst, c.1, c.2.1, by rw [rs.length]; exact c.2.2, new_own hd (Step.grow (g.trans g2)) hd2 (.lst (rs.rep _)) h⟩
          · rw [if_neg c] at h2; subst h2; exact False.elim h
        | _ => subst h2; exact False.elim h
  exact key _ rfl h
end
end Cv
end

section
set_option Elab.async false
set_option linter.all false
set_option maxRecDepth 100000
set_option maxHeartbeats 4000000
set_option autoImplicit false
/-! CvF: what is walked; targets; statements; comprehensions. -/
namespace Cv
open PySem L2
inductive Ret where
  | imm (d : D) | own (m : MO)
inductive Fl where
  | next (e : En) | brk (e : En) | cont (e : En) | ret (r : Ret) (e : En) | exc (x : Exc) (e : En) | bad
section
variable (K : PySem.W.Frag) (mg : Str → Option Value) (W : WX) (Z : Addr → Prop) (G H : Hp) (σ : L2.St) (env : En)
def PoN (e : En) (P : L2.St → Hp → Prop) : Prop := ∀ G' H' σ', Step Z G H σ env G' H' σ' e → Hold K Z G' H' σ' e → P σ' H'
def PoR (r : Ret) (e : En) (P : VK) : Prop := match r with
  | .imm d => ∀ G' H' σ' v, Step Z G H σ env G' H' σ' e → Hold K Z G' H' σ' e → Rep K G' v d → P v H'
  | .own m => ∀ G' H' σ' p o, Step Z G H σ env G' H' σ' e → Hold K (fun a => Z a ∨ a = p) G' H' σ' e → H' p = some o → (OwnO σ env p ∨ H p = none) → G' p = none → ¬ Own σ' e p → RepM K G' o m → P (.ref p) H'
def PoXS (x : Exc) (e : En) : Prop := ∀ G' H' σ' C a, Step Z G H σ env G' H' σ' e → Hold K Z G' H' σ' e → ExcAt K mg H' x C a → W (.ref C) (some a) σ' H'
def PoS (r : Fl) (D : Ends) : Prop := match r with
  | .next e => PoN K Z G H σ env e D.nx
  | .brk e => PoN K Z G H σ env e D.bk
  | .cont e => PoN K Z G H σ env e D.ct
  | .ret r e => PoR K Z G H σ env r e D.rt
  | .exc x e => PoXS K mg W Z G H σ env x e
  | .bad => False
end
def EvS (K : PySem.W.Frag) (mg : Str → Option Value) (W : WX) (t : TS) (m : En → Fl) : Prop := ∀ Z G H σ env D, Hold K Z G H σ env → PoS K mg W Z G H σ env (m env) D → t D σ H
section
variable {K : PySem.W.Frag} {mg : Str → Option Value} {W : WX} {Z : Addr → Prop} {G H G1 H1 : Hp} {σ σ1 : L2.St} {env e1 : En}
theorem PoN.back {e : En} {P : L2.St → Hp → Prop} (st : Step Z G H σ env G1 H1 σ1 e1) (h : PoN K Z G H σ env e P) : PoN K Z G1 H1 σ1 e1 e P := fun G' H' σ' s hd => h G' H' σ' (st.trans s) hd
theorem PoR.back {r : Ret} {e : En} {P : VK} (st : Step Z G H σ env G1 H1 σ1 e1) (h : PoR K Z G H σ env r e P) : PoR K Z G1 H1 σ1 e1 r e P := by
  cases r with
  | imm d => exact fun G' H' σ' v s hd rp => h G' H' σ' v (st.trans s) hd rp
  | own m =>
    refine fun G' H' σ' p o s hd a b c d r => h G' H' σ' p o (st.trans s) hd a ?_ c d r
    rcases b with b | b
    · exact st.ow p b
    · exact .inr (st.d p b)
theorem PoS.back {r : Fl} {D : Ends} (st : Step Z G H σ env G1 H1 σ1 e1) (h : PoS K mg W Z G H σ env r D) : PoS K mg W Z G1 H1 σ1 e1 r D := by
  cases r with
  | next e => exact PoN.back st h
  | brk e => exact PoN.back st h
  | cont e => exact PoN.back st h
  | ret r e => exact PoR.back st h
  | exc x e => exact fun G' H' σ' C a s hd ex => h G' H' σ' C a (st.trans s) hd ex
  | bad => exact h
theorem PoX.toS {x : Exc} {e : En} (h : PoXS K mg W Z G H σ env x e) : PoX K mg W Z G H σ env x e := fun G' H' C a s hd ex => h G' H' σ C a s hd ex
/-! ### simple statements -/
def sNext (e : En) : Fl := .next e
def sBrk (e : En) : Fl := .brk e
def sCont (e : En) : Fl := .cont e
def sSeq (a b : En → Fl) (e : En) : Fl := match a e with
  | .next e1 => b e1
  | r => r
theorem evs_next : EvS K mg W tNext sNext := fun Z G H σ env D hd h => h G H σ Step.refl hd
theorem evs_brk : EvS K mg W tBreak sBrk := fun Z G H σ env D hd h => h G H σ Step.refl hd
theorem evs_cont : EvS K mg W tCont sCont := fun Z G H σ env D hd h => h G H σ Step.refl hd
theorem evs_seq {t u : TS} {a b : En → Fl} (ha : EvS K mg W t a) (hb : EvS K mg W u b) : EvS K mg W (tSeq t u) (sSeq a b) := by
  intro Z G H σ env D hd h
  refine ha Z G H σ env _ hd ?_
  unfold sSeq at h
  cases e : a env with
  | next e1 => rw [e] at h; exact fun G' H' σ' s hd' => hb Z G' H' σ' e1 D hd' (PoS.back s h)
  | brk e1 => rw [e] at h; exact h
  | cont e1 => rw [e] at h; exact h
  | ret r e1 => rw [e] at h; exact h
  | exc x e1 => rw [e] at h; exact h
  | bad => rw [e] at h; exact h
def sIf (c : En → Res Bool) (a b : En → Fl) (e : En) : Fl := match c e with
  | .ok true e1 => a e1
  | .ok false e1 => b e1
  | .exc x e1 => .exc x e1
  | .bad => .bad
theorem evs_if {c : TT} {t u : TS} {mc : En → Res Bool} {a b : En → Fl} (hc : EvT K mg W c mc) (ha : EvS K mg W t a) (hb : EvS K mg W u b) : EvS K mg W (tIfS c t u) (sIf mc a b) := by
  intro Z G H σ env D hd h
  refine hc Z G H σ env _ hd ?_
  unfold sIf at h
  cases e : mc env with
  | ok d e1 =>
    rw [e] at h
    cases d with
    | true => exact fun G' H' s hd' => ha Z G' H' σ e1 D hd' (PoS.back s h)
    | false => exact fun G' H' s hd' => hb Z G' H' σ e1 D hd' (PoS.back s h)
  | exc x e1 => rw [e] at h; exact PoX.toS h
  | bad => rw [e] at h; exact h
def sDrop (m : En → Res D) (e : En) : Fl := match m e with
  | .ok _ e1 => .next e1
  | .exc x e1 => .exc x e1
  | .bad => .bad
theorem evs_drop {t : TE} {m : En → Res D} (h : EvE K mg W t m) : EvS K mg W (tDrop t) (sDrop m) := by
  intro Z G H σ env D hd q
  refine h Z G H σ env _ hd ?_
  unfold sDrop at q
  cases e : m env with
  | ok d e1 => rw [e] at q; exact fun G' H' v s hd' _ => q G' H' σ s hd'
  | exc x e1 => rw [e] at q; exact PoX.toS q
  | bad => rw [e] at q; exact q
def sRet (m : En → Res D) (e : En) : Fl := match m e with
  | .ok d e1 => .ret (.imm d) e1
  | .exc x e1 => .exc x e1
  | .bad => .bad
theorem evs_ret {t : TE} {m : En → Res D} (h : EvE K mg W t m) : EvS K mg W (tRet t) (sRet m) := by
  intro Z G H σ env D hd q
  refine h Z G H σ env _ hd ?_
  unfold sRet at q
  cases e : m env with
  | ok d e1 => rw [e] at q; exact fun G' H' v s hd' r => q G' H' σ v s hd' r
  | exc x e1 => rw [e] at q; exact PoX.toS q
  | bad => rw [e] at q; exact q
def sRetN (e : En) : Fl := .ret (.imm .non) e
theorem evs_retN : EvS K mg W tRetN sRetN := fun Z G H σ env D hd q => q G H σ _ Step.refl hd .non
/-- what is handed back is the caller's own -/
def sRetF (m : En → Res MO) (e : En) : Fl := match m e with
  | .ok d e1 => .ret (.own d) e1
  | .exc x e1 => .exc x e1
  | .bad => .bad
theorem evs_retF {t : TE} {m : En → Res MO} (h : EvF K mg W t m) : EvS K mg W (tRet t) (sRetF m) := by
  intro Z G H σ env D hd q
  refine h Z G H σ env _ hd ?_
  unfold sRetF at q
  cases e : m env with
  | ok d e1 => rw [e] at q; exact fun G' H' p o s hd' a b c d r => q G' H' σ p o s hd' a (.inr b) c d r
  | exc x e1 => rw [e] at q; exact PoX.toS q
  | bad => rw [e] at q; exact q
/-- slot i forgotten -/
theorem Hold.drop (h : Hold K Z G H σ env) (i : Nat) : Hold K Z G H σ (env.set i .none) ∧ Step Z G H σ env G H σ (env.set i .none) := by
  have back : ∀ j a, OwnAt σ (env.set i .none) j a → j ≠ i ∧ OwnAt σ env j a := fun j a ⟨q1, s, m', q2, q3⟩ => by
    rcases getElem?_set_cases q2 with ⟨_, z, _⟩ | ⟨n, z⟩
    · subst z; cases q3
    · exact ⟨Ne.symm n, q1, s, m', z, q3⟩
  refine ⟨⟨h.ex, h.nt, by rw [List.length_set]; exact h.len, fun j s e => ?_, fun j k a z1 z2 => h.dis j k a (back j a z1).2 (back k a z2).2, fun j d e => ?_, h.zt⟩,
    ⟨Same.refl _, fun _ _ q _ _ _ => q, fun _ _ _ g _ _ => g, fun _ q => q, fun j m' e => ?_, fun a ⟨j, m', z1, z2⟩ => ?_⟩⟩
  · rcases getElem?_set_cases e with ⟨_, z, _⟩ | ⟨n, z⟩
    · subst z; trivial
    · exact h.sl j s z
  · rcases getElem?_set_cases e with ⟨_, z, _⟩ | ⟨n, z⟩
    · cases z
    · obtain ⟨v, R, q1, q2, q3, q4⟩ := h.fr j d z
      exact ⟨v, R, q1, q2, fun a u w => ⟨(q3 a u w).1, fun ⟨k, z⟩ => (q3 a u w).2.1 ⟨k, (back k a z).2⟩, (q3 a u w).2.2⟩, q4⟩
  · rcases getElem?_set_cases e with ⟨_, z, _⟩ | ⟨n, z⟩
    · cases z
    · exact ⟨⟨m', z⟩, rfl⟩
  · rcases getElem?_set_cases z2 with ⟨_, z, _⟩ | ⟨n, z⟩
    · cases z
    · exact .inl ⟨j, m', z1, z⟩
def sRetO (i : Nat) (e : En) : Fl := match e[i]? with
  | some (.own m) => .ret (.own m) (e.set i .none)
  | _ => .bad
theorem evs_retO {i : Nat} : EvS K mg W (tRet (tVar i)) (sRetO i) := by
  intro Z G H σ env D hd q
  unfold sRetO at q
  cases e : env[i]? with
  | none => rw [e] at q; exact False.elim q
  | some s =>
    rw [e] at q
    cases s with
    | own m =>
      obtain ⟨p, o, h1, h2, h3, h4⟩ := hd.own_get e rfl
      obtain ⟨d1, d2⟩ := hd.drop i
      have oi : OwnAt σ env i p := .of h1 e rfl
      refine ⟨_, h1, q G H σ p o d2 ⟨d1.ex, d1.nt, d1.len, d1.sl, d1.dis, fun j d z => ?_, fun a z => by
        rcases z with z | z
        · exact hd.zt a z
        · exact ⟨o, by rw [z]; exact h2⟩⟩ h2 (.inl ⟨i, m, h1, e⟩) h3 (fun ⟨j, z⟩ => ?_) h4⟩
      · rcases getElem?_set_cases z with ⟨_, z, _⟩ | ⟨n, z⟩
        · cases z
        · obtain ⟨v, R, q1, q2, q3, q4⟩ := hd.fr j d z
          refine ⟨v, R, q1, q2, fun a u w => ⟨(q3 a u w).1, fun z => ?_, fun z => ?_, (q3 a u w).2.2.2⟩, q4⟩
          · rcases d2.own a z with z | z
            · exact (q3 a u w).2.1 z
            · rw [q2 a u w] at z; cases z
          · rcases z with z | z
            · exact (q3 a u w).2.2.1 z
            · exact (q3 a u w).2.1 (by rw [z]; exact ⟨i, oi⟩)
      · obtain ⟨w1, s, m', w2, w3⟩ := z
        rcases getElem?_set_cases w2 with ⟨_, z, _⟩ | ⟨n, z⟩
        · subst z; cases w3
        · exact n (hd.dis i j p oi (.of w1 z w3))
    | none => exact False.elim q
    | imm d => exact False.elim q
    | fre d => exact False.elim q
    | par m => exact False.elim q
/-! ### targets -/
/-- data is stored -/
def EvG (K : PySem.W.Frag) (g : TG) (m : D → En → Option En) : Prop := ∀ Z G H σ env v d e Q, Hold K Z G H σ env → Rep K G v d → m d env = some e → (∀ σ', Step Z G H σ env G H σ' e → Hold K Z G H σ' e → Q σ' H) → g v σ H Q
def EvGs (K : PySem.W.Frag) (g : TGs) (m : List D → En → Option En) : Prop := ∀ Z G H σ env vs ds e Q, Hold K Z G H σ env → RepL K G vs ds → m ds env = some e → (∀ σ', Step Z G H σ env G H σ' e → Hold K Z G H σ' e → Q σ' H) → g vs σ H Q
def gN (i : Nat) (d : D) (e : En) : Option En := if i < e.length then some (e.set i (.imm d)) else none
def gsNil (ds : List D) (e : En) : Option En := match ds with
  | [] => some e
  | _ => none
def gsCons (a : D → En → Option En) (b : List D → En → Option En) (ds : List D) (e : En) : Option En := match ds with
  | d :: r => (a d e).bind fun e1 => b r e1
  | [] => none
def gT (n : Nat) (b : List D → En → Option En) (d : D) (e : En) : Option En := match d with
  | .tup ds => if ds.length = n then b ds e else none
  | _ => none
theorem evg_name {i : Nat} : EvG K (gName i) (gN i) := by
  intro Z G H σ env v d e Q hd r hm h
  unfold gN at hm
  by_cases c : i < env.length
  · rw [if_pos c] at hm; cases hm
    refine h _ (Step.put hd.len (fun m z => by cases z) (fun m z => by cases z) Step.refl) (hd.put c ⟨v, rfl, r⟩ (fun m z => by cases z) (fun m z => by cases z) (fun d z => by cases z))
  · rw [if_neg c] at hm; cases hm
theorem evgs_nil : EvGs K gNil gsNil := by
  intro Z G H σ env vs ds e Q hd r hm h
  cases r with
  | nil => cases hm; exact ⟨rfl, h σ Step.refl hd⟩
  | cons _ _ => cases hm
theorem evgs_cons {t : TG} {u : TGs} {a : D → En → Option En} {b : List D → En → Option En} (ha : EvG K t a) (hb : EvGs K u b) : EvGs K (gCons t u) (gsCons a b) := by
  intro Z G H σ env vs ds e Q hd r hm h
  cases r with
  | nil => cases hm
  | cons r1 rr =>
    rename_i v d vr dr
    have hm : ((a d env).bind fun e1 => b dr e1) = some e := hm
    cases q : a d env with
    | none => rw [q] at hm; cases hm
    | some e1 =>
      rw [q] at hm
      refine ⟨v, vr, rfl, ha Z G H σ env v d e1 _ hd r1 q fun σ1 s1 hd1 => ?_⟩
      exact hb Z G H σ1 e1 vr dr e Q hd1 rr hm fun σ2 s2 hd2 => h σ2 (s1.trans s2) hd2
theorem evg_tup {n : Nat} {t : TGs} {b : List D → En → Option En} (hb : EvGs K t b) : EvG K (gTup K n t) (gT n b) := by
  intro Z G H σ env v d e Q hd r hm h
  unfold gT at hm
  cases d with
  | tup ds =>
    cases r with
    | tup a rs =>
      dsimp only at hm
      by_cases c : ds.length = n
      · rw [if_pos c] at hm
        exact ⟨_, _, rfl, SqT.of (hd.ex _ _ a), by rw [rs.length]; exact c, hb Z G H σ env _ ds e Q hd rs hm h⟩
      · rw [if_neg c] at hm; cases hm
  | _ => cases hm
/-- target = value -/
def sAsg (m : En → Res D) (g : D → En → Option En) (e : En) : Fl := match m e with
  | .ok d e1 => (match g d e1 with
    | some e2 => .next e2
    | none => .bad)
  | .exc x e1 => .exc x e1
  | .bad => .bad
theorem evs_asg {t : TE} {m : En → Res D} {g : TG} {mg' : D → En → Option En} (h : EvE K mg W t m) (hg : EvG K g mg') : EvS K mg W (tAsg t g) (sAsg m mg') := by
  intro Z G H σ env D hd q
  refine h Z G H σ env _ hd ?_
  unfold sAsg at q
  cases e : m env with
  | ok d e1 =>
    rw [e] at q
    dsimp only at q
    cases e2 : mg' d e1 with
    | none => rw [e2] at q; exact False.elim q
    | some e3 => rw [e2] at q; exact fun G' H' v s hd' r => hg Z G' H' σ e1 v d e3 _ hd' r e2 fun σ' s2 hd2 => q G' H' σ' (s.trans s2) hd2
  | exc x e1 => rw [e] at q; exact PoX.toS q
  | bad => rw [e] at q; exact q
/-- name = a new object of my own -/
def sAsgF (m : En → Res MO) (i : Nat) (e : En) : Fl := match m e with
  | .ok d e1 => if i < e1.length then .next (e1.set i (.own d)) else .bad
  | .exc x e1 => .exc x e1
  | .bad => .bad
theorem evs_asgF {t : TE} {m : En → Res MO} {i : Nat} (h : EvF K mg W t m) : EvS K mg W (tAsg t (gName i)) (sAsgF m i) := by
  intro Z G H σ env D hd q
  refine h Z G H σ env _ hd ?_
  unfold sAsgF at q
  cases e : m env with
  | ok d e1 =>
    rw [e] at q
    dsimp only at q
    by_cases c : i < e1.length
    · rw [if_pos c] at q
      intro G' H' p o s hd' a b c' d' r
      refine q G' H' _ (Step.put hd'.len (fun m z => by cases z) (fun m z p' z' => ?_) s) ((hd'.put (s := .own d) (v := .ref p) c ⟨p, o, rfl, a, c', r⟩ (fun m z p' z' => ?_) (fun m z p' z' => ?_) (fun d z => by cases z)).weak fun a z => .inl z)
      · cases z'; exact .inr b
      · cases z'; exact d'
      · cases z'; exact .inr rfl
    · rw [if_neg c] at q; exact False.elim q
  | exc x e1 => rw [e] at q; exact PoX.toS q
  | bad => rw [e] at q; exact q
/-- a, b = e1, e2 -/
def sPar (i j : Nat) (m : En → Res (List D)) (e : En) : Fl := match m e with
  | .ok [x, y] e1 => (match (gN i x e1).bind fun e2 => gN j y e2 with
    | some e2 => .next e2
    | none => .bad)
  | .ok _ _ => .bad
  | .exc x e1 => .exc x e1
  | .bad => .bad
theorem evs_par {i j : Nat} {t : TA} {m : En → Res (List D)} (h : EvV K mg W t m) : EvS K mg W (tPar i j t) (sPar i j m) := by
  intro Z G H σ env D hd q
  refine h Z G H σ env _ hd ?_
  unfold sPar at q
  cases e : m env with
  | ok ds e1 =>
    rw [e] at q
    match ds, q with
    | [x, y], q =>
      dsimp only at q
      intro G' H' vs s hd' rs
      cases e2 : gN i x e1 with
      | none => rw [e2] at q; exact False.elim q
      | some e3 =>
        rw [e2] at q
        simp only [Option.bind_some] at q
        cases e4 : gN j y e3 with
        | none => rw [e4] at q; exact False.elim q
        | some e5 =>
          rw [e4] at q
          cases rs with
          | cons r1 rr =>
            cases rr with
            | cons r2 rr =>
              cases rr
              refine ⟨_, _, rfl, ?_⟩
              refine evg_name (K := K) (i := i) Z G' H' σ e1 _ x e3 (fun σ1 H1 => D.nx (σ1.set j (some _)) H1) hd' r1 e2 fun σ1 s1 hd1 => ?_
              exact evg_name (K := K) (i := j) Z G' H' σ1 e3 _ y e5 D.nx hd1 r2 e4 fun σ2 s2 hd2 => q G' H' σ2 ((s.trans s1).trans s2) hd2
    | [], q => exact False.elim q
    | [_], q => exact False.elim q
    | _ :: _ :: _ :: _, q => exact False.elim q
  | exc x e1 => rw [e] at q; exact PoX.toS q
  | bad => rw [e] at q; exact q
/-! ### my objects changed -/
/-- the slot's object, replaced -/
def Sl.put (s : Sl) (m : MO) : Sl := match s with
  | .own _ => .own m
  | .par _ => .par m
  | s => s
theorem put_ok {s : Sl} {m m' : MO} (h : s.mo = some m) : (s = .own m ∧ s.put m' = .own m') ∨ (s = .par m ∧ s.put m' = .par m') := by
  cases s with
  | own x => cases h; exact .inl ⟨rfl, rfl⟩
  | par x => cases h; exact .inr ⟨rfl, rfl⟩
  | none => cases h
  | imm d => cases h
  | fre d => cases h
def ownL (e : En) (i : Nat) : Option (List D) := match e[i]? with
  | some (.own (.lst ds)) => some ds
  | some (.par (.lst ds)) => some ds
  | _ => none
def setL (e : En) (i : Nat) (ds : List D) : En := match e[i]? with
  | some s => e.set i (s.put (.lst ds))
  | none => e
theorem ownL_get (hd : Hold K Z G H σ env) {i : Nat} {ds : List D} (h : ownL env i = some ds) : ∃ p xs, σ[i]? = some (some (.ref p)) ∧ H p = some (.lst xs) ∧ RepL K G xs ds ∧
    ∀ ys es, RepL K G ys es → Hold K Z G (upd H p (.lst ys)) σ (setL env i es) ∧ Step Z G H σ env G (upd H p (.lst ys)) σ (setL env i es) := by
  unfold ownL at h
  unfold setL
  cases e : env[i]? with
  | none => rw [e] at h; cases h
  | some s =>
    rw [e] at h
    have key : s.mo = some (.lst ds) → ∃ p xs, σ[i]? = some (some (.ref p)) ∧ H p = some (.lst xs) ∧ RepL K G xs ds ∧
        ∀ ys es, RepL K G ys es → Hold K Z G (upd H p (.lst ys)) σ (env.set i (s.put (.lst es))) ∧ Step Z G H σ env G (upd H p (.lst ys)) σ (env.set i (s.put (.lst es))) := fun hm => by
      obtain ⟨p, o, h1, h2, h3, h4⟩ := hd.own_get e hm
      cases h4 with
      | lst r => exact ⟨p, _, h1, h2, r, fun ys es r' => hd.mut e hm h1 (put_ok hm) (.lst r')⟩
    cases s with
    | own m =>
      cases m with
      | lst ds' => cases h; exact key rfl
      | ins c fs => cases h
    | par m =>
      cases m with
      | lst ds' => cases h; exact key rfl
      | ins c fs => cases h
    | none => cases h
    | imm d => cases h
    | fre d => cases h
/-- xs.append(e) -/
def eApp (i : Nat) (m : En → Res D) (e : En) : Res D := match ownL e i with
  | none => .bad
  | some _ => (m e).bind fun d e1 => match ownL e1 i with
    | some ds => if ds.length < sizeLine then .ok .non (setL e1 i (ds ++ [d])) else .bad
    | none => .bad
theorem eve_app {i : Nat} {t : TE} {m : En → Res D} (h : EvE K mg W t m) : EvE K mg W (tBM K "list" rAppend (tVar i) (tCons t tNil)) (eApp i m) := by
  intro Z G H σ env Q hd q
  unfold eApp at q
  cases e0 : ownL env i with
  | none => rw [e0] at q; exact False.elim q
  | some ds0 =>
    rw [e0] at q
    obtain ⟨p0, xs0, h1, h2, _, _⟩ := ownL_get hd e0
    refine ⟨_, h1, .inl ⟨rfl, _, SqL.of h2⟩, ?_⟩
    refine h.after hd (Bad := fun r => PoE K mg W Z G H σ env r Q) q (fun z => z) (fun x e z => z) fun d e G1 H1 v q1 s hd1 rv => ?_
    cases e1 : ownL e i with
    | none => rw [e1] at q1; exact False.elim q1
    | some ds =>
      rw [e1] at q1
      dsimp only at q1
      obtain ⟨p, xs, k1, k2, k3, k4⟩ := ownL_get hd1 e1
      by_cases c : ds.length < sizeLine
      · rw [if_pos c] at q1
        obtain ⟨w1, w2⟩ := k4 _ _ (k3.append (.cons rv .nil))
        have ep : p0 = p := by rw [h1] at k1; cases k1; rfl
        exact ⟨p, xs, v, by rw [ep], rfl, k2, by rw [k3.length]; exact c, q1 G1 _ _ (s.trans w2) w1 .non⟩
      · rw [if_neg c] at q1; exact False.elim q1
/-- xs.pop() -/
def ePop (i : Nat) (e : En) : Res D := match ownL e i with
  | none => .bad
  | some ds => match ds[ds.length - 1]? with
    | some d => .ok d (setL e i ds.dropLast)
    | none => .bad
theorem RepL.dropLast {H : Hp} {xs : List V} {ds : List D} (r : RepL K H xs ds) : RepL K H xs.dropLast ds.dropLast := by
  rw [List.dropLast_eq_take, List.dropLast_eq_take, r.length]
  exact r.take _
theorem eve_pop {i : Nat} : EvE K mg W (tBM0 K "list" rPop (tVar i)) (ePop i) := by
  intro Z G H σ env Q hd q
  unfold ePop at q
  cases e0 : ownL env i with
  | none => rw [e0] at q; exact False.elim q
  | some ds =>
    rw [e0] at q
    dsimp only at q
    obtain ⟨p, xs, h1, h2, h3, h4⟩ := ownL_get hd e0
    cases e1 : ds[ds.length - 1]? with
    | none => rw [e1] at q; exact False.elim q
    | some d =>
      rw [e1] at q
      obtain ⟨w1, w2⟩ := h4 _ _ h3.dropLast
      obtain ⟨v, a, b⟩ := h3.get e1
      exact ⟨_, h1, .inl ⟨rfl, _, SqL.of h2⟩, p, xs, v, rfl, rfl, h2, by rw [h3.length]; exact a, q G _ v w2 w1 b⟩
/-- xs.pop(k) -/
def ePopAt (i : Nat) (m : En → Res D) (e : En) : Res D := match ownL e i with
  | none => .bad
  | some _ => (m e).bind fun d e1 => match d, ownL e1 i with
    | .int k, some ds => if -(2 ^ 63) ≤ k ∧ k < 2 ^ 63 then (match seqIndex? k ds.length with
      | some j => (match ds[j]? with
        | some x => .ok x (setL e1 i (ds.eraseIdx j))
        | none => .bad)
      | none => .bad) else .bad
    | _, _ => .bad
theorem eve_popAt {i : Nat} {t : TE} {m : En → Res D} (h : EvE K mg W t m) : EvE K mg W (tBM K "list" rPopAt (tVar i) (tCons t tNil)) (ePopAt i m) := by
  intro Z G H σ env Q hd q
  unfold ePopAt at q
  cases e0 : ownL env i with
  | none => rw [e0] at q; exact False.elim q
  | some ds0 =>
    rw [e0] at q
    obtain ⟨p0, xs0, h1, h2, _, _⟩ := ownL_get hd e0
    refine ⟨_, h1, .inl ⟨rfl, _, SqL.of h2⟩, ?_⟩
    refine h.after hd (Bad := fun r => PoE K mg W Z G H σ env r Q) q (fun z => z) (fun x e z => z) fun d e G1 H1 v q1 s hd1 rv => ?_
    cases d with
    | int k =>
      cases e1 : ownL e i with
      | none => rw [e1] at q1; exact False.elim q1
      | some ds =>
        rw [e1] at q1
        dsimp only at q1
        obtain ⟨p, xs, k1, k2, k3, k4⟩ := ownL_get hd1 e1
        by_cases c : -(2 ^ 63) ≤ k ∧ k < 2 ^ 63
        · rw [if_pos c] at q1
          cases e2 : seqIndex? k ds.length with
          | none => rw [e2] at q1; exact False.elim q1
          | some j =>
            rw [e2] at q1
            dsimp only at q1
            cases e3 : ds[j]? with
            | none => rw [e3] at q1; exact False.elim q1
            | some x =>
              rw [e3] at q1
              obtain ⟨w, a, b⟩ := k3.get e3
              obtain ⟨w1, w2⟩ := k4 _ _ (k3.eraseIdx j)
              have ep : p0 = p := by rw [h1] at k1; cases k1; rfl
              cases rv
              exact ⟨p, xs, k, j, w, by rw [ep], rfl, k2, c.1, c.2, by rw [k3.length]; exact e2, a, q1 G1 _ w (s.trans w2) w1 b⟩
        · rw [if_neg c] at q1; exact False.elim q1
    | _ => exact False.elim q1
/-- xs[i] = value -/
def sSetIx (i : Nat) (mi : En → RP D) (m : En → Res D) (e : En) : Fl := match m e with
  | .ok d e1 => (match ownL e1 i with
    | none => .bad
    | some ds => (match mi e1 with
      | .ok (.int k) => (match ixN ds.length k with
        | some j => .next (setL e1 i (ds.set j d))
        | none => .bad)
      | _ => .bad))
  | .exc x e1 => .exc x e1
  | .bad => .bad
theorem evs_setIx {i : Nat} {t ti : TE} {m : En → Res D} {mi : En → RP D} (h : EvE K mg W t m) (hi : EvP K mg W ti mi) : EvS K mg W (tAsg t (gSub (tVar i) ti rSetL)) (sSetIx i mi m) := by
  intro Z G H σ env D hd q
  refine h Z G H σ env _ hd ?_
  unfold sSetIx at q
  cases e : m env with
  | exc x e1 => rw [e] at q; exact PoX.toS q
  | bad => rw [e] at q; exact q
  | ok d e1 =>
    rw [e] at q
    dsimp only at q
    intro G1 H1 v s hd1 rv
    cases e0 : ownL e1 i with
    | none => rw [e0] at q; exact False.elim q
    | some ds =>
      rw [e0] at q
      dsimp only at q
      obtain ⟨p, xs, h1, h2, _, _⟩ := ownL_get hd1 e0
      refine ⟨_, h1, ?_⟩
      refine hi Z G1 H1 σ e1 _ hd1 ?_
      cases e2 : mi e1 with
      | bad => rw [e2] at q; exact False.elim q
      | exc x => rw [e2] at q; exact False.elim q
      | ok k =>
        rw [e2] at q
        cases k with
        | int k =>
          dsimp only at q
          cases e3 : ixN ds.length k with
          | none => rw [e3] at q; exact False.elim q
          | some j =>
            rw [e3] at q
            intro H2 w g rw'
            have hd2 := hd1.grow g
            obtain ⟨p', xs', k1, k2, k3, k4⟩ := ownL_get hd2 e0
            rw [h1] at k1; cases k1
            obtain ⟨w1, w2⟩ := k4 _ _ (RepL.set rv j k3)
            exact ⟨p, xs', k, j, rfl, rep_int rw', k2, by rw [k3.length]; exact e3, q G1 _ σ ((s.trans (Step.grow g)).trans w2) w1⟩
        | _ => exact False.elim q
/-- xs[i] += value, whole numbers -/
def rAugI (f : Int → Int → Int) (x y : D) : Option D := match x, y with
  | .int a, .int b => some (.int (f a b))
  | _, _ => none
def sAugIx (f : Int → Int → Int) (i : Nat) (mi : En → RP D) (m : En → RP D) (e : En) : Fl := match ownL e i with
  | none => .bad
  | some ds => (match mi e with
    | .ok (.int k) => (match ixN ds.length k with
      | some j => (match ds[j]? with
        | some (.int a) => (match m e with
          | .ok (.int b) => .next (setL e i (ds.set j (.int (f a b))))
          | _ => .bad)
        | _ => .bad)
      | none => .bad)
    | _ => .bad)
theorem evs_augIx {f : Int → Int → Int} {i : Nat} {t ti : TE} {m mi : En → RP D} (h : EvP K mg W t m) (hi : EvP K mg W ti mi) : EvS K mg W (tAugS (tVar i) ti t (rIxL K) (ipI f) rSetL) (sAugIx f i mi m) := by
  intro Z G H σ env D hd q
  unfold sAugIx at q
  cases e0 : ownL env i with
  | none => rw [e0] at q; exact False.elim q
  | some ds =>
    rw [e0] at q
    dsimp only at q
    obtain ⟨p, xs, h1, h2, _, _⟩ := ownL_get hd e0
    refine ⟨_, h1, ?_⟩
    refine hi Z G H σ env _ hd ?_
    cases e2 : mi env with
    | bad => rw [e2] at q; exact False.elim q
    | exc x => rw [e2] at q; exact False.elim q
    | ok k =>
      rw [e2] at q
      cases k with
      | int k =>
        dsimp only at q
        cases e3 : ixN ds.length k with
        | none => rw [e3] at q; exact False.elim q
        | some j =>
          rw [e3] at q
          dsimp only at q
          cases e4 : ds[j]? with
          | none => rw [e4] at q; exact False.elim q
          | some x =>
            rw [e4] at q
            cases x with
            | int a =>
              dsimp only at q
              intro H2 w g rw'
              have hd2 := hd.grow g
              obtain ⟨p', xs', k1, k2, k3, k4⟩ := ownL_get hd2 e0
              rw [h1] at k1; cases k1
              obtain ⟨va, a1, a2⟩ := k3.get e4
              refine ⟨p, xs', k, va, rfl, rep_int rw', SqL.of k2, by unfold atI; rw [k3.length, e3]; exact a1, ?_⟩
              refine h Z G H2 σ env _ hd2 ?_
              cases e5 : m env with
              | bad => rw [e5] at q; exact False.elim q
              | exc x => rw [e5] at q; exact False.elim q
              | ok b =>
                rw [e5] at q
                cases b with
                | int b =>
                  dsimp only at q
                  intro H3 w3 g3 r3
                  have hd3 := hd2.grow g3
                  obtain ⟨p', xs3, k1, j2, j3, j4⟩ := ownL_get hd3 e0
                  rw [h1] at k1; cases k1
                  obtain ⟨w1, w2⟩ := j4 _ _ (RepL.set (.int (f a b)) j j3)
                  exact ⟨a, b, rep_int a2, rep_int r3, p, xs3, k, j, rfl, rep_int rw', j2, by rw [j3.length]; exact e3, q G _ σ ((Step.grow (g.trans g3)).trans w2) w1⟩
                | _ => exact False.elim q
            | _ => exact False.elim q
      | _ => exact False.elim q
/-- name += value, whole numbers -/
def sAug (f : Int → Int → Int) (i : Nat) (m : En → Res D) (e : En) : Fl := match e[i]? with
  | some (.imm (.int a)) => (match m e with
    | .ok (.int b) e1 => if i < e1.length then .next (e1.set i (.imm (.int (f a b)))) else .bad
    | .ok _ _ => .bad
    | .exc x e1 => .exc x e1
    | .bad => .bad)
  | _ => .bad
theorem evs_aug {f : Int → Int → Int} {i : Nat} {t : TE} {m : En → Res D} (h : EvE K mg W t m) : EvS K mg W (tAug i t (ipI f)) (sAug f i m) := by
  intro Z G H σ env D hd q
  unfold sAug at q
  cases e : env[i]? with
  | none => rw [e] at q; exact False.elim q
  | some s =>
    rw [e] at q
    cases s with
    | imm d =>
      cases d with
      | int a =>
        dsimp only at q
        obtain ⟨v, h1, h2⟩ := hd.imm_get e
        refine ⟨v, h1, ?_⟩
        refine h Z G H σ env _ hd ?_
        cases e2 : m env with
        | bad => rw [e2] at q; exact q
        | exc x e1 => rw [e2] at q; exact PoX.toS q
        | ok b e1 =>
          rw [e2] at q
          cases b with
          | int b =>
            dsimp only at q
            intro G1 H1 w s hd1 r
            by_cases c : i < e1.length
            · rw [if_pos c] at q
              exact ⟨a, b, rep_int h2, rep_int r, evg_name (K := K) (i := i) Z G1 H1 σ e1 _ (.int (f a b)) _ D.nx hd1 (.int _) (by unfold gN; rw [if_pos c]) fun σ' s2 hd2 => q G1 H1 σ' (s.trans s2) hd2⟩
            · rw [if_neg c] at q; exact False.elim q
          | _ => exact False.elim q
      | _ => exact False.elim q
    | none => exact False.elim q
    | own m => exact False.elim q
    | par m => exact False.elim q
    | fre d => exact False.elim q
end
end Cv
end

section
set_option Elab.async false
set_option linter.all false
set_option maxRecDepth 100000
set_option maxHeartbeats 4000000
set_option autoImplicit false
/-! CvG: loops, comprehensions. -/
namespace Cv
open PySem L2
/-- what J walks: the data ds, as long as the data G stands -/
structure Src (K : PySem.W.Frag) (J : It) (G : Hp) (ds : List D) : Prop where
  item : ∀ (i : Nat) (d : D) (H : Hp), ds[i]? = some d → Same G H → J.go i H ∧ ∀ x H', J.yld i H x H' → (H' = H ∧ Rep K G x d) ∨ ∃ t xs es, H t = none ∧ H' = upd H t (.tup xs) ∧ x = .ref t ∧ d = .tup es ∧ RepL K G xs es
  done : ∀ (H : Hp), Same G H → J.stop ds.length H
def PoI (K : PySem.W.Frag) (mg : Str → Option Value) (W : WX) (Z : Addr → Prop) (G H : Hp) (σ : L2.St) (env : En) (r : Res (List D)) (R : It → Hp → Prop) : Prop := match r with
  | .ok ds e => ∀ G' H' J, Step Z G H σ env G' H' σ e → Hold K Z G' H' σ e → Src K J G' ds → R J H'
  | .exc x e => PoX K mg W Z G H σ env x e
  | .bad => False
def EvI (K : PySem.W.Frag) (mg : Str → Option Value) (W : WX) (t : TI) (m : En → Res (List D)) : Prop := ∀ Z G H σ env R, Hold K Z G H σ env → PoI K mg W Z G H σ env (m env) R → t σ H R
section
variable {K : PySem.W.Frag} {mg : Str → Option Value} {W : WX} {Z : Addr → Prop} {G H : Hp} {σ : L2.St} {env : En}
/-! ### sources -/
def rng (lo : Int) (n : Nat) : List D := (List.range n).map fun (i : Nat) => D.int (lo + i)
theorem rng_get {lo : Int} {n i : Nat} {d : D} (h : (rng lo n)[i]? = some d) : i < n ∧ d = .int (lo + i) := by
  unfold rng at h
  rw [List.getElem?_map] at h
  cases e : (List.range n)[i]? with
  | none => rw [e] at h; cases h
  | some j =>
    rw [e] at h
    have hi : i < n := by
      have := (List.getElem?_eq_some_iff.mp e).1
      rwa [List.length_range] at this
    rw [List.getElem?_range hi] at e
    cases e; cases h
    exact ⟨hi, rfl⟩
theorem rng_len (lo : Int) (n : Nat) : (rng lo n).length = n := by unfold rng; rw [List.length_map, List.length_range]
theorem src_range (lo : Int) (n : Nat) : Src K (Itr lo n) G (rng lo n) where
  item := fun i d H h _ => by
    obtain ⟨hi, rfl⟩ := rng_get h
    exact ⟨hi, fun x H' y => .inl ⟨y.1, by rw [y.2]; exact .int _⟩⟩
  done := fun H _ => by
    show n ≤ (rng lo n).length
    rw [rng_len]
    exact Nat.le_refl n
def iR1 (m : En → Res (List D)) (e : En) : Res (List D) := (m e).bind fun ds e1 => match ds with
  | [.int j] => if -(2 ^ 62) ≤ j ∧ j < 2 ^ 62 then .ok (rng 0 j.toNat) e1 else .bad
  | _ => .bad
def iR2 (m : En → Res (List D)) (e : En) : Res (List D) := (m e).bind fun ds e1 => match ds with
  | [.int i, .int j] => if -(2 ^ 62) ≤ i ∧ i < 2 ^ 62 ∧ -(2 ^ 62) ≤ j ∧ j < 2 ^ 62 then .ok (rng i (j - i).toNat) e1 else .bad
  | _ => .bad
theorem evi_r1 {t : TA} {m : En → Res (List D)} (h : EvV K mg W t m) : EvI K mg W (iRng1 t) (iR1 m) := by
  intro Z G H σ env R hd q
  refine h.after hd (Bad := fun r => PoI K mg W Z G H σ env r R) q (fun z => z) (fun x e z => z) fun ds e G1 H1 vs q1 s hd1 rs => ?_
  match ds, rs, q1 with
  | [.int j], .cons r .nil, q1 =>
    cases r
    dsimp only at q1
    by_cases c : -(2 ^ 62) ≤ j ∧ j < 2 ^ 62
    · rw [if_pos c] at q1
      exact ⟨j, rfl, c.1, c.2, q1 G1 H1 _ s hd1 (src_range 0 j.toNat)⟩
    · rw [if_neg c] at q1; exact False.elim q1
  | [], _, q1 => exact False.elim q1
  | _ :: _ :: _, _, q1 => simp at q1; exact False.elim q1
  | [.non], _, q1 => exact False.elim q1
  | [.bl _], _, q1 => exact False.elim q1
  | [.str _], _, q1 => exact False.elim q1
  | [.lst _], _, q1 => exact False.elim q1
  | [.rls _], _, q1 => exact False.elim q1
  | [.tup _], _, q1 => exact False.elim q1
  | [.obj _ _], _, q1 => exact False.elim q1
theorem evi_r2 {t : TA} {m : En → Res (List D)} (h : EvV K mg W t m) : EvI K mg W (iRng2 t) (iR2 m) := by
  intro Z G H σ env R hd q
  refine h.after hd (Bad := fun r => PoI K mg W Z G H σ env r R) q (fun z => z) (fun x e z => z) fun ds e G1 H1 vs q1 s hd1 rs => ?_
  have key : ∀ i j, ds = [.int i, .int j] → iRng2 (fun _ H Q => Q vs H) σ H1 R := fun i j e => by
    subst e
    dsimp only at q1
    by_cases c : -(2 ^ 62) ≤ i ∧ i < 2 ^ 62 ∧ -(2 ^ 62) ≤ j ∧ j < 2 ^ 62
    · rw [if_pos c] at q1
      match rs with
      | .cons r1 (.cons r2 .nil) =>
        cases r1; cases r2
        exact ⟨i, j, rfl, c, q1 G1 H1 _ s hd1 (src_range i (j - i).toNat)⟩
    · rw [if_neg c] at q1; exact False.elim q1
  split at q1
  · rename_i i j; exact key i j rfl
  · exact False.elim q1
/-- the list at p, as data -/
theorem src_list {p : Addr} {xs : List V} {ds : List D} (sq : SqL K G p xs) (r : RepL K G xs ds) : Src K (Itl K p) G ds where
  item := fun i d H h ex => by
    obtain ⟨v, h1, h2⟩ := r.get h
    have sq := SqL.kp (Kp.of ex) sq
    exact ⟨⟨xs, v, sq, h1⟩, fun x H' y => .inl ⟨y.1, by have := y.2 xs sq; rw [h1] at this; cases this; exact h2⟩⟩
  done := fun H ex => ⟨xs, SqL.kp (Kp.of ex) sq, by rw [r.length]; exact Nat.le_refl _⟩
theorem src_tup {p : Addr} {xs : List V} {ds : List D} (sq : SqT K G p xs) (r : RepL K G xs ds) : Src K (Itt K p) G ds where
  item := fun i d H h ex => by
    obtain ⟨v, h1, h2⟩ := r.get h
    have sq := SqT.kp (Kp.of ex) sq
    exact ⟨⟨xs, v, sq, h1⟩, fun x H' y => .inl ⟨y.1, by have := y.2 xs sq; rw [h1] at this; cases this; exact h2⟩⟩
  done := fun H ex => ⟨xs, SqT.kp (Kp.of ex) sq, by rw [r.length]; exact Nat.le_refl _⟩
theorem not_own_G (h : Hold K Z G H σ env) {p : Addr} {o : HO} (hp : G p = some o) : ¬ Own σ env p := fun z => by
  have := (h.not_in z).1
  rw [hp] at this; cases this
def iLst (m : En → Res D) (e : En) : Res (List D) := (m e).bind fun d e1 => match d with
  | .lst ds => .ok ds e1
  | .rls ds => .ok ds e1
  | _ => .bad
def iTupl (m : En → Res D) (e : En) : Res (List D) := (m e).bind fun d e1 => match d with
  | .tup ds => .ok ds e1
  | _ => .bad
theorem evi_lst {t : TE} {m : En → Res D} (h : EvE K mg W t m) : EvI K mg W (iList K t) (iLst m) := by
  intro Z G H σ env R hd q
  refine h.after hd (Bad := fun r => PoI K mg W Z G H σ env r R) q (fun z => z) (fun x e z => z) fun d e G1 H1 v q1 s hd1 rv => ?_
  cases d with
  | lst ds =>
    cases rv with
    | lst a r => exact ⟨_, rfl, ⟨_, SqL.of (hd1.ex _ _ a)⟩, q1 G1 H1 _ s hd1 (src_list (SqL.of a) r)⟩
  | rls ds =>
    cases rv with
    | rls a r => exact ⟨_, rfl, ⟨_, SqL.kp (Kp.of hd1.ex) a⟩, q1 G1 H1 _ s hd1 (src_list a r)⟩
  | _ => exact False.elim q1
theorem evi_tup {t : TE} {m : En → Res D} (h : EvE K mg W t m) : EvI K mg W (iTup K t) (iTupl m) := by
  intro Z G H σ env R hd q
  refine h.after hd (Bad := fun r => PoI K mg W Z G H σ env r R) q (fun z => z) (fun x e z => z) fun d e G1 H1 v q1 s hd1 rv => ?_
  cases d with
  | tup ds =>
    cases rv with
    | tup a r => exact ⟨_, rfl, ⟨_, SqT.of (hd1.ex _ _ a)⟩, q1 G1 H1 _ s hd1 (src_tup (SqT.of a) r)⟩
  | _ => exact False.elim q1
theorem evi_lstF {t : TE} {m : En → Res MO} (h : EvF K mg W t m) : EvI K mg W (iList K t) (iLst (eOfF m)) := evi_lst (eve_f h)
/-! ### for -/
def forL (tg : D → En → Option En) (body : En → Fl) : List D → En → Fl
  | [], e => .next e
  | d :: r, e => match tg d e with
    | none => .bad
    | some e1 => match body e1 with
      | .next e2 => forL tg body r e2
      | .cont e2 => forL tg body r e2
      | .brk e2 => .next e2
      | f => f
def sFor (src : En → Res (List D)) (tg : D → En → Option En) (body : En → Fl) (e : En) : Fl := match src e with
  | .ok ds e1 => forL tg body ds e1
  | .exc x e1 => .exc x e1
  | .bad => .bad
theorem evs_for {wi : TI} {g : TG} {tb : TS} {src : En → Res (List D)} {tg : D → En → Option En} {body : En → Fl} (hi : EvI K mg W wi src) (hg : EvG K g tg) (hb : EvS K mg W tb body) : EvS K mg W (tFor wi g tb) (sFor src tg body) := by
  intro Z G H σ env D hd q
  refine hi Z G H σ env _ hd ?_
  unfold sFor at q
  cases e : src env with
  | bad => rw [e] at q; exact q
  | exc x e1 => rw [e] at q; exact PoX.toS q
  | ok ds e1 =>
    rw [e] at q
    intro G1 H1 J s hd1 sr
    refine ⟨fun i m σ' H' => i ≤ ds.length ∧ m = ds.length - i ∧ ∃ G' e', Step Z G H σ env G' H' σ' e' ∧ Hold K Z G' H' σ' e' ∧ Same G1 G' ∧ PoS K mg W Z G' H' σ' e' (forL tg body (ds.drop i) e') D,
      ⟨ds.length, Nat.zero_le _, rfl, G1, e1, s, hd1, Same.refl _, PoS.back s q⟩, ?_⟩
    rintro i m σ' H' ⟨hi, rfl, G', e', s', hd', sg, q'⟩
    cases h : ds[i]? with
    | none =>
      have hi' : ds.length ≤ i := List.getElem?_eq_none_iff.mp h
      have ei : i = ds.length := Nat.le_antisymm hi hi'
      subst ei
      rw [List.drop_eq_nil_of_le (Nat.le_refl _)] at q'
      exact .inl ⟨sr.done H' (sg.trans hd'.ex), q' G' H' σ' Step.refl hd'⟩
    | some d =>
      obtain ⟨hlt, hget⟩ := List.getElem?_eq_some_iff.mp h
      have hdrop : ds.drop i = d :: ds.drop (i + 1) := by rw [List.drop_eq_getElem_cons hlt, hget]
      rw [hdrop] at q'
      obtain ⟨go, yl⟩ := sr.item i d H' h (sg.trans hd'.ex)
      obtain ⟨NN, hNN⟩ : ∃ NN : L2.St → Hp → Prop, NN = fun σ'' H'' => (i + 1) ≤ ds.length ∧ ∃ G'' e'', Step Z G H σ env G'' H'' σ'' e'' ∧ Hold K Z G'' H'' σ'' e'' ∧ Same G1 G'' ∧ PoS K mg W Z G'' H'' σ'' e'' (forL tg body (ds.drop (i + 1)) e'') D := ⟨_, rfl⟩
      refine .inr ⟨go, NN, fun σ'' H'' w => by rw [hNN] at w; exact ⟨ds.length - (i + 1), by omega, w.1, rfl, w.2⟩, fun x H2 y => ?_⟩
      unfold forL at q'
      cases t : tg d e' with
      | none => rw [t] at q'; exact False.elim q'
      | some e2 =>
        rw [t] at q'
        dsimp only at q'
        have core : ∀ G2 H2, Step Z G' H' σ' e' G2 H2 σ' e' → Hold K Z G2 H2 σ' e' → Rep K G2 x d → g x σ' H2 fun σ2 H3 => tb { D with nx := NN, ct := NN, bk := D.nx } σ2 H3 := fun G2 H2 sa ha ra => by
          refine hg Z G2 H2 σ' e' x d e2 _ ha ra t fun σ2 s2 hd2 => ?_
          have sb := sa.trans s2
          refine hb Z G2 H2 σ2 e2 _ hd2 ?_
          have again : ∀ e3, PoS K mg W Z G' H' σ' e' (forL tg body (ds.drop (i + 1)) e3) D → PoN K Z G2 H2 σ2 e2 e3 NN := fun e3 q3 G3 H3 σ3 s3 hd3 => by
            have sc := sb.trans s3
            rw [hNN]
            exact ⟨hlt, G3, e3, s'.trans sc, hd3, sg.trans sc.g, PoS.back sc q3⟩
          cases r : body e2 with
          | next e3 => rw [r] at q'; exact again e3 q'
          | cont e3 => rw [r] at q'; exact again e3 q'
          | brk e3 => rw [r] at q'; exact PoN.back sb q'
          | ret r e3 => rw [r] at q'; exact PoR.back sb q'
          | exc x e3 => rw [r] at q'; exact PoS.back (r := .exc x e3) sb q'
          | bad => rw [r] at q'; exact q'
        rcases yl x H2 y with ⟨rfl, rv⟩ | ⟨tt, xs, es, ht, rfl, rfl, rfl, rs⟩
        · exact core G' _ Step.refl hd' (rv.mono (Kp.of sg))
        · have gt := hd'.gp ht
          refine core _ _ (Step.lay ht gt) (hd'.lay ht nt_tup) (.tup upd_same ((rs.mono (Kp.of sg)).mono (Kp.of fun a u e => by rw [upd_ne (ne_of_none e gt)]; exact e)))
/-! ### while -/
def whileN (c : En → Res Bool) (body : En → Fl) : Nat → En → Fl
  | 0, _ => .bad
  | n + 1, e => match c e with
    | .ok true e1 => (match body e1 with
      | .next e2 => whileN c body n e2
      | .cont e2 => whileN c body n e2
      | .brk e2 => .next e2
      | f => f)
    | .ok false e1 => .next e1
    | .exc x e1 => .exc x e1
    | .bad => .bad
open Classical in
noncomputable def sWhile (c : En → Res Bool) (body : En → Fl) (e : En) : Fl := if h : ∃ n, whileN c body n e ≠ .bad then whileN c body (Classical.choose h) e else .bad
theorem whileN_more {c : En → Res Bool} {body : En → Fl} : ∀ {n : Nat} {e : En}, whileN c body n e ≠ .bad → whileN c body (n + 1) e = whileN c body n e
  | 0, e, h => absurd rfl h
  | n + 1, e, h => by
    unfold whileN at h
    rw [whileN]
    conv => rhs; rw [whileN]
    cases q : c e with
    | ok b e1 =>
      rw [q] at h
      cases b with
      | true =>
        dsimp only at h ⊢
        cases r : body e1 with
        | next e2 => rw [r] at h; exact whileN_more h
        | cont e2 => rw [r] at h; exact whileN_more h
        | brk e2 => rfl
        | ret r e2 => rfl
        | exc x e2 => rfl
        | bad => rfl
      | false => rfl
    | exc x e1 => rfl
    | bad => rfl
theorem whileN_le {c : En → Res Bool} {body : En → Fl} {n m : Nat} {e : En} (h : whileN c body n e ≠ .bad) (l : n ≤ m) : whileN c body m e = whileN c body n e := by
  induction l with
  | refl => rfl
  | step l ih => rw [← ih]; exact whileN_more (by rw [ih]; exact h)
theorem sWhile_of {c : En → Res Bool} {body : En → Fl} {n : Nat} {e : En} {r : Fl} (h : whileN c body n e = r) (hr : r ≠ .bad) : sWhile c body e = r := by
  have ex : ∃ n, whileN c body n e ≠ .bad := ⟨n, by rw [h]; exact hr⟩
  unfold sWhile
  rw [dif_pos ex]
  have h2 := Classical.choose_spec ex
  rcases Nat.le_total n (Classical.choose ex) with l | l
  · rw [whileN_le (by rw [h]; exact hr) l, h]
  · rw [← h, whileN_le h2 l]
theorem evs_while {tc : TT} {tb : TS} {c : En → Res Bool} {body : En → Fl} (hc : EvT K mg W tc c) (hb : EvS K mg W tb body) : EvS K mg W (tWhile tc tb) (sWhile c body) := by
  intro Z G H σ env D hd q
  unfold sWhile at q
  by_cases ex : ∃ n, whileN c body n env ≠ .bad
  · rw [dif_pos ex] at q
    refine ⟨fun m σ' H' => ∃ G' e', Hold K Z G' H' σ' e' ∧ PoS K mg W Z G' H' σ' e' (whileN c body m e') D, ⟨_, G, env, hd, q⟩, ?_⟩
    rintro m σ' H' ⟨G', e', hd', q'⟩
    cases m with
    | zero => exact False.elim q'
    | succ n =>
      unfold whileN at q'
      refine hc Z G' H' σ' e' _ hd' ?_
      cases h : c e' with
      | bad => rw [h] at q'; exact q'
      | exc x e1 => rw [h] at q'; exact PoX.toS q'
      | ok b e1 =>
        rw [h] at q'
        intro G1 H1 s1 hd1
        cases b with
        | false => exact q' G1 H1 σ' s1 hd1
        | true =>
          refine ⟨fun σ'' H'' => ∃ G'' e'', Hold K Z G'' H'' σ'' e'' ∧ PoS K mg W Z G'' H'' σ'' e'' (whileN c body n e'') D, fun σ'' H'' w => ⟨n, Nat.lt_succ_self n, w⟩, ?_⟩
          refine hb Z G1 H1 σ' e1 _ hd1 ?_
          dsimp only at q'
          have again : ∀ e3, PoS K mg W Z G' H' σ' e' (whileN c body n e3) D → PoN K Z G1 H1 σ' e1 e3 (fun σ'' H'' => ∃ G'' e'', Hold K Z G'' H'' σ'' e'' ∧ PoS K mg W Z G'' H'' σ'' e'' (whileN c body n e'') D) := fun e3 q3 G3 H3 σ3 s3 hd3 =>
            ⟨G3, e3, hd3, PoS.back (s1.trans s3) q3⟩
          cases r : body e1 with
          | next e3 => rw [r] at q'; exact again e3 q'
          | cont e3 => rw [r] at q'; exact again e3 q'
          | brk e3 => rw [r] at q'; exact PoN.back s1 q'
          | ret r e3 => rw [r] at q'; exact PoR.back s1 q'
          | exc x e3 => rw [r] at q'; exact PoS.back (r := .exc x e3) s1 q'
          | bad => rw [r] at q'; exact q'
  · rw [dif_neg ex] at q; exact False.elim q
/-! ### comprehensions -/
def wipeE (e : En) : List Nat → En
  | [] => e
  | v :: vs => (wipeE e vs).set v .none
/-- nothing of mine stands in these slots -/
def freeOf (e : En) (vs : List Nat) : Bool := vs.all fun v => match e[v]? with
  | some .none => true
  | some (.imm _) => true
  | _ => false
def rest (e0 : En) : List Nat → En → En
  | [], e => e
  | v :: vs, e => match e0[v]? with
    | some s => (rest e0 vs e).set v s
    | none => rest e0 vs e
def lcL (vs : List Nat) (tg : D → En → Option En) (test : En → Res Bool) (elt : En → Res D) : List D → List D → En → Res (List D)
  | [], acc, e => .ok acc e
  | d :: r, acc, e => match tg d e with
    | none => .bad
    | some e1 => match test e1 with
      | .ok true e2 => (match elt e2 with
        | .ok y e3 => if acc.length < sizeLine ∧ freeOf e3 vs = true then lcL vs tg test elt r (acc ++ [y]) (wipeE e3 vs) else .bad
        | _ => .bad)
      | .ok false e2 => if freeOf e2 vs = true then lcL vs tg test elt r acc (wipeE e2 vs) else .bad
      | _ => .bad
def fLc (src : En → Res (List D)) (vs : List Nat) (tg : D → En → Option En) (test : En → Res Bool) (elt : En → Res D) (e : En) : Res MO := match src e with
  | .ok ds e1 => if freeOf e1 vs = true then (match lcL vs tg test elt ds [] (wipeE e1 vs) with
    | .ok ys e2 => .ok (.lst ys) (rest e1 vs e2)
    | _ => .bad) else .bad
  | .exc x e1 => .exc x e1
  | .bad => .bad
def tYesm (e : En) : Res Bool := .ok true e
theorem evt_yes : EvT K mg W tYes tYesm := fun Z G H σ env Q hd h => h G H Step.refl hd
theorem wipeE_len (e : En) : ∀ vs : List Nat, (wipeE e vs).length = e.length
  | [] => rfl
  | v :: vs => by unfold wipeE; rw [List.length_set, wipeE_len e vs]
theorem wipeE_get {e : En} {i : Nat} {s : Sl} : ∀ {vs : List Nat}, (wipeE e vs)[i]? = some s → (i ∈ vs ∧ s = .none) ∨ (i ∉ vs ∧ e[i]? = some s)
  | [], h => .inr ⟨by simp, h⟩
  | v :: vs, h => by
    unfold wipeE at h
    rcases getElem?_set_cases h with ⟨a, b, _⟩ | ⟨a, b⟩
    · exact .inl ⟨by rw [a]; exact List.mem_cons_self, b.symm⟩
    · rcases wipeE_get b with ⟨c, d⟩ | ⟨c, d⟩
      · exact .inl ⟨List.mem_cons_of_mem _ c, d⟩
      · exact .inr ⟨fun z => by rcases List.mem_cons.mp z with z | z; exact a z.symm; exact c z, d⟩
theorem wipe_out' {σ : L2.St} {i : Nat} {vs : List Nat} (h : i ∉ vs) : (wipe σ vs)[i]? = σ[i]? := wipe_out h
/-- the block's own names forgotten -/
theorem Hold.wipe (h : Hold K Z G H σ env) (vs : List Nat) : Hold K Z G H (L2.wipe σ vs) (wipeE env vs) := by
  have back : ∀ j a, OwnAt (L2.wipe σ vs) (wipeE env vs) j a → j ∉ vs ∧ OwnAt σ env j a := fun j a ⟨q1, s, m, q2, q3⟩ => by
    rcases wipeE_get q2 with ⟨_, z⟩ | ⟨n, z⟩
    · subst z; cases q3
    · rw [wipe_out' n] at q1; exact ⟨n, q1, s, m, z, q3⟩
  refine ⟨h.ex, h.nt, by rw [L2.wipe_length, wipeE_len]; exact h.len, fun i s e => ?_, fun i j p a b => h.dis i j p (back i p a).2 (back j p b).2, fun i d e => ?_, h.zt⟩
  · rcases wipeE_get e with ⟨_, z⟩ | ⟨n, z⟩
    · subst z; trivial
    · rw [wipe_out' n]; exact h.sl i s z
  · rcases wipeE_get e with ⟨_, z⟩ | ⟨n, z⟩
    · cases z
    · obtain ⟨v, R, q1, q2, q3, q4⟩ := h.fr i d z
      exact ⟨v, R, by rw [wipe_out' n]; exact q1, q2, fun a u w => ⟨(q3 a u w).1, fun ⟨k, z⟩ => (q3 a u w).2.1 ⟨k, (back k a z).2⟩, (q3 a u w).2.2⟩, q4⟩
theorem own_wipe {vs : List Nat} {a : Addr} (h : Own (L2.wipe σ vs) (wipeE env vs) a) : Own σ env a := by
  obtain ⟨j, q1, s, m, q2, q3⟩ := h
  rcases wipeE_get q2 with ⟨_, z⟩ | ⟨n, z⟩
  · subst z; cases q3
  · rw [wipe_out' n] at q1; exact ⟨j, q1, s, m, z, q3⟩
theorem freeOf_get {vs : List Nat} (f : freeOf env vs = true) {i : Nat} (hi : i ∈ vs) : env[i]? = some .none ∨ ∃ d, env[i]? = some (.imm d) := by
  unfold freeOf at f
  have := List.all_eq_true.mp f i hi
  cases e : env[i]? with
  | none => rw [e] at this; cases this
  | some s =>
    rw [e] at this
    cases s with
    | none => exact .inl rfl
    | imm d => exact .inr ⟨d, rfl⟩
    | own m => cases this
    | par m => cases this
    | fre d => cases this
theorem own_wipe' {vs : List Nat} {a : Addr} (f : freeOf env vs = true) (h : Own σ env a) : Own (L2.wipe σ vs) (wipeE env vs) a := by
  obtain ⟨j, q1, s, m, q2, q3⟩ := h
  have nj : j ∉ vs := fun z => by
    rcases freeOf_get f z with w | ⟨d, w⟩ <;> (rw [q2] at w; cases w; cases q3)
  refine ⟨j, by rw [wipe_out' nj]; exact q1, s, m, ?_, q3⟩
  have : ∀ vs : List Nat, j ∉ vs → (wipeE env vs)[j]? = env[j]? := by
    intro vs
    induction vs with
    | nil => intro _; rfl
    | cons v vs ih =>
      intro hn
      unfold wipeE
      rw [List.getElem?_set_ne (fun z => hn (by rw [z]; exact List.mem_cons_self))]
      exact ih fun z => hn (List.mem_cons_of_mem _ z)
  rw [this vs nj]; exact q2
theorem Step.wipe {vs : List Nat} : Step Z G H σ env G H (L2.wipe σ vs) (wipeE env vs) :=
  ⟨Same.refl _, fun _ _ h _ _ _ => h, fun _ _ _ h _ _ => h, fun _ h => h, fun i m' e => by
    rcases wipeE_get e with ⟨_, z⟩ | ⟨n, z⟩
    · cases z
    · exact ⟨⟨m', z⟩, wipe_out' n⟩, fun a ⟨j, m, q1, q2⟩ => by
    rcases wipeE_get q2 with ⟨_, z⟩ | ⟨n, z⟩
    · cases z
    · rw [wipe_out' n] at q1; exact .inl ⟨j, m, q1, z⟩⟩
theorem rest_len (e0 : En) : ∀ (vs : List Nat) (e : En), (rest e0 vs e).length = e.length
  | [], e => rfl
  | v :: vs, e => by
    unfold rest
    cases e0[v]? with
    | none => exact rest_len e0 vs e
    | some s => rw [List.length_set]; exact rest_len e0 vs e
theorem rest_get {e0 : En} {i : Nat} {s : Sl} : ∀ {vs : List Nat} {e : En}, (rest e0 vs e)[i]? = some s → (i ∈ vs ∧ e0[i]? = some s) ∨ e[i]? = some s
  | [], e, h => .inr h
  | v :: vs, e, h => by
    unfold rest at h
    cases q : e0[v]? with
    | none =>
      rw [q] at h
      rcases rest_get h with ⟨a, b⟩ | b
      · exact .inl ⟨List.mem_cons_of_mem _ a, b⟩
      · exact .inr b
    | some s' =>
      rw [q] at h
      rcases getElem?_set_cases h with ⟨a, b, _⟩ | ⟨a, b⟩
      · subst a; subst b; exact .inl ⟨List.mem_cons_self, q⟩
      · rcases rest_get b with ⟨c, d⟩ | d
        · exact .inl ⟨List.mem_cons_of_mem _ c, d⟩
        · exact .inr d
theorem wipe_in {i : Nat} : ∀ {vs : List Nat}, i ∈ vs → i < σ.length → (L2.wipe σ vs)[i]? = some none
  | [], h, _ => by simp at h
  | v :: vs, h, hl => by
    unfold L2.wipe
    by_cases e : v = i
    · subst e; rw [List.getElem?_set_self (by rw [L2.wipe_length]; exact hl)]
    · rw [List.getElem?_set_ne e]
      rcases List.mem_cons.mp h with z | z
      · exact absurd z.symm e
      · exact wipe_in z hl
theorem wipe_ext {σ' : L2.St} {vs : List Nat} (hl : σ'.length = σ.length) (h : ∀ j, j ∉ vs → σ'[j]? = σ[j]?) : L2.wipe σ' vs = L2.wipe σ vs := by
  apply List.ext_getElem?
  intro j
  by_cases hj : j ∈ vs
  · by_cases l : j < σ.length
    · rw [wipe_in hj l, wipe_in hj (by omega)]
    · rw [List.getElem?_eq_none (by rw [L2.wipe_length]; omega), List.getElem?_eq_none (by rw [L2.wipe_length]; omega)]
  · rw [wipe_out hj, wipe_out hj]; exact h j hj
/-- a target that stores in the slots vs alone -/
def EvGV (K : PySem.W.Frag) (vs : List Nat) (g : TG) (m : D → En → Option En) : Prop := ∀ Z G H σ env v d e Q, Hold K Z G H σ env → Rep K G v d → m d env = some e →
  (∀ σ', Step Z G H σ env G H σ' e → Hold K Z G H σ' e → σ'.length = σ.length → (∀ j, j ∉ vs → σ'[j]? = σ[j]?) → Q σ' H) → g v σ H Q
def EvGsV (K : PySem.W.Frag) (vs : List Nat) (g : TGs) (m : List D → En → Option En) : Prop := ∀ Z G H σ env us ds e Q, Hold K Z G H σ env → RepL K G us ds → m ds env = some e →
  (∀ σ', Step Z G H σ env G H σ' e → Hold K Z G H σ' e → σ'.length = σ.length → (∀ j, j ∉ vs → σ'[j]? = σ[j]?) → Q σ' H) → g us σ H Q
theorem evgv_name {vs : List Nat} {i : Nat} (hi : i ∈ vs) : EvGV K vs (gName i) (gN i) := by
  intro Z G H σ env v d e Q hd r hm h
  unfold gN at hm
  by_cases c : i < env.length
  · rw [if_pos c] at hm; cases hm
    refine h _ (Step.put hd.len (fun m z => by cases z) (fun m z => by cases z) Step.refl) (hd.put c ⟨v, rfl, r⟩ (fun m z => by cases z) (fun m z => by cases z) (fun d z => by cases z)) (List.length_set ..) fun j hj => ?_
    exact List.getElem?_set_ne fun z => hj (by rw [← z]; exact hi)
  · rw [if_neg c] at hm; cases hm
theorem evgsv_nil {vs : List Nat} : EvGsV K vs gNil gsNil := by
  intro Z G H σ env us ds e Q hd r hm h
  cases r with
  | nil => cases hm; exact ⟨rfl, h σ Step.refl hd rfl fun _ _ => rfl⟩
  | cons _ _ => cases hm
theorem evgsv_cons {vs : List Nat} {t : TG} {u : TGs} {a : D → En → Option En} {b : List D → En → Option En} (ha : EvGV K vs t a) (hb : EvGsV K vs u b) : EvGsV K vs (gCons t u) (gsCons a b) := by
  intro Z G H σ env us ds e Q hd r hm h
  cases r with
  | nil => cases hm
  | cons r1 rr =>
    rename_i v d vr dr
    have hm : ((a d env).bind fun e1 => b dr e1) = some e := hm
    cases q : a d env with
    | none => rw [q] at hm; cases hm
    | some e1 =>
      rw [q] at hm
      refine ⟨v, vr, rfl, ha Z G H σ env v d e1 _ hd r1 q fun σ1 s1 hd1 l1 k1 => ?_⟩
      exact hb Z G H σ1 e1 vr dr e Q hd1 rr hm fun σ2 s2 hd2 l2 k2 => h σ2 (s1.trans s2) hd2 (l2.trans l1) fun j hj => (k2 j hj).trans (k1 j hj)
theorem evgv_tup {vs : List Nat} {n : Nat} {t : TGs} {b : List D → En → Option En} (hb : EvGsV K vs t b) : EvGV K vs (gTup K n t) (gT n b) := by
  intro Z G H σ env v d e Q hd r hm h
  unfold gT at hm
  cases d with
  | tup ds =>
    cases r with
    | tup a rs =>
      dsimp only at hm
      by_cases c : ds.length = n
      · rw [if_pos c] at hm
        exact ⟨_, _, rfl, SqT.of (hd.ex _ _ a), by rw [rs.length]; exact c, hb Z G H σ env _ ds e Q hd rs hm h⟩
      · rw [if_neg c] at hm; cases hm
  | _ => cases hm
/-- an object beside: tracked, nobody's, not data -/
theorem Hold.side {p : Addr} {o : HO} (h : Hold K (fun a => Z a ∨ a = p) G H σ env) (gp : G p = none) (no : ¬ Own σ env p) : Hold K (fun a => Z a ∨ a = p) G (upd H p o) σ env := by
  refine ⟨fun a u e => by rw [upd_ne (ne_of_none e gp)]; exact h.ex a u e, h.nt, h.len, fun i s e => ?_, h.dis, fun i d e => ?_, fun a z => upd_there (h.zt a z)⟩
  · have w := h.sl i s e
    have nj : ∀ m, s.mo = some m → σ[i]?.join ≠ some (.ref p) := fun m hm q => no ⟨i, .of (slot_join q) e hm⟩
    cases s with
    | none => trivial
    | fre d => trivial
    | imm d => exact w
    | own m2 => obtain ⟨p2, u, w1, w2, w3, w4⟩ := w; exact ⟨p2, u, w1, by rw [upd_ne (fun z => nj m2 rfl (by rw [w1, z]))]; exact w2, w3, w4⟩
    | par m2 => obtain ⟨p2, u, w1, w2, w3, w4⟩ := w; exact ⟨p2, u, w1, by rw [upd_ne (fun z => nj m2 rfl (by rw [w1, z]))]; exact w2, w3, w4⟩
  · obtain ⟨v, R, q1, q2, q3, q4⟩ := h.fr i d e
    exact ⟨v, R, q1, fun a u w => by rw [upd_ne fun z => (q3 a u w).2.2.1 (.inr z)]; exact q2 a u w, q3, q4⟩
theorem Step.side {G' H' : Hp} {σ' : L2.St} {e' : En} {p : Addr} {o : HO} (hp : H p = none) (s : Step Z G H σ env G' H' σ' e') : Step Z G H σ env G' (upd H' p o) σ' e' :=
  ⟨s.g, fun a u h nt no z => by rw [upd_ne (ne_of_none h hp)]; exact s.h a u h nt no z, s.n, fun a e => by
    by_cases z : a = p
    · rw [z]; exact hp
    · rw [upd_ne z] at e; exact s.d a e, s.par, s.ow⟩
/-- from the block's slots back to the frame's -/
theorem Hold.back {G1 H1 G' H' : Hp} {e1 e' : En} {vs : List Nat} (h0 : Hold K Z G1 H1 σ e1) (f1 : freeOf e1 vs = true) {Z' : Addr → Prop} (s' : Step Z' G1 H1 (L2.wipe σ vs) (wipeE e1 vs) G' H' (L2.wipe σ vs) e') (hd' : Hold K Z' G' H' (L2.wipe σ vs) e') :
    Hold K Z' G' H' σ (rest e1 vs e') ∧ Step Z' G1 H1 σ e1 G' H' σ (rest e1 vs e') ∧ ∀ a, Own σ (rest e1 vs e') a → Own (L2.wipe σ vs) e' a := by
  have sAll : Step Z' G1 H1 σ e1 G' H' (L2.wipe σ vs) e' := Step.wipe.trans s'
  have immAt : ∀ (i : Nat), i ∈ vs → ∀ s : Sl, e1[i]? = some s → SlOk K G' H' (σ[i]?.join) s ∧ s.mo = none ∧ ∀ d, s ≠ Sl.fre d := fun i hi s hs => by
    rcases freeOf_get f1 hi with w | ⟨d, w⟩
    · rw [hs] at w; cases w; exact ⟨trivial, rfl, fun d z => by cases z⟩
    · rw [hs] at w; cases w
      obtain ⟨v, a, b⟩ := h0.sl i _ hs
      exact ⟨⟨v, a, b.mono (Kp.of s'.g)⟩, rfl, fun d z => by cases z⟩
  have some_eq : ∀ (i : Nat) (x : V), (L2.wipe σ vs)[i]? = some (some x) → σ[i]? = some (some x) := fun i x hx => (L2.wipe_some hx).1
  have backO : ∀ j a, OwnAt σ (rest e1 vs e') j a → OwnAt (L2.wipe σ vs) e' j a := fun j a ⟨q1, s, m, q2, q3⟩ => by
    rcases rest_get q2 with ⟨w, z⟩ | z
    · have := (immAt j w s z).2.1; rw [this] at q3; cases q3
    · obtain ⟨p, o, a', _⟩ := hd'.own_get z q3
      have := some_eq j _ a'
      rw [q1] at this; cases this
      exact ⟨a', s, m, z, q3⟩
  refine ⟨⟨hd'.ex, hd'.nt, ?_, fun i s hs => ?_, fun i j p a b => hd'.dis i j p (backO i p a) (backO j p b), fun i d hs => ?_, hd'.zt⟩, ⟨sAll.g, sAll.h, sAll.n, sAll.d, fun i m' hs => ?_, fun a ⟨j, m, q1, q2⟩ => ?_⟩, fun a ⟨k, z⟩ => ⟨k, backO k a z⟩⟩
  · rw [rest_len, ← hd'.len, L2.wipe_length]
  · rcases rest_get hs with ⟨w, z⟩ | z
    · exact (immAt i w s z).1
    · have sl := hd'.sl i s z
      have up : ∀ x, ((L2.wipe σ vs)[i]?).join = some x → (σ[i]?).join = some x := fun x hx => by
        rw [some_eq i x (slot_join hx)]; rfl
      cases s with
      | none => trivial
      | fre d => trivial
      | imm d => obtain ⟨v, a, b⟩ := sl; exact ⟨v, up v a, b⟩
      | own m => obtain ⟨p, o, a, b⟩ := sl; exact ⟨p, o, up _ a, b⟩
      | par m => obtain ⟨p, o, a, b⟩ := sl; exact ⟨p, o, up _ a, b⟩
  · rcases rest_get hs with ⟨w, z⟩ | z
    · exact absurd rfl ((immAt i w _ z).2.2 d)
    · obtain ⟨v, R, a, b, c, dd⟩ := hd'.fr i d z
      exact ⟨v, R, some_eq i v a, b, fun x u w => ⟨(c x u w).1, fun ⟨k, z⟩ => (c x u w).2.1 ⟨k, backO k x z⟩, (c x u w).2.2⟩, dd⟩
  · rcases rest_get hs with ⟨w, z⟩ | z
    · exact ⟨⟨m', z⟩, rfl⟩
    · exact ⟨(sAll.par i m' z).1, rfl⟩
  · rcases rest_get q2 with ⟨w, z⟩ | z
    · exact .inl ⟨j, m, q1, z⟩
    · obtain ⟨p, o, a', _⟩ := hd'.own_get z rfl
      have := some_eq j _ a'
      rw [q1] at this; cases this
      exact sAll.ow a ⟨j, m, a', z⟩
theorem evf_lc {wi : TI} {g : TG} {tt : TT} {te : TE} {vs : List Nat} {src : En → Res (List D)} {tg : D → En → Option En} {test : En → Res Bool} {elt : En → Res D}
    (hi : EvI K mg W wi src) (hg : EvGV K vs g tg) (ht : EvT K mg (fun _ _ _ _ => False) tt test) (he : EvE K mg (fun _ _ _ _ => False) te elt) : EvF K mg W (tLc wi g tt te vs) (fLc src vs tg test elt) := by
  intro Z G H σ env Q hd q
  refine hi Z G H σ env _ hd ?_
  unfold fLc at q
  cases e : src env with
  | bad => rw [e] at q; exact q
  | exc x e1 => rw [e] at q; exact q
  | ok ds e1 =>
    rw [e] at q
    dsimp only at q
    intro G1 H1 J s hd1 sr D hD
    by_cases f1 : freeOf e1 vs = true
    case neg => rw [if_neg f1] at q; exact False.elim q
    rw [if_pos f1] at q
    cases ql : lcL vs tg test elt ds [] (wipeE e1 vs) with
    | exc x e2 => rw [ql] at q; exact False.elim q
    | bad => rw [ql] at q; exact False.elim q
    | ok ys e2 =>
      rw [ql] at q
      dsimp only at q
      have gD : G1 D = none := hd1.gp hD
      have nD : ¬ Own σ e1 D := not_own_new hd1 hD
      obtain ⟨NN, hNN⟩ : ∃ NN : Nat → Hp → Prop, NN = fun i H' => i ≤ ds.length ∧ ∃ G' e' acc xs, Step (fun a => Z a ∨ a = D) G1 H1 (L2.wipe σ vs) (wipeE e1 vs) G' H' (L2.wipe σ vs) e' ∧ Hold K (fun a => Z a ∨ a = D) G' H' (L2.wipe σ vs) e' ∧
          H' D = some (.lst xs) ∧ G' D = none ∧ ¬ Own (L2.wipe σ vs) e' D ∧ RepL K G' xs acc ∧ lcL vs tg test elt (ds.drop i) acc e' = .ok ys e2 := ⟨_, rfl⟩
      refine ⟨fun i m H' => m = ds.length - i ∧ NN i H', ⟨ds.length, rfl, ?_⟩, ?_⟩
      · rw [hNN]
        exact ⟨Nat.zero_le _, G1, _, [], [], Step.grow (Grow.new hD), (hd1.growZ (Grow.new hD) hD ⟨_, upd_same⟩).wipe vs, upd_same, gD, fun z => nD (own_wipe z), .nil, by rw [List.drop_zero]; exact ql⟩
      rintro i m H' ⟨rfl, n0⟩
      rw [hNN] at n0
      obtain ⟨hi', G', e', acc, xs, s', hd', hD', gD', nD', rs, ql'⟩ := n0
      have sgx : Same G1 H' := s'.g.trans hd'.ex
      cases h : ds[i]? with
      | none =>
        have ei : i = ds.length := Nat.le_antisymm hi' (List.getElem?_eq_none_iff.mp h)
        subst ei
        rw [List.drop_eq_nil_of_le (Nat.le_refl _)] at ql'
        unfold lcL at ql'
        cases ql'
        obtain ⟨b1, b2, b3⟩ := hd1.back f1 s' hd'
        exact .inl ⟨sr.done H' sgx, q G' H' D _ (s.trans (b2.weak fun a z => .inl z)) b1 hD' (s.d D hD) gD' (fun z => nD' (b3 D z)) (.lst rs)⟩
      | some d =>
        obtain ⟨hlt, hget⟩ := List.getElem?_eq_some_iff.mp h
        have hdrop : ds.drop i = d :: ds.drop (i + 1) := by rw [List.drop_eq_getElem_cons hlt, hget]
        rw [hdrop] at ql'
        obtain ⟨go, yl⟩ := sr.item i d H' h sgx
        refine .inr ⟨go, NN (i + 1), fun H'' w => ⟨ds.length - (i + 1), by omega, rfl, w⟩, fun x H2 y => ?_⟩
        unfold lcL at ql'
        cases t : tg d e' with
        | none => rw [t] at ql'; cases ql'
        | some e3 =>
          rw [t] at ql'
          dsimp only at ql'
          have core : ∀ G2 H2, Step (fun a => Z a ∨ a = D) G' H' (L2.wipe σ vs) e' G2 H2 (L2.wipe σ vs) e' → Hold K (fun a => Z a ∨ a = D) G2 H2 (L2.wipe σ vs) e' → Rep K G2 x d → g x (L2.wipe σ vs) H2 fun σ2 H3 => L2.wipe σ2 vs = L2.wipe σ vs ∧ tt σ2 H3 fun b H4 =>
              if b = true then te σ2 H4 fun y H5 => ∃ acc, H5 D = some (.lst acc) ∧ acc.length < sizeLine ∧ NN (i + 1) (upd H5 D (.lst (acc ++ [y]))) else NN (i + 1) H4 := fun G2 H2 sa ha ra => by
            refine hg _ G2 H2 _ e' x d e3 _ ha ra t fun σ2 s2 hd2 l2 k2 => ?_
            have wq : L2.wipe σ2 vs = L2.wipe σ vs := by
              refine wipe_ext (by rw [l2, L2.wipe_length]) fun j hj => ?_
              rw [k2 j hj, wipe_out hj]
            refine ⟨wq, ?_⟩
            have sb := sa.trans s2
            refine ht _ G2 H2 σ2 e3 _ hd2 ?_
            -- what the turn's end needs
            have fin : ∀ G4 H4 e4, Step (fun a => Z a ∨ a = D) G2 H2 σ2 e3 G4 H4 σ2 e4 → Hold K (fun a => Z a ∨ a = D) G4 H4 σ2 e4 → Step (fun a => Z a ∨ a = D) G1 H1 (L2.wipe σ vs) (wipeE e1 vs) G4 H4 (L2.wipe σ vs) (wipeE e4 vs) ∧ Hold K (fun a => Z a ∨ a = D) G4 H4 (L2.wipe σ vs) (wipeE e4 vs) ∧
                H4 D = some (.lst xs) ∧ G4 D = none ∧ ¬ Own (L2.wipe σ vs) (wipeE e4 vs) D ∧ RepL K G4 xs acc := fun G4 H4 e4 s4 hd4 => by
              have sc := sb.trans s4
              have sw : Step (fun a => Z a ∨ a = D) G4 H4 σ2 e4 G4 H4 (L2.wipe σ vs) (wipeE e4 vs) := by rw [← wq]; exact Step.wipe
              have hw : Hold K (fun a => Z a ∨ a = D) G4 H4 (L2.wipe σ vs) (wipeE e4 vs) := by rw [← wq]; exact hd4.wipe vs
              refine ⟨(s'.trans sc).trans sw, hw, sc.h _ _ hD' nt_lst nD' (.inr rfl), sc.n _ _ hD' gD' nD' (.inr rfl), fun z => ?_, rs.mono (Kp.of sc.g)⟩
              rcases (sc.trans sw).own D z with z | z
              · exact nD' z
              · rw [hD'] at z; cases z
            cases qt : test e3 with
            | bad => rw [qt] at ql'; cases ql'
            | exc x e4 => rw [qt] at ql'; cases ql'
            | ok b e4 =>
              rw [qt] at ql'
              intro G4 H4 s4 hd4
              cases b with
              | false =>
                dsimp only at ql'
                by_cases f : freeOf e4 vs = true
                · rw [if_pos f] at ql'
                  obtain ⟨w1, w2, w3, w4, w5, w6⟩ := fin G4 H4 e4 s4 hd4
                  show NN (i + 1) H4
                  rw [hNN]
                  exact ⟨hlt, G4, _, acc, xs, w1, w2, w3, w4, w5, w6, ql'⟩
                · rw [if_neg f] at ql'; cases ql'
              | true =>
                dsimp only at ql'
                refine he _ G4 H4 σ2 e4 _ hd4 ?_
                cases qe : elt e4 with
                | bad => rw [qe] at ql'; cases ql'
                | exc x e5 => rw [qe] at ql'; cases ql'
                | ok y e5 =>
                  rw [qe] at ql'
                  dsimp only at ql'
                  intro G5 H5 v s5 hd5 rv
                  by_cases f : acc.length < sizeLine ∧ freeOf e5 vs = true
                  · rw [if_pos f] at ql'
                    obtain ⟨w1, w2, w3, w4, w5, w6⟩ := fin G5 H5 e5 (s4.trans s5) hd5
                    refine ⟨xs, w3, by rw [rs.length]; exact f.1, ?_⟩
                    rw [hNN]
                    exact ⟨hlt, G5, _, acc ++ [y], xs ++ [v], w1.side hD, w2.side w4 w5, upd_same, w4, w5, w6.append (.cons rv .nil), ql'⟩
                  · rw [if_neg f] at ql'; cases ql'
          rcases yl x H2 y with ⟨rfl, rv⟩ | ⟨tt', xs', es, ht', rfl, rfl, rfl, rs'⟩
          · exact core G' _ Step.refl hd' (rv.mono (Kp.of s'.g))
          · have gt := hd'.gp ht'
            refine core _ _ (Step.lay ht' gt) (hd'.lay ht' nt_tup) (.tup upd_same ((rs'.mono (Kp.of s'.g)).mono (Kp.of fun a u e => by rw [upd_ne (ne_of_none e gt)]; exact e)))
end
end Cv
end

section
set_option Elab.async false
set_option linter.all false
set_option maxRecDepth 100000
set_option maxHeartbeats 4000000
set_option autoImplicit false
/-! CvH: defs and their calls. -/
namespace Cv
open PySem L2 PyProof.Rows
inductive RD where
  | ok (r : Ret) (outs : En) | exc (x : Exc) (outs : En) | bad
/-- all that is tracked -/
def trk (H : Hp) : Addr → Prop := fun a => ∃ o, H a = some o
def PoD (K : PySem.W.Frag) (mg : Str → Option Value) (G H : Hp) (σ : L2.St) (as : En) (r : RD) (Q : VK) (E : XK) : Prop := match r with
  | .ok (.imm d) outs => ∀ G' H' v, Step (trk H) G H σ as G' H' σ outs → Hold K (trk H) G' H' σ outs → Rep K G' v d → Q v H'
  | .ok (.own m) outs => ∀ G' H' p o, Step (trk H) G H σ as G' H' σ outs → Hold K (trk H) G' H' σ outs → H' p = some o → H p = none → G' p = none → ¬ Own σ outs p → RepM K G' o m → Q (.ref p) H'
  | .exc x outs => ∀ G' H' C a, Step (trk H) G H σ as G' H' σ outs → Hold K (trk H) G' H' σ outs → ExcAt K mg H' x C a → E (.ref C) (some a) H'
  | .bad => False
/-- what a def keeps: it computes mf -/
def SpM (K : PySem.W.Frag) (mg : Str → Option Value) (mf : En → RD) : Sp := fun vs H Q E => ∃ (G : Hp) (as : En), Hold K (trk H) G H (vs.map some) as ∧ (∀ s ∈ as, (∃ d, s = .imm d) ∨ ∃ m, s = .par m) ∧ PoD K mg G H (vs.map some) as (mf as) Q E
/-- my caller's objects as they stand at the end -/
def outsOf : En → En → Option En
  | [], _ => some []
  | .par _ :: as, .par m :: e => (outsOf as e).map (.par m :: ·)
  | .imm d :: as, _ :: e => (outsOf as e).map (.imm d :: ·)
  | _, _ => none
/-- a def of np parameters and n names in all, by its body -/
def mDef (np n : Nat) (body : En → Fl) (as : En) : RD := if as.length = np then (match body (as ++ List.replicate (n - as.length) .none) with
  | .next e => (match outsOf as e with
    | some o => .ok (.imm .non) o
    | none => .bad)
  | .ret r e => (match outsOf as e with
    | some o => .ok r o
    | none => .bad)
  | .exc x e => (match outsOf as e with
    | some o => .exc x o
    | none => .bad)
  | _ => .bad) else .bad
theorem outsOf_get : ∀ {as e os : En}, outsOf as e = some os → os.length = as.length ∧ as.length ≤ e.length ∧ ∀ (i : Nat) (s : Sl), as[i]? = some s → (∃ m m', s = .par m ∧ e[i]? = some (.par m') ∧ os[i]? = some (.par m')) ∨ ∃ d, s = .imm d ∧ os[i]? = some (.imm d)
  | [], e, os, h => by cases h; exact ⟨rfl, Nat.zero_le _, fun i s h => by simp at h⟩
  | .par m :: as, .par m' :: e, os, h => by
    unfold outsOf at h
    cases q : outsOf as e with
    | none => rw [q] at h; cases h
    | some o =>
      rw [q] at h; cases h
      obtain ⟨h1, h2, h3⟩ := outsOf_get q
      refine ⟨by simp [h1], by simp; omega, fun i s hs => ?_⟩
      cases i with
      | zero => simp at hs; subst hs; exact .inl ⟨m, m', rfl, rfl, rfl⟩
      | succ i => simpa using h3 i s (by simpa using hs)
  | .imm d :: as, x :: e, os, h => by
    have h : (outsOf as e).map (.imm d :: ·) = some os := by
      cases x <;> exact h
    cases q : outsOf as e with
    | none => rw [q] at h; cases h
    | some o =>
      rw [q] at h; cases h
      obtain ⟨h1, h2, h3⟩ := outsOf_get q
      refine ⟨by simp [h1], by simp; omega, fun i s hs => ?_⟩
      cases i with
      | zero => simp at hs; subst hs; exact .inr ⟨d, rfl, rfl⟩
      | succ i => simpa using h3 i s (by simpa using hs)
  | .par m :: as, [], os, h => by cases h
  | .par m :: as, .none :: e, os, h => by cases h
  | .par m :: as, .imm _ :: e, os, h => by cases h
  | .par m :: as, .own _ :: e, os, h => by cases h
  | .par m :: as, .fre _ :: e, os, h => by cases h
  | .imm d :: as, [], os, h => by cases h
  | .none :: as, e, os, h => by cases e <;> cases h
  | .own m :: as, e, os, h => by cases e <;> cases h
  | .fre d :: as, e, os, h => by cases e <;> cases h
section
variable {K : PySem.W.Frag} {mg : Str → Option Value} {Z : Addr → Prop} {G H : Hp} {σ : L2.St} {env : En}
/-- a def is entered -/
theorem Hold.enter {vs : List V} {as : En} (h : Hold K Z G H (vs.map some) as) {N : List Str} {n : Nat} (hn : n = N.length) : Hold K Z G H (L2.start N vs) (as ++ List.replicate (n - as.length) .none) := by
  have hl : vs.length = as.length := by have := h.len; simpa using this
  have e1 : ∀ (i : Nat) (s : Sl), (as ++ List.replicate (n - as.length) Sl.none)[i]? = some s → (as[i]? = some s ∧ (L2.start N vs)[i]? = (vs.map some)[i]?) ∨ s = Sl.none := fun i s e => by
    by_cases c : i < as.length
    · rw [List.getElem?_append_left c] at e
      refine .inl ⟨e, ?_⟩
      unfold L2.start
      rw [List.getElem?_append_left (by simpa [hl] using c)]
    · rw [List.getElem?_append_right (by omega)] at e
      exact .inr (List.eq_of_mem_replicate (List.mem_of_getElem? e))
  have back : ∀ j a, OwnAt (L2.start N vs) (as ++ List.replicate (n - as.length) Sl.none) j a → OwnAt (vs.map some) as j a := fun j a ⟨q1, s, m, q2, q3⟩ => by
    rcases e1 j s q2 with ⟨z1, z2⟩ | z
    · rw [z2] at q1; exact ⟨q1, s, m, z1, q3⟩
    · subst z; cases q3
  refine ⟨h.ex, h.nt, ?_, fun i s e => ?_, fun i j p a b => h.dis i j p (back i p a) (back j p b), fun i d e => ?_, h.zt⟩
  · unfold L2.start; simp [hl, hn]
  · rcases e1 i s e with ⟨z1, z2⟩ | z
    · rw [z2]; exact h.sl i s z1
    · subst z; trivial
  · rcases e1 i _ e with ⟨z1, z2⟩ | z
    · obtain ⟨v, R, q1, q2, q3, q4⟩ := h.fr i d z1
      exact ⟨v, R, by rw [z2]; exact q1, q2, fun a u w => ⟨(q3 a u w).1, fun ⟨k, z⟩ => (q3 a u w).2.1 ⟨k, back k a z⟩, (q3 a u w).2.2⟩, q4⟩
    · cases z
theorem own_enter {vs : List V} {as : En} (hl : vs.length = as.length) {N : List Str} {n : Nat} {a : Addr} (h : Own (vs.map some) as a) : Own (L2.start N vs) (as ++ List.replicate (n - as.length) .none) a := by
  obtain ⟨j, q1, s, m, q2, q3⟩ := h
  have c : j < as.length := (List.getElem?_eq_some_iff.mp q2).1
  refine ⟨j, ?_, s, m, by rw [List.getElem?_append_left c]; exact q2, q3⟩
  unfold L2.start
  rw [List.getElem?_append_left (by simpa [hl] using c)]
  exact q1
/-- a def is left -/
theorem Hold.leave {vs : List V} {as e os : En} {G' H' : Hp} {σ' : L2.St} {Z' Z1 : Addr → Prop} (h : Hold K Z G H (vs.map some) as) (imp : ∀ s ∈ as, (∃ d, s = .imm d) ∨ ∃ m, s = .par m) {N : List Str} {n : Nat} (hn : n = N.length)
    (s : Step Z1 G H (L2.start N vs) (as ++ List.replicate (n - as.length) .none) G' H' σ' e) (hd : Hold K Z' G' H' σ' e) (ho : outsOf as e = some os) :
    Hold K Z' G' H' (vs.map some) os ∧ Step Z1 G H (vs.map some) as G' H' (vs.map some) os ∧ ∀ a, Own (vs.map some) os a → Own σ' e a := by
  have hl : vs.length = as.length := by have := h.len; simpa using this
  obtain ⟨o1, o2, o3⟩ := outsOf_get ho
  have asAt : ∀ (i : Nat) (t : Sl), os[i]? = some t → ∃ s, as[i]? = some s := fun i t ht => by
    have : i < os.length := (List.getElem?_eq_some_iff.mp ht).1
    exact ⟨_, List.getElem?_eq_getElem (by omega)⟩
  have start_eq : ∀ (i : Nat), i < as.length → (L2.start N vs)[i]? = (vs.map some)[i]? := fun i hi => by
    unfold L2.start; rw [List.getElem?_append_left (by simpa [hl] using hi)]
  -- the slots at the end
  have out : ∀ (i : Nat) (t : Sl), os[i]? = some t → (∃ m m', as[i]? = some (Sl.par m) ∧ t = Sl.par m' ∧ e[i]? = some (Sl.par m') ∧ σ'[i]? = (vs.map some)[i]?) ∨ ∃ d, as[i]? = some (Sl.imm d) ∧ t = Sl.imm d := fun i t ht => by
    obtain ⟨sa, hs⟩ := asAt i t ht
    rcases o3 i sa hs with ⟨m, m', rfl, h2, h3⟩ | ⟨d, rfl, h3⟩
    · rw [ht] at h3; cases h3
      have hi : i < as.length := (List.getElem?_eq_some_iff.mp hs).1
      exact .inl ⟨m, m', hs, rfl, h2, ((s.par i m' h2).2).trans (start_eq i hi)⟩
    · rw [ht] at h3; cases h3
      exact .inr ⟨d, hs, rfl⟩
  have backO : ∀ j a, OwnAt (vs.map some) os j a → OwnAt σ' e j a ∧ OwnAt (vs.map some) as j a := fun j a ⟨q1, t, m, q2, q3⟩ => by
    rcases out j t q2 with ⟨m0, m', h1, h2, h3, h4⟩ | ⟨d, h1, h2⟩
    · exact ⟨⟨by rw [h4]; exact q1, _, m', h3, rfl⟩, ⟨q1, _, m0, h1, rfl⟩⟩
    · subst h2; cases q3
  have ownBack : ∀ a, Own (L2.start N vs) (as ++ List.replicate (n - as.length) Sl.none) a → Own (vs.map some) as a := fun a ⟨j, q1, t, m, q2, q3⟩ => by
    by_cases c : j < as.length
    · rw [List.getElem?_append_left c] at q2
      rw [start_eq j c] at q1
      exact ⟨j, q1, t, m, q2, q3⟩
    · rw [List.getElem?_append_right (by omega)] at q2
      have := List.eq_of_mem_replicate (List.mem_of_getElem? q2)
      subst this; cases q3
  refine ⟨⟨hd.ex, hd.nt, by rw [o1]; exact h.len, fun i t ht => ?_, fun i j p a b => h.dis i j p (backO i p a).2 (backO j p b).2, fun i d ht => ?_, hd.zt⟩, ⟨s.g, fun a o x nt no zx => s.h a o x nt (fun z => no (ownBack a z)) zx, fun a o x g no zx => s.n a o x g (fun z => no (ownBack a z)) zx, s.d, fun i m' ht => ?_, fun a ⟨j, m, q1, q2⟩ => ?_⟩, fun a ⟨k, z⟩ => ⟨k, (backO k a z).1⟩⟩
  · rcases out i t ht with ⟨m, m', h1, h2, h3, h4⟩ | ⟨d, h1, h2⟩
    · subst h2
      have := hd.sl i _ h3
      rw [h4] at this
      exact this
    · subst h2
      obtain ⟨v, a, b⟩ := h.sl i _ h1
      exact ⟨v, a, b.mono (Kp.of s.g)⟩
  · rcases out i _ ht with ⟨m, m', h1, h2, h3, h4⟩ | ⟨d, h1, h2⟩
    · cases h2
    · cases h2
  · rcases out i _ ht with ⟨m, m'', h1, h2, h3, h4⟩ | ⟨d, h1, h2⟩
    · exact ⟨⟨m, h1⟩, rfl⟩
    · cases h2
  · rcases out j _ q2 with ⟨m0, m'', h1, h2, h3, h4⟩ | ⟨d, h1, h2⟩
    · cases h2
    · cases h2
end
section
variable {P : Program} {w : World} {K : PySem.W.Frag} {mg : Str → Option Value} {base : Heap}
/-- THE RULE for a def: its body's derivation, and what the body computes -/
theorem fn_okM {x qual : Str} {st : Stmt} {f : Addr} {fd : FuncData} {N ps : List Str} {k : Nat} {mb : En → Fl} {np n : Nat} (F : Fun K x qual st f fd) (S : FnScope N ps (defScope st)) (hnp : np = ps.length) (hn : n = N.length)
    (hbody : ∀ (cdv : Value) (A : Around) (outer : List Env) (s : Shared) (H : Hp) (E : XK), Room k (A.deeper (envOfC qual (defScope st) s.heap.objs.size f cdv)) →
      ∃ t, PSs (cxOf (L2.CX P w) P w K mg base N qual (defScope st) f cdv A outer s H E) (defBody st) t ∧ EvS K mg (fun cls d _ H => E cls d H) t mb) :
    FnOk P w K mg base (L2.CX P w) (k + 1) f fd ps (SpM K mg (mDef np n mb)) := by
  refine F.okX S (fun vs H Q E h => ?_) (fun cdv A outer s H vs Q E hr h => ?_)
  · obtain ⟨G, as, hd, imp, po⟩ := h
    have hl : vs.length = as.length := by have := hd.len; simpa using this
    unfold mDef at po
    by_cases c : as.length = np
    · rw [hl, c, hnp]
    · rw [if_neg c] at po; exact False.elim po
  · obtain ⟨G, as, hd, imp, po⟩ := h
    obtain ⟨t, h1, h2⟩ := hbody cdv A outer s H E hr
    refine ⟨t, h1, ?_⟩
    have hl : vs.length = as.length := by have := hd.len; simpa using this
    unfold mDef at po
    by_cases c : as.length = np
    case neg => rw [if_neg c] at po; exact False.elim po
    rw [if_pos c] at po
    have hd0 := hd.enter (N := N) hn
    refine h2 (trk H) G H _ _ _ hd0 ?_
    cases q : mb (as ++ List.replicate (n - as.length) .none) with
    | bad => rw [q] at po; exact po
    | brk e => rw [q] at po; exact False.elim po
    | cont e => rw [q] at po; exact False.elim po
    | next e =>
      rw [q] at po
      dsimp only at po
      cases o : outsOf as e with
      | none => rw [o] at po; exact False.elim po
      | some os =>
        rw [o] at po
        intro G' H' σ' s' hd'
        obtain ⟨a, b, _⟩ := hd.leave imp hn s' hd' o
        exact po G' H' .non b a .non
    | exc x e =>
      rw [q] at po
      dsimp only at po
      cases o : outsOf as e with
      | none => rw [o] at po; exact False.elim po
      | some os =>
        rw [o] at po
        intro G' H' σ' C a s' hd' ex
        obtain ⟨a', b, _⟩ := hd.leave imp hn s' hd' o
        exact po G' H' C a b a' ex
    | ret r e =>
      rw [q] at po
      dsimp only at po
      cases o : outsOf as e with
      | none => rw [o] at po; exact False.elim po
      | some os =>
        rw [o] at po
        cases r with
        | imm d =>
          intro G' H' σ' v s' hd' rv
          obtain ⟨a, b, _⟩ := hd.leave imp hn s' hd' o
          exact po G' H' v b a rv
        | own m =>
          intro G' H' σ' p ob s' hd' hp fr gp no r
          obtain ⟨a, b, c'⟩ := hd.leave imp hn s' hd' o
          refine po G' H' p ob b (a.weak fun a z => .inl z) hp ?_ gp (fun z => no (c' p z)) r
          rcases fr with ⟨j, m', q1, q2⟩ | fr
          · exfalso
            by_cases cj : j < as.length
            · rw [List.getElem?_append_left cj] at q2
              rcases imp _ (List.mem_of_getElem? q2) with ⟨d, z⟩ | ⟨d, z⟩ <;> cases z
            · rw [List.getElem?_append_right (by omega)] at q2
              have := List.eq_of_mem_replicate (List.mem_of_getElem? q2)
              cases this
          · exact fr
end
/-! ### calls -/
def slotsOf : List Ar → List Nat
  | [] => []
  | .v _ :: r => slotsOf r
  | .s i :: r => i :: slotsOf r
def argSl (e : En) : List Ar → Option En
  | [] => some []
  | .v d :: r => (argSl e r).map (.imm d :: ·)
  | .s i :: r => match e[i]? with
    | some (.own m) => (argSl e r).map (.par m :: ·)
    | some (.par m) => (argSl e r).map (.par m :: ·)
    | _ => none
def putB (e : En) : List Ar → En → Option En
  | [], [] => some e
  | .v _ :: r, .imm _ :: o => putB e r o
  | .s i :: r, .par m :: o => match e[i]? with
    | some s => putB (e.set i (s.put m)) r o
    | none => none
  | _, _ => none
def eCall (mf : En → RD) (ma : En → Res (List Ar)) (e : En) : Res D := (ma e).bind fun ars e1 => if (slotsOf ars).Nodup then (match argSl e1 ars with
  | some as => (match mf as with
    | .ok (.imm d) o => (match putB e1 ars o with
      | some e2 => .ok d e2
      | none => .bad)
    | .ok (.own m) o => (match putB e1 ars o with
      | some e2 => .ok m.toD e2
      | none => .bad)
    | .exc x o => (match putB e1 ars o with
      | some e2 => .exc x e2
      | none => .bad)
    | .bad => .bad)
  | none => .bad) else .bad
def fCall (mf : En → RD) (ma : En → Res (List Ar)) (e : En) : Res MO := (ma e).bind fun ars e1 => if (slotsOf ars).Nodup then (match argSl e1 ars with
  | some as => (match mf as with
    | .ok (.own m) o => (match putB e1 ars o with
      | some e2 => .ok m e2
      | none => .bad)
    | .exc x o => (match putB e1 ars o with
      | some e2 => .exc x e2
      | none => .bad)
    | _ => .bad)
  | none => .bad) else .bad
def pCall (mf : En → RD) (ma : En → RP (List D)) (e : En) : RP D := (ma e).bind fun ds => match mf (ds.map .imm) with
  | .ok (.imm d) _ => .ok d
  | .ok (.own m) _ => .ok m.toD
  | .exc x _ => .exc x
  | .bad => .bad
section
variable {K : PySem.W.Frag} {mg : Str → Option Value} {W : WX} {Z : Addr → Prop} {G H : Hp} {σ : L2.St} {env : En}
theorem argSl_get (hd : Hold K Z G H σ env) : ∀ {vs : List V} {ars : List Ar} {as : En}, Paired (ArOk K G σ) vs ars → argSl env ars = some as → as.length = vs.length ∧ (∀ s ∈ as, (∃ d, s = .imm d) ∨ ∃ m, s = .par m) ∧
    ∀ (j : Nat) (s : Sl), as[j]? = some s → (∃ d v, s = .imm d ∧ ars[j]? = some (.v d) ∧ vs[j]? = some v ∧ Rep K G v d) ∨ ∃ m i p o, s = .par m ∧ ars[j]? = some (.s i) ∧ vs[j]? = some (.ref p) ∧ σ[i]? = some (some (.ref p)) ∧ (env[i]? = some (.own m) ∨ env[i]? = some (.par m)) ∧ H p = some o ∧ G p = none ∧ RepM K G o m
  | _, _, as, .nil, h => by cases h; exact ⟨rfl, fun s h => by simp at h, fun j s h => by simp at h⟩
  | v :: vs, .v d :: ars, as, .cons r t, h => by
    unfold argSl at h
    cases q : argSl env ars with
    | none => rw [q] at h; cases h
    | some a =>
      rw [q] at h; cases h
      obtain ⟨h1, h2, h3⟩ := argSl_get hd t q
      refine ⟨by simp [h1], fun s hs => ?_, fun j s hs => ?_⟩
      · rcases List.mem_cons.mp hs with rfl | hs
        · exact .inl ⟨d, rfl⟩
        · exact h2 s hs
      · cases j with
        | zero => simp at hs; subst hs; exact .inl ⟨d, v, rfl, rfl, rfl, r⟩
        | succ j => simpa using h3 j s (by simpa using hs)
  | v :: vs, .s i :: ars, as, .cons r t, h => by
    unfold argSl at h
    have key : ∀ (sl : Sl) (m : MO), env[i]? = some sl → sl.mo = some m → (sl = .own m ∨ sl = .par m) → (argSl env ars).map (.par m :: ·) = some as → as.length = (v :: vs).length ∧ (∀ s ∈ as, (∃ d, s = Sl.imm d) ∨ ∃ m, s = Sl.par m) ∧
        ∀ (j : Nat) (s : Sl), as[j]? = some s → (∃ d w, s = .imm d ∧ (Ar.s i :: ars)[j]? = some (.v d) ∧ (v :: vs)[j]? = some w ∧ Rep K G w d) ∨ ∃ m i' p o, s = .par m ∧ (Ar.s i :: ars)[j]? = some (.s i') ∧ (v :: vs)[j]? = some (.ref p) ∧ σ[i']? = some (some (.ref p)) ∧ (env[i']? = some (.own m) ∨ env[i']? = some (.par m)) ∧ H p = some o ∧ G p = none ∧ RepM K G o m := fun sl m e hm hk h => by
      cases q : argSl env ars with
      | none => rw [q] at h; cases h
      | some a =>
        rw [q] at h; cases h
        obtain ⟨h1, h2, h3⟩ := argSl_get hd t q
        refine ⟨by simp [h1], fun s hs => ?_, fun j s hs => ?_⟩
        · rcases List.mem_cons.mp hs with rfl | hs
          · exact .inr ⟨m, rfl⟩
          · exact h2 s hs
        · cases j with
          | zero =>
            simp at hs; subst hs
            obtain ⟨p, o, k1, k2, k3, k4⟩ := hd.own_get e hm
            have r' : σ[i]? = some (some v) := r
            rw [k1] at r'; cases r'
            exact .inr ⟨m, i, p, o, rfl, rfl, rfl, k1, by rcases hk with z | z <;> (subst z; first | exact .inl e | exact .inr e), k2, k3, k4⟩
          | succ j => simpa using h3 j s (by simpa using hs)
    cases e : env[i]? with
    | none => rw [e] at h; cases h
    | some sl =>
      rw [e] at h
      cases sl with
      | own m => exact key _ m e rfl (.inl rfl) h
      | par m => exact key _ m e rfl (.inr rfl) h
      | none => cases h
      | imm d => cases h
      | fre d => cases h
theorem slots_at : ∀ {ars : List Ar} {j k i : Nat}, (slotsOf ars).Nodup → ars[j]? = some (.s i) → ars[k]? = some (.s i) → j = k := by
  have mem : ∀ {ars : List Ar} {j i : Nat}, ars[j]? = some (Ar.s i) → i ∈ slotsOf ars := by
    intro ars
    induction ars with
    | nil => intro j i h; simp at h
    | cons a r ih =>
      intro j i h
      cases j with
      | zero => simp at h; subst h; exact List.mem_cons_self
      | succ j =>
        have := ih (j := j) (i := i) (by simpa using h)
        cases a with
        | v d => exact this
        | s x => exact List.mem_cons_of_mem _ this
  intro ars
  induction ars with
  | nil => intro j k i _ h; simp at h
  | cons a r ih =>
    intro j k i nd h1 h2
    cases a with
    | v d =>
      cases j with
      | zero => simp at h1
      | succ j =>
        cases k with
        | zero => simp at h2
        | succ k => exact congrArg (· + 1) (ih nd (by simpa using h1) (by simpa using h2))
    | s x =>
      obtain ⟨n1, n2⟩ := List.nodup_cons.mp nd
      cases j with
      | zero =>
        cases k with
        | zero => rfl
        | succ k => simp at h1; subst h1; exact absurd (mem (by simpa using h2)) n1
      | succ j =>
        cases k with
        | zero => simp at h2; subst h2; exact absurd (mem (by simpa using h1)) n1
        | succ k => exact congrArg (· + 1) (ih n2 (by simpa using h1) (by simpa using h2))
theorem putB_get : ∀ {ars : List Ar} {o e e2 : En}, (slotsOf ars).Nodup → putB e ars o = some e2 → e2.length = e.length ∧ (∀ (k : Nat), k ∉ slotsOf ars → e2[k]? = e[k]?) ∧
    ∀ (j i : Nat), ars[j]? = some (.s i) → ∃ m s, o[j]? = some (.par m) ∧ e[i]? = some s ∧ e2[i]? = some (s.put m)
  | [], [], e, e2, _, h => by cases h; exact ⟨rfl, fun _ _ => rfl, fun j i h => by simp at h⟩
  | .v _ :: r, .imm _ :: o, e, e2, nd, h => by
    obtain ⟨h1, h2, h3⟩ := putB_get (ars := r) nd (show putB e r o = some e2 from h)
    refine ⟨h1, h2, fun j i hj => ?_⟩
    cases j with
    | zero => simp at hj
    | succ j => simpa using h3 j i (by simpa using hj)
  | .s x :: r, .par m :: o, e, e2, nd, h => by
    obtain ⟨n1, n2⟩ := List.nodup_cons.mp nd
    unfold putB at h
    cases q : e[x]? with
    | none => rw [q] at h; cases h
    | some s =>
      rw [q] at h
      have hx : x < e.length := (List.getElem?_eq_some_iff.mp q).1
      obtain ⟨h1, h2, h3⟩ := putB_get n2 h
      refine ⟨by rw [h1, List.length_set], fun k hk => ?_, fun j i hj => ?_⟩
      · rw [h2 k fun z => hk (List.mem_cons_of_mem _ z), List.getElem?_set_ne fun z => hk (by rw [← z]; exact List.mem_cons_self)]
      · cases j with
        | zero =>
          simp at hj; subst hj
          refine ⟨m, s, rfl, q, ?_⟩
          rw [h2 x n1, List.getElem?_set_self hx]
        | succ j =>
          obtain ⟨m', s', k1, k2, k3⟩ := h3 j i (by simpa using hj)
          have ne : x ≠ i := fun z => by
            subst z
            have : ∀ {ars : List Ar} {j i : Nat}, ars[j]? = some (Ar.s i) → i ∈ slotsOf ars := by
              intro ars
              induction ars with
              | nil => intro j i h; simp at h
              | cons a r ih =>
                intro j i h
                cases j with
                | zero => simp at h; subst h; exact List.mem_cons_self
                | succ j =>
                  have := ih (j := j) (i := i) (by simpa using h)
                  cases a with
                  | v d => exact this
                  | s x => exact List.mem_cons_of_mem _ this
            exact n1 (this (by simpa using hj))
          rw [List.getElem?_set_ne ne] at k2
          exact ⟨m', s', by simpa using k1, k2, k3⟩
  | [], _ :: _, e, e2, _, h => by cases h
  | .v _ :: _, [], e, e2, _, h => by cases h
  | .s _ :: _, [], e, e2, _, h => by cases h
  | .v _ :: _, .none :: _, e, e2, _, h => by cases h
  | .v _ :: _, .own _ :: _, e, e2, _, h => by cases h
  | .v _ :: _, .par _ :: _, e, e2, _, h => by cases h
  | .v _ :: _, .fre _ :: _, e, e2, _, h => by cases h
  | .s _ :: _, .none :: _, e, e2, _, h => by cases h
  | .s _ :: _, .own _ :: _, e, e2, _, h => by cases h
  | .s _ :: _, .imm _ :: _, e, e2, _, h => by cases h
  | .s _ :: _, .fre _ :: _, e, e2, _, h => by cases h
/-- the arguments, as the callee holds them -/
theorem Hold.args (hd : Hold K Z G H σ env) {vs : List V} {ars : List Ar} {as : En} (nd : (slotsOf ars).Nodup) (r : Paired (ArOk K G σ) vs ars) (h : argSl env ars = some as) : Hold K (trk H) G H (vs.map some) as := by
  obtain ⟨h1, h2, h3⟩ := argSl_get hd r h
  have hv : ∀ (j : Nat) (v : V), vs[j]? = some v → (vs.map some)[j]? = some (some v) := fun j v e => by rw [List.getElem?_map, e]; rfl
  refine ⟨hd.ex, hd.nt, by simp [h1], fun j s e => ?_, fun j k p a b => ?_, fun j d e => ?_, fun a z => z⟩
  · rcases h3 j s e with ⟨d, v, rfl, _, e2, rv⟩ | ⟨m, i, p, o, rfl, _, e2, _, _, hp, gp, rm⟩
    · exact ⟨v, join_of (hv j v e2), rv⟩
    · exact ⟨p, o, join_of (hv j _ e2), hp, gp, rm⟩
  · obtain ⟨q1, s, m, q2, q3⟩ := a
    obtain ⟨w1, t, m', w2, w3⟩ := b
    rcases h3 j s q2 with ⟨d, v, rfl, _⟩ | ⟨m1, i, p1, o, rfl, a1, e2, a2, a3, _⟩
    · cases q3
    · rcases h3 k t w2 with ⟨d, v, rfl, _⟩ | ⟨m2, i2, p2, o2, rfl, b1, f2, b2, b3, _⟩
      · cases w3
      · rw [hv j _ e2] at q1; rw [hv k _ f2] at w1
        cases q1; cases w1
        have ij : i = i2 := by
          refine hd.dis i i2 p ?_ ?_
          · rcases a3 with a3 | a3 <;> exact ⟨a2, _, m1, a3, rfl⟩
          · rcases b3 with b3 | b3 <;> exact ⟨b2, _, m2, b3, rfl⟩
        subst ij
        exact slots_at nd a1 b1
  · rcases h3 j _ e with ⟨d', v, q, _⟩ | ⟨m1, i, p1, o, q, _⟩ <;> cases q
/-- behind the call -/
theorem Hold.called (hd : Hold K Z G H σ env) {vs : List V} {ars : List Ar} {as o e2 : En} {G' H' : Hp} (nd : (slotsOf ars).Nodup) (r : Paired (ArOk K G σ) vs ars) (h : argSl env ars = some as)
    (s : Step (trk H) G H (vs.map some) as G' H' (vs.map some) o) (hc : Hold K (trk H) G' H' (vs.map some) o) (hp : putB env ars o = some e2) :
    Hold K Z G' H' σ e2 ∧ Step (trk H) G H σ env G' H' σ e2 ∧ ∀ a, Own σ e2 a → Own σ env a := by
  obtain ⟨h1, h2, h3⟩ := argSl_get hd r h
  obtain ⟨p1, p2, p3⟩ := putB_get nd hp
  have hv : ∀ (j : Nat) (v : V), vs[j]? = some v → (vs.map some)[j]? = some (some v) := fun j v e => by rw [List.getElem?_map, e]; rfl
  have slotIn : ∀ {ars : List Ar} {i : Nat}, i ∈ slotsOf ars → ∃ j : Nat, ars[j]? = some (Ar.s i) := by
    intro ars
    induction ars with
    | nil => intro i h; simp [slotsOf] at h
    | cons a r ih =>
      intro i h
      cases a with
      | v d => obtain ⟨j, hj⟩ := ih (i := i) h; exact ⟨j + 1, by simpa using hj⟩
      | s x =>
        rcases List.mem_cons.mp h with rfl | h
        · exact ⟨0, rfl⟩
        · obtain ⟨j, hj⟩ := ih h; exact ⟨j + 1, by simpa using hj⟩
  -- own slots of the callee are handed ones of mine
  have ownArg : ∀ a, Own (vs.map some) as a → ∃ (j i : Nat), ars[j]? = some (Ar.s i) ∧ OwnAt σ env i a ∧ vs[j]? = some (.ref a) := fun a ⟨j, q1, t, m, q2, q3⟩ => by
    rcases h3 j t q2 with ⟨d, v, rfl, _⟩ | ⟨m1, i, p1, o, rfl, a1, e2, a2, a3, _⟩
    · cases q3
    · rw [hv j _ e2] at q1; cases q1
      exact ⟨j, i, a1, by rcases a3 with a3 | a3 <;> exact ⟨a2, _, m1, a3, rfl⟩, e2⟩
  -- a slot of mine, behind the call
  have at_ : ∀ (i : Nat) (t : Sl), e2[i]? = some t → (env[i]? = some t ∧ ∀ a, OwnAt σ env i a → ¬ Own (vs.map some) as a) ∨ ∃ (j : Nat) (m : MO) (s0 : Sl) (p : Addr) (ob : HO), ars[j]? = some (Ar.s i) ∧ t = s0.put m ∧ env[i]? = some s0 ∧ o[j]? = some (Sl.par m) ∧ vs[j]? = some (V.ref p) ∧ σ[i]? = some (some (V.ref p)) ∧ (∃ m0, s0 = .own m0 ∨ s0 = .par m0) ∧ H' p = some ob ∧ G' p = none ∧ RepM K G' ob m := fun i t ht => by
    by_cases c : i ∈ slotsOf ars
    · obtain ⟨j, hj⟩ := slotIn c
      obtain ⟨m, s0, k1, k2, k3⟩ := p3 j i hj
      rw [ht] at k3; cases k3
      have hjl : j < as.length := by
        rw [h1]
        have : j < ars.length := (List.getElem?_eq_some_iff.mp hj).1
        have := Paired.length r
        omega
      rcases h3 j _ (List.getElem?_eq_getElem hjl) with ⟨d, v, z, a1, _⟩ | ⟨m1, i1, p, ob, z, a1, e2', a2, a3, _⟩
      · rw [hj] at a1; cases a1
      · rw [hj] at a1; cases a1
        obtain ⟨p', ob', b1, b2, b3, b4⟩ := hc.own_get k1 rfl
        rw [hv j _ e2'] at b1; cases b1
        refine .inr ⟨j, m, s0, p, ob', hj, rfl, k2, k1, e2', a2, ⟨m1, ?_⟩, b2, b3, b4⟩
        rcases a3 with a3 | a3 <;> (rw [k2] at a3; cases a3; first | exact .inl rfl | exact .inr rfl)
    · rw [p2 i c] at ht
      refine .inl ⟨ht, fun a oa z => ?_⟩
      obtain ⟨j, i', hj, oi, _⟩ := ownArg a z
      have := hd.dis i i' a oa oi
      subst this
      refine c ?_
      have mem : ∀ {ars : List Ar} {j i : Nat}, ars[j]? = some (Ar.s i) → i ∈ slotsOf ars := by
        intro ars
        induction ars with
        | nil => intro j i h; simp at h
        | cons a r ih =>
          intro j i h
          cases j with
          | zero => simp at h; subst h; exact List.mem_cons_self
          | succ j =>
            have := ih (j := j) (i := i) (by simpa using h)
            cases a with
            | v d => exact this
            | s x => exact List.mem_cons_of_mem _ this
      exact mem hj
  have backO : ∀ i a, OwnAt σ e2 i a → OwnAt σ env i a := fun i a ⟨q1, t, m, q2, q3⟩ => by
    rcases at_ i t q2 with ⟨z, _⟩ | ⟨j, m', s0, p, ob, _, z, z2, _, _, z4, ⟨m0, z5⟩, _⟩
    · exact ⟨q1, t, m, z, q3⟩
    · rcases z5 with z5 | z5 <;> (subst z5; exact ⟨q1, _, m0, z2, rfl⟩)
  have noArg : ∀ a, ¬ Own σ env a → ¬ Own (vs.map some) as a := fun a no z => by
    obtain ⟨j, i, _, oi, _⟩ := ownArg a z
    exact no ⟨i, oi⟩
  refine ⟨⟨hc.ex, hc.nt, by rw [p1]; exact hd.len, fun i t ht => ?_, fun i j p a b => hd.dis i j p (backO i p a) (backO j p b), fun i d ht => ?_, fun a z => ?_⟩, ⟨s.g, fun a u x nt no zx => s.h a u x nt (noArg a no) zx, fun a u x g no zx => s.n a u x g (noArg a no) zx, s.d, fun i m' ht => ?_, fun a ⟨j, m, q1, q2⟩ => ?_⟩, fun a ⟨i, z⟩ => ⟨i, backO i a z⟩⟩
  · rcases at_ i t ht with ⟨z, no⟩ | ⟨j, m', s0, p, ob, _, z, z2, _, _, z4, ⟨m0, z5⟩, k1, k2, k3⟩
    · have w := hd.sl i t z
      have keep : ∀ m p u, t.mo = some m → σ[i]?.join = some (.ref p) → H p = some u → G p = none → RepM K G u m → H' p = some u ∧ G' p = none := fun m p u hm hj hp gp rm => by
        have oi : OwnAt σ env i p := .of (slot_join hj) z hm
        exact ⟨s.h p u hp rm.nt (no p oi) ⟨_, hp⟩, s.n p u hp gp (no p oi) ⟨_, hp⟩⟩
      cases t with
      | none => trivial
      | fre d => trivial
      | imm d => obtain ⟨v, a, b⟩ := w; exact ⟨v, a, b.mono (Kp.of s.g)⟩
      | own m => obtain ⟨p, u, a, b, c, d⟩ := w; obtain ⟨x, y⟩ := keep m p u rfl a b c d; exact ⟨p, u, a, x, y, d.mono (Kp.of s.g)⟩
      | par m => obtain ⟨p, u, a, b, c, d⟩ := w; obtain ⟨x, y⟩ := keep m p u rfl a b c d; exact ⟨p, u, a, x, y, d.mono (Kp.of s.g)⟩
    · rcases z5 with z5 | z5 <;> (subst z5; subst z; exact ⟨p, ob, join_of z4, k1, k2, k3⟩)
  · rcases at_ i _ ht with ⟨z, no⟩ | ⟨j, m', s0, p, ob, _, z, z2, _, _, z4, ⟨m0, z5⟩, k1, k2, k3⟩
    · obtain ⟨v, R, q1, q2, q3, q4⟩ := hd.fr i d z
      refine ⟨v, R, q1, fun a u w => s.h a u (q2 a u w) (q3 a u w).2.2.2 (noArg a (q3 a u w).2.1) ⟨_, q2 a u w⟩, fun a u w => ⟨s.n a u (q2 a u w) (q3 a u w).1 (noArg a (q3 a u w).2.1) ⟨_, q2 a u w⟩, fun ⟨k, z⟩ => (q3 a u w).2.1 ⟨k, backO k a z⟩, (q3 a u w).2.2⟩, q4⟩
    · rcases z5 with z5 | z5 <;> (subst z5; cases z)
  · obtain ⟨u, hu⟩ := hd.zt a z
    cases q : H' a with
    | some u' => exact ⟨u', rfl⟩
    | none => rw [s.d a q] at hu; cases hu
  · rcases at_ i _ ht with ⟨z, no⟩ | ⟨j, m'', s0, p, ob, _, z, z2, _, _, z4, ⟨m0, z5⟩, k1, k2, k3⟩
    · exact ⟨⟨m', z⟩, rfl⟩
    · rcases z5 with z5 | z5
      · subst z5; cases z
      · subst z5; exact ⟨⟨m0, z2⟩, rfl⟩
  · rcases at_ j _ q2 with ⟨z, no⟩ | ⟨j', m'', s0, p, ob, _, z, z2, _, _, z4, ⟨m0, z5⟩, k1, k2, k3⟩
    · exact .inl ⟨j, m, q1, z⟩
    · rcases z5 with z5 | z5
      · subst z5; exact .inl ⟨j, m0, q1, z2⟩
      · subst z5; cases z
theorem EvA.after {t : TA} {m : En → Res (List Ar)} (h : EvA K mg W t m) {β : Type} (hd : Hold K Z G H σ env) {f : List Ar → En → Res β} {Q : List V → Hp → Prop} {Bad : Res β → Prop}
    (hb : Bad ((m env).bind f)) (h0 : ¬ Bad .bad) (hx : ∀ x e, Bad (.exc x e) → PoX K mg W Z G H σ env x e)
    (hk : ∀ as e G1 H1 vs, Bad (f as e) → Step Z G H σ env G1 H1 σ e → Hold K Z G1 H1 σ e → Paired (ArOk K G1 σ) vs as → Q vs H1) : t σ H Q := by
  refine h Z G H σ env Q hd ?_
  cases e : m env with
  | ok d e' => rw [e] at hb; exact fun G' H' v s hd' r => hk d e' G' H' v hb s hd' r
  | exc x e' => rw [e] at hb; exact hx x e' hb
  | bad => rw [e] at hb; exact (h0 hb).elim
theorem Hold.withZ {p : Addr} (h : Hold K Z G H σ env) (hp : ∃ o, H p = some o) {G0 H0 : Hp} {e0 : En} (h0 : Hold K Z G0 H0 σ e0) (hn : H0 p = none) (s : Step (trk H0) G0 H0 σ e0 G H σ env) (hf : ∀ (i : Nat) (d : D), env[i]? = some (Sl.fre d) → e0[i]? = some (Sl.fre d)) : Hold K (fun a => Z a ∨ a = p) G H σ env := by
  refine ⟨h.ex, h.nt, h.len, h.sl, h.dis, fun i d e => ?_, fun a z => ?_⟩
  · obtain ⟨v, R, q1, q2, q3, q4⟩ := h0.fr i d (hf i d e)
    refine ⟨v, R, q1, fun a u w => s.h a u (q2 a u w) (q3 a u w).2.2.2 (q3 a u w).2.1 ⟨_, q2 a u w⟩, fun a u w => ⟨s.n a u (q2 a u w) (q3 a u w).1 (q3 a u w).2.1 ⟨_, q2 a u w⟩, fun z => ?_, fun z => ?_, (q3 a u w).2.2.2⟩, q4⟩
    · rcases s.own a z with z | z
      · exact (q3 a u w).2.1 z
      · rw [q2 a u w] at z; cases z
    · rcases z with z | z
      · exact (q3 a u w).2.2.1 z
      · rw [z] at w; rw [q2 p u w] at hn; cases hn
  · rcases z with z | z
    · exact h.zt a z
    · rw [z]; exact hp
theorem putB_fre {ars : List Ar} {o e e2 : En} (nd : (slotsOf ars).Nodup) (hp : putB e ars o = some e2) : ∀ (i : Nat) (d : D), e2[i]? = some (.fre d) → e[i]? = some (.fre d) := fun i d h => by
  obtain ⟨p1, p2, p3⟩ := putB_get nd hp
  by_cases c : i ∈ slotsOf ars
  · have slotIn : ∀ {ars : List Ar} {i : Nat}, i ∈ slotsOf ars → ∃ j : Nat, ars[j]? = some (Ar.s i) := by
      intro ars
      induction ars with
      | nil => intro i h; simp [slotsOf] at h
      | cons a r ih =>
        intro i h
        cases a with
        | v d => obtain ⟨j, hj⟩ := ih (i := i) h; exact ⟨j + 1, by simpa using hj⟩
        | s x =>
          rcases List.mem_cons.mp h with rfl | h
          · exact ⟨0, rfl⟩
          · obtain ⟨j, hj⟩ := ih h; exact ⟨j + 1, by simpa using hj⟩
    obtain ⟨j, hj⟩ := slotIn c
    obtain ⟨m, s, _, k2, k3⟩ := p3 j i hj
    rw [h] at k3
    cases s with
    | fre d' => cases k3; exact k2
    | own m => cases k3
    | par m => cases k3
    | none => cases k3
    | imm d => cases k3
  · rw [p2 i c] at h; exact h
theorem eve_call {mf : En → RD} {t : TA} {ma : En → Res (List Ar)} (ha : EvA K mg W t ma) : EvE K mg W (tCallS (SpM K mg mf) (WE W) t) (eCall mf ma) := by
  intro Z G H σ env Q hd h
  refine ha.after hd (Bad := fun r => PoE K mg W Z G H σ env r Q) h (fun z => z) (fun x e z => z) fun ars e G1 H1 vs h1 s hd1 rs => ?_
  by_cases nd : (slotsOf ars).Nodup
  case neg => rw [if_neg nd] at h1; exact False.elim h1
  rw [if_pos nd] at h1
  cases q : argSl e ars with
  | none => rw [q] at h1; exact False.elim h1
  | some as =>
    rw [q] at h1
    dsimp only at h1
    refine ⟨G1, as, hd1.args nd rs q, (argSl_get hd1 rs q).2.1, ?_⟩
    cases qf : mf as with
    | bad => rw [qf] at h1; exact False.elim h1
    | exc x o =>
      rw [qf] at h1
      dsimp only at h1
      cases qp : putB e ars o with
      | none => rw [qp] at h1; exact False.elim h1
      | some e2 =>
        rw [qp] at h1
        intro G' H' C a sc hc ex
        obtain ⟨k1, k2, _⟩ := hd1.called nd rs q sc hc qp
        exact h1 G' H' C a (s.trans (k2.weak hd1.zt)) k1 ex
    | ok r o =>
      rw [qf] at h1
      cases r with
      | imm d =>
        dsimp only at h1
        cases qp : putB e ars o with
        | none => rw [qp] at h1; exact False.elim h1
        | some e2 =>
          rw [qp] at h1
          intro G' H' v sc hc rv
          obtain ⟨k1, k2, _⟩ := hd1.called nd rs q sc hc qp
          exact h1 G' H' v (s.trans (k2.weak hd1.zt)) k1 rv
      | own m =>
        dsimp only at h1
        cases qp : putB e ars o with
        | none => rw [qp] at h1; exact False.elim h1
        | some e2 =>
          rw [qp] at h1
          intro G' H' p ob sc hc hp fr gp no rm
          obtain ⟨k1, k2, k3⟩ := hd1.called nd rs q sc hc qp
          have no2 : ¬ Own σ e2 p := fun z => not_own_new hd1 fr (k3 p z)
          obtain ⟨j1, j2⟩ := (k1.withZ ⟨_, hp⟩ hd1 fr k2 (putB_fre nd qp)).join hp gp no2 rm.nt
          exact h1 _ _ _ (s.trans (j2 Z G1 H1 σ e fr (k2.weak hd1.zt))) j1 ((rm.mono (Kp.of fun a u e => by rw [upd_ne (ne_of_none e gp)]; exact e)).rep upd_same)
theorem evf_call {mf : En → RD} {t : TA} {ma : En → Res (List Ar)} (ha : EvA K mg W t ma) : EvF K mg W (tCallS (SpM K mg mf) (WE W) t) (fCall mf ma) := by
  intro Z G H σ env Q hd h
  refine ha.after hd (Bad := fun r => PoF K mg W Z G H σ env r Q) h (fun z => z) (fun x e z => z) fun ars e G1 H1 vs h1 s hd1 rs => ?_
  by_cases nd : (slotsOf ars).Nodup
  case neg => rw [if_neg nd] at h1; exact False.elim h1
  rw [if_pos nd] at h1
  cases q : argSl e ars with
  | none => rw [q] at h1; exact False.elim h1
  | some as =>
    rw [q] at h1
    dsimp only at h1
    refine ⟨G1, as, hd1.args nd rs q, (argSl_get hd1 rs q).2.1, ?_⟩
    cases qf : mf as with
    | bad => rw [qf] at h1; exact False.elim h1
    | exc x o =>
      rw [qf] at h1
      dsimp only at h1
      cases qp : putB e ars o with
      | none => rw [qp] at h1; exact False.elim h1
      | some e2 =>
        rw [qp] at h1
        intro G' H' C a sc hc ex
        obtain ⟨k1, k2, _⟩ := hd1.called nd rs q sc hc qp
        exact h1 G' H' C a (s.trans (k2.weak hd1.zt)) k1 ex
    | ok r o =>
      rw [qf] at h1
      cases r with
      | imm d => exact False.elim h1
      | own m =>
        dsimp only at h1
        cases qp : putB e ars o with
        | none => rw [qp] at h1; exact False.elim h1
        | some e2 =>
          rw [qp] at h1
          intro G' H' p ob sc hc hp fr gp no rm
          obtain ⟨k1, k2, k3⟩ := hd1.called nd rs q sc hc qp
          have no2 : ¬ Own σ e2 p := fun z => not_own_new hd1 fr (k3 p z)
          exact h1 G' H' p ob (s.trans (k2.weak hd1.zt)) (k1.withZ ⟨_, hp⟩ hd1 fr k2 (putB_fre nd qp)) hp (s.d p fr) gp no2 rm
/-- the heap without tables -/
noncomputable def noT (H : Hp) : Hp := fun a => match H a with
  | some (.tbl _) => none
  | o => o
theorem noT_kp (H : Hp) : Kp H (noT H) := fun a o h nt => by
  show (match H a with | some (.tbl _) => none | o => o) = some o
  rw [h]
  cases o with
  | tbl ps => exact absurd rfl (nt ps)
  | _ => rfl
theorem noT_sub (H : Hp) : Same (noT H) H := fun a o h => by
  have h : (match H a with | some (.tbl _) => none | o => o) = some o := h
  cases q : H a with
  | none => rw [q] at h; cases h
  | some u => rw [q] at h; cases u <;> first | exact h | cases h
theorem noT_nt (H : Hp) : ∀ a o, noT H a = some o → notTbl o := fun a o h ps e => by
  subst e
  have h : (match H a with | some (.tbl _) => none | o => o) = some (.tbl ps) := h
  cases q : H a with
  | none => rw [q] at h; cases h
  | some u => rw [q] at h; cases u <;> cases h
theorem imm_slots {vs : List V} {ds : List D} (r : RepL K G vs ds) (hex : Same G H) (nt : ∀ a o, G a = some o → notTbl o) : Hold K (trk H) G H (vs.map some) (ds.map .imm) ∧ ∀ a, ¬ Own (vs.map some) (ds.map .imm) a := by
  have no : ∀ j a, ¬ OwnAt (vs.map some) (ds.map Sl.imm) j a := fun j a ⟨_, s, m, q2, q3⟩ => by
    rw [List.getElem?_map] at q2
    cases e : ds[j]? with
    | none => rw [e] at q2; cases q2
    | some d => rw [e] at q2; cases q2; cases q3
  refine ⟨⟨hex, nt, by simp [r.length], fun j s e => ?_, fun i j p a _ => absurd a (no i p), fun i d e => ?_, fun a z => z⟩, fun a ⟨j, z⟩ => no j a z⟩
  · rw [List.getElem?_map] at e
    cases q : ds[j]? with
    | none => rw [q] at e; cases e
    | some d =>
      rw [q] at e; cases e
      obtain ⟨v, a, b⟩ := r.get q
      exact ⟨v, by rw [List.getElem?_map, a]; rfl, b⟩
  · rw [List.getElem?_map] at e
    cases q : ds[i]? with
    | none => rw [q] at e; cases e
    | some d => rw [q] at e; cases e
theorem evp_call {mf : En → RD} {t : TA} {ma : En → RP (List D)} (ha : EvAP K mg W t ma) : EvP K mg W (tCallS (SpM K mg mf) (WE W) t) (pCall mf ma) := by
  intro Z G H σ env Q hd h
  refine ha Z G H σ env _ hd ?_
  unfold pCall at h
  cases e : ma env with
  | bad => rw [e] at h; exact h
  | exc x => rw [e] at h; exact h
  | ok ds =>
    rw [e] at h
    intro H1 vs g rs
    have h : PoP K mg W H σ (match mf (ds.map .imm) with
      | .ok (.imm d) _ => .ok d
      | .ok (.own m) _ => .ok m.toD
      | .exc x _ => .exc x
      | .bad => .bad) Q := h
    obtain ⟨i1, i2⟩ := imm_slots (rs.mono (noT_kp H1)) (noT_sub H1) (noT_nt H1)
    have gr : ∀ {G' H' : Hp} {o : En}, Step (trk H1) (noT H1) H1 (vs.map some) (ds.map .imm) G' H' (vs.map some) o → Grow H1 H' := fun sc => ⟨fun a u x nt => sc.h a u x nt (i2 a) ⟨_, x⟩, sc.d⟩
    refine ⟨noT H1, ds.map .imm, i1, fun s hs => ?_, ?_⟩
    · obtain ⟨d, _, rfl⟩ := List.mem_map.mp hs; exact .inl ⟨d, rfl⟩
    cases qf : mf (ds.map .imm) with
    | bad => rw [qf] at h; exact h
    | exc x o => rw [qf] at h; exact fun G' H' C a sc hc ex => h H' C a (g.trans (gr sc)) ex
    | ok r o =>
      rw [qf] at h
      cases r with
      | imm d => exact fun G' H' v sc hc rv => h H' v (g.trans (gr sc)) (rv.mono (Kp.of hc.ex))
      | own m => exact fun G' H' p ob sc hc hp fr gp no rm => h H' _ (g.trans (gr sc)) ((rm.mono (Kp.of hc.ex)).rep hp)
end
end Cv
end

section
set_option Elab.async false
set_option linter.all false
set_option maxRecDepth 100000
set_option maxHeartbeats 4000000
set_option autoImplicit false
/-! CvX: exceptions of the program's own classes: made, raised, caught. -/
namespace Cv
open PySem L2 PyProof.Rows
/-! ### the class's own __init__ -/
/-- C.__init__(self, ..), C an own class that has it from ValueError -/
structure BaseI (K : PySem.W.Frag) (C0 : Addr) : Prop where
  rd : PySem.W.readsIn K C0 (.type "type") = true
  ga : PySem.W.specialIn K (.ref C0) "__getattribute__" = some (some (.builtin "type.__getattribute__"))
  fc : PySem.W.findCls K (.ref C0) (.type "type") "__init__" = some (.val (.builtin "ValueError.__init__"))
theorem pe_baseinit {X : Cx} {n : Str} {C0 : Addr} {e : Expr} {es : List Expr} {ta : TA} {p1 p2 pos : Pos} {pl : Sem Bool} (hg : Gl X n) (hm : X.mg n = some (.ref C0)) (B : BaseI X.K C0) (ha : PA X (e :: es) ta)
    (hdb : (n == ("__debug__" : Str)) = false := by decide)
    (hc : eval (.Call (.Attribute (.Name n p1) "__init__" p2) (e :: es) [] pos) X.env = (do
      let ov ← eval (.Name n p1) X.env
      standAt p2.atName
      let (f, first) ← holding [ov] (getMethod ov "__init__" pl)
      callWith pos f first (backTo pos (starEach (e :: es) X.env)) (backToKw pos (keywordEach [] X.env))) := by rfl)
    (he : starEach (e :: es) X.env = (false, eval e X.env) :: starEach es X.env := by rfl) (hpl : (backTo pos (starEach es X.env)).any (·.1) = false := by rfl) :
    PE X (.Call (.Attribute (.Name n p1) "__init__" p2) (e :: es) [] pos) (tVeI X.K ta) := by
  refine ⟨fun pins s σ H Q I h => ?_⟩
  refine PySem.W.methodCall_KW (ld_glob I hg hm ?_ hdb) hc
  refine PySem.W.method_cls I.kIn B.ga (PySem.W.cls_value I.kIn B.rd B.fc rfl ?_)
  have J : Inv X pins σ H { s with toks := s.toks + 1 } := I.tok _
  refine PyProof.Rows.callWith_method1 (thn (ha.run pos pins _ σ H _ J h) fun us s1 ⟨vs, H1, I1, r1, a, C, ws, ev, hl, T, ea, q⟩ => ?_) he hpl
  subst ev
  cases r1 with
  | @cons _ u0 _ ur ra rw2 =>
    obtain rfl : u0 = Value.ref a := ra
    have hlen : ur.length ≤ sizeLine := by
      have z := Paired.length rw2
      rw [sizeLine_eq]; omega
    exact oinit_ok T I1 ea hlen fun s2 I2 => ⟨.non, H1, I2, rfl, q⟩
/-- what such an __init__ keeps: the one field f is stored -/
def spEx (C : Addr) (f : Str) : Sp := fun vs H Q _ => ∃ (a : Addr) (v : V), vs = [.ref a, v] ∧ H a = some (exo a C none) ∧ ∀ dx, H dx = none → dx ≠ a → Q .non (upd (upd H dx (exd dx [(f, v)])) a (exo a C (some dx)))
section
variable {K : PySem.W.Frag} {mg : Str → Option Value} {W : WX} {Z : Addr → Prop} {G H : Hp} {σ : L2.St} {env : En}
/-- raise C(e) -/
def sRaise (cls f : Str) (m : En → Res D) (e : En) : Fl := match m e with
  | .ok d e1 => .exc ⟨cls, [(f, d)]⟩ e1
  | .exc x e1 => .exc x e1
  | .bad => .bad
theorem evs_raise {C : Addr} {cls f : Str} {te : TE} {m : En → Res D} (hm : mg cls = some (.ref C)) (h : EvE K mg W te m) :
    EvS K mg W (fun _ σ H => tMkO C (spEx C f) [] (tCons te tNil) σ H fun c d H' => W c d σ H') (sRaise cls f m) := by
  intro Z G H σ env D hd q
  refine h Z G H σ env _ hd ?_
  unfold sRaise at q
  cases e : m env with
  | bad => rw [e] at q; exact q
  | exc x e1 => rw [e] at q; exact PoX.toS q
  | ok d e1 =>
    rw [e] at q
    intro G1 H1 v s hd1 rv
    refine ⟨by show 1 ≤ 1000; decide, fun a ha => ?_⟩
    refine ⟨a, v, rfl, upd_same, fun dx hdx hne => ⟨rfl, dx, [(f, v)], upd_same, by rw [upd_ne hne, upd_same], ?_, ?_⟩⟩
    · rw [upd_ne hne] at hdx; exact hdx
    · rw [upd_ne hne] at hdx
      have g : Grow H1 (upd (del (upd (upd (upd H1 a (exo a C none)) dx (exd dx [(f, v)])) a (exo a C (some dx))) a) dx (.xd [(f, v)])) := by
        refine ⟨fun b o e nt => ?_, fun b e => ?_⟩
        · rw [upd_ne (ne_of_none e hdx), del_ne (ne_of_none e ha), upd_ne (ne_of_none e ha), upd_ne (ne_of_none e hdx), upd_ne (ne_of_none e ha)]; exact e
        · by_cases z : b = dx
          · rw [z, upd_same] at e; cases e
          · rw [upd_ne z] at e
            by_cases y : b = a
            · rw [y]; exact ha
            · rw [del_ne y, upd_ne y, upd_ne z, upd_ne y] at e; exact e
      exact q G1 _ σ C dx (s.trans (Step.grow g)) (hd1.grow g) ⟨hm, _, upd_same, .cons ((rv.mono (Kp.of hd1.ex)).mono g.k) .nil⟩
/-! ### the error that a suite holds -/
def ExcF (K : PySem.W.Frag) (H : Hp) (dd : Addr) (x : Exc) : Prop := ∃ fs, H dd = some (.xd fs) ∧ RepF K H fs x.fs
theorem ExcF.grow {H' : Hp} {dd : Addr} {x : Exc} (g : Grow H H') (h : ExcF K H dd x) : ExcF K H' dd x := by
  obtain ⟨fs, h1, h2⟩ := h
  exact ⟨fs, g.k dd _ h1 (fun _ z => by cases z), h2.mono g.k⟩
/-- read purely within the suite: slot i holds the error at a, its dict at dd -/
def EvX (K : PySem.W.Frag) (mg : Str → Option Value) (i : Nat) (a dd : Addr) (x : Exc) (t : TE) (m : En → RP D) : Prop := ∀ Z G H σ env Q, Hold K Z G H σ env → σ[i]? = some (some (.ref a)) → ExcF K H dd x → PoP K mg (fun _ _ _ _ => False) H σ (m env) Q → t σ H Q
def EvXA (K : PySem.W.Frag) (mg : Str → Option Value) (i : Nat) (a dd : Addr) (x : Exc) (t : TA) (m : En → RP (List D)) : Prop := ∀ Z G H σ env Q, Hold K Z G H σ env → σ[i]? = some (some (.ref a)) → ExcF K H dd x → PoAP K mg (fun _ _ _ _ => False) H σ (m env) Q → t σ H Q
variable {i : Nat} {a dd : Addr} {x : Exc}
theorem evx_p {t : TE} {m : En → RP D} (h : EvP K mg (fun _ _ _ _ => False) t m) : EvX K mg i a dd x t m := fun Z G H σ env Q hd _ _ q => h Z G H σ env Q hd q
def xFld (x : Exc) (f : Str) (_ : En) : RP D := .of (x.fs.lookup f)
theorem evx_fld {C : Addr} {f : Str} : EvX K mg i a dd x (tXf a (.ref C) (some dd) C f (tVar i)) (xFld x f) := by
  intro Z G H σ env Q hd hs ⟨fs, h1, h2⟩ q
  unfold xFld at q
  cases e : x.fs.lookup f with
  | none => rw [e] at q; exact False.elim q
  | some d =>
    rw [e] at q
    obtain ⟨v, k1, k2⟩ := h2.lookup e
    exact ⟨_, hs, rfl, rfl, dd, fs, v, rfl, h1, k1, q H v (Grow.refl H) k2⟩
/-- isinstance(e, T), T an own class -/
def rIsED (K : PySem.W.Frag) (C a dd : Addr) (c : V) (b : Bool) : List V → Hp → VK → Prop := fun xs H Q => ∃ fs, xs = [.ref a, c] ∧ H dd = some (.xd fs) ∧ Q (.bl b) H
theorem call_isED {X : Cx} {C a dd : Addr} {oe : Obj} {pn : List (Addr × Obj)} {c : V} {cv : Value} {b : Bool} (T : ExcC X.K C) (hz : Zc (.ref C) (some dd) oe) (hf : ∃ vs, oe.data = .fields vs) (hcv : ∀ u, RelV c u → u = cv) (hk : PySem.W.kitOne X.K (.ref C) cv = some b) :
    CallR (X.suite a ((a, oe) :: pn)) (.builtin "isinstance") (rIsED X.K C a dd c b) := by
  intro pins s σ H xs us Q I r h
  obtain ⟨fs, rfl, hx, q⟩ := h
  match us, r with
  | [_, _], .cons rx (.cons rt .nil) =>
    cases rx
    obtain rfl := hcv _ rt
    obtain ⟨mA, hns, _⟩ := I.hok dd _ hx
    obtain ⟨od, _, _, hod, _⟩ := hns
    have hp := (I.pin (a, oe) (List.mem_append.mpr (.inl List.mem_cons_self))).1
    obtain ⟨vs, hv⟩ := hf
    have J : PySem.W.InstAt s.heap a oe C (some od) := by
      obtain ⟨oc, odd, oda, osl⟩ := oe
      obtain ⟨z1, z2⟩ := hz
      dsimp only at z1 z2 hv
      subst z1 z2 hv
      exact ⟨hp, rfl, rfl, hod⟩
    have hcl : (PySem.W.clsIn X.K C).isSome = true := by
      have w := T.hd
      unfold PySem.W.hasDictIn at w
      cases z : PySem.W.clsIn X.K C with
      | some cd => rfl
      | none => rw [z] at w; cases w
    exact PySem.W.kia_one (PySem.W.kitx_exc hcl T.hg T.hk T.hs T.ha T.hn T.ht T.hm) I.kIn J hk (fun z => nomatch z) fun tk => ⟨.bl b, H, I.kept (t' := tk) fun _ _ z => z, rfl, q⟩
def xC (d : D) (_ : En) : RP D := .ok d
theorem evx_is {C : Addr} {c : V} {b : Bool} : EvX K mg i a dd x (tCB (rIsED K C a dd c b) (tCons (tVar i) (tCons (tC c) tNil))) (xC (.bl b)) := fun Z G H σ env Q hd hs ⟨fs, h1, _⟩ q => ⟨_, hs, fs, rfl, h1, q H _ (Grow.refl H) (.bl b)⟩
theorem evx_op {r : R2} {f : D → D → Option D} {ta tb : TE} {ma mb : En → RP D} (o : Op2 K r f) (ha : EvX K mg i a dd x ta ma) (hb : EvX K mg i a dd x tb mb) : EvX K mg i a dd x (tOp r ta tb) (p2 f ma mb) := by
  intro Z G H σ env Q hd hs hx q
  unfold p2 at q
  refine ha Z G H σ env _ hd hs hx ?_
  cases e : ma env with
  | exc y => rw [e] at q; exact fun H' C b g ex => (q H' C b g ex).elim
  | bad => rw [e] at q; exact q
  | ok d =>
    rw [e] at q
    intro H1 v g rv
    have q : PoP K mg (fun _ _ _ _ => False) H σ ((mb env).bind fun y => .of (f d y)) Q := q
    refine hb Z G H1 σ env _ (hd.grow g) hs (hx.grow g) ?_
    cases e2 : mb env with
    | exc y => rw [e2] at q; exact fun H' C b g2 ex => (q H' C b (g.trans g2) ex).elim
    | bad => rw [e2] at q; exact q
    | ok d2 =>
      rw [e2] at q
      intro H2 v2 g2 rv2
      have q : PoP K mg (fun _ _ _ _ => False) H σ (.of (f d d2)) Q := q
      cases e3 : f d d2 with
      | none => rw [e3] at q; exact False.elim q
      | some z => rw [e3] at q; exact o H2 v v2 d d2 z Q (rv.mono g2.k) rv2 e3 fun H' w g' rw' => q H' w ((g.trans g2).trans g') rw'
theorem evx_and {ta tb : TE} {ma mb : En → RP D} (ha : EvX K mg i a dd x ta ma) (hb : EvX K mg i a dd x tb mb) : EvX K mg i a dd x (tAndV ta tb) (pAnd ma mb) := by
  intro Z G H σ env Q hd hs hx q
  unfold pAnd at q
  refine ha Z G H σ env _ hd hs hx ?_
  cases e : ma env with
  | exc y => rw [e] at q; exact fun H' C b g ex => (q H' C b g ex).elim
  | bad => rw [e] at q; exact q
  | ok d =>
    rw [e] at q
    intro H1 v g rv
    cases d with
    | bl b =>
      cases rv
      refine ⟨b, rfl, ?_⟩
      cases b with
      | true => exact hb Z G H1 σ env _ (hd.grow g) hs (hx.grow g) (PoP.then g q)
      | false => exact q H1 _ g (.bl false)
    | _ => exact False.elim q
theorem evxa_nil : EvXA K mg i a dd x tNil pNil := fun Z G H σ env Q hd _ _ h => h H [] (Grow.refl H) .nil
theorem evxa_cons {ta : TE} {tr : TA} {ma : En → RP D} {mr : En → RP (List D)} (ha : EvX K mg i a dd x ta ma) (hr : EvXA K mg i a dd x tr mr) : EvXA K mg i a dd x (tCons ta tr) (pCons ma mr) := by
  intro Z G H σ env Q hd hs hx q
  unfold pCons at q
  refine ha Z G H σ env _ hd hs hx ?_
  cases e : ma env with
  | exc y => rw [e] at q; exact fun H' C b g ex => (q H' C b g ex).elim
  | bad => rw [e] at q; exact q
  | ok d =>
    rw [e] at q
    intro H1 v g rv
    have q : PoAP K mg (fun _ _ _ _ => False) H σ ((mr env).bind fun xs => .ok (d :: xs)) Q := q
    refine hr Z G H1 σ env _ (hd.grow g) hs (hx.grow g) ?_
    cases e2 : mr env with
    | exc y => rw [e2] at q; exact fun H' C b g2 ex => (q H' C b (g.trans g2) ex).elim
    | bad => rw [e2] at q; exact q
    | ok ds => rw [e2] at q; exact fun H2 vs g2 rs => q H2 _ (g.trans g2) (.cons (rv.mono g2.k) rs)
/-! ### suites -/
def EvSu (K : PySem.W.Frag) (mg : Str → Option Value) (C : Addr) (n : Str) (i : Nat) (ts : Addr → Value → Option Addr → TS) (su : Exc → En → Fl) : Prop := ∀ a dd x Z G H σ env D, x.cls = n → Hold K Z G H σ env → σ[i]? = some (some (.ref a)) → ExcF K H dd x →
  PoS K mg (fun _ _ _ _ => False) Z G H σ env (su x env) D → ts a (.ref C) (some dd) D σ H
def suRet (m : Exc → En → RP D) (x : Exc) (e : En) : Fl := match m x e with
  | .ok d => if flat d = true then .ret (.imm d) e else .bad
  | _ => .bad
theorem evsu_ret {C : Addr} {n : Str} {i : Nat} {te : Addr → Addr → TE} {m : Exc → En → RP D} (h : ∀ a dd x, EvX K mg i a dd x (te a dd) (m x)) : EvSu K mg C n i (fun a _ d => tRet (te a (d.getD 0))) (suRet m) := by
  intro a dd x Z G H σ env D _ hd hs hx q
  refine h a dd x Z G H σ env _ hd hs hx ?_
  unfold suRet at q
  cases e : m x env with
  | exc y => rw [e] at q; exact False.elim q
  | bad => rw [e] at q; exact False.elim q
  | ok d =>
    rw [e] at q
    dsimp only at q
    by_cases f : flat d = true
    · rw [if_pos f] at q
      exact fun H' v g rv => q G H' σ v (Step.grow g) (hd.grow g) (rv.flat f)
    · rw [if_neg f] at q; exact False.elim q
def suRetT (m : Exc → En → RP (List D)) (x : Exc) (e : En) : Fl := match m x e with
  | .ok ds => if ds.all flat = true ∧ ds.length ≤ sizeLine then .ret (.imm (.tup ds)) e else .bad
  | _ => .bad
theorem evsu_retT {C : Addr} {n : Str} {i : Nat} {te : Addr → Addr → TA} {m : Exc → En → RP (List D)} (h : ∀ a dd x, EvXA K mg i a dd x (te a dd) (m x)) : EvSu K mg C n i (fun a _ d => tRet (tTup (te a (d.getD 0)))) (suRetT m) := by
  intro a dd x Z G H σ env D _ hd hs hx q
  refine h a dd x Z G H σ env _ hd hs hx ?_
  unfold suRetT at q
  cases e : m x env with
  | exc y => rw [e] at q; exact False.elim q
  | bad => rw [e] at q; exact False.elim q
  | ok ds =>
    rw [e] at q
    dsimp only at q
    by_cases f : ds.all flat = true ∧ ds.length ≤ sizeLine
    · rw [if_pos f] at q
      intro H' vs g rs
      have hd' := hd.grow g
      refine ⟨by rw [rs.length]; exact f.2, fun p hp => ?_⟩
      have gp := hd'.gp hp
      exact q _ _ σ _ ((Step.grow g).trans (Step.lay hp gp)) (hd'.lay hp nt_tup) (.tup upd_same (rs.flat f.1))
    · rw [if_neg f] at q; exact False.elim q
/-! ### try: body, except C as n: suite, .. -/
def wA (K : PySem.W.Frag) (Wout : WX) (D : Ends) : List (Value × Nat × (Addr → Value → Option Addr → TS)) → WX
  | [] => Wout
  | (c, i, ts) :: r => fun cls d σ H => ∃ b, PySem.W.exmOne K cls c = some b ∧
      (b = true → (cls = c ∧ d.isSome = true) ∧ ∀ a, H a = none → ts a cls d { nx := fun σ' H' => D.nx (σ'.set i none) H', rt := D.rt, bk := fun σ' H' => D.bk (σ'.set i none) H', ct := fun σ' H' => D.ct (σ'.set i none) H' } (σ.set i (some (.ref a))) H) ∧ (b = false → wA K Wout D r cls d σ H)
inductive HdsA (X : Cx) : List ExceptHandler → List (Value × Nat × (Addr → Value → Option Addr → TS)) → Prop
  | nil : HdsA X [] []
  | cons {x n : Str} {c : Value} {i : Nat} {ts : Addr → Value → Option Addr → TS} {b₀ : Stmt} {suite : List Stmt} {np pos' : Pos} {hds : List ExceptHandler} {l : List (Value × Nat × (Addr → Value → Option Addr → TS))} (hc : Names X x c) (hi : X.N[i]? = some n) (hln : X.env.kindOf n = some .local)
      (hsu : ∀ (a : Addr) (oe : Obj) (cls : Value) (d : Option Addr) (pn : List (Addr × Obj)), Zc cls d oe → (∃ vs, oe.data = .fields vs) → cls = c → d.isSome = true → PSs (X.suite a ((a, oe) :: pn)) (b₀ :: suite) (ts a cls d)) (r : HdsA X hds l) :
      HdsA X (.ExceptHandler (some (.Name x np)) (some n) (b₀ :: suite) pos' :: hds) ((c, i, ts) :: l)

section
variable {X : Cx} {body : List Stmt} {hd0 : ExceptHandler} {hdr : List ExceptHandler} {cl : List (Value × Nat × (Addr → Value → Option Addr → TS))} {pos : Pos} {tb : WX → TS} {Wo : WX}
theorem ps_tryA (Xs : X.stack = X.env :: X.outer) (Xf : X.env.frame = some X.env.locals) (Xn : X.N.Nodup) (tkO : Takes X Wo)
    (hbody : ∀ (Wi : WX) (pj : List (Addr × Obj)) (xj : Value → Shared → Prop), Takes (X.tr pj xj) Wi → PassesOwn (model X.prog X.w) X.A X.env xj → PSs (X.tr pj xj) body (tb Wi))
    (hhs : HdsA X (hd0 :: hdr) cl) : PS X (.Try body (hd0 :: hdr) [] [] pos) (fun D σ H => tb (wA X.K Wo D cl) D σ H) := by
  constructor
  intro pj sB σB HB D IB goal
  have okX := IB.ok
  have frX : X.A.frames = some (X.env :: X.outer) := okX.frames.trans (congrArg some Xs)
  apply wpAny_Try_except
  let catch_ : Value → Shared → Prop := fun ev sc => wpAny (model X.prog X.w) X.A (noteFrame ev X.env)
    (fun _ sd => wpAny (model X.prog X.w) X.A (setFlight ev none) (fun _ sf => wpAny (model X.prog X.w) X.A (handleBy ev X.env (hd0 :: hdr)) (SP X pj D) X.xe sf) X.xe sd) X.xe sc
  have taken : Takes (X.tr (X.pn ++ pj) catch_) (wA X.K Wo D cl) := by
    intro ev sc fl
    obtain ⟨ea, BB, sI, pk, σE, HE, cls, dct, rfl, JE, nB, upE, skyE, naE, osE, agE, wE⟩ := fl
    have J := JE.ofTry okX
    rw [show (X.tr (X.pn ++ pj) catch_).stack = X.env :: X.outer from Xs] at skyE
    show wpAny (model X.prog X.w) X.A (noteFrame (.ref ea) X.env) _ _ _
    refine Sky.land Zc.steady frX Xf skyE fun hA flA upA => ?_
    have upT := upE.trans upA
    have JA : Inv X pj σE HE { sc with heap := hA } := J.landed nB flA.1 upT osE agE
    obtain ⟨oA, vA, getA, zA, datA⟩ := flA.there
    have offF : ea ∉ frs (X.env :: X.outer) := by
      intro inn
      obtain ⟨_, oo, ge, nof⟩ := flA.2.2.1.mem inn
      rw [getA] at ge
      cases ge
      exact nof _ datA
    have offL : ea ≠ X.env.locals := by
      intro z
      exact offF (List.mem_filterMap.mpr ⟨X.env, List.mem_cons_self, Xf.trans (congrArg some z.symm)⟩)
    have offS : ea ∉ X.fs := by
      intro inn
      obtain ⟨en, hen, qe⟩ := List.mem_filterMap.mp inn
      exact offF (List.mem_filterMap.mpr ⟨en, List.mem_cons_of_mem _ hen, qe⟩)
    have SA := JA.suite getA datA naE offL offS
    suffices walkC : ∀ {hs2 : List ExceptHandler} {cl2 : List (Value × Nat × (Addr → Value → Option Addr → TS))}, HdsA X hs2 cl2 → wA X.K Wo D cl2 cls dct σE HE →
        wpAny (model X.prog X.w) X.A (handleBy (.ref ea) X.env hs2) (SP X pj D) X.xe { sc with heap := hA } from walkC hhs wE
    intro hs2 cl2 hk
    induction hk with
    | nil =>
      intro wN
      apply wpAny_handleBy_nil
      have flK := flA
      obtain ⟨f1, f2, f3, oN, vN, TN, oTN, tsN, gN, zN, dN, d1N, restN⟩ := flA
      unfold PySem.passOn
      refine wpAny_bind (wpAny_field gN dN d1N ?_)
      have notNone : ¬ ((Value.ref TN == Value.none) = true) := by simp
      rw [if_neg notNone]
      have last : wpAny (model X.prog X.w) X.A (setFlight (.ref ea) X.env.frame) (fun _ sg => wpAny (model X.prog X.w) X.A (throw (.ref ea) : Sem Flow) (SP X pj D) X.xe sg) X.xe { sc with heap := hA } := by
        rw [Xf]
        refine HandSPX.setFlight_upZ flK fun hG flG upG => wpAny_throw (tkO _ _ ?_)
        exact ⟨ea, BB, sI, pj, σE, HE, cls, dct, rfl, J, nB, upT.trans upG, .inr (.inr (Xs.symm ▸ flG)), naE, osE, agE, wN⟩
      first
        | exact wpAny_bind (wpAny_pure (wpAny_bind last))
        | exact wpAny_bind last
    | @cons xN nN cN iN tsN bN suN npN poN hdsN lN hcN hiN hlN hsuN restN ihN =>
      intro wN
      obtain ⟨bb, hbb, yes, no⟩ := wN
      refine wpAny_handleBy_cons (codeAny_handlers_test ?_) (by intro q; cases q)
      have lookT : PySem.W.Looks (model X.prog X.w) hA (typeOf (.ref ea)) cls := by
        intro A2 Q2 E2 s2 k2 q2
        exact wpAny_typeOf_ref (k2 _ _ getA) (by rw [zA.1]; exact q2)
      have lookM := PySem.W.exm_one (M := model X.prog X.w) JA.kIn lookT hbb
      have askC : ∀ {Q2 E2 : Value → Shared → Prop}, Q2 cN { sc with heap := hA } → wpAny (model X.prog X.w) (X.A.mark (some (.ref ea))) (eval (.Name xN npN) X.env) Q2 E2 { sc with heap := hA } := by
        intro Q2 E2 q2
        obtain ⟨g1, g2, g3⟩ := hcN
        rcases g3 with g3 | ⟨g3, g4, g5⟩
        · exact ld_glob (X := X.suite ea ((ea, oA) :: (X.pn ++ pj))) SA g1 g3 q2 g2
        · exact ld_blt (X := X.suite ea ((ea, oA) :: (X.pn ++ pj))) SA g1 g3 g4 q2 g5 g2
      refine askC (lookM.here ?_)
      cases bb with
      | false =>
        show wpAny _ X.A (handleBy (.ref ea) X.env hdsN) _ _ _
        exact ihN (no rfl)
      | true =>
        obtain ⟨⟨ec, ed⟩, yes⟩ := yes rfl
        apply codeAny_handlers_suite_as
        refine HandSPX.lands_againZ flA fun hC flC upC => ?_
        have JC : Inv X pj σE HE { sc with heap := hC } := J.landed nB flC.1 (upT.trans upC) osE agE
        obtain ⟨oC, vC, getC, zC, datC⟩ := flC.there
        have SC := JC.suite getC datC naE offL offS
        refine store_ok (X := X.suite ea ((ea, oC) :: (X.pn ++ pj))) (v := .ref ea) SC Xn hiN (.inl hlN) rfl (fun sK SK => ?_) (.inr hlN)
        refine wpAny_mono ((hsuN ea oC cls dct (X.pn ++ pj) zC ⟨_, datC⟩ ec ed).run [] sK _ HE _ SK (yes ea naE)) (fun flow sM outc => ?_) fun _ _ z => False.elim z
        have closing : ∀ {σM : L2.St} {HM : Hp} {QM : Shared → Prop}, Inv (X.suite ea ((ea, oC) :: (X.pn ++ pj))) [] σM HM sM → (∀ sO, Inv X pj (σM.set iN none) HM sO → QM sO) →
            wpAny (model X.prog X.w) X.A (do bindName X.env nN .none; unbindBehindTheSuite X.env nN poN) (fun _ sO => QM sO) X.xe sM := by
          intro σM HM QM SM kM
          exact gone_ok (SM.unsuite okX) Xn hiN hlN kM
        cases flow with
        | ret uM =>
          obtain ⟨wv, σM, HM, SM, rM, qM⟩ := outc
          exact closing SM fun sO JO => ⟨wv, _, HM, JO, rM, qM⟩
        | next =>
          obtain ⟨σM, HM, SM, qM⟩ := outc
          exact closing SM fun sO JO => ⟨_, HM, JO, qM⟩
        | brk =>
          obtain ⟨σM, HM, SM, qM⟩ := outc
          exact closing SM fun sO JO => ⟨_, HM, JO, qM⟩
        | cont =>
          obtain ⟨σM, HM, SM, qM⟩ := outc
          exact closing SM fun sO JO => ⟨_, HM, JO, qM⟩
  refine wpAny_mono ((hbody (wA X.K Wo D cl) (X.pn ++ pj) catch_ taken PassesOwn.looking).run [] sB σB HB D (IB.toTry _) goal) (fun flow sM outc => ?_) fun _ _ he => he
  cases flow with
  | ret uM =>
    obtain ⟨wv, σM, HM, JM, rM, qM⟩ := outc
    exact ⟨wv, σM, HM, JM.ofTry okX, rM, qM⟩
  | next =>
    obtain ⟨σM, HM, JM, qM⟩ := outc
    exact wpAny_execs_nil ⟨σM, HM, JM.ofTry okX, qM⟩
  | brk =>
    obtain ⟨σM, HM, JM, qM⟩ := outc
    exact ⟨σM, HM, JM.ofTry okX, qM⟩
  | cont =>
    obtain ⟨σM, HM, JM, qM⟩ := outc
    exact ⟨σM, HM, JM.ofTry okX, qM⟩
end
/-! ### what a try computes -/
def Fl.clr (i : Nat) : Fl → Fl
  | .next e => .next (e.set i .none)
  | .brk e => .brk (e.set i .none)
  | .cont e => .cont (e.set i .none)
  | .ret r e => .ret r (e.set i .none)
  | _ => .bad
def sHand (dis : Str → Str → Bool) : List (Str × Nat × (Exc → En → Fl)) → Exc → En → Fl
  | [], x, e => .exc x e
  | (n, i, su) :: r, x, e => if x.cls = n then (if i < e.length then (su x (e.set i .none)).clr i else .bad) else if dis x.cls n = true then sHand dis r x e else .bad
def sTry (dis : Str → Str → Bool) (mb : En → Fl) (hs : List (Str × Nat × (Exc → En → Fl))) (e : En) : Fl := match mb e with
  | .exc x e1 => sHand dis hs x e1
  | r => r
section
variable {K : PySem.W.Frag} {mg : Str → Option Value} {W : WX} {Z : Addr → Prop} {G H : Hp} {σ : L2.St} {env : En}
/-- slot i gets a value that I do not know -/
theorem Hold.forget (h : Hold K Z G H σ env) (i : Nat) (y : Option V) : Hold K Z G H (σ.set i y) (env.set i .none) ∧ Step Z G H σ env G H (σ.set i y) (env.set i .none) := by
  have back : ∀ j a, OwnAt (σ.set i y) (env.set i .none) j a → j ≠ i ∧ OwnAt σ env j a := fun j a ⟨q1, s, m', q2, q3⟩ => by
    rcases getElem?_set_cases q2 with ⟨_, z, _⟩ | ⟨n, z⟩
    · subst z; cases q3
    · rw [List.getElem?_set_ne n] at q1; exact ⟨Ne.symm n, q1, s, m', z, q3⟩
  refine ⟨⟨h.ex, h.nt, by rw [List.length_set, List.length_set]; exact h.len, fun j s e => ?_, fun j k a z1 z2 => h.dis j k a (back j a z1).2 (back k a z2).2, fun j d e => ?_, h.zt⟩,
    ⟨Same.refl _, fun _ _ q _ _ _ => q, fun _ _ _ g _ _ => g, fun _ q => q, fun j m' e => ?_, fun a ⟨j, m', z1, z2⟩ => ?_⟩⟩
  · rcases getElem?_set_cases e with ⟨_, z, _⟩ | ⟨n, z⟩
    · subst z; trivial
    · rw [List.getElem?_set_ne n]; exact h.sl j s z
  · rcases getElem?_set_cases e with ⟨_, z, _⟩ | ⟨n, z⟩
    · cases z
    · obtain ⟨v, R, q1, q2, q3, q4⟩ := h.fr j d z
      exact ⟨v, R, by rw [List.getElem?_set_ne n]; exact q1, q2, fun a u w => ⟨(q3 a u w).1, fun ⟨k, z⟩ => (q3 a u w).2.1 ⟨k, (back k a z).2⟩, (q3 a u w).2.2⟩, q4⟩
  · rcases getElem?_set_cases e with ⟨_, z, _⟩ | ⟨n, z⟩
    · cases z
    · exact ⟨⟨m', z⟩, List.getElem?_set_ne n⟩
  · rcases getElem?_set_cases z2 with ⟨_, z, _⟩ | ⟨n, z⟩
    · cases z
    · rw [List.getElem?_set_ne n] at z1; exact .inl ⟨j, m', z1, z⟩
/-- the clauses, each with what it computes -/
inductive HdsM (K : PySem.W.Frag) (mg : Str → Option Value) : List (Value × Nat × (Addr → Value → Option Addr → TS)) → List (Str × Nat × (Exc → En → Fl)) → Prop
  | nil : HdsM K mg [] []
  | cons {n : Str} {C : Addr} {i : Nat} {ts : Addr → Value → Option Addr → TS} {su : Exc → En → Fl} {l : List (Value × Nat × (Addr → Value → Option Addr → TS))} {r : List (Str × Nat × (Exc → En → Fl))} (hm : mg n = some (.ref C)) (hself : PySem.W.exmOne K (.ref C) (.ref C) = some true)
      (hs : EvSu K mg C n i ts su) (hr : HdsM K mg l r) : HdsM K mg ((.ref C, i, ts) :: l) ((n, i, su) :: r)
theorem evs_try {dis : Str → Str → Bool} {tb : WX → TS} {mb : En → Fl} {l : List (Value × Nat × (Addr → Value → Option Addr → TS))} {hs : List (Str × Nat × (Exc → En → Fl))} (hb : ∀ W', EvS K mg W' (tb W') mb) (hh : HdsM K mg l hs)
    (hdis : ∀ x n C C', dis x n = true → mg x = some (.ref C) → mg n = some (.ref C') → PySem.W.exmOne K (.ref C) (.ref C') = some false) : EvS K mg W (fun D σ H => tb (wA K W D l) D σ H) (sTry dis mb hs) := by
  intro Z G H σ env D hd q
  refine hb (wA K W D l) Z G H σ env D hd ?_
  unfold sTry at q
  cases e : mb env with
  | next e1 => rw [e] at q; exact q
  | brk e1 => rw [e] at q; exact q
  | cont e1 => rw [e] at q; exact q
  | ret r e1 => rw [e] at q; exact q
  | bad => rw [e] at q; exact q
  | exc x e1 =>
    rw [e] at q
    intro G1 H1 σ1 C dx s hd1 ex
    have q1 : PoS K mg W Z G1 H1 σ1 e1 (sHand dis hs x e1) D := PoS.back s q
    clear q
    induction hh with
    | nil => exact q1 G1 H1 σ1 C dx Step.refl hd1 ex
    | @cons n C' i ts su l' r' hm hself hsu hr ih =>
      unfold sHand at q1
      by_cases c : x.cls = n
      · rw [if_pos c] at q1
        have eC : C = C' := by
          have := ex.1
          rw [c, hm] at this; cases this; rfl
        subst eC
        refine ⟨true, hself, fun _ => ⟨⟨rfl, rfl⟩, fun a ha => ?_⟩, (fun z => nomatch z)⟩
        obtain ⟨d1, d2⟩ := hd1.forget i (some (.ref a))
        by_cases hl : i < e1.length
        · rw [if_pos hl] at q1
          have hi : i < σ1.length := by rw [hd1.len]; exact hl
          refine hsu a dx x Z G1 H1 _ _ _ c d1 (List.getElem?_set_self hi) ex.2 ?_
          have nx : ∀ e2 P, PoN K Z G1 H1 σ1 e1 (e2.set i .none) P → PoN K Z G1 H1 (σ1.set i (some (.ref a))) (e1.set i .none) e2 (fun σ' H' => P (σ'.set i none) H') := fun e2 P h G2 H2 σ2 s2 hd2 => by
            obtain ⟨k1, k2⟩ := hd2.forget i none
            exact h G2 H2 _ ((d2.trans s2).trans k2) k1
          cases r : su x (e1.set i .none) with
          | next e2 => rw [r] at q1; exact nx e2 _ q1
          | brk e2 => rw [r] at q1; exact nx e2 _ q1
          | cont e2 => rw [r] at q1; exact nx e2 _ q1
          | exc y e2 => rw [r] at q1; exact False.elim q1
          | bad => rw [r] at q1; exact False.elim q1
          | ret r2 e2 =>
            rw [r] at q1
            cases r2 with
            | imm d =>
              intro G2 H2 σ2 v s2 hd2 rv
              obtain ⟨k1, k2⟩ := hd2.forget i none
              exact q1 G2 H2 _ v ((d2.trans s2).trans k2) k1 rv
            | own m =>
              intro G2 H2 σ2 p o s2 hd2 hp fr gp no rm
              obtain ⟨k1, k2⟩ := hd2.forget i none
              refine q1 G2 H2 _ p o ((d2.trans s2).trans (k2.weak fun a z => .inl z)) k1 hp ?_ gp (fun z => ?_) rm
              · rcases fr with fr | fr
                · exact d2.ow p fr
                · exact .inr fr
              · rcases k2.own p z with z | z
                · exact no z
                · rw [hp] at z; cases z
        · rw [if_neg hl] at q1; exact False.elim q1
      · rw [if_neg c] at q1
        by_cases c2 : dis x.cls n = true
        · rw [if_pos c2] at q1
          exact ⟨false, hdis _ _ _ _ c2 ex.1 hm, (fun z => nomatch z), fun _ => ih q1⟩
        · rw [if_neg c2] at q1; exact False.elim q1
end
end
end Cv
end

section
set_option Elab.async false
set_option linter.all false
set_option maxRecDepth 100000
set_option maxHeartbeats 4000000
set_option autoImplicit false
/-! CvR: data that stands apart; an object made for a call alone; pure displays; more built-ins. -/
namespace Cv
open PySem L2 PyProof.Rows
section
variable {K : PySem.W.Frag} {mg : Str → Option Value} {W : WX} {Z : Addr → Prop} {G H : Hp} {σ : L2.St} {env : En}
/-! ### pure displays -/
def pTup (m : En → RP (List D)) (e : En) : RP D := (m e).bind fun ds => if ds.length ≤ sizeLine then .ok (.tup ds) else .bad
def pLst (m : En → RP (List D)) (e : En) : RP D := (m e).bind fun ds => if ds.length ≤ sizeLine then .ok (.lst ds) else .bad
theorem evp_tup {t : TA} {m : En → RP (List D)} (ha : EvAP K mg W t m) : EvP K mg W (tTup t) (pTup m) := by
  intro Z G H σ env Q hd h
  refine ha Z G H σ env _ hd ?_
  unfold pTup at h
  cases e : m env with
  | exc x => rw [e] at h; exact h
  | bad => rw [e] at h; exact h
  | ok ds =>
    rw [e] at h
    intro H1 vs g rs
    have h : PoP K mg W H σ (if ds.length ≤ sizeLine then .ok (.tup ds) else .bad) Q := h
    by_cases l : ds.length ≤ sizeLine
    · rw [if_pos l] at h
      exact ⟨by rw [rs.length]; exact l, fun p hp => h _ _ (g.trans (Grow.new hp)) (.tup upd_same (rs.mono (Grow.new hp).k))⟩
    · rw [if_neg l] at h; exact False.elim h
theorem evp_lst {t : TA} {m : En → RP (List D)} (ha : EvAP K mg W t m) : EvP K mg W (tLst t) (pLst m) := by
  intro Z G H σ env Q hd h
  refine ha Z G H σ env _ hd ?_
  unfold pLst at h
  cases e : m env with
  | exc x => rw [e] at h; exact h
  | bad => rw [e] at h; exact h
  | ok ds =>
    rw [e] at h
    intro H1 vs g rs
    have h : PoP K mg W H σ (if ds.length ≤ sizeLine then .ok (.lst ds) else .bad) Q := h
    by_cases l : ds.length ≤ sizeLine
    · rw [if_pos l] at h
      exact ⟨by rw [rs.length]; exact l, fun p hp => h _ _ (g.trans (Grow.new hp)) (.lst upd_same (rs.mono (Grow.new hp).k))⟩
    · rw [if_neg l] at h; exact False.elim h
/-! ### arguments for a call whose answer stands apart -/
def MO.flat : MO → Bool
  | .lst ds => ds.all Cv.flat
  | .ins _ fs => fs.all fun x => Cv.flat x.2
theorem RepF.flat {K : PySem.W.Frag} {H G : Hp} : ∀ {xs : List (Str × V)} {ds : List (Str × D)}, RepF K H xs ds → (ds.all fun x => Cv.flat x.2) = true → RepF K G xs ds
  | _, _, .nil, _ => .nil
  | _, _, .cons r t, f => by
    rw [List.all_cons, Bool.and_eq_true] at f
    exact .cons (r.flat f.1) (RepF.flat t f.2)
theorem RepM.flat {G' : Hp} {o : HO} {m : MO} (r : RepM K G o m) (f : m.flat = true) : RepM K G' o m := by
  cases r with
  | lst r => exact .lst (r.flat f)
  | ins r => exact .ins (r.flat f)
def PoG (K : PySem.W.Frag) (mg : Str → Option Value) (W : WX) (Z : Addr → Prop) (G H : Hp) (σ : L2.St) (env : En) (r : Res (List D)) (Q : List V → Hp → Prop) : Prop := match r with
  | .ok ds e => ∀ G' H' vs R, Step Z G H σ env G' H' σ e → Hold K (fun a => Z a ∨ ∃ o, R a = some o) G' H' σ e → Same R H' → (∀ a o, R a = some o → H a = none ∧ G' a = none ∧ ¬ Own σ e a ∧ notTbl o) → RepL K R vs ds → Q vs H'
  | .exc x e => PoX K mg W Z G H σ env x e
  | .bad => False
def EvG' (K : PySem.W.Frag) (mg : Str → Option Value) (W : WX) (t : TA) (m : En → Res (List D)) : Prop := ∀ Z G H σ env Q, Hold K Z G H σ env → PoG K mg W Z G H σ env (m env) Q → t σ H Q
def rNil (e : En) : Res (List D) := .ok [] e
def rE (a : En → Res D) (b : En → Res (List D)) (e : En) : Res (List D) := (a e).bind fun x e1 => if flat x = true then (b e1).bind fun xs e2 => .ok (x :: xs) e2 else .bad
def rF (a : En → Res MO) (b : En → Res (List D)) (e : En) : Res (List D) := (a e).bind fun x e1 => if x.flat = true then (b e1).bind fun xs e2 => .ok (x.toD :: xs) e2 else .bad
theorem evr_nil : EvG' K mg W tNil rNil := fun Z G H σ env Q hd h => h G H [] (fun _ => none) Step.refl
  ⟨hd.ex, hd.nt, hd.len, hd.sl, hd.dis, fun i d e => let ⟨v, R, h1, h2, h3, h4⟩ := hd.fr i d e; ⟨v, R, h1, h2, fun a o z => ⟨(h3 a o z).1, (h3 a o z).2.1, (fun w => by rcases w with w | ⟨_, w⟩; exact (h3 a o z).2.2.1 w; cases w), (h3 a o z).2.2.2⟩, h4⟩, fun a z => by rcases z with z | ⟨_, z⟩; exact hd.zt a z; cases z⟩
  (fun a o e => by cases e) (fun a o e => by cases e) .nil
theorem evr_e {ta : TE} {ma : En → Res D} {t : TA} {m : En → Res (List D)} (ha : EvE K mg W ta ma) (hr : EvG' K mg W t m) : EvG' K mg W (tCons ta t) (rE ma m) := by
  intro Z G H σ env Q hd h
  refine ha.after hd (Bad := fun r => PoG K mg W Z G H σ env r Q) h (fun z => z) (fun x e z => z) fun d e G1 H1 v h1 s hd1 rv => ?_
  by_cases f : flat d = true
  · rw [if_pos f] at h1
    refine hr Z G1 H1 σ e _ hd1 ?_
    cases q : m e with
    | ok ds e2 =>
      rw [q] at h1
      exact fun G' H' vs R s' hd' sr hr rs => h1 G' H' _ R (s.trans s') hd' sr (fun a o z => ⟨s.d a (hr a o z).1, (hr a o z).2⟩) (.cons (rv.flat f) rs)
    | exc x e2 => rw [q] at h1; exact PoX.back s h1
    | bad => rw [q] at h1; exact False.elim h1
  · rw [if_neg f] at h1; exact False.elim h1
theorem evr_f {ta : TE} {ma : En → Res MO} {t : TA} {m : En → Res (List D)} (ha : EvF K mg W ta ma) (hr : EvG' K mg W t m) : EvG' K mg W (tCons ta t) (rF ma m) := by
  intro Z G H σ env Q hd h
  refine ha.after hd (Bad := fun r => PoG K mg W Z G H σ env r Q) h (fun z => z) (fun x e z => z) fun mo e G1 H1 p o h1 s hd1 hp h0 gp no r => ?_
  by_cases f : mo.flat = true
  case neg => rw [if_neg f] at h1; exact False.elim h1
  rw [if_pos f] at h1
  refine hr (fun a => Z a ∨ a = p) G1 H1 σ e _ hd1 ?_
  cases q : m e with
  | bad => rw [q] at h1; exact False.elim h1
  | exc x e2 =>
    rw [q] at h1
    exact fun G' H' C a s' hd' ex => h1 G' H' C a (s.trans (s'.weak fun a z => .inl z)) (hd'.weak fun a z => .inl z) ex
  | ok ds e2 =>
    rw [q] at h1
    intro G' H' vs R s' hd' sr hR rs
    have hp' : H' p = some o := s'.h p o hp r.nt no (.inr rfl)
    have gp' : G' p = none := s'.n p o hp gp no (.inr rfl)
    have no' : ¬ Own σ e2 p := fun z => by
      rcases s'.own p z with z | z
      · exact no z
      · rw [hp] at z; cases z
    have rp : R p = none := by
      cases z : R p with
      | none => rfl
      | some u => rw [(hR p u z).1] at hp; cases hp
    refine h1 G' H' _ (upd R p o) (s.trans (s'.weak fun a z => .inl z)) ?_ (fun a u z => ?_) (fun a u z => ?_) (.cons ((r.flat f : RepM K (upd R p o) o mo).rep upd_same) (rs.mono fun a u z _ => by rw [upd_ne (ne_of_none z rp)]; exact z))
    · refine hd'.weak fun a z => ?_
      rcases z with z | ⟨u, z⟩
      · exact .inl (.inl z)
      · by_cases w : a = p
        · exact .inl (.inr w)
        · rw [upd_ne w] at z; exact .inr ⟨u, z⟩
    · by_cases w : a = p
      · subst w; rw [upd_same] at z; rw [← z]; exact hp'
      · rw [upd_ne w] at z; exact sr a u z
    · by_cases w : a = p
      · subst w; rw [upd_same] at z; cases z; exact ⟨h0, gp', no', r.nt⟩
      · rw [upd_ne w] at z; exact ⟨s.d a (hR a u z).1, (hR a u z).2⟩
/-- x = f(..): the answer stands apart -/
def sAsgR (mf : En → RD) (ma : En → Res (List D)) (i : Nat) (e : En) : Fl := match ma e with
  | .ok ds e1 => (match mf (ds.map .imm) with
    | .ok (.imm d) _ => if i < e1.length then .next (e1.set i (.fre d)) else .bad
    | .ok (.own m) _ => if i < e1.length then .next (e1.set i (.fre m.toD)) else .bad
    | .exc x _ => .exc x e1
    | .bad => .bad)
  | .exc x e1 => .exc x e1
  | .bad => .bad
theorem evs_asgR {mf : En → RD} {t : TA} {ma : En → Res (List D)} {i : Nat} (ha : EvG' K mg W t ma) : EvS K mg W (tAsg (tCallS (SpM K mg mf) (WE W) t) (gName i)) (sAsgR mf ma i) := by
  intro Z G H σ env D hd h
  refine ha Z G H σ env _ hd ?_
  unfold sAsgR at h
  cases e : ma env with
  | bad => rw [e] at h; exact h
  | exc x e1 => rw [e] at h; exact PoX.toS h
  | ok ds e1 =>
    rw [e] at h
    dsimp only at h
    intro G1 H1 vs R s hd1 sr hR rs
    obtain ⟨i1, i2⟩ := imm_slots rs sr (fun a o z => (hR a o z).2.2.2)
    have hd1' : Hold K Z G1 H1 σ e1 := hd1.weak fun a z => .inl z
    refine ⟨R, ds.map .imm, i1, fun s hs => ?_, ?_⟩
    · obtain ⟨d, _, rfl⟩ := List.mem_map.mp hs; exact .inl ⟨d, rfl⟩
    have gr : ∀ {G' H' : Hp} {o : En}, Step (trk H1) R H1 (vs.map some) (ds.map .imm) G' H' (vs.map some) o → Grow H1 H' := fun sc => ⟨fun a u x nt => sc.h a u x nt (i2 a) ⟨_, x⟩, sc.d⟩
    -- the answer's objects
    have away : ∀ {G' H' : Hp} {o : En}, Step (trk H1) R H1 (vs.map some) (ds.map .imm) G' H' (vs.map some) o → Hold K (trk H1) G' H' (vs.map some) o → ∀ a u, G' a = some u → G1 a = none ∧ ¬ Own σ e1 a ∧ ¬ Z a ∧ notTbl u := fun {G' H' o} sc hc a u z => by
      cases r : R a with
      | some u' =>
        obtain ⟨k1, k2, k3, k4⟩ := hR a u' r
        refine ⟨k2, k3, fun z' => ?_, hc.nt a u z⟩
        obtain ⟨_, q⟩ := hd.zt a z'
        rw [k1] at q; cases q
      | none =>
        have h1 : H1 a = none := by
          cases q : H1 a with
          | none => rfl
          | some w => rw [sc.n a w q r (i2 a) ⟨_, q⟩] at z; cases z
        refine ⟨hd1'.gp h1, not_own_new hd1' h1, fun z' => ?_, hc.nt a u z⟩
        obtain ⟨_, q⟩ := hd1'.zt a z'
        rw [h1] at q; cases q
    have fin : ∀ {G' H' Gr : Hp} {o : En} {v : V} {d : Cv.D}, Step (trk H1) R H1 (vs.map some) (ds.map .imm) G' H' (vs.map some) o → (∀ a u, Gr a = some u → G1 a = none ∧ ¬ Own σ e1 a ∧ ¬ Z a ∧ notTbl u) → Same Gr H' → Rep K Gr v d → i < e1.length →
        PoN K Z G H σ env (e1.set i (.fre d)) D.nx → gName i v σ H' D.nx := fun {G' H' Gr o v d} sc aw sm rv c q => by
      have hg := hd1'.grow (gr sc)
      exact q G1 H' _ (Step.put hg.len (fun m z => by cases z) (fun m z => by cases z) (s.trans (Step.grow (gr sc)))) (hg.put (s := .fre d) c trivial (fun m z => by cases z) (fun m z => by cases z) (fun d' z => by cases z; exact ⟨Gr, sm, aw, rv⟩))
    cases qf : mf (ds.map .imm) with
    | bad => rw [qf] at h; exact h
    | exc x o => rw [qf] at h; exact fun G' H' C a sc hc ex => PoX.toS h G1 H' C a (s.trans (Step.grow (gr sc))) (hd1'.grow (gr sc)) ex
    | ok r o =>
      rw [qf] at h
      cases r with
      | imm d =>
        dsimp only at h
        by_cases c : i < e1.length
        · rw [if_pos c] at h
          exact fun G' H' v sc hc rv => fin sc (away sc hc) hc.ex rv c h
        · rw [if_neg c] at h; exact False.elim h
      | own m =>
        dsimp only at h
        by_cases c : i < e1.length
        · rw [if_pos c] at h
          intro G' H' p ob sc hc hp fr gp no rm
          refine fin (Gr := upd G' p ob) sc (fun a u z => ?_) (fun a u z => ?_) ((rm.mono (Kp.of fun a u e => by rw [upd_ne (ne_of_none e gp)]; exact e)).rep upd_same) c h
          · by_cases w : a = p
            · subst w; rw [upd_same] at z; cases z
              refine ⟨hd1'.gp fr, not_own_new hd1' fr, fun z' => ?_, rm.nt⟩
              obtain ⟨_, q⟩ := hd1'.zt a z'
              rw [fr] at q; cases q
            · rw [upd_ne w] at z; exact away sc hc a u z
          · by_cases w : a = p
            · subst w; rw [upd_same] at z; rw [← z]; exact hp
            · rw [upd_ne w] at z; exact hc.ex a u z
        · rw [if_neg c] at h; exact False.elim h
/-! ### what stands apart is changed -/
def unfre (e : En) : En := e.map fun s => match s with
  | .fre _ => .none
  | s => s
theorem unfre_get {i : Nat} {s : Sl} (h : (unfre env)[i]? = some s) : (env[i]? = some s ∧ ∀ d, s ≠ .fre d) ∨ s = .none := by
  unfold unfre at h
  rw [List.getElem?_map] at h
  cases e : env[i]? with
  | none => rw [e] at h; cases h
  | some t =>
    rw [e] at h
    cases t with
    | fre d => cases h; exact .inr rfl
    | none => cases h; exact .inr rfl
    | imm d => cases h; exact .inl ⟨rfl, fun d z => by cases z⟩
    | own m => cases h; exact .inl ⟨rfl, fun d z => by cases z⟩
    | par m => cases h; exact .inl ⟨rfl, fun d z => by cases z⟩
theorem Hold.spoil {p : Addr} {o : HO} (h : Hold K Z G H σ env) (hp : ∃ u, H p = some u) (gp : G p = none) (no : ¬ Own σ env p) (nz : ¬ Z p) : Hold K Z G (upd H p o) σ (unfre env) ∧ Step Z G H σ env G (upd H p o) σ (unfre env) := by
  have back : ∀ j a, OwnAt σ (unfre env) j a → OwnAt σ env j a := fun j a ⟨q1, s, m', q2, q3⟩ => by
    rcases unfre_get q2 with ⟨z, _⟩ | z
    · exact ⟨q1, s, m', z, q3⟩
    · subst z; cases q3
  refine ⟨⟨fun a u e => by rw [upd_ne (ne_of_none e gp)]; exact h.ex a u e, h.nt, by unfold unfre; rw [List.length_map]; exact h.len, fun i s e => ?_, fun i j a z1 z2 => h.dis i j a (back i a z1) (back j a z2), fun i d e => ?_, fun a z => upd_there (h.zt a z)⟩,
    ⟨Same.refl _, fun a u q _ _ z => by rw [upd_ne fun w => nz (by rw [← w]; exact z)]; exact q, fun _ _ _ g _ _ => g, fun a q => ?_, fun i m' e => ?_, fun a ⟨i, m, q1, q2⟩ => ?_⟩⟩
  · rcases unfre_get e with ⟨z, nf⟩ | z
    · have w := h.sl i s z
      have nj : ∀ m, s.mo = some m → σ[i]?.join ≠ some (.ref p) := fun m hm q => no ⟨i, .of (slot_join q) z hm⟩
      cases s with
      | none => trivial
      | fre d => trivial
      | imm d => exact w
      | own m2 => obtain ⟨p2, u, w1, w2, w3, w4⟩ := w; exact ⟨p2, u, w1, by rw [upd_ne (fun z => nj m2 rfl (by rw [w1, z]))]; exact w2, w3, w4⟩
      | par m2 => obtain ⟨p2, u, w1, w2, w3, w4⟩ := w; exact ⟨p2, u, w1, by rw [upd_ne (fun z => nj m2 rfl (by rw [w1, z]))]; exact w2, w3, w4⟩
    · subst z; trivial
  · rcases unfre_get e with ⟨z, nf⟩ | z
    · exact absurd rfl (nf d)
    · cases z
  · by_cases w : a = p
    · rw [w, upd_same] at q; cases q
    · rw [upd_ne w] at q; exact q
  · rcases unfre_get e with ⟨z, _⟩ | z
    · exact ⟨⟨m', z⟩, rfl⟩
    · cases z
  · rcases unfre_get q2 with ⟨z, _⟩ | z
    · exact .inl ⟨i, m, q1, z⟩
    · cases z
/-- a place within what slot i holds -/
def EvQ (K : PySem.W.Frag) (i : Nat) (t : TE) (m : D → Option D) : Prop := ∀ H R σ v0 d0 d Q, σ[i]? = some (some v0) → Rep K R v0 d0 → Same R H → m d0 = some d → (∀ v, Rep K R v d → Q v H) → t σ H Q
def qVar (d : D) : Option D := some d
def qIx (k : Int) (m : D → Option D) (d : D) : Option D := (m d).bind fun x => dIx x (.int k)
theorem evq_var {i : Nat} : EvQ K i (tVar i) qVar := fun H R σ v0 d0 d Q hs r _ e q => by cases e; exact ⟨v0, hs, q v0 r⟩
theorem evq_ix {i : Nat} {k : Int} {t : TE} {m : D → Option D} (h : EvQ K i t m) : EvQ K i (tOp (rIx K) t (tC (.int k))) (qIx k m) := by
  intro H R σ v0 d0 d Q hs r sm e q
  unfold qIx at e
  cases e1 : m d0 with
  | none => rw [e1] at e; cases e
  | some x =>
    rw [e1] at e
    have e : dIx x (.int k) = some d := e
    refine h H R σ v0 d0 x _ hs r sm e1 fun v rv => ?_
    show rIx K v (.int k) H Q
    unfold dIx at e
    cases x with
    | lst ds => cases rv with | lst a r => obtain ⟨w, h1, h2⟩ := atI_rep r e; exact .inl ⟨_, _, _, w, rfl, rfl, SqL.of (sm _ _ a), h1, q w h2⟩
    | rls ds => cases rv with | rls a r => obtain ⟨w, h1, h2⟩ := atI_rep r e; exact .inl ⟨_, _, _, w, rfl, rfl, SqL.kp (Kp.of sm) a, h1, q w h2⟩
    | tup ds => cases rv with | tup a r => obtain ⟨w, h1, h2⟩ := atI_rep r e; exact .inr (.inl ⟨_, _, _, w, rfl, rfl, SqT.of (sm _ _ a), h1, q w h2⟩)
    | _ => cases e
def freAt (e : En) (i : Nat) : Option D := match e[i]? with
  | some (.fre d) => some d
  | _ => none
def lstOf : Option D → Option (List D)
  | some (.lst ds) => some ds
  | _ => none
def sSpoilA (i : Nat) (q : D → Option D) (m : En → RP D) (e : En) : Fl := match lstOf ((freAt e i).bind q) with
  | some ds => (match m e with
    | .ok _ => if ds.length < sizeLine then .next (unfre e) else .bad
    | _ => .bad)
  | none => .bad
theorem fre_get (hd : Hold K Z G H σ env) {i : Nat} {d : D} (h : freAt env i = some d) : ∃ (v : V) (R : Hp), σ[i]? = some (some v) ∧ Same R H ∧ (∀ a o, R a = some o → G a = none ∧ ¬ Own σ env a ∧ ¬ Z a ∧ notTbl o) ∧ Rep K R v d := by
  unfold freAt at h
  cases e : env[i]? with
  | none => rw [e] at h; cases h
  | some s =>
    rw [e] at h
    cases s with
    | fre d' => cases h; exact hd.fr i d e
    | none => cases h
    | imm d => cases h
    | own m => cases h
    | par m => cases h
theorem lstOf_some {o : Option D} {ds : List D} (h : lstOf o = some ds) : o = some (.lst ds) := by
  unfold lstOf at h
  split at h
  · cases h; rfl
  · cases h
theorem evs_spoilA {i : Nat} {tq te : TE} {q : D → Option D} {m : En → RP D} (hq : EvQ K i tq q) (hm : EvP K mg W te m) : EvS K mg W (tDrop (tBM K "list" rAppend tq (tCons te tNil))) (sSpoilA i q m) := by
  intro Z G H σ env D hd h
  unfold sSpoilA at h
  cases e : lstOf ((freAt env i).bind q) with
  | none => rw [e] at h; exact False.elim h
  | some ds =>
    rw [e] at h
    dsimp only at h
    have e' := lstOf_some e
    cases f : freAt env i with
    | none => rw [f] at e'; cases e'
    | some d0 =>
      rw [f] at e'
      have e' : q d0 = some (.lst ds) := e'
      obtain ⟨v, R, h1, h2, h3, h4⟩ := fre_get hd f
      refine hq H R σ v d0 (.lst ds) _ h1 h4 h2 e' fun x rx => ?_
      cases rx with
      | @lst p xs _ hp rs =>
        obtain ⟨k1, k2, k3, _⟩ := h3 _ _ hp
        refine ⟨.inl ⟨rfl, _, SqL.of (h2 _ _ hp)⟩, ?_⟩
        refine hm Z G H σ env _ hd ?_
        cases em : m env with
        | bad => rw [em] at h; exact False.elim h
        | exc x => rw [em] at h; exact False.elim h
        | ok d =>
          rw [em] at h
          dsimp only at h
          by_cases c : ds.length < sizeLine
          · rw [if_pos c] at h
            intro H1 w g rw'
            have hd1 := hd.grow g
            have hp1 : H1 p = some (.lst xs) := g.k _ _ (h2 _ _ hp) nt_lst
            obtain ⟨a, b⟩ := hd1.spoil (o := .lst (xs ++ [w])) ⟨_, hp1⟩ k1 k2 k3
            exact ⟨p, xs, w, rfl, rfl, hp1, by rw [rs.length]; exact c, h G _ σ ((Step.grow g).trans b) a⟩
          · rw [if_neg c] at h; exact False.elim h
def sSpoilP (i : Nat) (q : D → Option D) (e : En) : Fl := match lstOf ((freAt e i).bind q) with
  | some ds => if ds = [] then .bad else .next (unfre e)
  | none => .bad
theorem evs_spoilP {i : Nat} {tq : TE} {q : D → Option D} (hq : EvQ K i tq q) : EvS K mg W (tDrop (tBM0 K "list" rPop tq)) (sSpoilP i q) := by
  intro Z G H σ env D hd h
  unfold sSpoilP at h
  cases e : lstOf ((freAt env i).bind q) with
  | none => rw [e] at h; exact False.elim h
  | some ds =>
    rw [e] at h
    dsimp only at h
    have e' := lstOf_some e
    cases f : freAt env i with
    | none => rw [f] at e'; cases e'
    | some d0 =>
      rw [f] at e'
      have e' : q d0 = some (.lst ds) := e'
      obtain ⟨v, R, h1, h2, h3, h4⟩ := fre_get hd f
      refine hq H R σ v d0 (.lst ds) _ h1 h4 h2 e' fun x rx => ?_
      cases rx with
      | @lst p xs _ hp rs =>
        obtain ⟨k1, k2, k3, _⟩ := h3 _ _ hp
        by_cases c : ds = []
        · rw [if_pos c] at h; exact False.elim h
        · rw [if_neg c] at h
          have hl := rs.length
          have nd : 0 < ds.length := by
            cases ds with
            | nil => exact absurd rfl c
            | cons _ _ => simp
          obtain ⟨a, b⟩ := hd.spoil (o := .lst xs.dropLast) ⟨_, h2 _ _ hp⟩ k1 k2 k3
          have hx : xs[xs.length - 1]? = some (xs[xs.length - 1]'(by omega)) := List.getElem?_eq_getElem (by omega)
          exact ⟨.inl ⟨rfl, _, SqL.of (h2 _ _ hp)⟩, p, xs, _, rfl, rfl, h2 _ _ hp, hx, h G _ σ b a⟩
end
end Cv
end

section
set_option Elab.async false
set_option linter.all false
set_option maxRecDepth 100000
set_option maxHeartbeats 4000000
set_option autoImplicit false
/-! CvS: a call one of whose arguments is an object made for it; sorted pairs; o[i] op= e. -/
namespace Cv
open PySem L2 PyProof.Rows
section
variable {K : PySem.W.Frag} {mg : Str → Option Value} {W : WX} {Z : Addr → Prop} {G H : Hp} {σ : L2.St} {env : En}
/-! ### a call's answer, data or new -/
def PoW (K : PySem.W.Frag) (mg : Str → Option Value) (W : WX) (Z : Addr → Prop) (G H : Hp) (σ : L2.St) (env : En) (r : Res Ret) (Q : VK) : Prop := match r with
  | .ok (.imm d) e => PoE K mg W Z G H σ env (.ok d e) Q
  | .ok (.own m) e => PoF K mg W Z G H σ env (.ok m e) Q
  | .exc x e => PoX K mg W Z G H σ env x e
  | .bad => False
def EvW (K : PySem.W.Frag) (mg : Str → Option Value) (W : WX) (t : TE) (m : En → Res Ret) : Prop := ∀ Z G H σ env Q, Hold K Z G H σ env → PoW K mg W Z G H σ env (m env) Q → t σ H Q
def eOfW (a : En → Res Ret) (e : En) : Res D := match a e with
  | .ok (.imm d) e1 => .ok d e1
  | .ok (.own m) e1 => .ok m.toD e1
  | .exc x e1 => .exc x e1
  | .bad => .bad
def fOfW (a : En → Res Ret) (e : En) : Res MO := match a e with
  | .ok (.imm _) _ => .bad
  | .ok (.own m) e1 => .ok m e1
  | .exc x e1 => .exc x e1
  | .bad => .bad
theorem eve_w {t : TE} {m : En → Res Ret} (h : EvW K mg W t m) : EvE K mg W t (eOfW m) := by
  intro Z G H σ env Q hd q
  refine h Z G H σ env Q hd ?_
  unfold eOfW at q
  cases e : m env with
  | bad => rw [e] at q; exact q
  | exc x e1 => rw [e] at q; exact q
  | ok r e1 =>
    rw [e] at q
    cases r with
    | imm d => exact q
    | own mo =>
      intro G1 H1 p o s hd1 hp h0 gp no r
      obtain ⟨j1, j2⟩ := hd1.join hp gp no r.nt
      exact q _ _ _ (j2 Z G H σ env h0 s) j1 ((r.mono (Kp.of fun a u e => by rw [upd_ne (ne_of_none e gp)]; exact e)).rep upd_same)
theorem evf_w {t : TE} {m : En → Res Ret} (h : EvW K mg W t m) : EvF K mg W t (fOfW m) := by
  intro Z G H σ env Q hd q
  refine h Z G H σ env Q hd ?_
  unfold fOfW at q
  cases e : m env with
  | bad => rw [e] at q; exact q
  | exc x e1 => rw [e] at q; exact q
  | ok r e1 =>
    rw [e] at q
    cases r with
    | imm d => exact False.elim q
    | own mo => exact q
/-! ### one slot more -/
theorem app_last {α : Type} {l : List α} {x y : α} {i : Nat} (h : (l ++ [x])[i]? = some y) : l[i]? = some y ∨ (i = l.length ∧ x = y) := by
  by_cases c : i < l.length
  · rw [List.getElem?_append_left c] at h; exact .inl h
  · rw [List.getElem?_append_right (by omega)] at h
    cases q : i - l.length with
    | zero => rw [q] at h; simp at h; exact .inr ⟨by omega, h⟩
    | succ n => rw [q] at h; simp at h
theorem app_l {α : Type} {l : List α} {x y : α} {i : Nat} (h : l[i]? = some y) : (l ++ [x])[i]? = some y := by
  rw [List.getElem?_append_left (List.getElem?_eq_some_iff.mp h).1]; exact h
theorem ownAt_ext (hl : σ.length = env.length) {x : Option V} {s0 : Sl} {j : Nat} {a : Addr} (h : OwnAt (σ ++ [x]) (env ++ [s0]) j a) : OwnAt σ env j a ∨ (j = env.length ∧ x = some (.ref a)) := by
  obtain ⟨q1, s, m, q2, q3⟩ := h
  rcases app_last q2 with z | ⟨z, w⟩
  · rcases app_last q1 with y | ⟨y, _⟩
    · exact .inl ⟨y, s, m, z, q3⟩
    · have := (List.getElem?_eq_some_iff.mp z).1; omega
  · rcases app_last q1 with y | ⟨_, y⟩
    · have := (List.getElem?_eq_some_iff.mp y).1; omega
    · exact .inr ⟨z, y⟩
theorem Hold.ext {p : Addr} {o : HO} {m : MO} (h : Hold K (fun a => Z a ∨ a = p) G H σ env) (hp : H p = some o) (gp : G p = none) (no : ¬ Own σ env p) (r : RepM K G o m) : Hold K Z G H (σ ++ [some (.ref p)]) (env ++ [.own m]) := by
  have hl := h.len
  refine ⟨h.ex, h.nt, by simp [hl], fun i s e => ?_, fun i j a x y => ?_, fun i d e => ?_, fun a z => h.zt a (.inl z)⟩
  · rcases app_last e with z | ⟨z, w⟩
    · have q := h.sl i s z
      have hi : i < σ.length := by have := (List.getElem?_eq_some_iff.mp z).1; omega
      rw [List.getElem?_append_left hi]; exact q
    · subst w; subst z
      exact ⟨p, o, by rw [← hl]; simp, hp, gp, r⟩
  · rcases ownAt_ext hl x with x | ⟨x1, x2⟩ <;> rcases ownAt_ext hl y with y | ⟨y1, y2⟩
    · exact h.dis i j a x y
    · have ea : p = a := V.ref.inj (Option.some.inj y2)
      rw [← ea] at x; exact absurd ⟨i, x⟩ no
    · have ea : p = a := V.ref.inj (Option.some.inj x2)
      rw [← ea] at y; exact absurd ⟨j, y⟩ no
    · omega
  · rcases app_last e with z | ⟨z, w⟩
    · obtain ⟨v, R, q1, q2, q3, q4⟩ := h.fr i d z
      refine ⟨v, R, app_l q1, q2, fun a u w => ⟨(q3 a u w).1, fun ⟨k, y⟩ => ?_, fun y => (q3 a u w).2.2.1 (.inl y), (q3 a u w).2.2.2⟩, q4⟩
      rcases ownAt_ext hl y with y | ⟨_, y⟩
      · exact (q3 a u w).2.1 ⟨k, y⟩
      · have ea : p = a := V.ref.inj (Option.some.inj y)
        exact (q3 a u w).2.2.1 (.inr ea.symm)
    · cases w
theorem Hold.unext {x : Option V} {s0 : Sl} (hl : σ.length = env.length) (h : Hold K Z G H (σ ++ [x]) (env ++ [s0])) : Hold K Z G H σ env := by
  have up : ∀ j a, OwnAt σ env j a → OwnAt (σ ++ [x]) (env ++ [s0]) j a := fun j a ⟨q1, s, m, q2, q3⟩ => ⟨app_l q1, s, m, app_l q2, q3⟩
  refine ⟨h.ex, h.nt, hl, fun i s e => ?_, fun i j a y z => h.dis i j a (up i a y) (up j a z), fun i d e => ?_, h.zt⟩
  · have q := h.sl i s (app_l e)
    have hi : i < σ.length := by have := (List.getElem?_eq_some_iff.mp e).1; omega
    rw [List.getElem?_append_left hi] at q; exact q
  · obtain ⟨v, R, q1, q2, q3, q4⟩ := h.fr i d (app_l e)
    have hi : i < σ.length := by have := (List.getElem?_eq_some_iff.mp e).1; omega
    rw [List.getElem?_append_left hi] at q1
    exact ⟨v, R, q1, q2, fun a u w => ⟨(q3 a u w).1, fun ⟨k, y⟩ => (q3 a u w).2.1 ⟨k, up k a y⟩, (q3 a u w).2.2⟩, q4⟩
theorem argSl_ext {s0 : Sl} : ∀ {ars : List Ar} {as : En}, argSl env ars = some as → argSl (env ++ [s0]) ars = some as ∧ env.length ∉ slotsOf ars
  | [], as, h => ⟨h, by simp [slotsOf]⟩
  | .v d :: r, as, h => by
    unfold argSl at h
    cases q : argSl env r with
    | none => rw [q] at h; cases h
    | some a =>
      rw [q] at h; cases h
      obtain ⟨a1, a2⟩ := argSl_ext (s0 := s0) q
      exact ⟨by unfold argSl; rw [a1]; rfl, a2⟩
  | .s i :: r, as, h => by
    unfold argSl at h
    have key : ∀ (sl : Sl) (m : MO), env[i]? = some sl → (sl = .own m ∨ sl = .par m) → (argSl env r).map (.par m :: ·) = some as → argSl (env ++ [s0]) (.s i :: r) = some as ∧ env.length ∉ slotsOf (.s i :: r) := fun sl m e hk h => by
      cases q : argSl env r with
      | none => rw [q] at h; cases h
      | some a =>
        rw [q] at h; cases h
        obtain ⟨a1, a2⟩ := argSl_ext (s0 := s0) q
        refine ⟨?_, fun z => ?_⟩
        · unfold argSl
          rw [app_l e]
          rcases hk with hk | hk <;> (subst hk; dsimp only; rw [a1]; rfl)
        · rcases List.mem_cons.mp z with z | z
          · have := (List.getElem?_eq_some_iff.mp e).1; omega
          · exact a2 z
    cases e : env[i]? with
    | none => rw [e] at h; cases h
    | some sl =>
      rw [e] at h
      cases sl with
      | own m => exact key _ m e (.inl rfl) h
      | par m => exact key _ m e (.inr rfl) h
      | none => cases h
      | imm d => cases h
      | fre d => cases h
theorem putB_ext {s0 : Sl} : ∀ {ars : List Ar} {o e e2 : En}, putB e ars o = some e2 → putB (e ++ [s0]) ars o = some (e2 ++ [s0]) ∧ e2.length = e.length
  | [], [], e, e2, h => by cases h; exact ⟨rfl, rfl⟩
  | .v _ :: r, .imm _ :: o, e, e2, h => putB_ext (ars := r) (show putB e r o = some e2 from h)
  | .s x :: r, .par m :: o, e, e2, h => by
    unfold putB at h ⊢
    cases q : e[x]? with
    | none => rw [q] at h; cases h
    | some s =>
      rw [q] at h
      rw [app_l q]
      have hx : x < e.length := (List.getElem?_eq_some_iff.mp q).1
      obtain ⟨a, b⟩ := putB_ext (s0 := s0) h
      refine ⟨?_, by rw [b, List.length_set]⟩
      dsimp only
      rw [List.set_append_left _ _ hx]
      exact a
  | [], _ :: _, e, e2, h => by cases h
  | .v _ :: _, [], e, e2, h => by cases h
  | .s _ :: _, [], e, e2, h => by cases h
  | .v _ :: _, .none :: _, e, e2, h => by cases h
  | .v _ :: _, .own _ :: _, e, e2, h => by cases h
  | .v _ :: _, .par _ :: _, e, e2, h => by cases h
  | .v _ :: _, .fre _ :: _, e, e2, h => by cases h
  | .s _ :: _, .none :: _, e, e2, h => by cases h
  | .s _ :: _, .own _ :: _, e, e2, h => by cases h
  | .s _ :: _, .imm _ :: _, e, e2, h => by cases h
  | .s _ :: _, .fre _ :: _, e, e2, h => by cases h
theorem ArOk.ext {x : Option V} {v : V} {a : Ar} (h : ArOk K G σ v a) : ArOk K G (σ ++ [x]) v a := by
  cases a with
  | v d => exact h
  | s i => exact app_l (show σ[i]? = some (some v) from h)
theorem pairedExt {x : Option V} : ∀ {vs : List V} {as : List Ar}, Paired (ArOk K G σ) vs as → Paired (ArOk K G (σ ++ [x])) vs as
  | _, _, .nil => .nil
  | _, _, .cons r t => .cons r.ext (pairedExt t)
/-- f(an object made for it, ..) -/
def wCallT (mf : En → RD) (mF : En → Res MO) (mr : En → Res (List Ar)) (e : En) : Res Ret := (mF e).bind fun m e1 => (mr e1).bind fun ars e2 => if (slotsOf ars).Nodup then (match argSl e2 ars with
  | some as => (match mf (.par m :: as) with
    | .ok r (.par _ :: o) => (match putB e2 ars o with
      | some e3 => .ok r e3
      | none => .bad)
    | .exc x (.par _ :: o) => (match putB e2 ars o with
      | some e3 => .exc x e3
      | none => .bad)
    | _ => .bad)
  | none => .bad) else .bad
theorem evw_callT {mf : En → RD} {tF : TE} {mF : En → Res MO} {t : TA} {mr : En → Res (List Ar)} (hF : EvF K mg W tF mF) (hr : EvA K mg W t mr) : EvW K mg W (tCallS (SpM K mg mf) (WE W) (tCons tF t)) (wCallT mf mF mr) := by
  intro Z G H σ env Q hd h
  refine hF.after hd (Bad := fun r => PoW K mg W Z G H σ env r Q) h (fun z => z) (fun x e z => z) fun m e1 G1 H1 p ob h1 s1 hd1 hp1 h0 gp1 no1 rm1 => ?_
  refine hr.after (Z := fun a => Z a ∨ a = p) hd1 (Bad := fun r => PoW K mg W Z G H σ env r Q) h1 (fun z => z) (fun x e z => ?_) fun ars e2 G2 H2 vs h2 s2 hd2 rs => ?_
  · exact fun G' H' C a s' hd' ex => z G' H' C a (s1.trans (s'.weak fun a z => .inl z)) (hd'.weak fun a z => .inl z) ex
  have hp2 : H2 p = some ob := s2.h p ob hp1 rm1.nt no1 (.inr rfl)
  have gp2 : G2 p = none := s2.n p ob hp1 gp1 no1 (.inr rfl)
  have no2 : ¬ Own σ e2 p := fun z => by
    rcases s2.own p z with z | z
    · exact no1 z
    · rw [hp1] at z; cases z
  have rm2 := rm1.mono (Kp.of s2.g)
  have s02 : Step Z G H σ env G2 H2 σ e2 := s1.trans (s2.weak fun a z => .inl z)
  have hx := hd2.ext hp2 gp2 no2 rm2
  by_cases nd : (slotsOf ars).Nodup
  case neg => rw [if_neg nd] at h2; exact False.elim h2
  rw [if_pos nd] at h2
  cases q : argSl e2 ars with
  | none => rw [q] at h2; exact False.elim h2
  | some as =>
    rw [q] at h2
    dsimp only at h2
    obtain ⟨a1, a2⟩ := argSl_ext (s0 := .own m) q
    have nd' : (slotsOf (.s e2.length :: ars)).Nodup := List.nodup_cons.mpr ⟨a2, nd⟩
    have q' : argSl (e2 ++ [.own m]) (.s e2.length :: ars) = some (.par m :: as) := by
      unfold argSl
      have : (e2 ++ [Sl.own m])[e2.length]? = some (.own m) := by simp
      rw [this]; dsimp only; rw [a1]; rfl
    have rs' : Paired (ArOk K G2 (σ ++ [some (V.ref p)])) (.ref p :: vs) (.s e2.length :: ars) := .cons (show (σ ++ [some (V.ref p)])[e2.length]? = some (some (.ref p)) by rw [← hd2.len]; simp) (pairedExt rs)
    refine ⟨G2, .par m :: as, hx.args nd' rs' q', (argSl_get hx rs' q').2.1, ?_⟩
    -- behind the call
    have post : ∀ {G' H' : Hp} {m' : MO} {o e3 : En}, Step (trk H2) G2 H2 ((V.ref p :: vs).map some) (.par m :: as) G' H' ((V.ref p :: vs).map some) (.par m' :: o) → Hold K (trk H2) G' H' ((V.ref p :: vs).map some) (.par m' :: o) → putB e2 ars o = some e3 →
        Hold K Z G' H' σ e3 ∧ Step Z G H σ env G' H' σ e3 ∧ (∀ pn on, H2 pn = none → H' pn = some on → Hold K (fun a => Z a ∨ a = pn) G' H' σ e3 ∧ ¬ Own σ e3 pn) := fun {G' H' m' o e3} sc hc qp => by
      obtain ⟨b1, b2⟩ := putB_ext (s0 := .own m') qp
      have qp' : putB (e2 ++ [.own m]) (.s e2.length :: ars) (.par m' :: o) = some (e3 ++ [.own m']) := by
        unfold putB
        have : (e2 ++ [Sl.own m])[e2.length]? = some (.own m) := by simp
        rw [this]; dsimp only
        have e' : (e2 ++ [Sl.own m]).set e2.length (Sl.put (.own m) m') = e2 ++ [.own m'] := by
          rw [List.set_append_right _ _ (Nat.le_refl _)]; simp [Sl.put]
        rw [e']; exact b1
      obtain ⟨k1, k2, k3⟩ := hx.called nd' rs' q' sc hc qp'
      have hl3 : σ.length = e3.length := by rw [b2]; exact hd2.len
      have u1 := k1.unext hl3
      have ownE : ∀ a, Own (σ ++ [some (V.ref p)]) (e2 ++ [.own m]) a → Own σ e2 a ∨ a = p := fun a ⟨j, z⟩ => by
        rcases ownAt_ext hd2.len z with z | ⟨_, z⟩
        · exact .inl ⟨j, z⟩
        · exact .inr (V.ref.inj (Option.some.inj z)).symm
      have notOwn : ∀ a u, H a = some u → ¬ Own σ env a → ¬ Own (σ ++ [some (V.ref p)]) (e2 ++ [.own m]) a := fun a u hu no z => by
        rcases ownE a z with z | z
        · rcases s02.own a z with z | z
          · exact no z
          · rw [hu] at z; cases z
        · rw [z, h0] at hu; cases hu
      refine ⟨u1, ⟨s02.g.trans k2.g, fun a u hu nt no z => ?_, fun a u hu hg no z => ?_, fun a z => s02.d a (k2.d a z), fun i mm e => ?_, fun a ⟨j, mm, z1, z2⟩ => ?_⟩, fun pn on hn hn' => ?_⟩
      · have := s02.h a u hu nt no z
        exact k2.h a u this nt (notOwn a u hu no) ⟨_, this⟩
      · have g2 := s02.n a u hu hg no z
        have : ∃ u', H2 a = some u' := by
          cases w : H2 a with
          | none => rw [s02.d a w] at hu; cases hu
          | some u' => exact ⟨u', rfl⟩
        obtain ⟨u', this⟩ := this
        exact k2.n a u' this g2 (notOwn a u hu no) ⟨_, this⟩
      · obtain ⟨⟨m1, e1'⟩, _⟩ := k2.par i mm (app_l e)
        rcases app_last e1' with w | ⟨_, w⟩
        · exact s02.par i m1 w
        · cases w
      · rcases k2.ow a ⟨j, mm, app_l z1, app_l z2⟩ with ⟨jj, mj, w1, w2⟩ | w
        · rcases app_last w2 with w2 | ⟨w3, w2⟩
          · rcases app_last w1 with w1 | ⟨w1, _⟩
            · exact s02.ow a ⟨jj, mj, w1, w2⟩
            · have := (List.getElem?_eq_some_iff.mp w2).1; have := hd2.len; omega
          · subst w3
            have ea : a = p := by
              rw [← hd2.len] at w1; simp at w1; exact w1.symm
            subst ea
            have o1 : OwnAt (σ ++ [some (V.ref a)]) (e3 ++ [.own m']) j a := ⟨app_l z1, _, mm, app_l z2, rfl⟩
            have o2 : OwnAt (σ ++ [some (V.ref a)]) (e3 ++ [.own m']) e3.length a := ⟨by rw [← hl3]; simp, .own m', m', by simp, rfl⟩
            have := k1.dis j e3.length a o1 o2
            have := (List.getElem?_eq_some_iff.mp z2).1
            omega
        · exact .inr (s02.d a w)
      · have w := (k1.withZ ⟨_, hn'⟩ hx hn k2 (putB_fre nd' qp')).unext hl3
        refine ⟨w, fun ⟨j, z⟩ => ?_⟩
        have o1 : Own (σ ++ [some (V.ref p)]) (e3 ++ [.own m']) pn := ⟨j, app_l z.1, let ⟨s, m, a, b⟩ := z.2; ⟨s, m, app_l a, b⟩⟩
        exact not_own_new hx hn (k3 pn o1)
    cases qf : mf (.par m :: as) with
    | bad => rw [qf] at h2; exact False.elim h2
    | exc x o' =>
      rw [qf] at h2
      match o', h2 with
      | .par m' :: o, h2 =>
        dsimp only at h2
        cases qp : putB e2 ars o with
        | none => rw [qp] at h2; exact False.elim h2
        | some e3 =>
          rw [qp] at h2
          intro G' H' C a sc hc ex
          obtain ⟨p1, p2, _⟩ := post sc hc qp
          exact h2 G' H' C a p2 p1 ex
      | [], h2 => exact False.elim h2
      | .none :: _, h2 => exact False.elim h2
      | .imm _ :: _, h2 => exact False.elim h2
      | .own _ :: _, h2 => exact False.elim h2
      | .fre _ :: _, h2 => exact False.elim h2
    | ok r o' =>
      rw [qf] at h2
      match o', h2 with
      | .par m' :: o, h2 =>
        dsimp only at h2
        cases qp : putB e2 ars o with
        | none => rw [qp] at h2; exact False.elim h2
        | some e3 =>
          rw [qp] at h2
          cases r with
          | imm d =>
            intro G' H' v sc hc rv
            obtain ⟨p1, p2, _⟩ := post sc hc qp
            exact h2 G' H' v p2 p1 rv
          | own mo =>
            intro G' H' pn on sc hc hpn frn gpn non rmn
            obtain ⟨p1, p2, p3⟩ := post sc hc qp
            obtain ⟨w1, w2⟩ := p3 pn on frn hpn
            exact h2 G' H' pn on p2 w1 hpn (s02.d pn frn) gpn w2 rmn
      | [], h2 => exact False.elim h2
      | .none :: _, h2 => exact False.elim h2
      | .imm _ :: _, h2 => exact False.elim h2
      | .own _ :: _, h2 => exact False.elim h2
      | .fre _ :: _, h2 => exact False.elim h2
/-! ### sorted pairs of ints -/
def pairsD : List D → Option (List (Int × Int))
  | [] => some []
  | .tup [.int i, .int j] :: r => (pairsD r).map ((i, j) :: ·)
  | _ :: _ => none
def lePair (a b : Int × Int) : Bool := decide (a.1 < b.1 ∨ (a.1 = b.1 ∧ a.2 ≤ b.2))
def sortP (ps : List (Int × Int)) : List (Int × Int) := ps.mergeSort lePair
theorem lePair_iff {a b : Int × Int} : lePair a b = true ↔ a.1 < b.1 ∨ (a.1 = b.1 ∧ a.2 ≤ b.2) := by unfold lePair; simp
theorem sortP_perm (ps : List (Int × Int)) : (sortP ps).Perm ps := List.mergeSort_perm ps _
theorem sortP_sorted (ps : List (Int × Int)) : (sortP ps).Pairwise (fun a b => lePair a b = true) :=
  List.pairwise_mergeSort (le := lePair) (fun a b c h1 h2 => by rw [lePair_iff] at *; omega) (fun a b => by
    simp only [Bool.or_eq_true]; rw [lePair_iff, lePair_iff]; omega) ps
theorem sortP_unique {ps l : List (Int × Int)} (p : l.Perm ps) (s : l.Pairwise (fun a b => lePair a b = true)) : l = sortP ps :=
  List.Perm.eq_of_pairwise (le := fun a b => lePair a b = true) (fun a b _ _ h1 h2 => by
    rw [lePair_iff] at h1 h2
    exact Prod.ext (by omega) (by omega)) s (sortP_sorted ps) (p.trans (sortP_perm ps).symm)
def pairD (p : Int × Int) : D := .tup [.int p.1, .int p.2]
theorem pairsD_map : ∀ {ds : List D} {ps : List (Int × Int)}, pairsD ds = some ps → ds = ps.map pairD
  | [], _, h => by cases h; rfl
  | d :: r, ps, h => by
    unfold pairsD at h
    split at h
    · rename_i heq; cases heq
    · rename_i i j r' heq
      cases heq
      cases q : pairsD r with
      | none => rw [q] at h; cases h
      | some qs => rw [q] at h; cases h; rw [pairsD_map q]; rfl
    · cases h
open Classical in
/-- the pair that stands at a tuple's address -/
noncomputable def pairOf (H : Hp) (x : V) : Int × Int := if h : ∃ (t : Addr) (i j : Int), x = .ref t ∧ H t = some (.tup [.int i, .int j]) then (Classical.choose (Classical.choose_spec h), Classical.choose (Classical.choose_spec (Classical.choose_spec h))) else (0, 0)
theorem pairOf_at {H : Hp} {t : Addr} {i j : Int} (h : H t = some (.tup [.int i, .int j])) : pairOf H (.ref t) = (i, j) := by
  have ex : ∃ (t' : Addr) (i j : Int), V.ref t = .ref t' ∧ H t' = some (.tup [.int i, .int j]) := ⟨t, i, j, rfl, h⟩
  unfold pairOf
  rw [dif_pos ex]
  obtain ⟨e1, e2⟩ := Classical.choose_spec (Classical.choose_spec (Classical.choose_spec ex))
  have e3 := h.symm.trans ((congrArg H (V.ref.inj e1)).trans e2)
  clear e2
  injection e3 with e2
  injection e2 with e2
  injection e2 with a b
  injection b with b _
  injection a with a
  injection b with b
  exact Prod.ext a.symm b.symm
theorem repl_pairs {H : Hp} : ∀ {ps : List (Int × Int)} {xs : List V}, RepL K H xs (ps.map pairD) → xs.map (pairOf H) = ps ∧ ∀ x ∈ xs, ∃ t, x = V.ref t ∧ H t = some (.tup [.int (pairOf H x).1, .int (pairOf H x).2])
  | [], _, .nil => ⟨rfl, fun x h => by simp at h⟩
  | (i, j) :: r, _, .cons (xs := xs) a t => by
    obtain ⟨h1, h2⟩ := repl_pairs t
    cases a with
    | tup hp rr =>
      match rr with
      | .cons r1 (.cons r2 .nil) =>
        cases r1; cases r2
        have e := pairOf_at hp
        refine ⟨by rw [List.map_cons, e, h1], fun x hx => ?_⟩
        rcases List.mem_cons.mp hx with z | z
        · subst z; exact ⟨_, rfl, by rw [e]; exact hp⟩
        · exact h2 x z
theorem lex_le {a b : Int × Int} : SrtO.lexB b a = false ↔ lePair a b = true := by
  rw [SrtO.lexB_no, lePair_iff]; omega
def lSortP (b : Bool) (ds : List D) : Option (List D) := if b = true then (pairsD ds).map fun ps => (sortP ps).map pairD else none
theorem rep_pairs_of {H G : Hp} : ∀ {xs : List V}, RepL K G xs ((xs.map (pairOf H)).map pairD) → ∀ {ys : List V}, ys.Perm xs → RepL K G ys ((ys.map (pairOf H)).map pairD) := by
  intro xs h ys p
  have mem : ∀ {xs : List V}, RepL K G xs ((xs.map (pairOf H)).map pairD) → ∀ x ∈ xs, Rep K G x (pairD (pairOf H x)) := by
    intro xs
    induction xs with
    | nil => intro _ x hx; simp at hx
    | cons a r ih =>
      intro h x hx
      cases h with
      | cons r1 rr =>
        rcases List.mem_cons.mp hx with z | z
        · subst z; exact r1
        · exact ih rr x z
  have back : ∀ {ys : List V}, (∀ x ∈ ys, Rep K G x (pairD (pairOf H x))) → RepL K G ys ((ys.map (pairOf H)).map pairD) := by
    intro ys
    induction ys with
    | nil => intro _; exact .nil
    | cons a r ih => intro h; exact .cons (h a List.mem_cons_self) (ih fun x hx => h x (List.mem_cons_of_mem _ hx))
  exact back fun x hx => mem h x (p.mem_iff.mp hx)
theorem cl_sortP : OpCl K (rSortedPO K) lSortP := by
  intro H G p b xs ds zs Q sq r rg e q
  unfold lSortP at e
  cases b with
  | false => cases e
  | true =>
    rw [if_pos rfl] at e
    cases h : pairsD ds with
    | none => rw [h] at e; cases e
    | some ps =>
      rw [h] at e; cases e
      have ed := pairsD_map h
      subst ed
      obtain ⟨h1, h2⟩ := repl_pairs r
      refine ⟨p, xs, pairOf H, rfl, sq, h2, fun ys l st sb hl => q l ys hl ?_⟩
      have hs : (ys.map (pairOf H)).Pairwise (fun a b => lePair a b = true) := by
        rw [List.pairwise_map]
        exact st.imp fun z => lex_le.mp z
      have hp : (ys.map (pairOf H)).Perm ps := by rw [← h1]; exact sb.perm.map _
      show RepL K G ys ((sortP ps).map pairD)
      rw [← sortP_unique hp hs]
      exact rep_pairs_of (by rw [h1]; exact rg) sb.perm
theorem get_list {X : Cx} : PGet X (rIxL X.K) := by
  intro pins s σ H x y v u Q I rx ry h
  obtain ⟨p, xs, i, z, rfl, rfl, hq, he, q⟩ := h
  cases rx
  obtain ⟨t, rfl⟩ := ry
  obtain ⟨its, r, pl, hz⟩ := I.list hq
  obtain ⟨j, h1, h2, h3, h4, h5⟩ := atI_get he
  obtain ⟨w, ew, rw'⟩ := r.get h2
  have hl := r.length
  have hn := line63
  have fin : EP X pins σ Q w s := ⟨z, H, I, rw', q⟩
  by_cases h0 : 0 ≤ i
  · have hj : i.toNat = j := by
      rw [seqIndex_of h0 h5] at h1
      exact Option.some.inj h1
    exact wpAny_getItem_list pl.isList h0 (by omega) (by rw [hj]; simpa using ew) fin
  · have hj : (i + (its.toArray.size : Int)).toNat = j := by
      rw [seqIndex_neg (by omega) h4] at h1
      rw [List.size_toArray, ← hl]
      exact Option.some.inj h1
    exact wpAny_getItem_list_neg pl.isList (by omega) (by rw [List.size_toArray] <;> omega) (by omega) (by rw [hj]; simpa using ew) fin
end
end Cv
end

section
set_option Elab.async false
set_option linter.all false
set_option maxRecDepth 100000
set_option maxHeartbeats 4000000
set_option autoImplicit false
/-! CvY: the derivation and what it computes, in one term. -/
namespace Cv
open PySem L2 PyProof.Rows
/-- what a context gives -/
structure Cc (P : Program) (w : World) (K : PySem.W.Frag) (mg : Str → Option Value) (base : Heap) (W : WX) (X : Cx) (k : Nat) : Prop where
  p : X.prog = P
  w : X.w = w
  K : X.K = K
  mg : X.mg = mg
  base : X.base = base
  calm : X.calm = true
  tk : Takes X W
  room : Room k X.A
  po : PassesOwn (model X.prog X.w) X.A X.env X.xe
  nd : X.N.Nodup
/-- nothing flies -/
abbrev W0 : WX := fun _ _ _ _ => False
abbrev CP (K : PySem.W.Frag) (mg : Str → Option Value) (W : WX) (X : Cx) (e : Expr) (t : TE) (m : En → RP D) : Prop := PE X e t ∧ EvP K mg W t m
abbrev CE (K : PySem.W.Frag) (mg : Str → Option Value) (W : WX) (X : Cx) (e : Expr) (t : TE) (m : En → Res D) : Prop := PE X e t ∧ EvE K mg W t m
abbrev CF (K : PySem.W.Frag) (mg : Str → Option Value) (W : WX) (X : Cx) (e : Expr) (t : TE) (m : En → Res MO) : Prop := PE X e t ∧ EvF K mg W t m
abbrev CW (K : PySem.W.Frag) (mg : Str → Option Value) (W : WX) (X : Cx) (e : Expr) (t : TE) (m : En → Res Ret) : Prop := PE X e t ∧ EvW K mg W t m
abbrev CC (K : PySem.W.Frag) (mg : Str → Option Value) (W : WX) (X : Cx) (e : Expr) (t : TE) (m : En → Res (Bool × List D)) : Prop := PE X e t ∧ EvC K mg W t m
abbrev CK (K : PySem.W.Frag) (mg : Str → Option Value) (W : WX) (X : Cx) (e : Expr) (t : TE) (m : En → RP (List D)) : Prop := PE X e t ∧ EvK K mg W t m
abbrev CQ (K : PySem.W.Frag) (i : Nat) (X : Cx) (e : Expr) (t : TE) (m : D → Option D) : Prop := PE X e t ∧ EvQ K i t m
abbrev CT (K : PySem.W.Frag) (mg : Str → Option Value) (W : WX) (X : Cx) (e : Expr) (t : TT) (m : En → Res Bool) : Prop := PT X e t ∧ EvT K mg W t m
abbrev CTP (K : PySem.W.Frag) (mg : Str → Option Value) (W : WX) (X : Cx) (e : Expr) (t : TT) (m : En → RP Bool) : Prop := PT X e t ∧ EvTP K mg W t m
abbrev CTW (K : PySem.W.Frag) (mg : Str → Option Value) (W : WX) (X : Cx) (e : Expr) (t : TT) (m : En → Res Bool) : Prop := PW X e t ∧ EvT K mg W t m
abbrev CTPW (K : PySem.W.Frag) (mg : Str → Option Value) (W : WX) (X : Cx) (e : Expr) (t : TT) (m : En → RP Bool) : Prop := PW X e t ∧ EvTP K mg W t m
abbrev CA (K : PySem.W.Frag) (mg : Str → Option Value) (W : WX) (X : Cx) (e : List Expr) (t : TA) (m : En → Res (List Ar)) : Prop := PA X e t ∧ EvA K mg W t m
abbrev CAP (K : PySem.W.Frag) (mg : Str → Option Value) (W : WX) (X : Cx) (e : List Expr) (t : TA) (m : En → RP (List D)) : Prop := PA X e t ∧ EvAP K mg W t m
abbrev CV (K : PySem.W.Frag) (mg : Str → Option Value) (W : WX) (X : Cx) (e : List Expr) (t : TA) (m : En → Res (List D)) : Prop := PA X e t ∧ EvV K mg W t m
abbrev CR (K : PySem.W.Frag) (mg : Str → Option Value) (W : WX) (X : Cx) (e : List Expr) (t : TA) (m : En → Res (List D)) : Prop := PA X e t ∧ EvG' K mg W t m
abbrev CO (K : PySem.W.Frag) (mg : Str → Option Value) (W : WX) (X : Cx) (e : Option Expr) (t : TO) (m : En → RP (Option Int)) : Prop := PO X e t ∧ EvO K mg W t m
abbrev CI (K : PySem.W.Frag) (mg : Str → Option Value) (W : WX) (X : Cx) (tg e : Expr) (t : TI) (m : En → Res (List D)) : Prop := PI X tg e t ∧ EvI K mg W t m
abbrev CG (K : PySem.W.Frag) (X : Cx) (e : Expr) (t : TG) (m : D → En → Option En) : Prop := PG X e t ∧ EvG K t m
abbrev CGs (K : PySem.W.Frag) (X : Cx) (e : List Expr) (t : TGs) (m : List D → En → Option En) : Prop := PGs X e t ∧ EvGs K t m
abbrev CGV (K : PySem.W.Frag) (vs : List Nat) (X : Cx) (e : Expr) (t : TG) (m : D → En → Option En) : Prop := PG X e t ∧ EvGV K vs t m
abbrev CGsV (K : PySem.W.Frag) (vs : List Nat) (X : Cx) (e : List Expr) (t : TGs) (m : List D → En → Option En) : Prop := PGs X e t ∧ EvGsV K vs t m
abbrev CS (K : PySem.W.Frag) (mg : Str → Option Value) (W : WX) (X : Cx) (e : Stmt) (t : TS) (m : En → Fl) : Prop := PS X e t ∧ EvS K mg W t m
abbrev CSs (K : PySem.W.Frag) (mg : Str → Option Value) (W : WX) (X : Cx) (e : List Stmt) (t : TS) (m : En → Fl) : Prop := PSs X e t ∧ EvS K mg W t m
abbrev CTs (K : PySem.W.Frag) (mg : Str → Option Value) (W : WX) (X : Cx) (e : List Expr) (t : TT) (m : En → Res Bool) : Prop := PTs X e t ∧ EvT K mg W t m
section
variable {P : Program} {w : World} {K : PySem.W.Frag} {mg : Str → Option Value} {base : Heap} {W : WX} {X : Cx} {k : Nat} {a b : Expr} {ta tb tq : TE} {ma mb : En → RP D} {pos : Pos}
/-! ### pure -/
theorem cp_var (i : Nat) {x : Str} (hN : X.N[i]? = some x := by rfl) (hv : Vis X.env.scope x := by first | exact Or.inl rfl | exact Or.inr (Or.inl rfl) | exact Or.inr (Or.inr rfl)) (h1 : (x == ("__debug__" : Str)) = false := by decide)
    (h2 : (x == ("__classdict__" : Str)) = false := by decide) : CP K mg W X (.Name x pos) (tVar i) (pVar i) := ⟨pe_var hN hv h1 h2, evp_var⟩
theorem cp_int {i : Int} {j} : CP K mg W X (.Constant (.int i) j pos) (tC (.int i)) (pC (.int i)) := ⟨pe_int, evp_c fun _ => .int i⟩
theorem cp_bl {b : Bool} {j} : CP K mg W X (.Constant (.bool b) j pos) (tC (.bl b)) (pC (.bl b)) := ⟨pe_bl, evp_c fun _ => .bl b⟩
theorem cp_non {j} : CP K mg W X (.Constant .none j pos) (tC .non) (pC .non) := ⟨pe_non, evp_c fun _ => .non⟩
theorem cp_str {x : Str} {j} : CP K mg W X (.Constant (.str x) j pos) (tC (.str x)) (pC (.str x)) := ⟨pe_str, evp_c fun _ => .str x⟩
/-- a module's whole number -/
theorem cp_gint (c : Cc P w K mg base W X k) {x : Str} {i : Int} (hm : ∃ t, mg x = some (.int i t)) (hg : Gl X x := by rfl) (hd : (x == ("__debug__" : Str)) = false := by decide) : CP K mg W X (.Name x pos) (tC (.int i)) (pC (.int i)) := by
  obtain ⟨t, hm⟩ := hm
  exact ⟨pe_glob hg (by rw [c.mg]; exact hm) (show RelV (.int i) (.int i t) from ⟨t, rfl⟩) hd, evp_c fun _ => .int i⟩
theorem cp_op {op : Operator} {r : R2} {f : D → D → Option D} (ho : OpR X (binaryOp op) r) (o : Op2 K r f) (ha : CP K mg W X a ta ma) (hb : CP K mg W X b tb mb) : CP K mg W X (.BinOp a op b pos) (tOp r ta tb) (p2 f ma mb) :=
  ⟨pe_op ho ha.1 hb.1, evp_op o ha.2 hb.2⟩
theorem cp_add (ha : CP K mg W X a ta ma) (hb : CP K mg W X b tb mb) : CP K mg W X (.BinOp a .Add b pos) (tOp rAddU ta tb) (p2 dAdd ma mb) := cp_op op_addU o_add ha hb
theorem cp_sub (ha : CP K mg W X a ta ma) (hb : CP K mg W X b tb mb) : CP K mg W X (.BinOp a .Sub b pos) (tOp (rI0 fun i j => .int (i - j)) ta tb) (p2 dSub ma mb) := cp_op op_sub o_sub ha hb
theorem cp_mul (ha : CP K mg W X a ta ma) (hb : CP K mg W X b tb mb) : CP K mg W X (.BinOp a .Mult b pos) (tOp rMulU ta tb) (p2 dMul ma mb) := cp_op op_mulU o_mul ha hb
theorem cp_fdiv (ha : CP K mg W X a ta ma) (hb : CP K mg W X b tb mb) : CP K mg W X (.BinOp a .FloorDiv b pos) (tOp (rI CDivW fun i j => .int (i / j)) ta tb) (p2 dFdiv ma mb) := cp_op op_fdivW o_fdiv ha hb
theorem cp_mod (ha : CP K mg W X a ta ma) (hb : CP K mg W X b tb mb) : CP K mg W X (.BinOp a .Mod b pos) (tOp (rI (fun _ j => 0 < j) fun i j => .int (i % j)) ta tb) (p2 dMod ma mb) := cp_op op_mod o_mod ha hb
theorem cp_pow (ha : CP K mg W X a ta ma) (hb : CP K mg W X b tb mb) : CP K mg W X (.BinOp a .Pow b pos) (tOp (rI CPow fun i j => .int (i ^ j.toNat)) ta tb) (p2 dPow ma mb) := cp_op op_pow o_pow ha hb
theorem cp_neg (ha : CP K mg W X a ta ma) : CP K mg W X (.UnaryOp .USub a pos) (tUn (rU fun i => .int (-i)) ta) (p1 dNeg ma) := ⟨pe_un un_neg ha.1, evp_un o_neg ha.2⟩
theorem cp_cmp {op : CmpOp} {r : R2} {f : D → D → Option D} (ho : OpR X (compareOp op) r) (o : Op2 K r f) (ha : CP K mg W X a ta ma) (hb : CP K mg W X b tb mb) (hm : behindInMarks op b = false := by first | exact nomark _ | rfl) :
    CP K mg W X (.Compare a [op] [b] pos) (tOp r ta tb) (p2 f ma mb) := ⟨pe_cmpR ho ha.1 hb.1 hm, evp_op o ha.2 hb.2⟩
theorem cp_lt (ha : CP K mg W X a ta ma) (hb : CP K mg W X b tb mb) : CP K mg W X (.Compare a [.Lt] [b] pos) (tOp (rI0 fun i j => .bl (decide (i < j))) ta tb) (p2 dLt ma mb) := cp_cmp op_lt o_lt ha hb
theorem cp_le (ha : CP K mg W X a ta ma) (hb : CP K mg W X b tb mb) : CP K mg W X (.Compare a [.LtE] [b] pos) (tOp (rI0 fun i j => .bl (decide (i ≤ j))) ta tb) (p2 dLe ma mb) := cp_cmp op_le o_le ha hb
theorem cp_gt (ha : CP K mg W X a ta ma) (hb : CP K mg W X b tb mb) : CP K mg W X (.Compare a [.Gt] [b] pos) (tOp (rI0 fun i j => .bl (decide (j < i))) ta tb) (p2 dGt ma mb) := cp_cmp op_gt o_gt ha hb
theorem cp_ge (ha : CP K mg W X a ta ma) (hb : CP K mg W X b tb mb) : CP K mg W X (.Compare a [.GtE] [b] pos) (tOp (rI0 fun i j => .bl (decide (j ≤ i))) ta tb) (p2 dGe ma mb) := cp_cmp op_ge o_ge ha hb
theorem Cc.un (c : Cc P w K mg base W X k) : X.A.units + 64 < cLine := c.room.units
theorem cp_eq (c : Cc P w K mg base W X k) (ha : CP K mg W X a ta ma) (hb : CP K mg W X b tb mb) : CP K mg W X (.Compare a [.Eq] [b] pos) (tOp (rEqD K) ta tb) (p2 dEq ma mb) := cp_cmp (by have := op_eqD c.un; rw [c.K] at this; exact this) o_eq ha hb
theorem cp_ne (c : Cc P w K mg base W X k) (ha : CP K mg W X a ta ma) (hb : CP K mg W X b tb mb) : CP K mg W X (.Compare a [.NotEq] [b] pos) (tOp (rNeD K) ta tb) (p2 dNe ma mb) := cp_cmp (by have := op_neD c.un; rw [c.K] at this; exact this) o_ne ha hb
theorem cp_isN (ha : CP K mg W X a ta ma) (hb : CP K mg W X b tb mb) : CP K mg W X (.Compare a [.Is] [b] pos) (tOp (fun x y H Q => y = .non ∧ Q (.bl (decide (x = .non))) H) ta tb) (p2 dIsN ma mb) := cp_cmp op_isN o_isN ha hb
theorem cp_notN (ha : CP K mg W X a ta ma) (hb : CP K mg W X b tb mb) : CP K mg W X (.Compare a [.IsNot] [b] pos) (tOp (fun x y H Q => y = .non ∧ Q (.bl (!decide (x = .non))) H) ta tb) (p2 dNotN ma mb) := cp_cmp op_notN o_notN ha hb
theorem cp_one {op : BoolOp} (ha : CP K mg W X a ta ma) : CP K mg W X (.BoolOp op [a] pos) ta ma := ⟨pe_one ha.1, ha.2⟩
theorem cp_and {rest : List Expr} (ha : CP K mg W X a ta ma) (hb : CP K mg W X (.BoolOp .And (b :: rest) pos) tb mb) : CP K mg W X (.BoolOp .And (a :: b :: rest) pos) (tAndV ta tb) (pAnd ma mb) := ⟨pe_and ha.1 hb.1, evp_and ha.2 hb.2⟩
theorem cp_or {rest : List Expr} (ha : CP K mg W X a ta ma) (hb : CP K mg W X (.BoolOp .Or (b :: rest) pos) tb mb) : CP K mg W X (.BoolOp .Or (a :: b :: rest) pos) (tOrV ta tb) (pOr ma mb) := ⟨pe_or ha.1 hb.1, evp_or ha.2 hb.2⟩
theorem cp_not (ha : CP K mg W X a ta ma) : CP K mg W X (.UnaryOp .Not a pos) (tNotV ta) (p1 dNot ma) := ⟨pe_not ha.1, evp_not ha.2⟩
theorem cp_ix (c : Cc P w K mg base W X k) (ha : CP K mg W X a ta ma) (hb : CP K mg W X b tb mb) (hs : PlainIx b := by intro _ _; rfl) : CP K mg W X (.Subscript a b pos) (tOp (rIx K) ta tb) (p2 dIx ma mb) :=
  ⟨pe_ix (by have := ix_seq (X := X); rw [c.K] at this; exact this) ha.1 hb.1 hs, evp_op o_ix ha.2 hb.2⟩
theorem cap_nil : CAP K mg W X [] tNil pNil := ⟨pa_nil, evap_nil⟩
theorem cap_cons {es : List Expr} {t : TA} {m : En → RP (List D)} (ha : CP K mg W X a ta ma) (hr : CAP K mg W X es t m) (hs : starEach (a :: es) X.env = (false, eval a X.env) :: starEach es X.env := by rfl) : CAP K mg W X (a :: es) (tCons ta t) (pCons ma m) :=
  ⟨pa_cons ha.1 hr.1 hs, evap_cons ha.2 hr.2⟩
theorem cp_tup {es : List Expr} {x1} {t : TA} {m : En → RP (List D)} (h : CAP K mg W X es t m) : CP K mg W X (.Tuple es x1 pos) (tTup t) (pTup m) := ⟨pe_tup h.1, evp_tup h.2⟩
theorem cp_lst {es : List Expr} {t : TA} {m : En → RP (List D)} (h : CAP K mg W X es t m) : CP K mg W X (.List es pos) (tLst t) (pLst m) := ⟨pe_lst h.1, evp_lst h.2⟩
/-- a built-in's call, by what it computes -/
theorem cp_callB (c : Cc P w K mg base W X k) {id : String} {x : Str} {e : Expr} {es : List Expr} {p : Pos} {r : List V → Hp → VK → Prop} {f : List D → Option D} {t : TA} {m : En → RP (List D)} (hc : CallR X (.builtin id) r) (o : OpN K r f) (hm : mg x = none) (hv : bootBuiltins x = some (.builtin id))
    (ha : CAP K mg W X (e :: es) t m) (hg : Gl X x := by rfl) (hn : x ≠ "__name__" := by decide) (hdb : (x == ("__debug__" : Str)) = false := by decide) (he : starEach (e :: es) X.env = (false, eval e X.env) :: starEach es X.env := by rfl) (hpl : (backTo pos (starEach es X.env)).any (·.1) = false := by rfl) :
    CP K mg W X (.Call (.Name x p) (e :: es) [] pos) (tCB r t) (pN f m) := ⟨pe_callB hc hg (by rw [c.mg]; exact hm) hv ha.1 hn hdb he hpl, evp_CB o ha.2⟩
theorem cp_callT (c : Cc P w K mg base W X k) {T : String} {x : Str} {e : Expr} {es : List Expr} {p : Pos} {r : List V → Hp → VK → Prop} {f : List D → Option D} {t : TA} {m : En → RP (List D)} (hc : CallR X (.type T) r) (o : OpN K r f) (hm : mg x = none) (hv : bootBuiltins x = some (.type T))
    (ha : CAP K mg W X (e :: es) t m) (hg : Gl X x := by rfl) (hn : x ≠ "__name__" := by decide) (hdb : (x == ("__debug__" : Str)) = false := by decide) (he : starEach (e :: es) X.env = (false, eval e X.env) :: starEach es X.env := by rfl) (hpl : (backTo pos (starEach es X.env)).any (·.1) = false := by rfl) :
    CP K mg W X (.Call (.Name x p) (e :: es) [] pos) (tCB r t) (pN f m) := ⟨pe_callTy hc hg (by rw [c.mg]; exact hm) hv ha.1 hn hdb he hpl, evp_CB o ha.2⟩
theorem cr_lenU (c : Cc P w K mg base W X k) : CallR X (.builtin "len") (rLenU K) := by have := call_lenU (X := X); rw [c.K] at this; exact this
theorem bb_sum : bootBuiltins "sum" = some (.builtin "sum") := by decide +kernel
theorem bb_min : bootBuiltins "min" = some (.builtin "min") := by decide +kernel
theorem bb_max : bootBuiltins "max" = some (.builtin "max") := by decide +kernel
theorem bb_abs : bootBuiltins "abs" = some (.builtin "abs") := by decide +kernel
theorem bb_sorted : bootBuiltins "sorted" = some (.builtin "sorted") := by decide +kernel
theorem bb_int : bootBuiltins "int" = some (.type "int") := by decide +kernel
theorem bb_list : bootBuiltins "list" = some (.type "list") := by decide +kernel
theorem bb_tuple : bootBuiltins "tuple" = some (.type "tuple") := by decide +kernel
theorem bb_bool : bootBuiltins "bool" = some (.type "bool") := by decide +kernel
theorem bb_str : bootBuiltins "str" = some (.type "str") := by decide +kernel
theorem bb_dict : bootBuiltins "dict" = some (.type "dict") := by decide +kernel
theorem bb_isi : bootBuiltins "isinstance" = some (.builtin "isinstance") := by decide +kernel
section
variable {e : Expr} {es : List Expr} {p : Pos} {t : TA} {m : En → RP (List D)}
theorem cp_len (c : Cc P w K mg base W X k) (hm : mg "len" = none) (ha : CAP K mg W X (e :: es) t m) (hg : Gl X "len" := by rfl) (he : starEach (e :: es) X.env = (false, eval e X.env) :: starEach es X.env := by rfl) (hpl : (backTo pos (starEach es X.env)).any (·.1) = false := by rfl) : CP K mg W X (.Call (.Name "len" p) (e :: es) [] pos) (tCB (rLenU K) t) (pN dLen m) := cp_callB c (cr_lenU c) n_len hm PySem.boot_len ha hg (by decide) (by decide) he hpl
theorem cp_abs (c : Cc P w K mg base W X k) (hm : mg "abs" = none) (ha : CAP K mg W X (e :: es) t m) (hg : Gl X "abs" := by rfl) (he : starEach (e :: es) X.env = (false, eval e X.env) :: starEach es X.env := by rfl) (hpl : (backTo pos (starEach es X.env)).any (·.1) = false := by rfl) : CP K mg W X (.Call (.Name "abs" p) (e :: es) [] pos) (tCB rAbs t) (pN dAbs m) := cp_callB c call_abs n_abs hm bb_abs ha hg (by decide) (by decide) he hpl
theorem cp_min2 (c : Cc P w K mg base W X k) (hm : mg "min" = none) (ha : CAP K mg W X (e :: es) t m) (hg : Gl X "min" := by rfl) (he : starEach (e :: es) X.env = (false, eval e X.env) :: starEach es X.env := by rfl) (hpl : (backTo pos (starEach es X.env)).any (·.1) = false := by rfl) : CP K mg W X (.Call (.Name "min" p) (e :: es) [] pos) (tCB rMin2 t) (pN dMin2 m) := cp_callB c (call_min2 c.calm) n_min2 hm bb_min ha hg (by decide) (by decide) he hpl
theorem cp_max2 (c : Cc P w K mg base W X k) (hm : mg "max" = none) (ha : CAP K mg W X (e :: es) t m) (hg : Gl X "max" := by rfl) (he : starEach (e :: es) X.env = (false, eval e X.env) :: starEach es X.env := by rfl) (hpl : (backTo pos (starEach es X.env)).any (·.1) = false := by rfl) : CP K mg W X (.Call (.Name "max" p) (e :: es) [] pos) (tCB rMax2 t) (pN dMax2 m) := cp_callB c (call_max2 c.calm) n_max2 hm bb_max ha hg (by decide) (by decide) he hpl
theorem cp_toint (c : Cc P w K mg base W X k) (hm : mg "int" = none) (ha : CAP K mg W X (e :: es) t m) (hg : Gl X "int" := by rfl) (he : starEach (e :: es) X.env = (false, eval e X.env) :: starEach es X.env := by rfl) (hpl : (backTo pos (starEach es X.env)).any (·.1) = false := by rfl) : CP K mg W X (.Call (.Name "int" p) (e :: es) [] pos) (tCB rInt1 t) (pN dInt m) := cp_callT c call_int1 n_int hm bb_int ha hg (by decide) (by decide) he hpl
end
/-- isinstance(a, T) -/
theorem cp_isi (c : Cc P w K mg base W X k) (T : String) {x : Str} {p q : Pos} (hm : mg "isinstance" = none) (hmT : mg x = none) (hv : bootBuiltins x = some (.type T)) (ha : CP K mg W X a ta ma) (hg : Gl X "isinstance" := by rfl) (hgT : Gl X x := by rfl) (hn : x ≠ "__name__" := by decide)
    (hdb : (x == ("__debug__" : Str)) = false := by decide) (he : starEach [a, .Name x q] X.env = (false, eval a X.env) :: starEach [.Name x q] X.env := by rfl) (he2 : starEach [.Name x q] X.env = (false, eval (.Name x q) X.env) :: starEach [] X.env := by rfl) (hpl : (backTo pos (starEach [.Name x q] X.env)).any (·.1) = false := by rfl) :
    CP K mg W X (.Call (.Name "isinstance" p) [a, .Name x q] [] pos) (tCB (rIsB K T) (tCons ta (tCons (tC (.ty T)) tNil))) (p1 (dIsi T) ma) :=
  ⟨pe_callB (by have := call_isB (X := X) T; rw [c.K] at this; exact this) hg (by rw [c.mg]; exact hm) bb_isi (pa_cons ha.1 (pa_cons (pe_bltn hgT (by rw [c.mg]; exact hmT) hv (show RelV (.ty T) (.type T) from rfl) hn hdb) pa_nil he2) he) (by decide) (by decide) he hpl, evp_isi ha.2⟩
/-! ### pure tests -/
variable {ua ub : TT} {na nb : En → RP Bool} {rest : List Expr}
theorem ctp_val (h : CP K mg W X a ta ma) (he : ∀ whole, isTrue a X.env whole = (do let v ← whole; standAt a.pos; holding [v] (truthy v)) := by intro _; rfl) : CTP K mg W X a (tB ta) (qB ma) := ⟨pt_val h.1 he, evtp_B h.2⟩
theorem ctp_cmp {op : CmpOp} {r : R2} {f : D → D → Option D} (ho : OpR X (compareOp op) r) (o : Op2 K r f) (ha : CP K mg W X a ta ma) (hb : CP K mg W X b tb mb) (hm : behindInMarks op b = false := by first | exact nomark _ | rfl) :
    CTP K mg W X (.Compare a [op] [b] pos) (tTest (tOp r ta tb)) (qB (p2 f ma mb)) := ⟨pt_cmpR ho ha.1 hb.1 hm, evtp_test (evp_op o ha.2 hb.2)⟩
theorem ctp_lt (ha : CP K mg W X a ta ma) (hb : CP K mg W X b tb mb) : CTP K mg W X (.Compare a [.Lt] [b] pos) (tTest (tOp (rI0 fun i j => .bl (decide (i < j))) ta tb)) (qB (p2 dLt ma mb)) := ctp_cmp op_lt o_lt ha hb
theorem ctp_le (ha : CP K mg W X a ta ma) (hb : CP K mg W X b tb mb) : CTP K mg W X (.Compare a [.LtE] [b] pos) (tTest (tOp (rI0 fun i j => .bl (decide (i ≤ j))) ta tb)) (qB (p2 dLe ma mb)) := ctp_cmp op_le o_le ha hb
theorem ctp_gt (ha : CP K mg W X a ta ma) (hb : CP K mg W X b tb mb) : CTP K mg W X (.Compare a [.Gt] [b] pos) (tTest (tOp (rI0 fun i j => .bl (decide (j < i))) ta tb)) (qB (p2 dGt ma mb)) := ctp_cmp op_gt o_gt ha hb
theorem ctp_ge (ha : CP K mg W X a ta ma) (hb : CP K mg W X b tb mb) : CTP K mg W X (.Compare a [.GtE] [b] pos) (tTest (tOp (rI0 fun i j => .bl (decide (j ≤ i))) ta tb)) (qB (p2 dGe ma mb)) := ctp_cmp op_ge o_ge ha hb
theorem ctp_eq (c : Cc P w K mg base W X k) (ha : CP K mg W X a ta ma) (hb : CP K mg W X b tb mb) : CTP K mg W X (.Compare a [.Eq] [b] pos) (tTest (tOp (rEqD K) ta tb)) (qB (p2 dEq ma mb)) := ctp_cmp (by have := op_eqD c.un; rw [c.K] at this; exact this) o_eq ha hb
theorem ctp_ne (c : Cc P w K mg base W X k) (ha : CP K mg W X a ta ma) (hb : CP K mg W X b tb mb) : CTP K mg W X (.Compare a [.NotEq] [b] pos) (tTest (tOp (rNeD K) ta tb)) (qB (p2 dNe ma mb)) := ctp_cmp (by have := op_neD c.un; rw [c.K] at this; exact this) o_ne ha hb
theorem ctp_isN (ha : CP K mg W X a ta ma) (hb : CP K mg W X b tb mb) : CTP K mg W X (.Compare a [.Is] [b] pos) (tTest (tOp (fun x y H Q => y = .non ∧ Q (.bl (decide (x = .non))) H) ta tb)) (qB (p2 dIsN ma mb)) := ctp_cmp op_isN o_isN ha hb
theorem ctp_notN (ha : CP K mg W X a ta ma) (hb : CP K mg W X b tb mb) : CTP K mg W X (.Compare a [.IsNot] [b] pos) (tTest (tOp (fun x y H Q => y = .non ∧ Q (.bl (!decide (x = .non))) H) ta tb)) (qB (p2 dNotN ma mb)) := ctp_cmp op_notN o_notN ha hb
theorem ctp_w {e : Expr} (h : CTPW K mg W X e ua na) : CTP K mg W X e ua na := ⟨h.1.pt, h.2⟩
theorem ctpw_and1 (h : CTP K mg W X a ua na) : CTPW K mg W X (.BoolOp .And [a] pos) ua na := ⟨pw_and1 h.1, h.2⟩
theorem ctpw_or1 (h : CTP K mg W X a ua na) : CTPW K mg W X (.BoolOp .Or [a] pos) ua na := ⟨pw_or1 h.1, h.2⟩
theorem ctpw_and (ha : CTP K mg W X a ua na) (hb : CTPW K mg W X (.BoolOp .And (b :: rest) pos) ub nb) : CTPW K mg W X (.BoolOp .And (a :: b :: rest) pos) (tAnd ua ub) (qAnd na nb) := ⟨pw_and ha.1 hb.1, evtp_and ha.2 hb.2⟩
theorem ctpw_or (ha : CTP K mg W X a ua na) (hb : CTPW K mg W X (.BoolOp .Or (b :: rest) pos) ub nb) : CTPW K mg W X (.BoolOp .Or (a :: b :: rest) pos) (tOr ua ub) (qOr na nb) := ⟨pw_or ha.1 hb.1, evtp_or ha.2 hb.2⟩
theorem ctp_not (ha : CTP K mg W X a ua na) : CTP K mg W X (.UnaryOp .Not a pos) (tNot ua) (qNot na) := ⟨pt_not ha.1, evtp_not ha.2⟩
theorem cp_if {cn : Expr} (hc : CTP K mg W X cn ua na) (ha : CP K mg W X a ta ma) (hb : CP K mg W X b tb mb) : CP K mg W X (.IfExp cn a b pos) (tIf ua ta tb) (pIf na ma mb) := ⟨pe_ifExp hc.1 ha.1 hb.1, evp_if hc.2 ha.2 hb.2⟩
end
/-! ### that stay -/
section
variable {P : Program} {w : World} {K : PySem.W.Frag} {mg : Str → Option Value} {base : Heap} {W : WX} {X : Cx} {k : Nat} {a b : Expr} {ta tb tq : TE} {ma mb : En → Res D} {pos : Pos} {ua ub : TT} {na nb : En → Res Bool} {rest : List Expr}
theorem ce_p {m : En → RP D} (h : CP K mg W X a ta m) : CE K mg W X a ta (liftP m) := ⟨h.1, eve_p h.2⟩
theorem ct_p {m : En → RP Bool} (h : CTP K mg W X a ua m) : CT K mg W X a ua (liftT m) := ⟨h.1, evt_p h.2⟩
theorem ce_f {m : En → Res MO} (h : CF K mg W X a ta m) : CE K mg W X a ta (eOfF m) := ⟨h.1, eve_f h.2⟩
theorem ce_w {m : En → Res Ret} (h : CW K mg W X a ta m) : CE K mg W X a ta (eOfW m) := ⟨h.1, eve_w h.2⟩
theorem cf_w {m : En → Res Ret} (h : CW K mg W X a ta m) : CF K mg W X a ta (fOfW m) := ⟨h.1, evf_w h.2⟩
theorem cc_f {m : En → Res MO} (h : CF K mg W X a ta m) : CC K mg W X a ta (cOfF m) := ⟨h.1, evc_f h.2⟩
theorem cc_e {m : En → Res D} (h : CE K mg W X a ta m) : CC K mg W X a ta (cOfE m) := ⟨h.1, evc_e h.2⟩
section
variable (i : Nat) {x : Str} (hN : X.N[i]? = some x := by rfl) (hv : Vis X.env.scope x := by first | exact Or.inl rfl | exact Or.inr (Or.inl rfl) | exact Or.inr (Or.inr rfl)) (h1 : (x == ("__debug__" : Str)) = false := by decide) (h2 : (x == ("__classdict__" : Str)) = false := by decide)
include hN hv h1 h2
theorem ce_var : CE K mg W X (.Name x pos) (tVar i) (eVar i) := ⟨pe_var hN hv h1 h2, eve_var⟩
theorem cc_var : CC K mg W X (.Name x pos) (tVar i) (cVar i) := ⟨pe_var hN hv h1 h2, evc_var⟩
theorem ck_var : CK K mg W X (.Name x pos) (tVar i) (kVar i) := ⟨pe_var hN hv h1 h2, evk_var⟩
theorem cq_var : CQ K i X (.Name x pos) (tVar i) qVar := ⟨pe_var hN hv h1 h2, evq_var⟩
end
theorem ce_op {op : Operator} {r : R2} {f : D → D → Option D} (ho : OpR X (binaryOp op) r) (o : Op2 K r f) (ha : CE K mg W X a ta ma) (hb : CE K mg W X b tb mb) : CE K mg W X (.BinOp a op b pos) (tOp r ta tb) (e2 f ma mb) := ⟨pe_op ho ha.1 hb.1, eve_op o ha.2 hb.2⟩
theorem ce_add (ha : CE K mg W X a ta ma) (hb : CE K mg W X b tb mb) : CE K mg W X (.BinOp a .Add b pos) (tOp rAddU ta tb) (e2 dAdd ma mb) := ce_op op_addU o_add ha hb
theorem ce_sub (ha : CE K mg W X a ta ma) (hb : CE K mg W X b tb mb) : CE K mg W X (.BinOp a .Sub b pos) (tOp (rI0 fun i j => .int (i - j)) ta tb) (e2 dSub ma mb) := ce_op op_sub o_sub ha hb
theorem ce_mul (ha : CE K mg W X a ta ma) (hb : CE K mg W X b tb mb) : CE K mg W X (.BinOp a .Mult b pos) (tOp rMulU ta tb) (e2 dMul ma mb) := ce_op op_mulU o_mul ha hb
theorem ce_fdiv (ha : CE K mg W X a ta ma) (hb : CE K mg W X b tb mb) : CE K mg W X (.BinOp a .FloorDiv b pos) (tOp (rI CDivW fun i j => .int (i / j)) ta tb) (e2 dFdiv ma mb) := ce_op op_fdivW o_fdiv ha hb
theorem ce_mod (ha : CE K mg W X a ta ma) (hb : CE K mg W X b tb mb) : CE K mg W X (.BinOp a .Mod b pos) (tOp (rI (fun _ j => 0 < j) fun i j => .int (i % j)) ta tb) (e2 dMod ma mb) := ce_op op_mod o_mod ha hb
theorem ce_pow (ha : CE K mg W X a ta ma) (hb : CE K mg W X b tb mb) : CE K mg W X (.BinOp a .Pow b pos) (tOp (rI CPow fun i j => .int (i ^ j.toNat)) ta tb) (e2 dPow ma mb) := ce_op op_pow o_pow ha hb
theorem ce_neg (ha : CE K mg W X a ta ma) : CE K mg W X (.UnaryOp .USub a pos) (tUn (rU fun i => .int (-i)) ta) (e1 dNeg ma) := ⟨pe_un un_neg ha.1, eve_un o_neg ha.2⟩
theorem ce_cmp {op : CmpOp} {r : R2} {f : D → D → Option D} (ho : OpR X (compareOp op) r) (o : Op2 K r f) (ha : CE K mg W X a ta ma) (hb : CE K mg W X b tb mb) (hm : behindInMarks op b = false := by first | exact nomark _ | rfl) :
    CE K mg W X (.Compare a [op] [b] pos) (tOp r ta tb) (e2 f ma mb) := ⟨pe_cmpR ho ha.1 hb.1 hm, eve_op o ha.2 hb.2⟩
theorem ct_cmp {op : CmpOp} {r : R2} {f : D → D → Option D} (ho : OpR X (compareOp op) r) (o : Op2 K r f) (ha : CE K mg W X a ta ma) (hb : CE K mg W X b tb mb) (hm : behindInMarks op b = false := by first | exact nomark _ | rfl) :
    CT K mg W X (.Compare a [op] [b] pos) (tTest (tOp r ta tb)) (tBm (e2 f ma mb)) := ⟨pt_cmpR ho ha.1 hb.1 hm, evt_B (eve_op o ha.2 hb.2)⟩
theorem ce_lt (ha : CE K mg W X a ta ma) (hb : CE K mg W X b tb mb) : CE K mg W X (.Compare a [.Lt] [b] pos) (tOp (rI0 fun i j => .bl (decide (i < j))) ta tb) (e2 dLt ma mb) := ce_cmp op_lt o_lt ha hb
theorem ce_le (ha : CE K mg W X a ta ma) (hb : CE K mg W X b tb mb) : CE K mg W X (.Compare a [.LtE] [b] pos) (tOp (rI0 fun i j => .bl (decide (i ≤ j))) ta tb) (e2 dLe ma mb) := ce_cmp op_le o_le ha hb
theorem ce_gt (ha : CE K mg W X a ta ma) (hb : CE K mg W X b tb mb) : CE K mg W X (.Compare a [.Gt] [b] pos) (tOp (rI0 fun i j => .bl (decide (j < i))) ta tb) (e2 dGt ma mb) := ce_cmp op_gt o_gt ha hb
theorem ce_ge (ha : CE K mg W X a ta ma) (hb : CE K mg W X b tb mb) : CE K mg W X (.Compare a [.GtE] [b] pos) (tOp (rI0 fun i j => .bl (decide (j ≤ i))) ta tb) (e2 dGe ma mb) := ce_cmp op_ge o_ge ha hb
theorem ce_eq (c : Cc P w K mg base W X k) (ha : CE K mg W X a ta ma) (hb : CE K mg W X b tb mb) : CE K mg W X (.Compare a [.Eq] [b] pos) (tOp (rEqD K) ta tb) (e2 dEq ma mb) := ce_cmp (by have := op_eqD c.un; rw [c.K] at this; exact this) o_eq ha hb
theorem ce_ne (c : Cc P w K mg base W X k) (ha : CE K mg W X a ta ma) (hb : CE K mg W X b tb mb) : CE K mg W X (.Compare a [.NotEq] [b] pos) (tOp (rNeD K) ta tb) (e2 dNe ma mb) := ce_cmp (by have := op_neD c.un; rw [c.K] at this; exact this) o_ne ha hb
theorem ct_lt (ha : CE K mg W X a ta ma) (hb : CE K mg W X b tb mb) : CT K mg W X (.Compare a [.Lt] [b] pos) (tTest (tOp (rI0 fun i j => .bl (decide (i < j))) ta tb)) (tBm (e2 dLt ma mb)) := ct_cmp op_lt o_lt ha hb
theorem ct_le (ha : CE K mg W X a ta ma) (hb : CE K mg W X b tb mb) : CT K mg W X (.Compare a [.LtE] [b] pos) (tTest (tOp (rI0 fun i j => .bl (decide (i ≤ j))) ta tb)) (tBm (e2 dLe ma mb)) := ct_cmp op_le o_le ha hb
theorem ct_gt (ha : CE K mg W X a ta ma) (hb : CE K mg W X b tb mb) : CT K mg W X (.Compare a [.Gt] [b] pos) (tTest (tOp (rI0 fun i j => .bl (decide (j < i))) ta tb)) (tBm (e2 dGt ma mb)) := ct_cmp op_gt o_gt ha hb
theorem ct_ge (ha : CE K mg W X a ta ma) (hb : CE K mg W X b tb mb) : CT K mg W X (.Compare a [.GtE] [b] pos) (tTest (tOp (rI0 fun i j => .bl (decide (j ≤ i))) ta tb)) (tBm (e2 dGe ma mb)) := ct_cmp op_ge o_ge ha hb
theorem ct_eq (c : Cc P w K mg base W X k) (ha : CE K mg W X a ta ma) (hb : CE K mg W X b tb mb) : CT K mg W X (.Compare a [.Eq] [b] pos) (tTest (tOp (rEqD K) ta tb)) (tBm (e2 dEq ma mb)) := ct_cmp (by have := op_eqD c.un; rw [c.K] at this; exact this) o_eq ha hb
theorem ct_ne (c : Cc P w K mg base W X k) (ha : CE K mg W X a ta ma) (hb : CE K mg W X b tb mb) : CT K mg W X (.Compare a [.NotEq] [b] pos) (tTest (tOp (rNeD K) ta tb)) (tBm (e2 dNe ma mb)) := ct_cmp (by have := op_neD c.un; rw [c.K] at this; exact this) o_ne ha hb
theorem ce_one {op : BoolOp} (ha : CE K mg W X a ta ma) : CE K mg W X (.BoolOp op [a] pos) ta ma := ⟨pe_one ha.1, ha.2⟩
theorem ce_and (ha : CE K mg W X a ta ma) (hb : CE K mg W X (.BoolOp .And (b :: rest) pos) tb mb) : CE K mg W X (.BoolOp .And (a :: b :: rest) pos) (tAndV ta tb) (eAnd ma mb) := ⟨pe_and ha.1 hb.1, eve_and ha.2 hb.2⟩
theorem ce_or (ha : CE K mg W X a ta ma) (hb : CE K mg W X (.BoolOp .Or (b :: rest) pos) tb mb) : CE K mg W X (.BoolOp .Or (a :: b :: rest) pos) (tOrV ta tb) (eOr ma mb) := ⟨pe_or ha.1 hb.1, eve_or ha.2 hb.2⟩
theorem ce_not (ha : CE K mg W X a ta ma) : CE K mg W X (.UnaryOp .Not a pos) (tNotV ta) (e1 dNot ma) := ⟨pe_not ha.1, eve_not ha.2⟩
theorem ct_val (h : CE K mg W X a ta ma) (he : ∀ whole, isTrue a X.env whole = (do let v ← whole; standAt a.pos; holding [v] (truthy v)) := by intro _; rfl) : CT K mg W X a (tB ta) (tBm ma) := ⟨pt_val h.1 he, evt_B h.2⟩
theorem ct_w {e : Expr} (h : CTW K mg W X e ua na) : CT K mg W X e ua na := ⟨h.1.pt, h.2⟩
theorem ctw_and1 (h : CT K mg W X a ua na) : CTW K mg W X (.BoolOp .And [a] pos) ua na := ⟨pw_and1 h.1, h.2⟩
theorem ctw_or1 (h : CT K mg W X a ua na) : CTW K mg W X (.BoolOp .Or [a] pos) ua na := ⟨pw_or1 h.1, h.2⟩
theorem ctw_and (ha : CT K mg W X a ua na) (hb : CTW K mg W X (.BoolOp .And (b :: rest) pos) ub nb) : CTW K mg W X (.BoolOp .And (a :: b :: rest) pos) (tAnd ua ub) (tAndm na nb) := ⟨pw_and ha.1 hb.1, evt_and ha.2 hb.2⟩
theorem ctw_or (ha : CT K mg W X a ua na) (hb : CTW K mg W X (.BoolOp .Or (b :: rest) pos) ub nb) : CTW K mg W X (.BoolOp .Or (a :: b :: rest) pos) (tOr ua ub) (tOrm na nb) := ⟨pw_or ha.1 hb.1, evt_or ha.2 hb.2⟩
theorem ct_not (ha : CT K mg W X a ua na) : CT K mg W X (.UnaryOp .Not a pos) (tNot ua) (tNotm na) := ⟨pt_not ha.1, evt_not ha.2⟩
theorem ce_if {cn : Expr} (hc : CT K mg W X cn ua na) (ha : CE K mg W X a ta ma) (hb : CE K mg W X b tb mb) : CE K mg W X (.IfExp cn a b pos) (tIf ua ta tb) (eIf na ma mb) := ⟨pe_ifExp hc.1 ha.1 hb.1, eve_if hc.2 ha.2 hb.2⟩
theorem cv_nil : CV K mg W X [] tNil vNil := ⟨pa_nil, evv_nil⟩
theorem cv_cons {es : List Expr} {t : TA} {m : En → Res (List D)} (ha : CE K mg W X a ta ma) (hr : CV K mg W X es t m) (hs : starEach (a :: es) X.env = (false, eval a X.env) :: starEach es X.env := by rfl) : CV K mg W X (a :: es) (tCons ta t) (vCons ma m) := ⟨pa_cons ha.1 hr.1 hs, evv_cons ha.2 hr.2⟩
theorem ce_tup {es : List Expr} {x1} {t : TA} {m : En → Res (List D)} (h : CV K mg W X es t m) : CE K mg W X (.Tuple es x1 pos) (tTup t) (eTup m) := ⟨pe_tup h.1, eve_tup h.2⟩
theorem cf_lst {es : List Expr} {t : TA} {m : En → Res (List D)} (h : CV K mg W X es t m) : CF K mg W X (.List es pos) (tLst t) (fLst m) := ⟨pe_lst h.1, evf_lst h.2⟩
theorem ca_nil : CA K mg W X [] tNil aNil := ⟨pa_nil, eva_nil⟩
theorem ca_v {es : List Expr} {t : TA} {m : En → Res (List Ar)} (ha : CE K mg W X a ta ma) (hr : CA K mg W X es t m) (hs : starEach (a :: es) X.env = (false, eval a X.env) :: starEach es X.env := by rfl) : CA K mg W X (a :: es) (tCons ta t) (aV ma m) := ⟨pa_cons ha.1 hr.1 hs, eva_v ha.2 hr.2⟩
theorem ca_s (i : Nat) {x : Str} {es : List Expr} {t : TA} {m : En → Res (List Ar)} (hr : CA K mg W X es t m) (hN : X.N[i]? = some x := by rfl) (hv : Vis X.env.scope x := by first | exact Or.inl rfl | exact Or.inr (Or.inl rfl) | exact Or.inr (Or.inr rfl)) (h1 : (x == ("__debug__" : Str)) = false := by decide)
    (h2 : (x == ("__classdict__" : Str)) = false := by decide) (hs : starEach (.Name x pos :: es) X.env = (false, eval (.Name x pos) X.env) :: starEach es X.env := by rfl) : CA K mg W X (.Name x pos :: es) (tCons (tVar i) t) (aS i m) := ⟨pa_cons (pe_var hN hv h1 h2) hr.1 hs, eva_s hr.2⟩
theorem cr_nil : CR K mg W X [] tNil rNil := ⟨pa_nil, evr_nil⟩
theorem cr_e {es : List Expr} {t : TA} {m : En → Res (List D)} (ha : CE K mg W X a ta ma) (hr : CR K mg W X es t m) (hs : starEach (a :: es) X.env = (false, eval a X.env) :: starEach es X.env := by rfl) : CR K mg W X (a :: es) (tCons ta t) (rE ma m) := ⟨pa_cons ha.1 hr.1 hs, evr_e ha.2 hr.2⟩
theorem cr_f {es : List Expr} {t : TA} {mf : En → Res MO} {m : En → Res (List D)} (ha : CF K mg W X a ta mf) (hr : CR K mg W X es t m) (hs : starEach (a :: es) X.env = (false, eval a X.env) :: starEach es X.env := by rfl) : CR K mg W X (a :: es) (tCons ta t) (rF mf m) := ⟨pa_cons ha.1 hr.1 hs, evr_f ha.2 hr.2⟩
theorem ce_ix (c : Cc P w K mg base W X k) (ha : CE K mg W X a ta ma) (hb : CE K mg W X b tb mb) (hs : PlainIx b := by intro _ _; rfl) : CE K mg W X (.Subscript a b pos) (tOp (rIx K) ta tb) (eIx ma mb) :=
  ⟨pe_ix (by have := ix_seq (X := X); rw [c.K] at this; exact this) ha.1 hb.1 hs, eve_ix ha.2 hb.2⟩
theorem ce_ixC (c : Cc P w K mg base W X k) {mc : En → Res (Bool × List D)} {mp : En → RP D} (ha : CC K mg W X a ta mc) (hb : CP K mg W X b tb mp) (hs : PlainIx b := by intro _ _; rfl) : CE K mg W X (.Subscript a b pos) (tOp (rIx K) ta tb) (cIx mc mp) :=
  ⟨pe_ix (by have := ix_seq (X := X); rw [c.K] at this; exact this) ha.1 hb.1 hs, eve_ixC ha.2 hb.2⟩
theorem cq_ix (c : Cc P w K mg base W X k) {i : Nat} {kk : Int} {j} {p : Pos} {m : D → Option D} (ha : CQ K i X a ta m) (hs : PlainIx (.Constant (.int kk) j p) := by intro _ _; rfl) : CQ K i X (.Subscript a (.Constant (.int kk) j p) pos) (tOp (rIx K) ta (tC (.int kk))) (qIx kk m) :=
  ⟨pe_ix (by have := ix_seq (X := X); rw [c.K] at this; exact this) ha.1 pe_int hs, evq_ix ha.2⟩
/-! ### built-ins of one container -/
theorem ce_cs (c : Cc P w K mg base W X k) {id : String} {x : Str} {p : Pos} {r : List V → Hp → VK → Prop} {f : Bool → List D → Option D} {mc : En → Res (Bool × List D)} (hc : CallR X (.builtin id) r) (o : OpCs K r f) (hm : mg x = none) (hv : bootBuiltins x = some (.builtin id)) (ha : CC K mg W X a ta mc)
    (hg : Gl X x := by rfl) (hn : x ≠ "__name__" := by decide) (hdb : (x == ("__debug__" : Str)) = false := by decide) (he : starEach [a] X.env = (false, eval a X.env) :: starEach [] X.env := by rfl) (hpl : (backTo pos (starEach [] X.env)).any (·.1) = false := by rfl) :
    CE K mg W X (.Call (.Name x p) [a] [] pos) (tCB r (tCons ta tNil)) (cS f mc) := ⟨pe_callB hc hg (by rw [c.mg]; exact hm) hv (pa_cons ha.1 pa_nil he) hn hdb he hpl, eve_cs o ha.2⟩
section
variable {p : Pos} {mc : En → Res (Bool × List D)} (c : Cc P w K mg base W X k) (ha : CC K mg W X a ta mc)
include c ha
theorem ce_sum (hm : mg "sum" = none) (hg : Gl X "sum" := by rfl) (he : starEach [a] X.env = (false, eval a X.env) :: starEach [] X.env := by rfl) (hpl : (backTo pos (starEach [] X.env)).any (·.1) = false := by rfl) : CE K mg W X (.Call (.Name "sum" p) [a] [] pos) (tCB (rSum K) (tCons ta tNil)) (cS sSum mc) := ce_cs c (by have := cr_sum c.calm; rw [c.K] at this; exact this) cs_sum hm bb_sum ha hg (by decide) (by decide) he hpl
theorem ce_max (hm : mg "max" = none) (hg : Gl X "max" := by rfl) (he : starEach [a] X.env = (false, eval a X.env) :: starEach [] X.env := by rfl) (hpl : (backTo pos (starEach [] X.env)).any (·.1) = false := by rfl) : CE K mg W X (.Call (.Name "max" p) [a] [] pos) (tCB (rMax K) (tCons ta tNil)) (cS sMax mc) := ce_cs c (by have := cr_max c.calm; rw [c.K] at this; exact this) cs_max hm bb_max ha hg (by decide) (by decide) he hpl
theorem ce_min (hm : mg "min" = none) (hg : Gl X "min" := by rfl) (he : starEach [a] X.env = (false, eval a X.env) :: starEach [] X.env := by rfl) (hpl : (backTo pos (starEach [] X.env)).any (·.1) = false := by rfl) : CE K mg W X (.Call (.Name "min" p) [a] [] pos) (tCB (rMin K) (tCons ta tNil)) (cS sMin mc) := ce_cs c (by have := cr_min c.calm; rw [c.K] at this; exact this) cs_min hm bb_min ha hg (by decide) (by decide) he hpl
theorem ce_lenC (hm : mg "len" = none) (hg : Gl X "len" := by rfl) (he : starEach [a] X.env = (false, eval a X.env) :: starEach [] X.env := by rfl) (hpl : (backTo pos (starEach [] X.env)).any (·.1) = false := by rfl) : CE K mg W X (.Call (.Name "len" p) [a] [] pos) (tCB (rLenU K) (tCons ta tNil)) (cS sLen mc) := ce_cs c (cr_lenU c) cs_len hm PySem.boot_len ha hg (by decide) (by decide) he hpl
theorem cf_sortI (hm : mg "sorted" = none) (hg : Gl X "sorted" := by rfl) (he : starEach [a] X.env = (false, eval a X.env) :: starEach [] X.env := by rfl) (hpl : (backTo pos (starEach [] X.env)).any (·.1) = false := by rfl) : CF K mg W X (.Call (.Name "sorted" p) [a] [] pos) (tCB (rSortedI K) (tCons ta tNil)) (cL lSortI mc) :=
  ⟨pe_callB (by have := cr_sortedI (X := X); rw [c.K] at this; exact this) hg (by rw [c.mg]; exact hm) bb_sorted (pa_cons ha.1 pa_nil he) (by decide) (by decide) he hpl, evf_cl cl_sortI ha.2⟩
theorem cf_sortP (hm : mg "sorted" = none) (hg : Gl X "sorted" := by rfl) (he : starEach [a] X.env = (false, eval a X.env) :: starEach [] X.env := by rfl) (hpl : (backTo pos (starEach [] X.env)).any (·.1) = false := by rfl) : CF K mg W X (.Call (.Name "sorted" p) [a] [] pos) (tCB (rSortedPO K) (tCons ta tNil)) (cL lSortP mc) :=
  ⟨pe_callB (by have := cr_sortedPO (X := X); rw [c.K] at this; exact this) hg (by rw [c.mg]; exact hm) bb_sorted (pa_cons ha.1 pa_nil he) (by decide) (by decide) he hpl, evf_cl cl_sortP ha.2⟩
theorem cf_list (hm : mg "list" = none) (hg : Gl X "list" := by rfl) (he : starEach [a] X.env = (false, eval a X.env) :: starEach [] X.env := by rfl) (hpl : (backTo pos (starEach [] X.env)).any (·.1) = false := by rfl) : CF K mg W X (.Call (.Name "list" p) [a] [] pos) (tCB (rListU K) (tCons ta tNil)) (cL lAll mc) :=
  ⟨pe_callTy (by have := call_list_of (X := X); rw [c.K] at this; exact this) hg (by rw [c.mg]; exact hm) bb_list (pa_cons ha.1 pa_nil he) (by decide) (by decide) he hpl, evf_cl cl_list ha.2⟩
end
theorem co_no : CO K mg W X none tNoPart oNo := ⟨po_none, evo_no⟩
theorem co_i {m : En → RP D} (h : CP K mg W X a ta m) : CO K mg W X (some a) (tPart ta) (oI m) := ⟨po_some h.1, evo_i h.2⟩
theorem cf_cut (c : Cc P w K mg base W X k) {lo hi : Option Expr} {p2 : Pos} {tl th : TO} {mc : En → Res (Bool × List D)} {ml mh : En → RP (Option Int)} (ha : CC K mg W X a ta mc) (hl : CO K mg W X lo tl ml) (hh : CO K mg W X hi th mh) :
    CF K mg W X (.Subscript a (.Slice lo hi none p2) pos) (tSl (rSlL K) ta tl th) (fCut mc ml mh) := ⟨pe_slice (by have := sl_list (X := X); rw [c.K] at this; exact this) ha.1 hl.1 hh.1, evf_cut ha.2 hl.2 hh.2⟩
theorem ck_lst {es : List Expr} {t : TA} {m : En → RP (List D)} (h : CAP K mg W X es t m) : CK K mg W X (.List es pos) (tLst t) (kLst m) := ⟨pe_lst h.1, evk_lst h.2⟩
theorem ck_rep {mk : En → RP (List D)} {mp : En → RP D} (ha : CK K mg W X a ta mk) (hb : CP K mg W X b tb mp) : CK K mg W X (.BinOp a .Mult b pos) (tOp rRep ta tb) (kRep mk mp) := ⟨pe_op op_rep ha.1 hb.1, evk_rep ha.2 hb.2⟩
theorem ck_cat {mk mk' : En → RP (List D)} (ha : CK K mg W X a ta mk) (hb : CK K mg W X b tb mk') : CK K mg W X (.BinOp a .Add b pos) (tOp rCat ta tb) (kCat mk mk') := ⟨pe_op op_cat ha.1 hb.1, evk_cat ha.2 hb.2⟩
theorem ck_cut (c : Cc P w K mg base W X k) {lo hi : Option Expr} {p2 : Pos} {tl th : TO} {mk : En → RP (List D)} {ml mh : En → RP (Option Int)} (ha : CK K mg W X a ta mk) (hl : CO K mg W X lo tl ml) (hh : CO K mg W X hi th mh) :
    CK K mg W X (.Subscript a (.Slice lo hi none p2) pos) (tSl (rSlL K) ta tl th) (kCut mk ml mh) := ⟨pe_slice (by have := sl_list (X := X); rw [c.K] at this; exact this) ha.1 hl.1 hh.1, evk_cut ha.2 hl.2 hh.2⟩
theorem cf_rep {mk : En → RP (List D)} {mp : En → RP D} (ha : CK K mg W X a ta mk) (hb : CP K mg W X b tb mp) : CF K mg W X (.BinOp a .Mult b pos) (tOp rRep ta tb) (fOfK (kRep mk mp)) := ⟨pe_op op_rep ha.1 hb.1, evf_rep ha.2 hb.2⟩
theorem cf_cat {mk mk' : En → RP (List D)} (ha : CK K mg W X a ta mk) (hb : CK K mg W X b tb mk') : CF K mg W X (.BinOp a .Add b pos) (tOp rCat ta tb) (fOfK (kCat mk mk')) := ⟨pe_op op_cat ha.1 hb.1, evf_cat ha.2 hb.2⟩
/-! ### calls -/
end
/-- a def that is known: it computes mf -/
structure CalM (P : Program) (w : World) (K : PySem.W.Frag) (mg : Str → Option Value) (base : Heap) (k : Nat) (x : Str) (mf : En → RD) : Prop where
  ex : ∃ (f : Addr) (fd : FuncData) (ps : List Str), FnOk P w K mg base (L2.CX P w) k f fd ps (SpM K mg mf) ∧ mg x = some (.ref f) ∧ PySem.W.keepIn K (.ref f) = true ∧ Binds K fd ps []
section
variable {P : Program} {w : World} {K : PySem.W.Frag} {mg : Str → Option Value} {base : Heap} {W : WX} {X : Cx} {k j : Nat} {a e : Expr} {es : List Expr} {ta te : TE} {pos p : Pos} {t : TA} {x : Str} {mf : En → RD}
theorem pe_calM (c : Cc P w K mg base W X k) (F : CalM P w K mg base j x mf) (hj : j ≤ k) (ha : PA X (e :: es) t) (hg : Gl X x) (hdb : (x == ("__debug__" : Str)) = false) (he : starEach (e :: es) X.env = (false, eval e X.env) :: starEach es X.env) (hpl : (backTo pos (starEach es X.env)).any (·.1) = false) :
    PE X (.Call (.Name x p) (e :: es) [] pos) (tCallS (SpM K mg mf) (WE W) t) := by
  obtain ⟨f, fd, ps, h1, h2, h3, h4⟩ := F.ex
  have h1' : FnOk X.prog X.w X.K X.mg X.base (L2.CX X.prog X.w) j f fd ps (SpM K mg mf) := by rw [c.p, c.w, c.K, c.mg, c.base]; exact h1
  exact pe_callS h1' (c.room.mono hj) hg (by rw [c.mg]; exact h2) (by rw [c.K]; exact h3) (by rw [c.K]; exact h4) (fun σ => passAt c.tk σ) ha hdb he hpl
theorem cp_call (c : Cc P w K mg base W X k) {m : En → RP (List D)} (F : CalM P w K mg base j x mf) (ha : CAP K mg W X (e :: es) t m) (hj : j ≤ k := by decide) (hg : Gl X x := by rfl) (hdb : (x == ("__debug__" : Str)) = false := by decide)
    (he : starEach (e :: es) X.env = (false, eval e X.env) :: starEach es X.env := by rfl) (hpl : (backTo pos (starEach es X.env)).any (·.1) = false := by rfl) : CP K mg W X (.Call (.Name x p) (e :: es) [] pos) (tCallS (SpM K mg mf) (WE W) t) (pCall mf m) :=
  ⟨pe_calM c F hj ha.1 hg hdb he hpl, evp_call ha.2⟩
theorem ce_call (c : Cc P w K mg base W X k) {m : En → Res (List Ar)} (F : CalM P w K mg base j x mf) (ha : CA K mg W X (e :: es) t m) (hj : j ≤ k := by decide) (hg : Gl X x := by rfl) (hdb : (x == ("__debug__" : Str)) = false := by decide)
    (he : starEach (e :: es) X.env = (false, eval e X.env) :: starEach es X.env := by rfl) (hpl : (backTo pos (starEach es X.env)).any (·.1) = false := by rfl) : CE K mg W X (.Call (.Name x p) (e :: es) [] pos) (tCallS (SpM K mg mf) (WE W) t) (eCall mf m) :=
  ⟨pe_calM c F hj ha.1 hg hdb he hpl, eve_call ha.2⟩
theorem cf_call (c : Cc P w K mg base W X k) {m : En → Res (List Ar)} (F : CalM P w K mg base j x mf) (ha : CA K mg W X (e :: es) t m) (hj : j ≤ k := by decide) (hg : Gl X x := by rfl) (hdb : (x == ("__debug__" : Str)) = false := by decide)
    (he : starEach (e :: es) X.env = (false, eval e X.env) :: starEach es X.env := by rfl) (hpl : (backTo pos (starEach es X.env)).any (·.1) = false := by rfl) : CF K mg W X (.Call (.Name x p) (e :: es) [] pos) (tCallS (SpM K mg mf) (WE W) t) (fCall mf m) :=
  ⟨pe_calM c F hj ha.1 hg hdb he hpl, evf_call ha.2⟩
theorem cw_callT (c : Cc P w K mg base W X k) {mF : En → Res MO} {m : En → Res (List Ar)} (F : CalM P w K mg base j x mf) (hf : CF K mg W X e te mF) (ha : CA K mg W X es t m) (hj : j ≤ k := by decide) (hg : Gl X x := by rfl) (hdb : (x == ("__debug__" : Str)) = false := by decide)
    (he : starEach (e :: es) X.env = (false, eval e X.env) :: starEach es X.env := by rfl) (hpl : (backTo pos (starEach es X.env)).any (·.1) = false := by rfl) : CW K mg W X (.Call (.Name x p) (e :: es) [] pos) (tCallS (SpM K mg mf) (WE W) (tCons te t)) (wCallT mf mF m) :=
  ⟨pe_calM c F hj (pa_cons hf.1 ha.1 he) hg hdb he hpl, evw_callT hf.2 ha.2⟩
end
end Cv
end

section
set_option Elab.async false
set_option linter.all false
set_option maxRecDepth 100000
set_option maxHeartbeats 4000000
set_option autoImplicit false
/-! CvZ: statements, comprehensions, defs: derivation and reading in one term. -/
namespace Cv
open PySem L2 PyProof.Rows
section
variable {P : Program} {w : World} {K : PySem.W.Frag} {mg : Str → Option Value} {base : Heap} {W : WX} {X : Cx} {k : Nat} {a b e : Expr} {es : List Expr} {ta tb te : TE} {pos p : Pos} {x : Str} {st : Stmt} {sts : List Stmt} {t u : TS} {f g : En → Fl}
theorem Cc.blk (c : Cc P w K mg base W X k) {s : Shared} {H : Hp} {scope : Scope} {ce : Env} {fp : List Addr} : Cc P w K mg base W0 (X.blk s H scope ce fp) k := ⟨c.p, c.w, c.K, c.mg, c.base, c.calm, takes0, c.room, PassesOwn.never, c.nd⟩
theorem Cc.tr (c : Cc P w K mg base W X k) {W' : WX} {pj : List (Addr × Obj)} {xj : Value → Shared → Prop} (tk : Takes (X.tr pj xj) W') (po : PassesOwn (model X.prog X.w) X.A X.env xj) : Cc P w K mg base W' (X.tr pj xj) k := ⟨c.p, c.w, c.K, c.mg, c.base, c.calm, tk, c.room, po, c.nd⟩
/-! ### targets -/
section
variable (i : Nat) (c : Cc P w K mg base W X k) (hN : X.N[i]? = some x := by rfl) (hx : Loc X.env.scope x := by first | exact Or.inl rfl | exact Or.inr rfl) (hf : X.fn x = true ∨ X.env.scope.names.lookup x = some .local := by first | exact .inl rfl | exact .inr rfl)
include c hN hx hf
theorem cg_name : CG K X (.Name x pos) (gName i) (gN i) := ⟨pg_name c.nd hN hx hf, evg_name⟩
theorem cgv_name {vs : List Nat} (hi : i ∈ vs := by decide) : CGV K vs X (.Name x pos) (gName i) (gN i) := ⟨pg_name c.nd hN hx hf, evgv_name hi⟩
end
theorem cgs_nil : CGs K X [] gNil gsNil := ⟨pgs_nil, evgs_nil⟩
theorem cgs_cons {tg : TG} {tu : TGs} {ma : D → En → Option En} {mb : List D → En → Option En} (ha : CG K X e tg ma) (hb : CGs K X es tu mb) (hs : (assignEach (e :: es) X.env).map (·.2) = assign e X.env :: (assignEach es X.env).map (·.2) := by rfl) : CGs K X (e :: es) (gCons tg tu) (gsCons ma mb) :=
  ⟨pgs_cons ha.1 hb.1 hs, evgs_cons ha.2 hb.2⟩
theorem cg_tup (c : Cc P w K mg base W X k) {j n : Nat} {tu : TGs} {mb : List D → En → Option En} (h : CGs K X es tu mb) (hn : (assignEach es X.env).length = n := by rfl) (hst : (assignEach es X.env).findIdx? (·.1) = none := by rfl) : CG K X (.Tuple es j pos) (gTup K n tu) (gT n mb) :=
  ⟨by have := pg_tup (pos := pos) (k := j) c.calm h.1 hn hst; rw [c.K] at this; exact this, evg_tup h.2⟩
theorem cgsv_nil {vs : List Nat} : CGsV K vs X [] gNil gsNil := ⟨pgs_nil, evgsv_nil⟩
theorem cgsv_cons {vs : List Nat} {tg : TG} {tu : TGs} {ma : D → En → Option En} {mb : List D → En → Option En} (ha : CGV K vs X e tg ma) (hb : CGsV K vs X es tu mb) (hs : (assignEach (e :: es) X.env).map (·.2) = assign e X.env :: (assignEach es X.env).map (·.2) := by rfl) : CGsV K vs X (e :: es) (gCons tg tu) (gsCons ma mb) :=
  ⟨pgs_cons ha.1 hb.1 hs, evgsv_cons ha.2 hb.2⟩
theorem cgv_tup (c : Cc P w K mg base W X k) {vs : List Nat} {j n : Nat} {tu : TGs} {mb : List D → En → Option En} (h : CGsV K vs X es tu mb) (hn : (assignEach es X.env).length = n := by rfl) (hst : (assignEach es X.env).findIdx? (·.1) = none := by rfl) : CGV K vs X (.Tuple es j pos) (gTup K n tu) (gT n mb) :=
  ⟨by have := pg_tup (pos := pos) (k := j) c.calm h.1 hn hst; rw [c.K] at this; exact this, evgv_tup h.2⟩
/-! ### what is walked -/
variable {tg : Expr}
theorem ci_r1 (c : Cc P w K mg base W X k) {ta : TA} {m : En → Res (List D)} (hm : mg "range" = none) (ha : CV K mg W X [a] ta m) (hg : Gl X "range" := by rfl) (hs : starEach [a] X.env = [(false, eval a X.env)] := by rfl) : CI K mg W X tg (.Call (.Name "range" p) [a] [] pos) (iRng1 ta) (iR1 m) :=
  ⟨pi_range1 hg (by rw [c.mg]; exact hm) ha.1 hs, evi_r1 ha.2⟩
theorem ci_r2 (c : Cc P w K mg base W X k) {ta : TA} {m : En → Res (List D)} (hm : mg "range" = none) (ha : CV K mg W X [a, b] ta m) (hg : Gl X "range" := by rfl) (hs : starEach [a, b] X.env = [(false, eval a X.env), (false, eval b X.env)] := by rfl) (hs2 : starEach [b] X.env = [(false, eval b X.env)] := by rfl) :
    CI K mg W X tg (.Call (.Name "range" p) [a, b] [] pos) (iRng2 ta) (iR2 m) := ⟨pi_range2 hg (by rw [c.mg]; exact hm) ha.1 hs hs2, evi_r2 ha.2⟩
theorem ci_lst (c : Cc P w K mg base W X k) {m : En → Res D} (h : CE K mg W X a ta m) : CI K mg W X tg a (iList K ta) (iLst m) := ⟨by have := pi_list (tg := tg) h.1; rw [c.K] at this; exact this, evi_lst h.2⟩
theorem ci_lstF (c : Cc P w K mg base W X k) {m : En → Res MO} (h : CF K mg W X a ta m) : CI K mg W X tg a (iList K ta) (iLst (eOfF m)) := ⟨by have := pi_list (tg := tg) h.1; rw [c.K] at this; exact this, evi_lstF h.2⟩
theorem ci_tup (c : Cc P w K mg base W X k) {m : En → Res D} (h : CE K mg W X a ta m) : CI K mg W X tg a (iTup K ta) (iTupl m) := ⟨by have := pi_tup (tg := tg) h.1; rw [c.K] at this; exact this, evi_tup h.2⟩
/-! ### comprehensions -/
theorem cts_nil : CTs K mg W X [] tYes tYesm := ⟨pts_nil, evt_yes⟩
theorem cts_one {tt : TT} {m : En → Res Bool} (h : CT K mg W X a tt m) : CTs K mg W X [a] tt m := ⟨pts_one h.1, h.2⟩
theorem cf_lc (c : Cc P w K mg base W X k) {elt iter : Expr} {ifs : List Expr} {scope : Scope} (own : List (Str × Nat)) {wi : TI} {gg : TG} {tt : TT} {src : En → Res (List D)} {mtg : D → En → Option En} {mt : En → Res Bool} {me : En → Res D} (hi : CI K mg W X tg iter wi src)
    (hg : ∀ (s : Shared) (H : Hp) (C : Addr) (cl : List (Str × Addr)) (fp : List Addr), Cc P w K mg base W0 (X.blk s H scope (compEnvC scope cl C X.env) fp) k → CGV K (own.map (·.2)) (X.blk s H scope (compEnvC scope cl C X.env) fp) tg gg mtg)
    (ht : ∀ (s : Shared) (H : Hp) (C : Addr) (cl : List (Str × Addr)) (fp : List Addr), Cc P w K mg base W0 (X.blk s H scope (compEnvC scope cl C X.env) fp) k → CTs K mg W0 (X.blk s H scope (compEnvC scope cl C X.env) fp) ifs tt mt)
    (he : ∀ (s : Shared) (H : Hp) (C : Addr) (cl : List (Str × Addr)) (fp : List Addr), Cc P w K mg base W0 (X.blk s H scope (compEnvC scope cl C X.env) fp) k → CE K mg W0 (X.blk s H scope (compEnvC scope cl C X.env) fp) elt te me)
    (ok : blkC X.N X.env.scope scope own = true := by first | rfl | (dsimp only [cxOf, envOfC, compEnvC]; decide +kernel)) (hs : ∀ x, foldedSetIterable iter X.env x = pure x := by intro _; rfl) :
    CF K mg W X (.ListComp elt [⟨tg, iter, ifs, 0⟩] scope pos) (tLc wi gg tt te (own.map (·.2))) (fLc src (own.map (·.2)) mtg mt me) := by
  have h0 := fun (s : Shared) (H : Hp) (C : Addr) (cl : List (Str × Addr)) (fp : List Addr) => c.blk (s := s) (H := H) (scope := scope) (ce := compEnvC scope cl C X.env) (fp := fp)
  obtain ⟨s0⟩ : Nonempty Shared := ⟨{}⟩
  exact ⟨pe_lc c.calm c.nd hi.1 (blkOk_by ok) (fun s H C cl fp => (hg s H C cl fp (h0 s H C cl fp)).1) (fun s H C cl fp => (ht s H C cl fp (h0 s H C cl fp)).1) (fun s H C cl fp => (he s H C cl fp (h0 s H C cl fp)).1) hs,
    evf_lc hi.2 (hg s0 (fun _ => none) 0 [] [] (h0 _ _ _ _ _)).2 (ht s0 (fun _ => none) 0 [] [] (h0 _ _ _ _ _)).2 (he s0 (fun _ => none) 0 [] [] (h0 _ _ _ _ _)).2⟩
/-! ### statements -/
theorem css_nil : CSs K mg W X [] tNext sNext := ⟨pss_nil, evs_next⟩
theorem css_cons (h1 : CS K mg W X st t f) (h2 : CSs K mg W X sts u g) : CSs K mg W X (st :: sts) (tSeq t u) (sSeq f g) := ⟨pss_cons h1.1 h2.1, evs_seq h1.2 h2.2⟩
theorem css_one (h1 : CS K mg W X st t f) : CSs K mg W X [st] t f := ⟨pss_one h1.1, h1.2⟩
theorem cs_pass : CS K mg W X (.Pass pos) tNext sNext := ⟨ps_pass, evs_next⟩
theorem cs_break : CS K mg W X (.Break pos) tBreak sBrk := ⟨ps_break, evs_brk⟩
theorem cs_cont : CS K mg W X (.Continue pos) tCont sCont := ⟨ps_continue, evs_cont⟩
theorem cs_doc {z : Str} {j pos'} : CS K mg W X (.Expr (.Constant (.str z) j pos) pos') tNext sNext := ⟨ps_doc, evs_next⟩
theorem cs_expr {m : En → Res D} (h : CE K mg W X e te m) (hs : swapsWith e none pos.line X.env = pure false := by rfl) : CS K mg W X (.Expr e pos) (tDrop te) (sDrop m) := ⟨ps_expr h.1 hs, evs_drop h.2⟩
theorem cs_ret {m : En → Res D} (h : CE K mg W X e te m) : CS K mg W X (.Return (some e) pos) (tRet te) (sRet m) := ⟨ps_ret h.1, evs_ret h.2⟩
theorem cs_retF {m : En → Res MO} (h : CF K mg W X e te m) : CS K mg W X (.Return (some e) pos) (tRet te) (sRetF m) := ⟨ps_ret h.1, evs_retF h.2⟩
theorem cs_retN : CS K mg W X (.Return none pos) tRetN sRetN := ⟨ps_retN, evs_retN⟩
theorem cs_retO (i : Nat) (hN : X.N[i]? = some x := by rfl) (hv : Vis X.env.scope x := by first | exact Or.inl rfl | exact Or.inr (Or.inl rfl) | exact Or.inr (Or.inr rfl)) (h1 : (x == ("__debug__" : Str)) = false := by decide)
    (h2 : (x == ("__classdict__" : Str)) = false := by decide) : CS K mg W X (.Return (some (.Name x p)) pos) (tRet (tVar i)) (sRetO i) := ⟨ps_ret (pe_var hN hv h1 h2), evs_retO⟩
theorem cs_if {tc : TT} {m : En → Res Bool} {sa sb : List Stmt} (hc : CT K mg W X a tc m) (ha : CSs K mg W X sa t f) (hb : CSs K mg W X sb u g) : CS K mg W X (.If a sa sb pos) (tIfS tc t u) (sIf m f g) := ⟨ps_if hc.1 ha.1 hb.1, evs_if hc.2 ha.2 hb.2⟩
theorem cs_asg {m : En → Res D} {gg : TG} {mt : D → En → Option En} (h : CE K mg W X e te m) (hg : CG K X a gg mt) (hs : swapsWithSole [a] e pos.line X.env = pure false := by rfl) (hw : swappedStores [a] e X.env = pure none := by rfl)
    (h1 : (assignEach [a] X.env).map (·.2) = [assign a X.env] := by rfl) : CS K mg W X (.Assign [a] e pos) (tAsg te gg) (sAsg m mt) := ⟨ps_asg h.1 hg.1 hs hw h1, evs_asg h.2 hg.2⟩
section
variable (i : Nat) (c : Cc P w K mg base W X k)
include c
theorem cs_asgF {m : En → Res MO} {p : Pos} (h : CF K mg W X e te m) (hN : X.N[i]? = some x := by rfl) (hx : Loc X.env.scope x := by first | exact Or.inl rfl | exact Or.inr rfl) (hf : X.fn x = true ∨ X.env.scope.names.lookup x = some .local := by first | exact .inl rfl | exact .inr rfl) (hs : swapsWithSole [.Name x p] e pos.line X.env = pure false := by rfl) (hw : swappedStores [.Name x p] e X.env = pure none := by rfl)
    (h1 : (assignEach [.Name x p] X.env).map (·.2) = [assign (.Name x p) X.env] := by rfl) : CS K mg W X (.Assign [.Name x p] e pos) (tAsg te (gName i)) (sAsgF m i) := ⟨ps_asg h.1 (pg_name c.nd hN hx hf) hs hw h1, evs_asgF h.2⟩
theorem cs_asgR {j : Nat} {y : Str} {mf : En → RD} {e1 : Expr} {p q pos' : Pos} {ta : TA} {m : En → Res (List D)} (F : CalM P w K mg base j y mf) (ha : CR K mg W X (e1 :: es) ta m) (hN : X.N[i]? = some x := by rfl) (hx : Loc X.env.scope x := by first | exact Or.inl rfl | exact Or.inr rfl) (hf : X.fn x = true ∨ X.env.scope.names.lookup x = some .local := by first | exact .inl rfl | exact .inr rfl) (hj : j ≤ k := by decide) (hg : Gl X y := by rfl) (hdb : (y == ("__debug__" : Str)) = false := by decide)
    (he : starEach (e1 :: es) X.env = (false, eval e1 X.env) :: starEach es X.env := by rfl) (hpl : (backTo pos' (starEach es X.env)).any (·.1) = false := by rfl) (hs : swapsWithSole [.Name x p] (.Call (.Name y q) (e1 :: es) [] pos') pos.line X.env = pure false := by rfl)
    (hw : swappedStores [.Name x p] (.Call (.Name y q) (e1 :: es) [] pos') X.env = pure none := by rfl) (h1 : (assignEach [.Name x p] X.env).map (·.2) = [assign (.Name x p) X.env] := by rfl) :
    CS K mg W X (.Assign [.Name x p] (.Call (.Name y q) (e1 :: es) [] pos') pos) (tAsg (tCallS (SpM K mg mf) (WE W) ta) (gName i)) (sAsgR mf m i) := ⟨ps_asg (pe_calM c F hj ha.1 hg hdb he hpl) (pg_name c.nd hN hx hf) hs hw h1, evs_asgR ha.2⟩
theorem cs_aug {op : Operator} {fz : Int → Int → Int} {m : En → Res D} (ho : PIp X op (ipI fz)) (h : CE K mg W X e te m) (hN : X.N[i]? = some x := by rfl) (hx : Loc X.env.scope x := by first | exact Or.inl rfl | exact Or.inr rfl) (hf : X.fn x = true ∨ X.env.scope.names.lookup x = some .local := by first | exact .inl rfl | exact .inr rfl) : CS K mg W X (.AugAssign (.Name x p) op e pos) (tAug i te (ipI fz)) (sAug fz i m) := ⟨ps_aug c.nd hN hx h.1 ho hf, evs_aug h.2⟩
end
section
variable (i : Nat) (c : Cc P w K mg base W X k)
include c
theorem cs_augA {m : En → Res D} (h : CE K mg W X e te m) (hN : X.N[i]? = some x := by rfl) (hx : Loc X.env.scope x := by first | exact Or.inl rfl | exact Or.inr rfl) (hf : X.fn x = true ∨ X.env.scope.names.lookup x = some .local := by first | exact .inl rfl | exact .inr rfl) :
    CS K mg W X (.AugAssign (.Name x p) .Add e pos) (tAug i te (ipI fun i j => i + j)) (sAug (fun i j => i + j) i m) := cs_aug i c ip_add h hN hx hf
theorem cs_augS {m : En → Res D} (h : CE K mg W X e te m) (hN : X.N[i]? = some x := by rfl) (hx : Loc X.env.scope x := by first | exact Or.inl rfl | exact Or.inr rfl) (hf : X.fn x = true ∨ X.env.scope.names.lookup x = some .local := by first | exact .inl rfl | exact .inr rfl) :
    CS K mg W X (.AugAssign (.Name x p) .Sub e pos) (tAug i te (ipI fun i j => i - j)) (sAug (fun i j => i - j) i m) := cs_aug i c ip_sub h hN hx hf
end
theorem cs_spoilA {i : Nat} {tq : TE} {q : D → Option D} {m : En → RP D} {apos cpos : Pos} (hq : CQ K i X a tq q) (c : Cc P w K mg base W X k) (hm : CP K mg W X e te m) (hbase : attributeBase a "append" X.env (eval a X.env) = eval a X.env := by rfl)
    (hfew : ((backTo cpos (starEach [e] X.env)).all (fun x => !x.1) && (backToKw cpos (keywordEach [] X.env)).all (fun x => x.1.isSome) && decide ([e].length + ([] : List Keyword).length + (if ([] : List Keyword).isEmpty then 0 else 1) < 30)) = true := by rfl)
    (hline : (apos.endLine == cpos.line) = true := by rfl) (hs : starEach [e] X.env = (false, eval e X.env) :: starEach [] X.env := by rfl) (hplain : (backTo cpos (starEach [] X.env)).any (·.1) = false := by rfl) (hsw : swapsWith (.Call (.Attribute a "append" apos) [e] [] cpos) none pos.line X.env = pure false := by rfl) :
    CS K mg W X (.Expr (.Call (.Attribute a "append" apos) [e] [] cpos) pos) (tDrop (tBM K "list" rAppend tq (tCons te tNil))) (sSpoilA i q m) :=
  ⟨ps_expr (by have := pe_bm (X := X) (apos := apos) PySem.F.plainAttrs_list PySem.F.slot_list_append PySem.F.type_list_append mt_append hq.1 (pa_cons hm.1 pa_nil hs) hbase hfew hline hs hplain; rw [c.K] at this; exact this) hsw, evs_spoilA hq.2 hm.2⟩
theorem cs_spoilP {i : Nat} {tq : TE} {q : D → Option D} {apos cpos : Pos} (hq : CQ K i X a tq q) (c : Cc P w K mg base W X k) (hbase : attributeBase a "pop" X.env (eval a X.env) = eval a X.env := by rfl) (hline : (apos.endLine == cpos.line) = true := by rfl)
    (hsw : swapsWith (.Call (.Attribute a "pop" apos) [] [] cpos) none pos.line X.env = pure false := by rfl) : CS K mg W X (.Expr (.Call (.Attribute a "pop" apos) [] [] cpos) pos) (tDrop (tBM0 K "list" rPop tq)) (sSpoilP i q) :=
  ⟨ps_expr (by have := pe_bm0 (X := X) (apos := apos) (cpos := cpos) PySem.F.plainAttrs_list PySem.F.slot_list_pop PySem.F.type_list_pop mt_pop hq.1 hbase hline; rw [c.K] at this; exact this) hsw, evs_spoilP hq.2⟩
theorem ce_app (i : Nat) {x : Str} {m : En → Res D} {apos cpos p : Pos} (c : Cc P w K mg base W X k) (hm : CE K mg W X e te m) (hN : X.N[i]? = some x := by rfl) (hv : Vis X.env.scope x := by first | exact Or.inl rfl | exact Or.inr (Or.inl rfl) | exact Or.inr (Or.inr rfl))
    (h1 : (x == ("__debug__" : Str)) = false := by decide) (h2 : (x == ("__classdict__" : Str)) = false := by decide) (hbase : attributeBase (.Name x p) "append" X.env (eval (.Name x p) X.env) = eval (.Name x p) X.env := by rfl)
    (hfew : ((backTo cpos (starEach [e] X.env)).all (fun x => !x.1) && (backToKw cpos (keywordEach [] X.env)).all (fun x => x.1.isSome) && decide ([e].length + ([] : List Keyword).length + (if ([] : List Keyword).isEmpty then 0 else 1) < 30)) = true := by rfl)
    (hline : (apos.endLine == cpos.line) = true := by rfl) (hs : starEach [e] X.env = (false, eval e X.env) :: starEach [] X.env := by rfl) (hplain : (backTo cpos (starEach [] X.env)).any (·.1) = false := by rfl) :
    CE K mg W X (.Call (.Attribute (.Name x p) "append" apos) [e] [] cpos) (tBM K "list" rAppend (tVar i) (tCons te tNil)) (eApp i m) :=
  ⟨by have := pe_bm (X := X) (apos := apos) PySem.F.plainAttrs_list PySem.F.slot_list_append PySem.F.type_list_append mt_append (pe_var hN hv h1 h2) (pa_cons hm.1 pa_nil hs) hbase hfew hline hs hplain; rw [c.K] at this; exact this, eve_app hm.2⟩
theorem ce_pop (i : Nat) {x : Str} {apos cpos p : Pos} (c : Cc P w K mg base W X k) (hN : X.N[i]? = some x := by rfl) (hv : Vis X.env.scope x := by first | exact Or.inl rfl | exact Or.inr (Or.inl rfl) | exact Or.inr (Or.inr rfl)) (h1 : (x == ("__debug__" : Str)) = false := by decide)
    (h2 : (x == ("__classdict__" : Str)) = false := by decide) (hbase : attributeBase (.Name x p) "pop" X.env (eval (.Name x p) X.env) = eval (.Name x p) X.env := by rfl) (hline : (apos.endLine == cpos.line) = true := by rfl) :
    CE K mg W X (.Call (.Attribute (.Name x p) "pop" apos) [] [] cpos) (tBM0 K "list" rPop (tVar i)) (ePop i) :=
  ⟨by have := pe_bm0 (X := X) (apos := apos) (cpos := cpos) PySem.F.plainAttrs_list PySem.F.slot_list_pop PySem.F.type_list_pop mt_pop (pe_var hN hv h1 h2) hbase hline; rw [c.K] at this; exact this, eve_pop⟩
theorem ce_popAt (i : Nat) {x : Str} {m : En → Res D} {apos cpos p : Pos} (c : Cc P w K mg base W X k) (hm : CE K mg W X e te m) (hN : X.N[i]? = some x := by rfl) (hv : Vis X.env.scope x := by first | exact Or.inl rfl | exact Or.inr (Or.inl rfl) | exact Or.inr (Or.inr rfl))
    (h1 : (x == ("__debug__" : Str)) = false := by decide) (h2 : (x == ("__classdict__" : Str)) = false := by decide) (hbase : attributeBase (.Name x p) "pop" X.env (eval (.Name x p) X.env) = eval (.Name x p) X.env := by rfl)
    (hfew : ((backTo cpos (starEach [e] X.env)).all (fun x => !x.1) && (backToKw cpos (keywordEach [] X.env)).all (fun x => x.1.isSome) && decide ([e].length + ([] : List Keyword).length + (if ([] : List Keyword).isEmpty then 0 else 1) < 30)) = true := by rfl)
    (hline : (apos.endLine == cpos.line) = true := by rfl) (hs : starEach [e] X.env = (false, eval e X.env) :: starEach [] X.env := by rfl) (hplain : (backTo cpos (starEach [] X.env)).any (·.1) = false := by rfl) :
    CE K mg W X (.Call (.Attribute (.Name x p) "pop" apos) [e] [] cpos) (tBM K "list" rPopAt (tVar i) (tCons te tNil)) (ePopAt i m) :=
  ⟨by have := pe_bm (X := X) (apos := apos) PySem.F.plainAttrs_list PySem.F.slot_list_pop PySem.F.type_list_pop mt_popAt (pe_var hN hv h1 h2) (pa_cons hm.1 pa_nil hs) hbase hfew hline hs hplain; rw [c.K] at this; exact this, eve_popAt hm.2⟩
theorem cs_par (i j : Nat) {x y : Str} {ta : TA} {m : En → Res (List D)} {px py pt : Pos} {kt k2 pt2} (c : Cc P w K mg base W X k) (ha : CV K mg W X [a, b] ta m) (hi : X.N[i]? = some x := by rfl) (hj : X.N[j]? = some y := by rfl) (hij : i ≠ j := by decide)
    (hx : X.env.scope.names.lookup x = some .local := by rfl) (hy : X.env.scope.names.lookup y = some .local := by rfl) (hw : swappedStores [.Tuple [.Name x px, .Name y py] kt pt] (.Tuple [a, b] k2 pt2) X.env = pure (some [x, y]) := by rfl)
    (hs : swapsWithSole [.Tuple [.Name x px, .Name y py] kt pt] (.Tuple [a, b] k2 pt2) pos.line X.env = pure false := by rfl) :
    CS K mg W X (.Assign [.Tuple [.Name x px, .Name y py] kt pt] (.Tuple [a, b] k2 pt2) pos) (tPar i j ta) (sPar i j m) := ⟨ps_par c.calm c.nd hi hj hij hx hy ha.1 hw hs, evs_par ha.2⟩
theorem cs_setIx (i : Nat) {x : Str} {ti : TE} {m : En → Res D} {mi : En → RP D} {p pos' : Pos} (h : CE K mg W X e te m) (hi : CP K mg W X b ti mi) (hN : X.N[i]? = some x := by rfl) (hv : Vis X.env.scope x := by first | exact Or.inl rfl | exact Or.inr (Or.inl rfl) | exact Or.inr (Or.inr rfl))
    (h1 : (x == ("__debug__" : Str)) = false := by decide) (h2 : (x == ("__classdict__" : Str)) = false := by decide)
    (ha : ∀ v, assign (.Subscript (.Name x p) b pos') X.env v = (do
      let ov ← holding [v] (eval (.Name x p) X.env)
      let iv ← holding [v, ov] (eval b X.env)
      standAt pos'
      holding [v, ov, iv] (setItem ov iv v)
      release [v, ov, iv] []) := by intro _; rfl)
    (hs : swapsWithSole [.Subscript (.Name x p) b pos'] e pos.line X.env = pure false := by rfl) (hw : swappedStores [.Subscript (.Name x p) b pos'] e X.env = pure none := by rfl) (h3 : (assignEach [.Subscript (.Name x p) b pos'] X.env).map (·.2) = [assign (.Subscript (.Name x p) b pos') X.env] := by rfl) :
    CS K mg W X (.Assign [.Subscript (.Name x p) b pos'] e pos) (tAsg te (gSub (tVar i) ti rSetL)) (sSetIx i mi m) := ⟨ps_asg h.1 (pg_sub (pe_var hN hv h1 h2) hi.1 set_list ha) hs hw h3, evs_setIx h.2 hi.2⟩
theorem cs_augIx (i : Nat) {x : Str} {ti : TE} {op : Operator} {fz : Int → Int → Int} {m mi : En → RP D} {p pos' : Pos} (c : Cc P w K mg base W X k) (ho : PIp X op (ipI fz)) (hi : CP K mg W X b ti mi) (h : CP K mg W X e te m) (hN : X.N[i]? = some x := by rfl)
    (hv : Vis X.env.scope x := by first | exact Or.inl rfl | exact Or.inr (Or.inl rfl) | exact Or.inr (Or.inr rfl)) (h1 : (x == ("__debug__" : Str)) = false := by decide) (h2 : (x == ("__classdict__" : Str)) = false := by decide)
    (ha : ∀ ov iv new, augStore b ov iv new = (do holding [new, ov, iv] (setItem ov iv new); release [new, ov, iv] []; pure .next) := by intros; rfl) :
    CS K mg W X (.AugAssign (.Subscript (.Name x p) b pos') op e pos) (tAugS (tVar i) ti te (rIxL K) (ipI fz) rSetL) (sAugIx fz i mi m) :=
  ⟨by have := ps_augS (pos := pos) (tpos := pos') (pe_var (pos := p) hN hv h1 h2) hi.1 get_list h.1 ho set_list ha; rw [c.K] at this; exact this, evs_augIx h.2 hi.2⟩
theorem cs_for (c : Cc P w K mg base W X k) {iter : Expr} {wi : TI} {gg : TG} {src : En → Res (List D)} {mt : D → En → Option En} (hi : CI K mg W X a iter wi src) (hg : CG K X a gg mt) (hb : CSs K mg W X sts t f) (hs : ∀ x, foldedSetIterable iter X.env x = pure x := by intro _; rfl) :
    CS K mg W X (.For a iter sts [] pos) (tFor wi gg t) (sFor src mt f) := ⟨ps_for c.po c.calm hi.1 hg.1 hb.1 hs, evs_for hi.2 hg.2 hb.2⟩
theorem cs_while (c : Cc P w K mg base W X k) {tc : TT} {m : En → Res Bool} (hc : CT K mg W X a tc m) (hb : CSs K mg W X sts t f) : CS K mg W X (.While a sts [] pos) (tWhile tc t) (sWhile m f) := ⟨ps_while c.po hc.1 hb.1, evs_while hc.2 hb.2⟩
/-- y = [.. for ..] -/
theorem cs_asgLc (i : Nat) (c : Cc P w K mg base W X k) {elt iter : Expr} {ifs : List Expr} {scope : Scope} (own : List (Str × Nat)) {wi : TI} {gg : TG} {tt : TT} {src : En → Res (List D)} {mtg : D → En → Option En} {mt : En → Res Bool} {me : En → Res D} {y : Str} {py : Pos} {tg : Expr} (hi : CI K mg W X tg iter wi src)
    (hg : ∀ (s : Shared) (H : Hp) (C : Addr) (cl : List (Str × Addr)) (fp : List Addr), Cc P w K mg base W0 (X.blk s H scope (compEnvC scope cl C X.env) fp) k → CGV K (own.map (·.2)) (X.blk s H scope (compEnvC scope cl C X.env) fp) tg gg mtg)
    (ht : ∀ (s : Shared) (H : Hp) (C : Addr) (cl : List (Str × Addr)) (fp : List Addr), Cc P w K mg base W0 (X.blk s H scope (compEnvC scope cl C X.env) fp) k → CTs K mg W0 (X.blk s H scope (compEnvC scope cl C X.env) fp) ifs tt mt)
    (he : ∀ (s : Shared) (H : Hp) (C : Addr) (cl : List (Str × Addr)) (fp : List Addr), Cc P w K mg base W0 (X.blk s H scope (compEnvC scope cl C X.env) fp) k → CE K mg W0 (X.blk s H scope (compEnvC scope cl C X.env) fp) elt te me)
    (hy : X.N[i]? = some y := by rfl) (hyl : X.env.scope.names.lookup y = some .local := by rfl) (hk : X.env.scope.kind = .function := by rfl) (hl : (py.line == p.line) = true := by rfl) (hn : (scope.names.any fun (n, k) => n == y && (k == .local || k == .cell)) = false := by decide +kernel)
    (ok : blkC X.N X.env.scope scope own = true := by first | rfl | (dsimp only [cxOf, envOfC, compEnvC]; decide +kernel)) (hs : ∀ x, foldedSetIterable iter X.env x = pure x := by intro _; rfl) :
    CS K mg W X (.Assign [.Name y py] (.ListComp elt [⟨tg, iter, ifs, 0⟩] scope p) pos) (tAsg (tLc wi gg tt te (own.map (·.2))) (gName i)) (sAsgF (fLc src (own.map (·.2)) mtg mt me) i) := by
  have h0 := fun (s : Shared) (H : Hp) (C : Addr) (cl : List (Str × Addr)) (fp : List Addr) => c.blk (s := s) (H := H) (scope := scope) (ce := compEnvC scope cl C X.env) (fp := fp)
  obtain ⟨s0⟩ : Nonempty Shared := ⟨{}⟩
  exact ⟨ps_setLc c.calm c.nd hy hyl (sw_true hk hyl hl hn) hi.1 (blkOk_by ok) (fun s H C cl fp => (hg s H C cl fp (h0 s H C cl fp)).1) (fun s H C cl fp => (ht s H C cl fp (h0 s H C cl fp)).1) (fun s H C cl fp => (he s H C cl fp (h0 s H C cl fp)).1) hs,
    evs_asgF (evf_lc hi.2 (hg s0 (fun _ => none) 0 [] [] (h0 _ _ _ _ _)).2 (ht s0 (fun _ => none) 0 [] [] (h0 _ _ _ _ _)).2 (he s0 (fun _ => none) 0 [] [] (h0 _ _ _ _ _)).2)⟩
/-! ### exceptions -/
end
/-- an own error's class: made of one value, kept in the field f -/
structure ExM (P : Program) (w : World) (K : PySem.W.Frag) (mg : Str → Option Value) (base : Heap) (k : Nat) (x f : Str) (C : Addr) : Prop where
  hm : mg x = some (.ref C)
  oex : OexC K C
  xf : XfC K C
  ec : ExcC K C
  noF : PySem.W.findIn K (.ref C) f = some none
  self : PySem.W.exmOne K (.ref C) (.ref C) = some true
  made : ∃ (fI : Addr) (fd : FuncData) (ps : List Str), PySem.W.findIn K (.ref C) "__init__" = some (some (.ref fI)) ∧ PySem.W.typeIn K (.ref fI) = some (.type "function") ∧ FnOk P w K mg base (L2.CX P w) k fI fd ps (spEx C f) ∧ Binds K fd ps []
section
variable {P : Program} {w : World} {K : PySem.W.Frag} {mg : Str → Option Value} {base : Heap} {W : WX} {X : Cx} {k j : Nat} {a b e : Expr} {es : List Expr} {ta tb te : TE} {pos p : Pos} {x : Str} {st : Stmt} {sts : List Stmt} {t u : TS} {f g : En → Fl}
theorem cs_raise (c : Cc P w K mg base W X k) {fl : Str} {C : Addr} {m : En → Res D} {pos2 : Pos} (M : ExM P w K mg base j x fl C) (h : CE K mg W X e te m) (hj : j + 1 ≤ k := by decide) (hg : Gl X x := by rfl) (hdb : (x == ("__debug__" : Str)) = false := by decide)
    (he : starEach [e] X.env = (false, eval e X.env) :: starEach [] X.env := by rfl) (hpl : (backTo pos (starEach [] X.env)).any (·.1) = false := by rfl) :
    CS K mg W X (.Raise (some (.Call (.Name x p) [e] [] pos)) none pos2) (fun _ σ H => tMkO C (spEx C fl) [] (tCons te tNil) σ H fun c d H' => W c d σ H') (sRaise x fl m) := by
  obtain ⟨fI, fd, ps, h1, h2, h3, h4⟩ := M.made
  have h3' : FnOk X.prog X.w X.K X.mg X.base (L2.CX X.prog X.w) j fI fd ps (spEx C fl) := by rw [c.p, c.w, c.K, c.mg, c.base]; exact h3
  exact ⟨ps_raise c.calm c.tk (pmk_oex (by rw [c.K]; exact M.oex) (by rw [c.K]; exact h1) (by rw [c.K]; exact h2) h3' (c.room.mono hj) (by rw [c.K]; exact h4) .nil passL hg (by rw [c.mg]; exact M.hm) (pa_cons h.1 pa_nil he) hdb he hpl), evs_raise M.hm h.2⟩
end
end Cv
end

section
set_option Elab.async false
set_option linter.all false
set_option maxRecDepth 100000
set_option maxHeartbeats 4000000
set_option autoImplicit false
/-! CvU: try, defs, an error's __init__, the law's end. -/
namespace Cv
open PySem L2 PyProof.Rows
section
variable {X : Cx}
/-- a context's wish about exceptions can be any -/
theorem takes_any (Xs : X.stack = X.env :: X.outer) (Xf : X.env.frame = some X.env.locals) (W' : WX) : ∃ xj, Takes (X.tr [] xj) W' ∧ PassesOwn (model X.prog X.w) X.A X.env xj := by
  refine ⟨fun ev sc => wpAny (model X.prog X.w) X.A (noteFrame ev X.env) (fun _ sd => wpAny (model X.prog X.w) X.A (setFlight ev none) (fun _ _ => True) X.xe sd) X.xe sc, ?_, PassesOwn.looking⟩
  intro ev sc fl
  obtain ⟨ea, BB, sI, pk, σE, HE, cls, dct, rfl, JE, nB, upE, skyE, naE, osE, agE, wE⟩ := fl
  have frX : X.A.frames = some (X.env :: X.outer) := JE.ok.frames.trans (congrArg some Xs)
  rw [show ∀ xj, (X.tr [] xj).stack = X.env :: X.outer from fun _ => Xs] at skyE
  exact Sky.land Zc.steady frX Xf skyE fun hA flA upA => trivial
end
abbrev CX' (K : PySem.W.Frag) (mg : Str → Option Value) (i : Nat) (a dd : Addr) (x : Exc) (X : Cx) (e : Expr) (t : TE) (m : En → RP D) : Prop := PE X e t ∧ EvX K mg i a dd x t m
abbrev CXA (K : PySem.W.Frag) (mg : Str → Option Value) (i : Nat) (a dd : Addr) (x : Exc) (X : Cx) (e : List Expr) (t : TA) (m : En → RP (List D)) : Prop := PA X e t ∧ EvXA K mg i a dd x t m
section
variable {P : Program} {w : World} {K : PySem.W.Frag} {mg : Str → Option Value} {base : Heap} {W : WX} {X : Cx} {k j : Nat} {ea eb e : Expr} {es : List Expr} {ta tb te : TE} {pos p : Pos} {i : Nat} {a dd : Addr} {x : Exc} {ma mb : En → RP D}
theorem cx_p {m : En → RP D} (h : CP K mg W0 X e te m) : CX' K mg i a dd x X e te m := ⟨h.1, evx_p h.2⟩
theorem cx_fld (c : Cc P w K mg base W X k) {nm fl : Str} {C : Addr} {oe : Obj} {pn : List (Addr × Obj)} {y : Str} {py : Pos} (M : ExM P w K mg base j nm fl C) (hz : Zc (.ref C) (some dd) oe) (hf : ∃ vs, oe.data = .fields vs) (hN : X.N[i]? = some y := by rfl)
    (hv : Vis X.env.scope y := by first | exact Or.inl rfl | exact Or.inr (Or.inl rfl) | exact Or.inr (Or.inr rfl)) (h1 : (y == ("__debug__" : Str)) = false := by decide) (h2 : (y == ("__classdict__" : Str)) = false := by decide)
    (hb : attributeBase (.Name y py) fl X.env (eval (.Name y py) X.env) = eval (.Name y py) X.env := by rfl) :
    CX' K mg i a dd x (X.suite a ((a, oe) :: pn)) (.Attribute (.Name y py) fl pos) (tXf a (.ref C) (some dd) C fl (tVar i)) (xFld x fl) :=
  ⟨pe_xf (by rw [c.K]; exact M.xf) (by rw [c.K]; exact M.noF) hz hf (pe_var (X := X.suite a ((a, oe) :: pn)) hN hv h1 h2) hb, evx_fld⟩
theorem cx_is (c : Cc P w K mg base W X k) {nm fl : Str} {C CY : Addr} {oe : Obj} {pn : List (Addr × Obj)} {y z : Str} {py pz pi : Pos} {b : Bool} (M : ExM P w K mg base j nm fl C) (hz : Zc (.ref C) (some dd) oe) (hf : ∃ vs, oe.data = .fields vs) (hm : mg "isinstance" = none) (hmY : mg z = some (.ref CY))
    (hk : PySem.W.kitOne K (.ref C) (.ref CY) = some b) (hN : X.N[i]? = some y := by rfl) (hv : Vis X.env.scope y := by first | exact Or.inl rfl | exact Or.inr (Or.inl rfl) | exact Or.inr (Or.inr rfl)) (h1 : (y == ("__debug__" : Str)) = false := by decide) (h2 : (y == ("__classdict__" : Str)) = false := by decide)
    (hg : Gl X "isinstance" := by rfl) (hgz : Gl X z := by rfl) (h3 : (z == ("__debug__" : Str)) = false := by decide) (he : starEach [.Name y py, .Name z pz] X.env = (false, eval (.Name y py) X.env) :: starEach [.Name z pz] X.env := by rfl)
    (he2 : starEach [.Name z pz] X.env = (false, eval (.Name z pz) X.env) :: starEach [] X.env := by rfl) (hpl : (backTo pos (starEach [.Name z pz] X.env)).any (·.1) = false := by rfl) :
    CX' K mg i a dd x (X.suite a ((a, oe) :: pn)) (.Call (.Name "isinstance" pi) [.Name y py, .Name z pz] [] pos) (tCB (rIsED K C a dd (.ref CY) b) (tCons (tVar i) (tCons (tC (.ref CY)) tNil))) (xC (.bl b)) :=
  ⟨pe_callB (X := X.suite a ((a, oe) :: pn)) (by have := call_isED (X := X) (a := a) (pn := pn) (b := b) (c := .ref CY) (cv := .ref CY) (by rw [c.K]; exact M.ec) hz hf (fun u z => z) (by rw [c.K]; exact hk); rw [c.K] at this; exact this) hg (by show X.mg _ = _; rw [c.mg]; exact hm) bb_isi
    (pa_cons (pe_var (X := X.suite a ((a, oe) :: pn)) hN hv h1 h2) (pa_cons (pe_glob (X := X.suite a ((a, oe) :: pn)) (u := .ref CY) hgz (by show X.mg _ = _; rw [c.mg]; exact hmY) (show RelV (.ref CY) (.ref CY) from rfl) h3) pa_nil he2) he) (by decide) (by decide) he hpl, evx_is⟩
theorem cx_cmp {op : CmpOp} {r : R2} {f : D → D → Option D} (ho : OpR X (compareOp op) r) (o : Op2 K r f) (ha : CX' K mg i a dd x X ea ta ma) (hb : CX' K mg i a dd x X eb tb mb) (hm : behindInMarks op eb = false := by first | exact nomark _ | rfl) : CX' K mg i a dd x X (.Compare ea [op] [eb] pos) (tOp r ta tb) (p2 f ma mb) :=
  ⟨pe_cmpR ho ha.1 hb.1 hm, evx_op o ha.2 hb.2⟩
theorem cx_one {op : BoolOp} (ha : CX' K mg i a dd x X ea ta ma) : CX' K mg i a dd x X (.BoolOp op [ea] pos) ta ma := ⟨pe_one ha.1, ha.2⟩
theorem cx_and {rest : List Expr} (ha : CX' K mg i a dd x X ea ta ma) (hb : CX' K mg i a dd x X (.BoolOp .And (eb :: rest) pos) tb mb) : CX' K mg i a dd x X (.BoolOp .And (ea :: eb :: rest) pos) (tAndV ta tb) (pAnd ma mb) := ⟨pe_and ha.1 hb.1, evx_and ha.2 hb.2⟩
theorem cxa_nil : CXA K mg i a dd x X [] tNil pNil := ⟨pa_nil, evxa_nil⟩
theorem cxa_cons {t : TA} {m : En → RP (List D)} (ha : CX' K mg i a dd x X ea ta ma) (hr : CXA K mg i a dd x X es t m) (hs : starEach (ea :: es) X.env = (false, eval ea X.env) :: starEach es X.env := by rfl) : CXA K mg i a dd x X (ea :: es) (tCons ta t) (pCons ma m) := ⟨pa_cons ha.1 hr.1 hs, evxa_cons ha.2 hr.2⟩
/-! ### clauses -/
/-- a suite: derivation and reading -/
def CSu (K : PySem.W.Frag) (mg : Str → Option Value) (X : Cx) (C : Addr) (n : Str) (i : Nat) (b : Stmt) (bs : List Stmt) (ts : Addr → Value → Option Addr → TS) (su : Exc → En → Fl) : Prop :=
  (∀ (a : Addr) (oe : Obj) (cls : Value) (d : Option Addr) (pn : List (Addr × Obj)), Zc cls d oe → (∃ vs, oe.data = .fields vs) → cls = .ref C → d.isSome = true → PSs (X.suite a ((a, oe) :: pn)) (b :: bs) (ts a cls d)) ∧ EvSu K mg C n i ts su
theorem csu_ret {C : Addr} {n : Str} {te : Addr → Addr → TE} {m : Exc → En → RP D} (h : ∀ (a : Addr) (oe : Obj) (dd : Addr) (pn : List (Addr × Obj)) (x : Exc), Zc (.ref C) (some dd) oe → (∃ vs, oe.data = .fields vs) → CX' K mg i a dd x (X.suite a ((a, oe) :: pn)) e (te a dd) (m x)) :
    CSu K mg X C n i (.Return (some e) pos) [] (fun a _ d => tRet (te a (d.getD 0))) (suRet m) := by
  refine ⟨fun a oe cls d pn hz hf hc hd => ?_, evsu_ret fun a dd x => (h a ⟨.ref C, some dd, .fields #[], #[]⟩ dd [] x ⟨rfl, rfl⟩ ⟨_, rfl⟩).2⟩
  subst hc
  cases d with
  | none => cases hd
  | some dd => exact pss_one (ps_ret (h a oe dd pn ⟨"", []⟩ hz hf).1)
theorem csu_retT {C : Addr} {n : Str} {x1} {pt : Pos} {te : Addr → Addr → TA} {m : Exc → En → RP (List D)} (h : ∀ (a : Addr) (oe : Obj) (dd : Addr) (pn : List (Addr × Obj)) (x : Exc), Zc (.ref C) (some dd) oe → (∃ vs, oe.data = .fields vs) → CXA K mg i a dd x (X.suite a ((a, oe) :: pn)) es (te a dd) (m x)) :
    CSu K mg X C n i (.Return (some (.Tuple es x1 pt)) pos) [] (fun a _ d => tRet (tTup (te a (d.getD 0)))) (suRetT m) := by
  refine ⟨fun a oe cls d pn hz hf hc hd => ?_, evsu_retT fun a dd x => (h a ⟨.ref C, some dd, .fields #[], #[]⟩ dd [] x ⟨rfl, rfl⟩ ⟨_, rfl⟩).2⟩
  subst hc
  cases d with
  | none => cases hd
  | some dd => exact pss_one (ps_ret (pe_tup (h a oe dd pn ⟨"", []⟩ hz hf).1))
def CHs (K : PySem.W.Frag) (mg : Str → Option Value) (X : Cx) (hds : List ExceptHandler) (l : List (Value × Nat × (Addr → Value → Option Addr → TS))) (hs : List (Str × Nat × (Exc → En → Fl))) : Prop := HdsA X hds l ∧ HdsM K mg l hs
theorem chs_nil : CHs K mg X [] [] [] := ⟨.nil, .nil⟩
theorem chs_cons (c : Cc P w K mg base W X k) {nm fl y : Str} {C : Addr} {b : Stmt} {bs : List Stmt} {np pos' : Pos} {ts : Addr → Value → Option Addr → TS} {su : Exc → En → Fl} {hds : List ExceptHandler} {l : List (Value × Nat × (Addr → Value → Option Addr → TS))} {hs : List (Str × Nat × (Exc → En → Fl))} (i : Nat) (M : ExM P w K mg base j nm fl C)
    (hsu : CSu K mg X C nm i b bs ts su) (hr : CHs K mg X hds l hs) (hN : X.N[i]? = some y := by rfl) (hln : X.env.kindOf y = some .local := by rfl) (hg : Gl X nm := by rfl) (hdb : (nm == ("__debug__" : Str)) = false := by decide) :
    CHs K mg X (.ExceptHandler (some (.Name nm np)) (some y) (b :: bs) pos' :: hds) ((.ref C, i, ts) :: l) ((nm, i, su) :: hs) :=
  ⟨.cons ⟨hg, hdb, .inl (by rw [c.mg]; exact M.hm)⟩ hN hln hsu.1 hr.1, .cons M.hm M.self hsu.2 hr.2⟩
theorem cs_try (c : Cc P w K mg base W X k) (fr : X.stack = X.env :: X.outer ∧ X.env.frame = some X.env.locals) {dis : Str → Str → Bool} {body : List Stmt} {hd0 : ExceptHandler} {hdr : List ExceptHandler} {tb : WX → TS} {mb : En → Fl} {l : List (Value × Nat × (Addr → Value → Option Addr → TS))} {hs : List (Str × Nat × (Exc → En → Fl))}
    (hb : ∀ (W' : WX) (X' : Cx), (∃ pj xj, X' = X.tr pj xj) → Cc P w K mg base W' X' k → CSs K mg W' X' body (tb W') mb) (hh : CHs K mg X (hd0 :: hdr) l hs)
    (hdis : ∀ x n C C', dis x n = true → mg x = some (.ref C) → mg n = some (.ref C') → PySem.W.exmOne K (.ref C) (.ref C') = some false) : CS K mg W X (.Try body (hd0 :: hdr) [] [] pos) (fun D σ H => tb (wA K W D l) D σ H) (sTry dis mb hs) := by
  have c0 : ∀ W', ∃ xj, Cc P w K mg base W' (X.tr [] xj) k := fun W' => by
    obtain ⟨xj, h1, h2⟩ := takes_any fr.1 fr.2 W'
    exact ⟨xj, c.tr h1 h2⟩
  refine ⟨?_, evs_try (fun W' => ?_) hh.2 hdis⟩
  · have := ps_tryA (pos := pos) (tb := tb) fr.1 fr.2 c.nd c.tk (fun Wi pj xj tk po => (hb Wi _ ⟨pj, xj, rfl⟩ (c.tr tk po)).1) hh.1
    rw [c.K] at this; exact this
  · obtain ⟨xj, h⟩ := c0 W'
    exact (hb W' _ ⟨_, _, rfl⟩ h).2
end
/-! ### defs -/
/-- a def of the module, with its parameters -/
structure FnT (K : PySem.W.Frag) (mg : Str → Option Value) (x : Str) (st : Stmt) (ps : List Str) : Prop where
  ex : ∃ (f : Addr) (fd : FuncData), Fun K x x st f fd ∧ mg x = some (.ref f) ∧ Binds K fd ps []
section
variable {P : Program} {w : World} {K : PySem.W.Frag} {mg : Str → Option Value} {base : Heap}
theorem FnM.of {x : Str} {st : Stmt} {f : Addr} {fd : FuncData} {N ps : List Str} {k np n : Nat} {mb : En → Fl} (F : Fun K x x st f fd) (S : FnScope N ps (defScope st)) (hnp : np = ps.length) (hn : n = N.length)
    (hbody : ∀ (cdv : Value) (A : Around) (outer : List Env) (s : Shared) (H : Hp) (E : XK), Cc P w K mg base (fun cls d _ H => E cls d H) (cxOf (L2.CX P w) P w K mg base N x (defScope st) f cdv A outer s H E) k →
      ∃ t, CSs K mg (fun cls d _ H => E cls d H) (cxOf (L2.CX P w) P w K mg base N x (defScope st) f cdv A outer s H E) (defBody st) t mb) : FnOk P w K mg base (L2.CX P w) (k + 1) f fd ps (SpM K mg (mDef np n mb)) := by
  refine fn_okM F S hnp hn fun cdv A outer s H E hr => ?_
  obtain ⟨t, h⟩ := hbody cdv A outer s H E ⟨rfl, rfl, rfl, rfl, rfl, rfl, takes_of rfl rfl rfl rfl, hr, passes_of rfl, S.nd⟩
  exact ⟨t, h.1, h.2⟩
theorem CalM.of {x : Str} {st : Stmt} {N ps : List Str} {k np n : Nat} {mb : En → Fl} (F : FnT K mg x st ps) (S : FnScope N ps (defScope st)) (hnp : np = ps.length) (hn : n = N.length)
    (hbody : ∀ (f : Addr) (cdv : Value) (A : Around) (outer : List Env) (s : Shared) (H : Hp) (E : XK), Cc P w K mg base (fun cls d _ H => E cls d H) (cxOf (L2.CX P w) P w K mg base N x (defScope st) f cdv A outer s H E) k →
      ∃ t, CSs K mg (fun cls d _ H => E cls d H) (cxOf (L2.CX P w) P w K mg base N x (defScope st) f cdv A outer s H E) (defBody st) t mb) : CalM P w K mg base (k + 1) x (mDef np n mb) := by
  obtain ⟨f, fd, h1, h2, h3⟩ := F.ex
  refine ⟨f, fd, ps, fn_okM h1 S hnp hn fun cdv A outer s H E hr => ?_, h2, h1.kp, h3⟩
  obtain ⟨t, h⟩ := hbody f cdv A outer s H E ⟨rfl, rfl, rfl, rfl, rfl, rfl, takes_of rfl rfl rfl rfl, hr, passes_of rfl, S.nd⟩
  exact ⟨t, h.1, h.2⟩
/-- self's class's __init__: the base's, then the one field -/
theorem ex_init {qual fl z : Str} {st : Stmt} {fI C : Addr} {fd : FuncData} {N : List Str} (F : Fun K "__init__" qual st fI fd) (T : OexC K C) (hno : PySem.W.findIn K (.ref C) fl = some none) (S : FnScope N N (defScope st)) (hN : N.length = 2)
    (hbody : ∀ (cdv : Value) (A : Around) (outer : List Env) (s : Shared) (H : Hp) (E : XK), PSs (cxOf (L2.CX P w) P w K mg base N qual (defScope st) fI cdv A outer s H E) (defBody st) (tSeq (tDrop (tVeI K (tCons (tVar 0) (tCons (tC (.str z)) tNil)))) (tOst K fl (tVar 0) (tVar 1)))) :
    FnOk P w K mg base (L2.CX P w) 2 fI fd N (spEx C fl) := by
  refine F.okX S (fun vs H Q E h => ?_) (fun cdv A outer s H vs Q E hr h => ?_)
  · obtain ⟨a, v, rfl, _⟩ := h
    exact hN.symm
  · obtain ⟨a, v, rfl, ha, q⟩ := h
    refine ⟨_, hbody cdv A outer s H E, ?_⟩
    refine ⟨_, rfl, a, C, [.str z], rfl, by show 1 ≤ 1000; decide, T, ha, ?_⟩
    exact ⟨v, rfl, _, rfl, a, C, rfl, T, hno, .inl ⟨ha, fun dx h1 h2 => q dx h1 h2⟩⟩
/-! ### the law -/
def spLaw (K : PySem.W.Frag) : Sp := fun vs H Q _ => ∃ (a : Addr) (ns : List Int), vs = [.ref a] ∧ SqL K H a (ns.map V.int) ∧ ns.length ≤ 63 ∧ ∀ H', Q (.bl true) H'
theorem law_end {mf : En → RD} (h : ∀ ns : List Int, ns.length ≤ 63 → ∃ o, mf [.imm (.rls (ns.map .int))] = .ok (.imm (.bl true)) o) : ∀ vs H Q E, spLaw K vs H Q E → SpM K mg mf vs H Q E := by
  rintro vs H Q E ⟨a, ns, rfl, hs, hl, q⟩
  obtain ⟨o, e⟩ := h ns hl
  have rs : RepL K (noT H) [V.ref a] [.rls (ns.map .int)] := .cons (.rls (SqL.kp (noT_kp H) hs) (repl_of_ints ns)) .nil
  obtain ⟨i1, i2⟩ := imm_slots rs (noT_sub H) (noT_nt H)
  refine ⟨noT H, [.imm (.rls (ns.map .int))], i1, fun s hs => ?_, ?_⟩
  · rcases List.mem_singleton.mp hs with rfl; exact .inl ⟨_, rfl⟩
  · rw [e]
    intro G' H' v sc hc rv
    cases rv
    exact q H'
end
end Cv
end

section
set_option Elab.async false
set_option linter.all false
set_option maxRecDepth 100000
set_option maxHeartbeats 4000000
set_option autoImplicit false
/-! CvV: more rules. -/
namespace Cv
open PySem L2 PyProof.Rows
section
variable {P : Program} {w : World} {K : PySem.W.Frag} {mg : Str → Option Value} {base : Heap} {W : WX} {X : Cx} {k j : Nat} {a b e : Expr} {es : List Expr} {ta te : TE} {pos p : Pos}
/-- the scalars that a list or a tuple holds -/
def itemsD : D → Option (List D)
  | .lst ds => some ds
  | .rls ds => some ds
  | .tup ds => some ds
  | _ => none
/-- list(x), x read purely, its items scalars -/
def fListP (m : En → RP D) (e : En) : Res MO := match m e with
  | .ok d => (match itemsD d with
    | some ds => if ds.all flat = true then .ok (.lst ds) e else .bad
    | none => .bad)
  | .exc x => .exc x e
  | .bad => .bad
theorem evf_listP {m : En → RP D} (ha : EvP K mg W ta m) : EvF K mg W (tCB (rListU K) (tCons ta tNil)) (fListP m) := by
  intro Z G H σ env Q hd h
  refine ha Z G H σ env _ hd ?_
  unfold fListP at h
  cases e : m env with
  | bad => rw [e] at h; exact h
  | exc x => rw [e] at h; exact PoX.pure h hd
  | ok d =>
    rw [e] at h
    dsimp only at h
    cases e2 : itemsD d with
    | none => rw [e2] at h; exact False.elim h
    | some ds =>
      rw [e2] at h
      dsimp only at h
      by_cases f : ds.all flat = true
      case neg => rw [if_neg f] at h; exact False.elim h
      rw [if_pos f] at h
      intro H1 v g rv
      have hd1 := hd.grow g
      have fin : ∀ p xs, (SqL K H1 p xs ∨ SqT K H1 p xs) → RepL K H1 xs ds → rListU K [.ref p] H1 Q := fun p xs sq rs => ⟨p, xs, rfl, sq, fun l hl => new_own hd (Step.grow g) hd1 (.lst (rs.flat f)) h l hl⟩
      unfold itemsD at e2
      split at e2
      · cases e2; cases rv with | lst h1 r => exact fin _ _ (.inl (SqL.of h1)) r
      · cases e2; cases rv with | rls h1 r => exact fin _ _ (.inl h1) r
      · cases e2; cases rv with | tup h1 r => exact fin _ _ (.inr (SqT.of h1)) r
      · cases e2
theorem cf_listP (c : Cc P w K mg base W X k) {m : En → RP D} (ha : CP K mg W X a ta m) (hm : mg "list" = none) (hg : Gl X "list" := by rfl) (he : starEach [a] X.env = (false, eval a X.env) :: starEach [] X.env := by rfl) (hpl : (backTo pos (starEach [] X.env)).any (·.1) = false := by rfl) :
    CF K mg W X (.Call (.Name "list" p) [a] [] pos) (tCB (rListU K) (tCons ta tNil)) (fListP m) :=
  ⟨pe_callTy (by have := call_list_of (X := X); rw [c.K] at this; exact this) hg (by rw [c.mg]; exact hm) bb_list (pa_cons ha.1 pa_nil he) (by decide) (by decide) he hpl, evf_listP ha.2⟩
end
/-! ### what the top has written -/
section
variable {P : Program} {w : World} {K : PySem.W.Frag} {mg : Str → Option Value} {base : Heap}
theorem ExM.of_facts {x f : Str} {C fI : Addr} {fd : FuncData} {ps : List Str} {nm q : Str} {N : Addr} {bs bm : List Value} {sn : List Str} {sub : List Value} {ab : Bool} {col : Option Bool} {dd : Option Addr} {k0 k1 k2 k3 k5 : Option Value} (hm : mg x = some (.ref C))
    (lk : K.lookup C = some (excClassObj nm q C N bs bm true sn sub ab col dd k0 k1 k2 k3 k5 "ValueError.__new__")) (hbm : PySem.HandSPX.refsVE bm = true) (sa : PySem.W.findIn K (.ref C) "__setattr__" = some (some (.builtin "object.__setattr__")))
    (eC : PySem.W.subIn K (.ref C) (.type "BaseException") = some true) (tC : PySem.W.typeIn K (.ref C) = some (.type "type")) (kC : PySem.W.keepIn K (.ref C) = true) (ga : PySem.W.findIn K (.ref C) "__getattribute__" = some (some (.builtin "BaseException.__getattribute__")))
    (gg : PySem.W.findIn K (.ref C) "__getattr__" = some none) (hd : PySem.W.hasDictIn K C = true) (ca : PySem.W.findIn K (.ref C) "__class__" = some (some (.builtin "object.__class__"))) (cg : PySem.W.specialIn K (.builtin "object.__class__") "__get__" = some (some (.builtin "getset_descriptor.__get__")))
    (ct : PySem.W.takesIn K (.builtin "object.__class__") = some true) (mo : PySem.W.mroIn K C (.type "object") = some true) (nf : PySem.W.findIn K (.ref C) f = some none) (sf : PySem.W.subIn K (.ref C) (.ref C) = some true)
    (iC : PySem.W.findIn K (.ref C) "__init__" = some (some (.ref fI))) (tI : PySem.W.typeIn K (.ref fI) = some (.type "function")) (F : OexC K C → FnOk P w K mg base (L2.CX P w) 2 fI fd ps (spEx C f)) (B : Binds K fd ps []) : ExM P w K mg base 2 x f C :=
  have T : OexC K C := ⟨⟨_, _, _, _, _, _, _, _, _, _, _, _, _, _, _, lk, hbm⟩, sa, eC, tC, kC⟩
  ⟨hm, T, ⟨ga, gg, eC, hd⟩, ⟨ga, gg, eC, hd, ca, cg, ct, mo⟩, nf, PySem.W.exm_ref eC hd tC sf, fI, fd, ps, iC, tI, F T, B⟩
theorem kit_of {A C : Addr} {b : Bool} (hd : PySem.W.hasDictIn K C = true) (tC : PySem.W.typeIn K (.ref C) = some (.type "type")) (sf : PySem.W.subIn K (.ref C) (.ref C) = some true) (sb : PySem.W.subIn K (.ref A) (.ref C) = some b) : PySem.W.kitOne K (.ref A) (.ref C) = some b := by
  unfold PySem.W.kitOne
  by_cases e : A = C
  · subst e
    rw [sf] at sb; cases sb
    rw [if_pos (by simp)]
  · have hc : (PySem.W.clsIn K C).isSome = true := by
      unfold PySem.W.hasDictIn at hd
      cases z : PySem.W.clsIn K C with
      | some cd => rfl
      | none => rw [z] at hd; cases hd
    rw [if_neg (fun z => e (Value.ref.inj (beq_iff_eq.mp z)))]
    unfold PySem.W.kitCls
    dsimp only
    rw [if_pos (by rw [hc, tC]; rfl)]
    exact sb
/-- the goal that the head leaves, where a value of the top that was reckoned is read -/
theorem walk_ofX {l : PySem.W.OpenLaw} {n k : Nat} {q : Program} {loose : List Str} {XP : (Str → Option Value) → Heap → Prop} {YP : World → Heap → Prop} {d : DefRec} {K : Params → PySem.W.Frag} {CX : World → CXT} {sp : World → PySem.W.Frag → Sp} {x : Str}
    (hn : l.most = some n) (hn2 : n ≤ sizeLine) (hdf : d.params.defaults = []) (hr : Room k callerA) (hY : ∀ (w : World) (h : Heap), YP w h → (K w.params).In h)
    (F : ∀ (w : World) (mg : Str → Option Value) (fa : Addr) (h : Heap), XP mg h → (K w.params).In h → h.Ns mainGlobals mg → mg d.name = some (.ref fa) →
      ∃ fd : FuncData, (∀ (s : Shared) (u : Value), BindsTo s fd ⟨[u], []⟩ [(x, u)]) ∧ ∀ base : Heap, (K w.params).In base → base.Ns mainGlobals mg → FnOk l.prog w (K w.params) mg base (CX w) k fa fd [x] (sp w (K w.params)))
    (hsp : ∀ (w : World) (K : PySem.W.Frag) (H : Hp) (a : Addr) (ns : List Int), ns.length ≤ n → Only H → SqL K H a (ns.map V.int) → sp w K [.ref a] H (fun v _ => v = .bl true) fun _ _ _ => False)
    (hCX : ∀ (w : World) (H : Hp) (s : Shared) (e : Value) (s' : Shared), CX w [] H s (fun _ _ _ => False) e s' → False) : PySem.W.WalkO q loose XP YP l.row.toRowW d [] (fun f vs => PySem.call f vs) := by
  refine Att.attach_call hn hdf fun w s₀ s₁ mg mb fa o pm cd doc a vs ns Gr Y ho hd hcd hmg hobj hints hlen hg => ?_
  obtain ⟨fd, hb, hF⟩ := F w mg fa _ Gr.X (hY w _ Y) Gr.T.g hmg
  exact law_call (hY w _ Y) Gr.T.g Gr.T.b Gr.T.builtins Gr.T.nolimit hg hobj hints (Nat.le_trans hlen hn2) hr hF hb (fun H hO hS => hsp w _ H a ns hlen hO hS) fun H e s' => hCX w H s₁ e s'
theorem cx_no {H : Hp} {s s' : Shared} {e : Value} (h : L2.CX P w [] H s (fun _ _ _ => False) e s') : False := by
  obtain ⟨_, _, _, _, _, _, _, _, _, _, _, _, z⟩ := h
  exact z
theorem loose_int {x : Str} {i : Int} {lv : List (Str × PySem.W.WData)} {h : Heap} (X : PySem.W.LooseAre lv mg h) (hx : lv.lookup x = some (.int i)) : ∃ t, mg x = some (.int i t) := by
  have mem : ∀ {lv : List (Str × PySem.W.WData)}, lv.lookup x = some (.int i) → (x, PySem.W.WData.int i) ∈ lv := by
    intro lv
    induction lv with
    | nil => intro h; cases h
    | cons p r ih =>
      intro h
      obtain ⟨y, z⟩ := p
      by_cases e : x = y
      · subst e
        simp [List.lookup] at h
        subst h; exact List.mem_cons_self
      · have e' : (x == y) = false := by simpa using e
        simp only [List.lookup, e'] at h
        exact List.mem_cons_of_mem _ (ih h)
  obtain ⟨v, h1, h2⟩ := X.val _ (mem hx)
  cases h2
  exact ⟨_, h1⟩
end
end Cv
end

section
set_option Elab.async false
set_option linter.all false
set_option maxRecDepth 100000
set_option maxHeartbeats 4000000
set_option autoImplicit false
/-! CvM: reckoning with mirrors. -/
namespace Cv
open PySem L2
/-! ### types -/
theorem kb1 : kitB "int" "int" = some true := by decide +kernel
theorem kb2 : kitB "int" "bool" = some false := by decide +kernel
theorem kb3 : kitB "bool" "int" = some true := by decide +kernel
theorem kb4 : kitB "bool" "bool" = some true := by decide +kernel
theorem kb5 : kitB "str" "str" = some true := by decide +kernel
theorem kb6 : kitB "list" "list" = some true := by decide +kernel
theorem kb7 : kitB "tuple" "tuple" = some true := by decide +kernel
theorem kb8 : kitB "list" "tuple" = some false := by decide +kernel
theorem kb9 : kitB "tuple" "list" = some false := by decide +kernel
theorem kb10 : kitB "list" "int" = some false := by decide +kernel
theorem kb11 : kitB "tuple" "int" = some false := by decide +kernel
theorem kb12 : kitB "str" "int" = some false := by decide +kernel
theorem kb13 : kitB "NoneType" "int" = some false := by decide +kernel
theorem kb14 : kitB "NoneType" "bool" = some false := by decide +kernel
theorem kb15 : kitB "NoneType" "list" = some false := by decide +kernel
theorem kb16 : kitB "NoneType" "tuple" = some false := by decide +kernel
theorem kb17 : kitB "int" "list" = some false := by decide +kernel
theorem kb18 : kitB "int" "tuple" = some false := by decide +kernel
theorem kb19 : kitB "int" "str" = some false := by decide +kernel
theorem kb20 : kitB "str" "list" = some false := by decide +kernel
theorem kb21 : kitB "str" "tuple" = some false := by decide +kernel
theorem kb22 : kitB "bool" "list" = some false := by decide +kernel
theorem kb23 : kitB "bool" "tuple" = some false := by decide +kernel
/-! ### equality -/
mutual
def okD : Nat → D → Bool
  | _, .non => true
  | _, .bl _ => true
  | _, .int _ => true
  | _, .str s => PyData.strOk s
  | 0, .lst _ => false
  | 0, .tup _ => false
  | n + 1, .lst xs => okDL n xs
  | n + 1, .tup xs => okDL n xs
  | _, .rls _ => false
  | _, .obj _ _ => false
def okDL : Nat → List D → Bool
  | _, [] => true
  | n, x :: xs => okD n x && okDL n xs
end
mutual
theorem okD_py : ∀ {d : D} {n : Nat}, okD n d = true → ∃ p, toPy d = some p ∧ p.canLay0 = true ∧ p.depth ≤ n
  | .non, n, h => ⟨.none, rfl, rfl, Nat.zero_le _⟩
  | .bl b, n, h => ⟨.bool b, rfl, rfl, Nat.zero_le _⟩
  | .int i, n, h => ⟨.int i, rfl, rfl, Nat.zero_le _⟩
  | .str s, n, h => ⟨.str s, rfl, by simpa [PyData.canLay0, okD] using h, Nat.zero_le _⟩
  | .lst xs, 0, h => by simp [okD] at h
  | .tup xs, 0, h => by simp [okD] at h
  | .lst xs, n + 1, h => by
    obtain ⟨ps, h1, h2, h3⟩ := okDL_py (ds := xs) (n := n) (by simpa [okD] using h)
    exact ⟨.list ps, by simp [toPy, h1], by simpa [PyData.canLay0] using h2, by simp [PyData.depth]; omega⟩
  | .tup xs, n + 1, h => by
    obtain ⟨ps, h1, h2, h3⟩ := okDL_py (ds := xs) (n := n) (by simpa [okD] using h)
    exact ⟨.tuple ps, by simp [toPy, h1], by simpa [PyData.canLay0] using h2, by simp [PyData.depth]; omega⟩
  | .rls _, n, h => by simp [okD] at h
  | .obj _ _, n, h => by simp [okD] at h
theorem okDL_py : ∀ {ds : List D} {n : Nat}, okDL n ds = true → ∃ ps, toPyL ds = some ps ∧ PyData.canLayAll0 ps = true ∧ PyData.depthAll ps ≤ n
  | [], n, h => ⟨[], rfl, rfl, Nat.zero_le _⟩
  | x :: xs, n, h => by
    have h' : okD n x = true ∧ okDL n xs = true := by simpa [okDL] using h
    obtain ⟨p, a1, a2, a3⟩ := okD_py h'.1
    obtain ⟨ps, b1, b2, b3⟩ := okDL_py h'.2
    exact ⟨p :: ps, by simp [toPyL, a1, b1], by simp [PyData.canLayAll0, a2, b2], by simp [PyData.depthAll]; omega⟩
end
theorem shaped_of {p : PyData} (h : p.canLay0 = true) (h2 : p.depth ≤ 64) : PySem.SeqAt.shaped p = true := by
  unfold PySem.SeqAt.shaped
  rw [h]; simpa using h2
theorem dEqv_refl {d : D} (h : okD 64 d = true) : dEqv d d = some true := by
  obtain ⟨p, h1, h2, h3⟩ := okD_py h
  unfold dEqv
  rw [h1]
  simp only [Option.bind_some]
  rw [if_pos ⟨shaped_of h2 h3, shaped_of h2 h3⟩]
  exact congrArg some (PySem.SeqAt.eqv_refl p h2)
theorem dEq_refl {d : D} (h : okD 64 d = true) : dEq d d = some (.bl true) := by unfold dEq; rw [dEqv_refl h]; rfl
theorem dNe_refl {d : D} (h : okD 64 d = true) : dNe d d = some (.bl false) := by unfold dNe; rw [dEqv_refl h]; rfl
theorem dEqv_int (i j : Int) : dEqv (.int i) (.int j) = some (decide (i = j)) := by
  unfold dEqv
  simp only [toPy, Option.bind_some]
  rw [if_pos ⟨shaped_of (by simp [PyData.canLay0]) (Nat.zero_le _), shaped_of (by simp [PyData.canLay0]) (Nat.zero_le _)⟩]
  by_cases h : i = j <;> simp [PyData.eqv, h]
theorem dEqv_str {i j : Str} (hi : PyData.strOk i = true) (hj : PyData.strOk j = true) : dEqv (.str i) (.str j) = some (decide (i = j)) := by
  unfold dEqv
  simp only [toPy, Option.bind_some]
  rw [if_pos ⟨shaped_of (by simpa [PyData.canLay0] using hi) (Nat.zero_le _), shaped_of (by simpa [PyData.canLay0] using hj) (Nat.zero_le _)⟩]
  by_cases h : i = j <;> simp [PyData.eqv, h]
theorem dEqv_bl (i j : Bool) : dEqv (.bl i) (.bl j) = some (decide (i = j)) := by
  unfold dEqv
  simp only [toPy, Option.bind_some]
  rw [if_pos ⟨shaped_of (by simp [PyData.canLay0]) (Nat.zero_le _), shaped_of (by simp [PyData.canLay0]) (Nat.zero_le _)⟩]
  by_cases h : i = j <;> simp [PyData.eqv, h]
theorem dEq_int (i j : Int) : dEq (.int i) (.int j) = some (.bl (decide (i = j))) := by unfold dEq; rw [dEqv_int]; rfl
theorem dNe_int (i j : Int) : dNe (.int i) (.int j) = some (.bl (!decide (i = j))) := by unfold dNe; rw [dEqv_int]; rfl
theorem dEq_str {i j : Str} (hi : PyData.strOk i = true := by decide +kernel) (hj : PyData.strOk j = true := by decide +kernel) : dEq (.str i) (.str j) = some (.bl (decide (i = j))) := by unfold dEq; rw [dEqv_str hi hj]; rfl
theorem dNe_str {i j : Str} (hi : PyData.strOk i = true := by decide +kernel) (hj : PyData.strOk j = true := by decide +kernel) : dNe (.str i) (.str j) = some (.bl (!decide (i = j))) := by unfold dNe; rw [dEqv_str hi hj]; rfl
theorem dEq_bl (i j : Bool) : dEq (.bl i) (.bl j) = some (.bl (decide (i = j))) := by unfold dEq; rw [dEqv_bl]; rfl
theorem dEq_nil {ds : List D} (h : okDL 63 ds = true) : dEq (.lst ds) (.lst []) = some (.bl (decide (ds = []))) := by
  obtain ⟨ps, h1, h2, h3⟩ := okDL_py h
  have e : dEqv (.lst ds) (.lst []) = some (PyData.eqv (.list ps) (.list [])) := by
    unfold dEqv
    simp only [toPy, toPyL, h1, Option.map_some, Option.bind_some]
    rw [if_pos ⟨shaped_of (by simpa [PyData.canLay0] using h2) (by simp [PyData.depth]; omega), rfl⟩]
  unfold dEq
  rw [e]
  cases ds with
  | nil => cases h1; simp [PyData.eqv, PyData.eqvAll]
  | cons x xs =>
    unfold toPyL at h1
    cases q : toPy x with
    | none => rw [q] at h1; cases h1
    | some p =>
      rw [q] at h1
      cases q2 : toPyL xs with
      | none => rw [q2] at h1; cases h1
      | some r => rw [q2] at h1; cases h1; simp [PyData.eqv, PyData.eqvAll]
theorem okDL_ints (n : Nat) : ∀ (ns : List Int), okDL n (ns.map .int) = true
  | [] => by simp [okDL]
  | x :: xs => by
    have : okD n (.int x) = true := by cases n <;> simp [okD]
    rw [List.map_cons, okDL, this, okDL_ints n xs]; rfl
theorem flat_ints : ∀ (ns : List Int), (ns.map D.int).all flat = true
  | [] => rfl
  | n :: r => by simp [flat]
/-! ### arithmetic -/
theorem dMul_ok {i j : Int} (h : CMul i j ∨ CMulW i j) : dMul (.int i) (.int j) = some (.int (i * j)) := by show (if CMul i j ∨ CMulW i j then some (D.int (i * j)) else none) = _; rw [if_pos h]
theorem dMul_l {i j : Int} (h : -18446744073709551616 < i) (h2 : i < 18446744073709551616) : dMul (.int i) (.int j) = some (.int (i * j)) := dMul_ok (.inl (.inl ⟨h, h2⟩))
theorem dMul_r {i j : Int} (h : -18446744073709551616 < j) (h2 : j < 18446744073709551616) : dMul (.int i) (.int j) = some (.int (i * j)) := dMul_ok (.inl (.inr ⟨h, h2⟩))
theorem cdivW_of {i j : Int} (h : 0 < j) (h2 : j < 18446744073709551616) : CDivW i j := by
  refine ⟨h, ?_⟩
  have : j.natAbs < 2 ^ 64 := by omega
  have := (Nat.log2_lt (n := j.natAbs) (k := 64) (by omega)).mpr this
  omega
theorem dFdiv_ok {i j : Int} (h : 0 < j) (h2 : j < 18446744073709551616) : dFdiv (.int i) (.int j) = some (.int (i / j)) := by show (if CDivW i j then some (D.int (i / j)) else none) = _; rw [if_pos (cdivW_of h h2)]
theorem dMod_ok {i j : Int} (h : 0 < j) : dMod (.int i) (.int j) = some (.int (i % j)) := by show (if 0 < j then some (D.int (i % j)) else none) = _; rw [if_pos h]
theorem dPow_ok {i j : Int} (h : CPow i j) : dPow (.int i) (.int j) = some (.int (i ^ j.toNat)) := by show (if CPow i j then some (D.int (i ^ j.toNat)) else none) = _; rw [if_pos h]
theorem dPow_10_6 : dPow (.int 10) (.int 6) = some (.int 1000000) := dPow_ok (by decide)
theorem dPow_10_18 : dPow (.int 10) (.int 18) = some (.int 1000000000000000000) := dPow_ok (by decide)
theorem intsD_map (ns : List Int) : intsD (ns.map .int) = some ns := by
  induction ns with
  | nil => rfl
  | cons n r ih => simp [intsD, ih]
theorem pairsD_of (ps : List (Int × Int)) : pairsD (ps.map pairD) = some ps := by
  induction ps with
  | nil => rfl
  | cons n r ih => obtain ⟨a, b⟩ := n; simp [pairsD, pairD, ih]
theorem sizeLine_big : (1000000 : Nat) ≤ sizeLine := by rw [PySem.sizeLine_eq]; decide
theorem le_line {n : Nat} (h : n ≤ 1000000) : n ≤ sizeLine := Nat.le_trans h sizeLine_big
theorem lt_line {n : Nat} (h : n < 1000000) : n < sizeLine := Nat.lt_of_lt_of_le h sizeLine_big
/-! ### places -/
theorem atI_of {α : Type} {xs : List α} {i : Int} {j : Nat} {v : α} (hj : i = (j : Int)) (h : xs[j]? = some v) : atI xs i = some v := by rw [hj]; exact L2.atI_nat h
theorem ixN_of {n : Nat} {i : Int} {j : Nat} (hj : i = (j : Int)) (h : j < n) : ixN n i = some j := by
  subst hj
  unfold ixN
  rw [if_pos (by omega), if_pos (by omega)]; simp
/-! ### loops -/
theorem forL_inv {tg : D → En → Option En} {body : En → Fl} : ∀ {ds : List D} (inv : Nat → En), (∀ (i : Nat) (d : D), ds[i]? = some d → ∃ e1, tg d (inv i) = some e1 ∧ (body e1 = .next (inv (i + 1)) ∨ body e1 = .cont (inv (i + 1)))) → forL tg body ds (inv 0) = .next (inv ds.length)
  | [], inv, h => rfl
  | d :: r, inv, h => by
    obtain ⟨e1, h1, h2⟩ := h 0 d rfl
    unfold forL
    rw [h1]
    dsimp only
    have ih := forL_inv (tg := tg) (body := body) (ds := r) (fun i => inv (i + 1)) fun i x hx => h (i + 1) x (by simpa using hx)
    rcases h2 with h2 | h2 <;> (rw [h2]; exact ih)
/-- a loop, by what stands at each turn -/
theorem forL_rel {tg : D → En → Option En} {body : En → Fl} : ∀ {ds : List D} (P : Nat → En → Prop) {e : En}, P 0 e → (∀ (i : Nat) (d : D) (e : En), ds[i]? = some d → P i e → ∃ e1 e2, tg d e = some e1 ∧ (body e1 = .next e2 ∨ body e1 = .cont e2) ∧ P (i + 1) e2) → ∃ e', forL tg body ds e = .next e' ∧ P ds.length e'
  | [], P, e, h0, h => ⟨e, rfl, h0⟩
  | d :: r, P, e, h0, h => by
    obtain ⟨e1, e2, h1, h2, h3⟩ := h 0 d e rfl h0
    unfold forL
    rw [h1]
    dsimp only
    obtain ⟨e', a, b⟩ := forL_rel (tg := tg) (body := body) (ds := r) (fun i => P (i + 1)) h3 fun i x e hx => h (i + 1) x e (by simpa using hx)
    refine ⟨e', ?_, b⟩
    rcases h2 with h2 | h2 <;> (rw [h2]; exact a)
/-- a loop left at turn j -/
theorem forL_out {tg : D → En → Option En} {body : En → Fl} {out : Fl} (ho : (∀ e, out ≠ .next e) ∧ (∀ e, out ≠ .cont e) ∧ ∀ e, out ≠ .brk e) : ∀ {ds : List D} {j : Nat} {d : D} (inv : Nat → En), (∀ (i : Nat) (d : D), i < j → ds[i]? = some d → ∃ e1, tg d (inv i) = some e1 ∧ (body e1 = .next (inv (i + 1)) ∨ body e1 = .cont (inv (i + 1)))) →
    ds[j]? = some d → (∃ e1, tg d (inv j) = some e1 ∧ body e1 = out) → forL tg body ds (inv 0) = out
  | [], j, d, inv, h, hj, _ => by simp at hj
  | x :: r, 0, d, inv, h, hj, ⟨e1, h1, h2⟩ => by
    simp at hj; subst hj
    unfold forL
    rw [h1]
    dsimp only
    rw [h2]
    cases out with
    | next e => exact absurd rfl (ho.1 e)
    | cont e => exact absurd rfl (ho.2.1 e)
    | brk e => exact absurd rfl (ho.2.2 e)
    | ret r e => rfl
    | exc x e => rfl
    | bad => rfl
  | x :: r, j + 1, d, inv, h, hj, he => by
    obtain ⟨e1, h1, h2⟩ := h 0 x (Nat.succ_pos _) rfl
    unfold forL
    rw [h1]
    dsimp only
    have ih := forL_out ho (tg := tg) (body := body) (ds := r) (j := j) (d := d) (fun i => inv (i + 1)) (fun i y hi hy => h (i + 1) y (by omega) (by simpa using hy)) (by simpa using hj) he
    rcases h2 with h2 | h2 <;> (rw [h2]; exact ih)
theorem lcL_map {vs : List Nat} {tg : D → En → Option En} {test : En → Res Bool} {elt : En → Res D} {e : En} {f : D → D} : ∀ {ds acc : List D}, (∀ d ∈ ds, ∃ e1, tg d e = some e1 ∧ test e1 = .ok true e1 ∧ elt e1 = .ok (f d) e1 ∧ freeOf e1 vs = true ∧ wipeE e1 vs = e) → acc.length + ds.length ≤ sizeLine → lcL vs tg test elt ds acc e = .ok (acc ++ ds.map f) e
  | [], acc, h, hl => by simp [lcL]
  | d :: r, acc, h, hl => by
    obtain ⟨e1, h1, h2, h3, h4, h5⟩ := h d List.mem_cons_self
    unfold lcL
    rw [h1]
    dsimp only
    rw [h2]
    dsimp only
    rw [h3]
    dsimp only
    rw [if_pos ⟨by simp at hl; omega, h4⟩, h5, lcL_map (fun x hx => h x (List.mem_cons_of_mem _ hx)) (by simp at hl ⊢; omega)]
    simp
theorem fLc_map {vs : List Nat} {src : En → Res (List D)} {tg : D → En → Option En} {test : En → Res Bool} {elt : En → Res D} {e e1 : En} {ds : List D} (f : D → D) (hs : src e = .ok ds e1) (hf : freeOf e1 vs = true)
    (h : ∀ d ∈ ds, ∃ e2, tg d (wipeE e1 vs) = some e2 ∧ test e2 = .ok true e2 ∧ elt e2 = .ok (f d) e2 ∧ freeOf e2 vs = true ∧ wipeE e2 vs = wipeE e1 vs) (hl : ds.length ≤ sizeLine) : fLc src vs tg test elt e = .ok (.lst (ds.map f)) (rest e1 vs (wipeE e1 vs)) := by
  unfold fLc
  rw [hs]
  dsimp only
  rw [if_pos hf, lcL_map h (by simpa using hl)]
  simp
theorem rng_eq (n : Nat) : rng 0 n = (List.range n).map fun (i : Nat) => D.int (i : Int) := by unfold rng; simp
/-! ### step by step -/
/-- a def's end -/
def fin (as : En) : Fl → RD
  | .next e => (match outsOf as e with
    | some o => .ok (.imm .non) o
    | none => .bad)
  | .ret r e => (match outsOf as e with
    | some o => .ok r o
    | none => .bad)
  | .exc x e => (match outsOf as e with
    | some o => .exc x o
    | none => .bad)
  | _ => .bad
theorem mDef_fin {np n : Nat} {b : En → Fl} {as : En} (h : as.length = np) : mDef np n b as = fin as (b (as ++ List.replicate (n - as.length) .none)) := by
  unfold mDef
  rw [if_pos h]
  cases b (as ++ List.replicate (n - as.length) .none) <;> rfl
/-- a def called: its slots -/
theorem mDef_go {np n : Nat} {b : En → Fl} {as e : En} {r : Fl} (h : as.length = np) (he : as ++ List.replicate (n - as.length) .none = e) (hr : b e = r) : mDef np n b as = fin as r := by rw [mDef_fin h, he, hr]
theorem seq_next {a b : En → Fl} {e e1 : En} (h : a e = .next e1) : sSeq a b e = b e1 := by unfold sSeq; rw [h]
theorem seq_ret {a b : En → Fl} {e e1 : En} {r : Ret} (h : a e = .ret r e1) : sSeq a b e = .ret r e1 := by unfold sSeq; rw [h]
theorem seq_exc {a b : En → Fl} {e e1 : En} {x : Exc} (h : a e = .exc x e1) : sSeq a b e = .exc x e1 := by unfold sSeq; rw [h]
theorem asg_ok {m : En → Res D} {g : D → En → Option En} {e e1 e2 : En} {d : D} (h : m e = .ok d e1) (hg : g d e1 = some e2) : sAsg m g e = .next e2 := by unfold sAsg; rw [h]; dsimp only; rw [hg]
theorem asgF_ok {m : En → Res MO} {i : Nat} {e e1 : En} {d : MO} (h : m e = .ok d e1) (hi : i < e1.length) : sAsgF m i e = .next (e1.set i (.own d)) := by unfold sAsgF; rw [h]; dsimp only; rw [if_pos hi]
theorem for_ok {src : En → Res (List D)} {tg : D → En → Option En} {b : En → Fl} {e e1 : En} {ds : List D} (h : src e = .ok ds e1) : sFor src tg b e = forL tg b ds e1 := by unfold sFor; rw [h]
theorem if_t {c : En → Res Bool} {a b : En → Fl} {e e1 : En} (h : c e = .ok true e1) : sIf c a b e = a e1 := by unfold sIf; rw [h]
theorem if_f {c : En → Res Bool} {a b : En → Fl} {e e1 : En} (h : c e = .ok false e1) : sIf c a b e = b e1 := by unfold sIf; rw [h]
theorem drop_ok {m : En → Res D} {e e1 : En} {d : D} (h : m e = .ok d e1) : sDrop m e = .next e1 := by unfold sDrop; rw [h]
theorem drop_exc {m : En → Res D} {e e1 : En} {x : Exc} (h : m e = .exc x e1) : sDrop m e = .exc x e1 := by unfold sDrop; rw [h]
theorem ret_ok {m : En → Res D} {e e1 : En} {d : D} (h : m e = .ok d e1) : sRet m e = .ret (.imm d) e1 := by unfold sRet; rw [h]
/-! ### for simp: by the kind of data alone -/
theorem fl_non : flat .non = true := rfl
theorem fl_bl (b : Bool) : flat (.bl b) = true := rfl
theorem fl_int (i : Int) : flat (.int i) = true := rfl
theorem fl_str (s : Str) : flat (.str s) = true := rfl
theorem fl_lst (l : List D) : flat (.lst l) = false := rfl
theorem fl_tup (l : List D) : flat (.tup l) = false := rfl
theorem fl_rls (l : List D) : flat (.rls l) = false := rfl
theorem td_lst (l : List D) : MO.toD (.lst l) = .lst l := rfl
theorem mf_lst (l : List D) : MO.flat (.lst l) = l.all flat := rfl
/-- a loop left at turn j, by what stands at each turn -/
theorem forL_outR {tg : D → En → Option En} {body : En → Fl} {R : Fl → Prop} (hR : ∀ e, ¬ R (.next e) ∧ ¬ R (.cont e) ∧ ¬ R (.brk e)) : ∀ {ds : List D} {j : Nat} {d : D} (P : Nat → En → Prop) {e : En}, P 0 e →
    (∀ (i : Nat) (d : D) (e : En), i < j → ds[i]? = some d → P i e → ∃ e1 e2, tg d e = some e1 ∧ (body e1 = .next e2 ∨ body e1 = .cont e2) ∧ P (i + 1) e2) → ds[j]? = some d → (∀ e, P j e → ∃ e1, tg d e = some e1 ∧ R (body e1)) → R (forL tg body ds e)
  | [], j, d, P, e, h0, h, hj, _ => by simp at hj
  | x :: r, 0, d, P, e, h0, h, hj, ho => by
    simp at hj; subst hj
    obtain ⟨e1, h1, h2⟩ := ho e h0
    unfold forL
    rw [h1]
    dsimp only
    cases q : body e1 with
    | next e => rw [q] at h2; exact absurd h2 (hR e).1
    | cont e => rw [q] at h2; exact absurd h2 (hR e).2.1
    | brk e => rw [q] at h2; exact absurd h2 (hR e).2.2
    | ret r e => rw [q] at h2; exact h2
    | exc x e => rw [q] at h2; exact h2
    | bad => rw [q] at h2; exact h2
  | x :: r, j + 1, d, P, e, h0, h, hj, ho => by
    obtain ⟨e1, e2, h1, h2, h3⟩ := h 0 x e (Nat.succ_pos _) rfl h0
    unfold forL
    rw [h1]
    dsimp only
    have ih := forL_outR hR (tg := tg) (body := body) (ds := r) (j := j) (d := d) (fun i => P (i + 1)) h3 (fun i y e hi hy => h (i + 1) y e (by omega) (by simpa using hy)) (by simpa using hj) ho
    rcases h2 with h2 | h2 <;> (rw [h2]; exact ih)
/-- the first place of a kind -/
theorem first_ix {α : Type} {p : α → Prop} : ∀ {l : List α}, (∃ x ∈ l, p x) → ∃ (j : Nat) (x : α), l[j]? = some x ∧ p x ∧ ∀ (i : Nat) (y : α), i < j → l[i]? = some y → ¬ p y
  | [], ⟨x, h, _⟩ => by simp at h
  | a :: r, ⟨x, h, hp⟩ => by
    by_cases c : p a
    · exact ⟨0, a, rfl, c, fun i y hi => by omega⟩
    · have : ∃ x ∈ r, p x := by
        rcases List.mem_cons.mp h with z | z
        · rw [z] at hp; exact absurd hp c
        · exact ⟨x, z, hp⟩
      obtain ⟨j, y, h1, h2, h3⟩ := first_ix this
      refine ⟨j + 1, y, by simpa using h1, h2, fun i z hi hz => ?_⟩
      cases i with
      | zero => simp at hz; subst hz; exact c
      | succ i => exact h3 i z (by omega) (by simpa using hz)
theorem iR1_ok {m : En → Res (List D)} {e e1 : En} {j : Int} {n : Nat} (h : m e = .ok [.int j] e1) (h1 : 0 ≤ j) (h2 : j ≤ 1000000) (hn : j.toNat = n) : iR1 m e = .ok (rng 0 n) e1 := by
  unfold iR1
  rw [h]
  have c : -(2 ^ 62) ≤ j ∧ j < 2 ^ 62 := ⟨Int.le_trans (by decide) h1, Int.lt_of_le_of_lt h2 (by decide)⟩
  show (if -(2 ^ 62) ≤ j ∧ j < 2 ^ 62 then Res.ok (rng 0 j.toNat) e1 else .bad) = _
  rw [if_pos c, hn]
theorem iR2_ok {m : En → Res (List D)} {e e1 : En} {i j : Int} {n : Nat} (h : m e = .ok [.int i, .int j] e1) (h1 : 0 ≤ j) (h2 : j ≤ 1000000) (h3 : 0 ≤ i) (h4 : i ≤ 1000000) (hn : (j - i).toNat = n) : iR2 m e = .ok (rng i n) e1 := by
  unfold iR2
  rw [h]
  have c : -(2 ^ 62) ≤ i ∧ i < 2 ^ 62 ∧ -(2 ^ 62) ≤ j ∧ j < 2 ^ 62 := ⟨Int.le_trans (by decide) h3, Int.lt_of_le_of_lt h4 (by decide), Int.le_trans (by decide) h1, Int.lt_of_le_of_lt h2 (by decide)⟩
  show (if -(2 ^ 62) ≤ i ∧ i < 2 ^ 62 ∧ -(2 ^ 62) ≤ j ∧ j < 2 ^ 62 then Res.ok (rng i (j - i).toNat) e1 else .bad) = _
  rw [if_pos c, hn]
theorem kRep_ok {a : En → RP (List D)} {b : En → RP D} {e : En} {ds : List D} {k : Int} {n : Nat} (ha : a e = .ok ds) (hb : b e = .ok (.int k)) (h1 : 0 ≤ k) (h2 : k ≤ 1000000) (hn : k.toNat = n) (hl : ds.length * n ≤ 1000000) : kRep a b e = .ok (List.replicate n ds).flatten := by
  unfold kRep
  rw [ha]
  simp only [RP.bind]
  rw [hb]
  have c : -(2 ^ 63) ≤ k ∧ k < 2 ^ 63 ∧ ds.length * k.toNat ≤ sizeLine := ⟨Int.le_trans (by decide) h1, Int.lt_of_le_of_lt h2 (by decide), by rw [hn]; exact le_line hl⟩
  show (if -(2 ^ 63) ≤ k ∧ k < 2 ^ 63 ∧ ds.length * k.toNat ≤ sizeLine then RP.ok (List.replicate k.toNat ds).flatten else .bad) = _
  rw [if_pos c, hn]
theorem fOfK_ok {a : En → RP (List D)} {e : En} {ds : List D} (h : a e = .ok ds) : fOfK a e = .ok (.lst ds) e := by unfold fOfK; rw [h]
end Cv
end

section
set_option Elab.async false
set_option linter.all false
set_option maxRecDepth 100000
set_option maxHeartbeats 4000000
set_option autoImplicit false
/-! the mirrors -/
namespace Lw
open PySem L2 Cv
/-- greatest_common -/
noncomputable def b_greatest_common : En → Fl := (sSeq (sWhile (liftT (qB (p2 dGt (pVar 1) (pC (.int 0))))) (sPar 0 1 (vCons (eVar 1) (vCons (liftP (p2 dMod (pN dInt (pCons (pVar 0) pNil)) (pVar 1))) vNil))))
  (sRet (eVar 0)))
noncomputable def m_greatest_common : En → RD := mDef 2 2 b_greatest_common
/-- lowest_terms -/
noncomputable def b_lowest_terms : En → Fl := (sSeq (sAsg (eCall m_greatest_common (aV (eVar 0) (aV (eVar 1) aNil))) (gN 2))
  (sRet (eTup (vCons (liftP (p2 dFdiv (pVar 0) (pVar 2))) (vCons (liftP (p2 dFdiv (pVar 1) (pVar 2))) vNil)))))
noncomputable def m_lowest_terms : En → RD := mDef 2 3 b_lowest_terms
/-- below -/
noncomputable def b_below : En → Fl := (sRet (liftP (p2 dLt (p2 dMul (p2 dIx (pVar 0) (pC (.int 0))) (p2 dIx (pVar 1) (pC (.int 1)))) (p2 dMul (p2 dIx (pVar 1) (pC (.int 0))) (p2 dIx (pVar 0) (pC (.int 1)))))))
noncomputable def m_below : En → RD := mDef 2 2 b_below
/-- is_whole -/
noncomputable def b_is_whole : En → Fl := (sRet (liftP (pAnd (p1 (dIsi "int") (pVar 0)) (p1 dNot (p1 (dIsi "bool") (pVar 0))))))
noncomputable def m_is_whole : En → RD := mDef 1 1 b_is_whole
/-- whole_from -/
noncomputable def b_whole_from : En → Fl := (sRet (liftP (pAnd (pCall m_is_whole (pCons (pVar 0) pNil)) (p2 dGe (pVar 0) (pVar 1)))))
noncomputable def m_whole_from : En → RD := mDef 2 2 b_whole_from
/-- check_most -/
noncomputable def b_check_most : En → Fl := (sIf (liftT (qAnd (qB (p1 (dIsi "int") (pVar 1))) (qAnd (qNot (qB (p1 (dIsi "bool") (pVar 1)))) (qB (p2 dGt (pVar 1) (pVar 2)))))) (sRaise "TooMany" "what" (eVar 0)) sNext)
noncomputable def m_check_most : En → RD := mDef 3 3 b_check_most
/-- check_numbers -/
noncomputable def b_check_numbers : En → Fl := (sFor (iLst (eVar 1)) (gN 3) (sDrop (eCall m_check_most (aV (eVar 0) (aV (eVar 3) (aV (eVar 2) aNil))))))
noncomputable def m_check_numbers : En → RD := mDef 3 4 b_check_numbers
/-- add_fractions -/
noncomputable def b_add_fractions : En → Fl := (sRet (eCall m_lowest_terms (aV (liftP (p2 dAdd (p2 dMul (p2 dIx (pVar 0) (pC (.int 0))) (p2 dIx (pVar 1) (pC (.int 1)))) (p2 dMul (p2 dIx (pVar 1) (pC (.int 0))) (p2 dIx (pVar 0) (pC (.int 1)))))) (aV (liftP (p2 dMul (p2 dIx (pVar 0) (pC (.int 1))) (p2 dIx (pVar 1) (pC (.int 1))))) aNil))))
noncomputable def m_add_fractions : En → RD := mDef 2 2 b_add_fractions
/-- sum_of_shares -/
noncomputable def b_sum_of_shares : En → Fl := (sSeq (sAsg (eTup (vCons (liftP (pC (.int 0))) (vCons (liftP (pC (.int 1))) vNil))) (gN 1))
  (sSeq (sFor (iLst (eVar 0)) (gN 2) (sAsg (eCall m_add_fractions (aV (eVar 1) (aV (eVar 2) aNil))) (gN 1)))
  (sRet (eVar 1))))
noncomputable def m_sum_of_shares : En → RD := mDef 1 3 b_sum_of_shares
/-- check_periods -/
noncomputable def b_check_periods : En → Fl := (sSeq (sDrop (eCall m_check_numbers (aV (liftP (pC (.str "fraction"))) (aV (eVar 0) (aV (liftP (pC (.int 1000000))) aNil)))))
  (sSeq (sDrop (eCall m_check_most (aV (liftP (pC (.str "houses"))) (aV (liftP (pN dLen (pCons (pVar 0) pNil))) (aV (liftP (pC (.int 12))) aNil)))))
  (sSeq (sIf (liftT (qB (p2 dEq (pN dLen (pCons (pVar 0) pNil)) (pC (.int 0))))) (sRaise "BadShare" "what" (liftP (pC (.str "houses")))) sNext)
  (sSeq (sFor (iLst (eVar 0)) (gN 1) (sIf (liftT (qNot (qB (pCall m_whole_from (pCons (pVar 1) (pCons (pC (.int 1)) pNil)))))) (sRaise "BadShare" "what" (liftP (pC (.str "periods")))) sNext))
  (sSeq (sAsgF (cL lSortI (cOfF (cL lAll (cVar 0)))) 2)
  (sSeq (sFor (iR2 (vCons (liftP (pC (.int 1))) (vCons (liftP (pN dLen (pCons (pVar 2) pNil))) vNil))) (gN 3) (sIf (liftT (qB (p2 dNe (p2 dMod (pN dInt (pCons (p2 dIx (pVar 2) (pVar 3)) pNil)) (p2 dIx (pVar 2) (p2 dSub (pVar 3) (pC (.int 1))))) (pC (.int 0))))) (sRaise "BadShare" "what" (liftP (pC (.str "periods")))) sNext))
  (sRetO 2)))))))
noncomputable def m_check_periods : En → RD := mDef 1 4 b_check_periods
/-- phase_at -/
noncomputable def b_phase_at : En → Fl := (sSeq (sAsg (cIx (cVar 0) (pVar 1)) (gN 2))
  (sSeq (sAsg (cS sSum (cOfF (fLc (iR1 (vCons (eVar 1) vNil)) [6] (gN 6) tYesm (liftP (p2 dFdiv (pVar 2) (p2 dIx (pVar 0) (pVar 6))))))) (gN 3))
  (sSeq (sAsg (liftP (pC (.int 0))) (gN 4))
  (sSeq (sAsg (liftP (pC (.int 1))) (gN 5))
  (sSeq (sFor (iR1 (vCons (liftP (p2 dAdd (pVar 1) (pC (.int 1)))) vNil)) (gN 6) (sSeq (sAsg (liftP (p2 dMod (pN dInt (pCons (p2 dFdiv (pVar 3) (p2 dFdiv (pVar 2) (p2 dIx (pVar 0) (pVar 6)))) pNil)) (p2 dFdiv (p2 dIx (pVar 0) (pVar 6)) (pVar 5)))) (gN 7))
  (sSeq (sAsg (liftP (p2 dAdd (pVar 4) (p2 dMul (pVar 7) (pVar 5)))) (gN 4))
  (sAsg (cIx (cVar 0) (pVar 6)) (gN 5)))))
  (sRet (eVar 4)))))))
noncomputable def m_phase_at : En → RD := mDef 2 8 b_phase_at
/-- chain_phases -/
noncomputable def b_chain_phases : En → Fl := (sSeq (sAsgF (fCall m_check_periods (aV (eVar 0) aNil)) 1)
  (sSeq (sAsg (eCall m_sum_of_shares (aV (eOfF (fLc (iLst (eVar 1)) [6] (gN 6) tYesm (eTup (vCons (liftP (pC (.int 1))) (vCons (eVar 6) vNil))))) aNil)) (gN 2))
  (sSeq (sIf (liftT (qB (pCall m_below (pCons (pTup (pCons (pC (.int 1)) (pCons (pC (.int 1)) pNil))) (pCons (pVar 2) pNil))))) (sRet (eTup (vCons (liftP (pC (.str "more than one"))) (vCons (eVar 2) vNil)))) sNext)
  (sSeq (sAsgF (cL lSortP (cOfF (fLc (iR1 (vCons (liftP (pN dLen (pCons (pVar 0) pNil))) vNil)) [7] (gN 7) tYesm (eTup (vCons (cIx (cVar 0) (pVar 7)) (vCons (eVar 7) vNil)))))) 3)
  (sSeq (sAsgF (fOfK (kRep (kLst (pCons (pC (.int 0)) pNil)) (pN dLen (pCons (pVar 0) pNil)))) 4)
  (sSeq (sFor (iR1 (vCons (liftP (pN dLen (pCons (pVar 3) pNil))) vNil)) (gN 5) (sSetIx 4 (p2 dIx (p2 dIx (pVar 3) (pVar 5)) (pC (.int 1))) (liftP (pCall m_phase_at (pCons (pVar 1) (pCons (pVar 5) pNil))))))
  (sRet (eTup (vCons (liftP (pC (.str "phases"))) (vCons (eVar 4) vNil))))))))))
noncomputable def m_chain_phases : En → RD := mDef 1 8 b_chain_phases
/-- _law_purse -/
noncomputable def b__law_purse : En → Fl := (sSeq (sAsg (eIf (liftT (qB (p2 dLt (pVar 1) (pN dLen (pCons (pVar 0) pNil))))) (liftP (pN dInt (pCons (p2 dIx (pVar 0) (pVar 1)) pNil))) (e2 dMul (liftP (pC (.int 31))) (cS sSum (cOfF (fLc (iLst (eOfF (fCut (cVar 0) oNo (oI (pC (.int 4)))))) [4] (gN 4) tYesm (liftP (pN dInt (pCons (pVar 4) pNil)))))))) (gN 2))
  (sSeq (sAsg (liftP (p2 dAdd (p2 dMul (pC (.int 2)) (pN dAbs (pCons (pVar 2) pNil))) (pIf (qB (p2 dLt (pVar 2) (pC (.int 0)))) (pC (.int 1)) (pC (.int 0))))) (gN 3))
  (sRetF (fLst (vCons (liftP (pIf (qB (p2 dGe (pVar 3) (p2 dPow (pC (.int 10)) (pC (.int 18))))) (pVar 3) (pC (.int 0)))) (vCons (liftP (p2 dMod (pN dInt (pCons (p2 dAdd (p2 dAdd (pVar 3) (p2 dMul (pVar 1) (pC (.int 104729)))) (pC (.int 12345))) pNil)) (pC (.int 2147483629)))) (vCons (eVar 1) vNil)))))))
noncomputable def m__law_purse : En → RD := mDef 2 5 b__law_purse
/-- _law_draw -/
noncomputable def b__law_draw : En → Fl := (sSeq (sIf (liftT (qB (p2 dGt (p2 dIx (pVar 0) (pC (.int 0))) (pC (.int 0))))) (sSeq (sAsg (liftP (p2 dMod (pN dInt (pCons (p2 dIx (pVar 0) (pC (.int 0))) pNil)) (pVar 1))) (gN 2))
  (sSeq (sSetIx 0 (pC (.int 0)) (liftP (p2 dFdiv (p2 dIx (pVar 0) (pC (.int 0))) (pVar 1))))
  (sRet (eVar 2)))) sNext)
  (sSeq (sAugIx (fun i j => i + j) 0 (pC (.int 2)) (pC (.int 1)))
  (sSeq (sSetIx 0 (pC (.int 1)) (liftP (p2 dMod (pN dInt (pCons (p2 dAdd (p2 dMul (p2 dIx (pVar 0) (pC (.int 1))) (pC (.int 48271))) (p2 dMul (p2 dIx (pVar 0) (pC (.int 2))) (pC (.int 69621)))) pNil)) (pC (.int 2147483647)))))
  (sRet (liftP (p2 dMod (p2 dFdiv (p2 dMod (pN dInt (pCons (p2 dAdd (p2 dMul (p2 dIx (pVar 0) (pC (.int 1))) (pC (.int 16807))) (p2 dMul (p2 dIx (pVar 0) (pC (.int 2))) (pC (.int 7919)))) pNil)) (pC (.int 2147483629))) (pC (.int 8))) (pVar 1)))))))
noncomputable def m__law_draw : En → RD := mDef 2 3 b__law_draw
/-- _law_mix -/
noncomputable def b__law_mix : En → Fl := (sSeq (sAsgF (cL lAll (cVar 1)) 2)
  (sSeq (sAsgF (fLst vNil) 3)
  (sSeq (sFor (iR1 (vCons (liftP (pN dLen (pCons (pVar 1) pNil))) vNil)) (gN 4) (sDrop (eApp 3 (ePopAt 2 (eCall m__law_draw (aS 0 (aV (liftP (pN dLen (pCons (pVar 2) pNil))) aNil)))))))
  (sRetO 3))))
noncomputable def m__law_mix : En → RD := mDef 2 5 b__law_mix
/-- _law_whole -/
noncomputable def b__law_whole : En → Fl := (sRet (liftP (pAnd (p1 (dIsi "int") (pVar 0)) (p1 dNot (p1 (dIsi "bool") (pVar 0))))))
noncomputable def m__law_whole : En → RD := mDef 1 1 b__law_whole
/-- _law_gcd -/
noncomputable def b__law_gcd : En → Fl := (sSeq (sWhile (liftT (qB (p2 dGt (pVar 1) (pC (.int 0))))) (sSeq (sAsg (liftP (p2 dMod (pN dInt (pCons (pVar 0) pNil)) (pVar 1))) (gN 2))
  (sSeq (sAsg (eVar 1) (gN 0))
  (sAsg (eVar 2) (gN 1)))))
  (sRet (eVar 0)))
noncomputable def m__law_gcd : En → RD := mDef 2 3 b__law_gcd
/-- _law_lowest -/
noncomputable def b__law_lowest : En → Fl := (sSeq (sAsg (eCall m__law_gcd (aV (eVar 0) (aV (eVar 1) aNil))) (gN 2))
  (sRet (eTup (vCons (liftP (p2 dFdiv (pVar 0) (pVar 2))) (vCons (liftP (p2 dFdiv (pVar 1) (pVar 2))) vNil)))))
noncomputable def m__law_lowest : En → RD := mDef 2 3 b__law_lowest
/-- _law_fraction_is -/
noncomputable def b__law_fraction_is : En → Fl := (sSeq (sIf (liftT (qOr (qNot (qB (p1 (dIsi "tuple") (pVar 0)))) (qB (p2 dNe (pN dLen (pCons (pVar 0) pNil)) (pC (.int 2)))))) (sRet (liftP (pC (.bl false)))) sNext)
  (sRet (liftP (pAnd (pCall m__law_whole (pCons (p2 dIx (pVar 0) (pC (.int 0))) pNil)) (pAnd (pCall m__law_whole (pCons (p2 dIx (pVar 0) (pC (.int 1))) pNil)) (pAnd (p2 dEq (p2 dIx (pVar 0) (pC (.int 0))) (p2 dIx (pVar 1) (pC (.int 0)))) (p2 dEq (p2 dIx (pVar 0) (pC (.int 1))) (p2 dIx (pVar 1) (pC (.int 1))))))))))
noncomputable def m__law_fraction_is : En → RD := mDef 2 2 b__law_fraction_is
/-- _law_sum_of -/
noncomputable def b__law_sum_of : En → Fl := (sSeq (sAsg (eTup (vCons (liftP (pC (.int 0))) (vCons (liftP (pC (.int 1))) vNil))) (gN 1))
  (sSeq (sFor (iLst (eVar 0)) (gN 2) (sAsg (eCall m__law_lowest (aV (liftP (p2 dAdd (p2 dMul (p2 dIx (pVar 1) (pC (.int 0))) (p2 dIx (pVar 2) (pC (.int 1)))) (p2 dMul (p2 dIx (pVar 2) (pC (.int 0))) (p2 dIx (pVar 1) (pC (.int 1)))))) (aV (liftP (p2 dMul (p2 dIx (pVar 1) (pC (.int 1))) (p2 dIx (pVar 2) (pC (.int 1))))) aNil))) (gN 1)))
  (sRet (eVar 1))))
noncomputable def m__law_sum_of : En → RD := mDef 1 3 b__law_sum_of
/-- _law_chain -/
def dis__law_chain (x n : Str) : Bool := (x == "BadShare" && n == "TooMany") || (x == "TooMany" && n == "BadShare")
noncomputable def b__law_chain : En → Fl := (sSeq (sAsg (liftP (pC .non)) (gN 1))
  (sSeq (sTry dis__law_chain (sAsg (eCall m_chain_phases (aV (eVar 0) aNil)) (gN 1)) (("TooMany", 2, suRetT (fun x => (pCons (pC (.str "TooMany")) (pCons (xFld x "what") (pCons (xC (.bl false)) pNil))))) :: (("BadShare", 2, suRetT (fun x => (pCons (pC (.str "BadShare")) (pCons (xFld x "what") (pCons (xC (.bl false)) pNil))))) :: [])))
  (sRet (eTup (vCons (liftP (pC (.str "told"))) (vCons (eVar 1) vNil))))))
noncomputable def m__law_chain : En → RD := mDef 1 3 b__law_chain
/-- _law_periods -/
noncomputable def b__law_periods : En → Fl := (sSeq (sAsgF (fLst (vCons (liftP (pC (.int 1))) vNil)) 2)
  (sSeq (sFor (iR1 (vCons (e2 dAdd (liftP (pC (.int 1))) (eCall m__law_draw (aS 0 (aV (liftP (pC (.int 4))) aNil)))) vNil)) (gN 3) (sSeq (sAsg (eIf (tBm (e2 dGt (eCall m__law_draw (aS 0 (aV (liftP (pC (.int 4))) aNil))) (liftP (pC (.int 0))))) (e2 dAdd (liftP (pC (.int 1))) (eCall m__law_draw (aS 0 (aV (liftP (pC (.int 3))) aNil)))) (e2 dAdd (liftP (pC (.int 1))) (eCall m__law_draw (aS 0 (aV (liftP (pC (.int 40))) aNil))))) (gN 4))
  (sIf (liftT (qB (p2 dLe (p2 dMul (p2 dIx (pVar 2) (pVar 3)) (pVar 4)) (p2 dPow (pC (.int 10)) (pC (.int 6)))))) (sDrop (eApp 2 (liftP (p2 dMul (p2 dIx (pVar 2) (pVar 3)) (pVar 4))))) (sDrop (eApp 2 (cIx (cVar 2) (pVar 3)))))))
  (sSeq (sAsg (liftP (pC (.int 1))) (gN 5))
  (sSeq (sAsgF (fLst vNil) 6)
  (sSeq (sFor (iR1 (vCons (liftP (pN dLen (pCons (pVar 2) pNil))) vNil)) (gN 3) (sSeq (sIf (liftT (qB (p2 dGt (pVar 3) (pC (.int 0))))) (sAsg (liftP (p2 dMul (pVar 5) (p2 dFdiv (p2 dIx (pVar 2) (pVar 3)) (p2 dIx (pVar 2) (p2 dSub (pVar 3) (pC (.int 1))))))) (gN 5)) sNext)
  (sSeq (sAsg (eCall m__law_draw (aS 0 (aV (liftP (p2 dAdd (pN dMin2 (pCons (pVar 5) (pCons (p2 dSub (pC (.int 12)) (pN dLen (pCons (pVar 6) pNil))) pNil))) (pC (.int 1)))) aNil))) (gN 7))
  (sSeq (sIf (liftT (qAnd (qB (p2 dGt (pVar 1) (pC (.int 0)))) (qB (p2 dEq (pVar 3) (p2 dSub (pN dLen (pCons (pVar 2) pNil)) (pC (.int 1))))))) (sAsg (liftP (pN dMin2 (pCons (pVar 5) (pCons (p2 dSub (pC (.int 12)) (pN dLen (pCons (pVar 6) pNil))) pNil)))) (gN 7)) sNext)
  (sSeq (sAug (fun i j => i - j) 5 (eVar 7))
  (sAsgF (fOfK (kCat (kVar 6) (kRep (kLst (pCons (p2 dIx (pVar 2) (pVar 3)) pNil)) (pVar 7)))) 6))))))
  (sSeq (sIf (liftT (qAnd (qB (p2 dEq (pVar 1) (pC (.int 2)))) (qAnd (qB (p2 dEq (pVar 5) (pC (.int 0)))) (qB (p2 dLt (pN dLen (pCons (pVar 6) pNil)) (pC (.int 12))))))) (sDrop (eApp 6 (eIx (eVar 2) (eCall m__law_draw (aS 0 (aV (liftP (pN dLen (pCons (pVar 2) pNil))) aNil)))))) sNext)
  (sSeq (sIf (liftT (qB (p2 dEq (pVar 6) (pLst pNil)))) (sAsgF (fLst (vCons (cIx (cVar 2) (p2 dSub (pN dLen (pCons (pVar 2) pNil)) (pC (.int 1)))) vNil)) 6) sNext)
  (sRetF (fCall m__law_mix (aS 0 (aV (eVar 6) aNil)))))))))))
noncomputable def m__law_periods : En → RD := mDef 2 8 b__law_periods
/-- _law_apart_always -/
noncomputable def b__law_apart_always : En → Fl := (sSeq (sFor (iR1 (vCons (liftP (pN dLen (pCons (pVar 0) pNil))) vNil)) (gN 2) (sSeq (sIf (liftT (qOr (qNot (qB (pCall m__law_whole (pCons (p2 dIx (pVar 1) (pVar 2)) pNil)))) (qOr (qB (p2 dLt (p2 dIx (pVar 1) (pVar 2)) (pC (.int 0)))) (qB (p2 dGe (p2 dIx (pVar 1) (pVar 2)) (p2 dIx (pVar 0) (pVar 2))))))) (sRet (liftP (pC (.bl false)))) sNext)
  (sFor (iR1 (vCons (eVar 2) vNil)) (gN 3) (sSeq (sAsg (liftP (pN dMin2 (pCons (p2 dIx (pVar 0) (pVar 2)) (pCons (p2 dIx (pVar 0) (pVar 3)) pNil)))) (gN 4))
  (sIf (liftT (qB (p2 dEq (p2 dMod (pN dInt (pCons (p2 dSub (p2 dIx (pVar 1) (pVar 2)) (p2 dIx (pVar 1) (pVar 3))) pNil)) (pVar 4)) (pC (.int 0))))) (sRet (liftP (pC (.bl false)))) sNext)))))
  (sRet (liftP (pC (.bl true)))))
noncomputable def m__law_apart_always : En → RD := mDef 2 5 b__law_apart_always
/-- _law_chain_right -/
noncomputable def b__law_chain_right : En → Fl := (sSeq (sAsgR m__law_chain (rF (cL lAll (cVar 0)) rNil) 1)
  (sSeq (sIf (liftT (qOr (qB (p2 dNe (p2 dIx (pVar 1) (pC (.int 0))) (pC (.str "told")))) (qOr (qNot (qB (p1 (dIsi "tuple") (p2 dIx (pVar 1) (pC (.int 1)))))) (qOr (qB (p2 dNe (pN dLen (pCons (p2 dIx (pVar 1) (pC (.int 1))) pNil)) (pC (.int 2)))) (qNot (qB (p1 (dIsi "str") (p2 dIx (p2 dIx (pVar 1) (pC (.int 1))) (pC (.int 0)))))))))) (sRet (liftP (pC (.bl false)))) sNext)
  (sSeq (sAsg (eCall m__law_sum_of (aV (eOfF (fLc (iLst (eVar 0)) [5] (gN 5) tYesm (eTup (vCons (liftP (pC (.int 1))) (vCons (eVar 5) vNil))))) aNil)) (gN 2))
  (sSeq (sIf (liftT (qB (p2 dGt (p2 dIx (pVar 2) (pC (.int 0))) (p2 dIx (pVar 2) (pC (.int 1)))))) (sRet (liftP (pAnd (p2 dEq (p2 dIx (p2 dIx (pVar 1) (pC (.int 1))) (pC (.int 0))) (pC (.str "more than one"))) (pCall m__law_fraction_is (pCons (p2 dIx (p2 dIx (pVar 1) (pC (.int 1))) (pC (.int 1))) (pCons (pVar 2) pNil)))))) sNext)
  (sSeq (sIf (liftT (qOr (qB (p2 dNe (p2 dIx (p2 dIx (pVar 1) (pC (.int 1))) (pC (.int 0))) (pC (.str "phases")))) (qOr (qNot (qB (p1 (dIsi "list") (p2 dIx (p2 dIx (pVar 1) (pC (.int 1))) (pC (.int 1)))))) (qB (p2 dNe (pN dLen (pCons (p2 dIx (p2 dIx (pVar 1) (pC (.int 1))) (pC (.int 1))) pNil)) (pN dLen (pCons (pVar 0) pNil))))))) (sRet (liftP (pC (.bl false)))) sNext)
  (sSeq (sIf (liftT (qNot (qB (pCall m__law_apart_always (pCons (pVar 0) (pCons (p2 dIx (p2 dIx (pVar 1) (pC (.int 1))) (pC (.int 1))) pNil)))))) (sRet (liftP (pC (.bl false)))) sNext)
  (sSeq (sAsgF (fListP (p2 dIx (p2 dIx (pVar 1) (pC (.int 1))) (pC (.int 1)))) 3)
  (sSeq (sSpoilA 1 (qIx 1 (qIx 1 qVar)) (pC (.int 0)))
  (sSeq (sAsg (eCall m__law_chain (aV (eOfF (cL lAll (cVar 0))) aNil)) (gN 4))
  (sRet (liftP (pAnd (p2 dEq (p2 dIx (pVar 4) (pC (.int 0))) (pC (.str "told"))) (pAnd (p1 (dIsi "tuple") (p2 dIx (pVar 4) (pC (.int 1)))) (p2 dEq (p2 dIx (pVar 4) (pC (.int 1))) (pTup (pCons (pC (.str "phases")) (pCons (pVar 3) pNil)))))))))))))))))
noncomputable def m__law_chain_right : En → RD := mDef 1 6 b__law_chain_right
/-- _law_chain_refused -/
noncomputable def b__law_chain_refused : En → Fl := (sSeq (sAsg (eCall m__law_draw (aS 0 (aV (liftP (pN dLen (pCons (pVar 1) pNil))) aNil))) (gN 2))
  (sSeq (sAsgF (cL lAll (cVar 1)) 3)
  (sSeq (sSetIx 3 (pVar 2) (eIx (eOfF (fLst (vCons (liftP (pC (.int 0))) (vCons (liftP (p1 dNeg (pC (.int 1)))) (vCons (liftP (pC (.bl true))) (vCons (liftP (p1 dNeg (pC (.int 5)))) vNil)))))) (eCall m__law_draw (aS 0 (aV (liftP (pC (.int 4))) aNil)))))
  (sSeq (sAsg (e2 dAdd (liftP (pC (.int 2))) (eCall m__law_draw (aS 0 (aV (liftP (pC (.int 8))) aNil)))) (gN 4))
  (sSeq (sAsgF (fCall m__law_mix (aS 0 (aV (eOfF (fLst (vCons (eVar 4) (vCons (e2 dAdd (e2 dMul (eVar 4) (e2 dAdd (liftP (pC (.int 1))) (eCall m__law_draw (aS 0 (aV (liftP (pC (.int 5))) aNil))))) (liftP (pC (.int 1)))) vNil)))) aNil))) 5)
  (sSeq (sAsgF (fLst (vCons (eOfF (fLst (vCons (eOfF (fLst vNil)) (vCons (eTup (vCons (liftP (pC (.str "BadShare"))) (vCons (liftP (pC (.str "houses"))) (vCons (liftP (pC (.bl false))) vNil)))) vNil)))) (vCons (eOfF (fLst (vCons (eVar 3) (vCons (eTup (vCons (liftP (pC (.str "BadShare"))) (vCons (liftP (pC (.str "periods"))) (vCons (liftP (pC (.bl false))) vNil)))) vNil)))) (vCons (eOfF (fLst (vCons (eVar 5) (vCons (eTup (vCons (liftP (pC (.str "BadShare"))) (vCons (liftP (pC (.str "periods"))) (vCons (liftP (pC (.bl false))) vNil)))) vNil)))) (vCons (eOfF (fLst (vCons (eOfF (fOfK (kCat (kVar 5) (kLst (pCons (p2 dIx (pVar 5) (pC (.int 0))) pNil))))) (vCons (eTup (vCons (liftP (pC (.str "BadShare"))) (vCons (liftP (pC (.str "periods"))) (vCons (liftP (pC (.bl false))) vNil)))) vNil)))) (vCons (eOfF (fLst (vCons (eOfF (fOfK (kCat (kVar 5) (kLst (pCons (p2 dAdd (p2 dPow (pC (.int 10)) (pC (.int 6))) (pC (.int 1))) pNil))))) (vCons (eTup (vCons (liftP (pC (.str "TooMany"))) (vCons (liftP (pC (.str "fraction"))) (vCons (liftP (pC (.bl false))) vNil)))) vNil)))) (vCons (eOfF (fLst (vCons (eOfF (fOfK (kRep (kLst (pCons (p2 dAdd (p2 dPow (pC (.int 10)) (pC (.int 6))) (pC (.int 1))) pNil)) (pC (.int 13))))) (vCons (eTup (vCons (liftP (pC (.str "TooMany"))) (vCons (liftP (pC (.str "fraction"))) (vCons (liftP (pC (.bl false))) vNil)))) vNil)))) (vCons (eOfF (fLst (vCons (eOfF (fOfK (kRep (kCut (kVar 3) oNo (oI (pC (.int 1)))) (pC (.int 13))))) (vCons (eTup (vCons (liftP (pC (.str "TooMany"))) (vCons (liftP (pC (.str "houses"))) (vCons (liftP (pC (.bl false))) vNil)))) vNil)))) vNil)))))))) 6)
  (sSeq (sFor (iLst (eVar 6)) (gN 7) (sIf (liftT (qB (p2 dNe (pCall m__law_chain (pCons (p2 dIx (pVar 7) (pC (.int 0))) pNil)) (p2 dIx (pVar 7) (pC (.int 1)))))) (sRet (liftP (pC (.bl false)))) sNext))
  (sRet (liftP (pC (.bl true)))))))))))
noncomputable def m__law_chain_refused : En → RD := mDef 2 8 b__law_chain_refused
/-- law -/
noncomputable def b_law : En → Fl := (sSeq (sAsgF (fLc (iR1 (vCons (liftP (pC (.int 3))) vNil)) [3] (gN 3) tYesm (eOfW (wCallT m__law_periods (fCall m__law_purse (aV (eVar 0) (aV (eVar 3) aNil))) (aV (eVar 3) aNil)))) 1)
  (sSeq (sDrop (eApp 1 (eOfF (fLst (vCons (liftP (p2 dPow (pC (.int 10)) (pC (.int 6)))) vNil)))))
  (sSeq (sFor (iLst (eVar 1)) (gN 2) (sIf (liftT (qNot (qB (pCall m__law_chain_right (pCons (pVar 2) pNil))))) (sRet (liftP (pC (.bl false)))) sNext))
  (sSeq (sIf (tNotm (tBm (eOfW (wCallT m__law_chain_refused (fCall m__law_purse (aV (eVar 0) (aV (liftP (pC (.int 3))) aNil))) (aV (cIx (cVar 1) (pC (.int 1))) aNil))))) (sRet (liftP (pC (.bl false)))) sNext)
  (sRet (liftP (pCall m__law_chain_right (pCons (p2 dIx (pVar 1) (pC (.int 2))) pNil))))))))
noncomputable def m_law : En → RD := mDef 1 4 b_law
end Lw
end

section
set_option Elab.async false
set_option linter.all false
set_option maxRecDepth 100000
set_option maxHeartbeats 4000000
set_option autoImplicit false
/-! the walks -/
namespace Lw
open PySem L2 Cv PyProof.Rows
def top (i : Nat) : Stmt := PySem.Challenge.pw_seldomenough_k38_phases_of_chains.main.body.getD i (.Pass ⟨0, 0, 0, 0⟩)
structure Txt (P : Program) (w : World) (K : PySem.W.Frag) (mg : Str → Option Value) (base : Heap) (C : Nat → Addr) : Prop where
  n_abs : mg "abs" = none
  n_bool : mg "bool" = none
  n_int : mg "int" = none
  n_isinstance : mg "isinstance" = none
  n_len : mg "len" = none
  n_list : mg "list" = none
  n_min : mg "min" = none
  n_range : mg "range" = none
  n_sorted : mg "sorted" = none
  n_str : mg "str" = none
  n_sum : mg "sum" = none
  n_tuple : mg "tuple" = none
  k_FRACTION : ∃ t, mg "FRACTION" = some (.int 1000000 t)
  k_HOUSES : ∃ t, mg "HOUSES" = some (.int 12 t)
  x_BadShare : ExM P w K mg base 2 "BadShare" "what" (C 0)
  x_TooMany : ExM P w K mg base 2 "TooMany" "what" (C 1)
  ex_BadShare_TooMany : PySem.W.exmOne K (.ref (C 0)) (.ref (C 1)) = some false
  ex_TooMany_BadShare : PySem.W.exmOne K (.ref (C 1)) (.ref (C 0)) = some false
  kit_BadShare_TooMany : PySem.W.kitOne K (.ref (C 0)) (.ref (C 1)) = some false
  kit_TooMany_BadShare : PySem.W.kitOne K (.ref (C 1)) (.ref (C 0)) = some false
section
variable {P : Program} {w : World} {K : PySem.W.Frag} {mg : Str → Option Value} {base : Heap} {C : Nat → Addr}
abbrev s_greatest_common : Stmt := top 5
theorem sc_greatest_common : FnScope ["one", "other"] ["one", "other"] (defScope s_greatest_common) := ⟨rfl, rfl, rfl, by decide +kernel, rfl, by decide +kernel, by decide +kernel⟩
theorem ok_greatest_common (T : Txt P w K mg base C) (F : FnT K mg "greatest_common" s_greatest_common ["one", "other"])  : CalM P w K mg base 1 "greatest_common" m_greatest_common := by
  exact CalM.of F sc_greatest_common rfl rfl fun f cdv A outer s H E c => ⟨_, (css_cons (cs_while c (ct_p (ctp_gt (cp_var 1) cp_int)) (css_one (cs_par 0 1 c (cv_cons (ce_var 1) (cv_cons (ce_p (cp_mod (cp_toint c T.n_int (cap_cons (cp_var 0) cap_nil)) (cp_var 1))) cv_nil)))))
      (css_one (cs_ret (ce_var 0))))⟩
abbrev s_lowest_terms : Stmt := top 6
theorem sc_lowest_terms : FnScope ["p", "q", "common"] ["p", "q"] (defScope s_lowest_terms) := ⟨rfl, rfl, rfl, by decide +kernel, rfl, by decide +kernel, by decide +kernel⟩
theorem ok_lowest_terms (T : Txt P w K mg base C) (F : FnT K mg "lowest_terms" s_lowest_terms ["p", "q"]) (f_greatest_common : CalM P w K mg base 1 "greatest_common" m_greatest_common) : CalM P w K mg base 2 "lowest_terms" m_lowest_terms := by
  exact CalM.of F sc_lowest_terms rfl rfl fun f cdv A outer s H E c => ⟨_, (css_cons (cs_asg (ce_call c f_greatest_common (ca_v (ce_var 0) (ca_v (ce_var 1) ca_nil))) (cg_name 2 c))
      (css_one (cs_ret (ce_tup (cv_cons (ce_p (cp_fdiv (cp_var 0) (cp_var 2))) (cv_cons (ce_p (cp_fdiv (cp_var 1) (cp_var 2))) cv_nil))))))⟩
abbrev s_below : Stmt := top 7
theorem sc_below : FnScope ["one", "other"] ["one", "other"] (defScope s_below) := ⟨rfl, rfl, rfl, by decide +kernel, rfl, by decide +kernel, by decide +kernel⟩
theorem ok_below (T : Txt P w K mg base C) (F : FnT K mg "below" s_below ["one", "other"])  : CalM P w K mg base 1 "below" m_below := by
  exact CalM.of F sc_below rfl rfl fun f cdv A outer s H E c => ⟨_, (css_one (cs_ret (ce_p (cp_lt (cp_mul (cp_ix c (cp_var 0) cp_int) (cp_ix c (cp_var 1) cp_int)) (cp_mul (cp_ix c (cp_var 1) cp_int) (cp_ix c (cp_var 0) cp_int))))))⟩
abbrev s_is_whole : Stmt := top 9
theorem sc_is_whole : FnScope ["value"] ["value"] (defScope s_is_whole) := ⟨rfl, rfl, rfl, by decide +kernel, rfl, by decide +kernel, by decide +kernel⟩
theorem ok_is_whole (T : Txt P w K mg base C) (F : FnT K mg "is_whole" s_is_whole ["value"])  : CalM P w K mg base 1 "is_whole" m_is_whole := by
  exact CalM.of F sc_is_whole rfl rfl fun f cdv A outer s H E c => ⟨_, (css_one (cs_ret (ce_p (cp_and (cp_isi c "int" T.n_isinstance T.n_int bb_int (cp_var 0)) (cp_one (cp_not (cp_isi c "bool" T.n_isinstance T.n_bool bb_bool (cp_var 0))))))))⟩
abbrev s_whole_from : Stmt := top 10
theorem sc_whole_from : FnScope ["value", "least"] ["value", "least"] (defScope s_whole_from) := ⟨rfl, rfl, rfl, by decide +kernel, rfl, by decide +kernel, by decide +kernel⟩
theorem ok_whole_from (T : Txt P w K mg base C) (F : FnT K mg "whole_from" s_whole_from ["value", "least"]) (f_is_whole : CalM P w K mg base 1 "is_whole" m_is_whole) : CalM P w K mg base 2 "whole_from" m_whole_from := by
  exact CalM.of F sc_whole_from rfl rfl fun f cdv A outer s H E c => ⟨_, (css_one (cs_ret (ce_p (cp_and (cp_call c f_is_whole (cap_cons (cp_var 0) cap_nil)) (cp_one (cp_ge (cp_var 0) (cp_var 1)))))))⟩
abbrev s_check_most : Stmt := top 14
theorem sc_check_most : FnScope ["what", "many", "most"] ["what", "many", "most"] (defScope s_check_most) := ⟨rfl, rfl, rfl, by decide +kernel, rfl, by decide +kernel, by decide +kernel⟩
theorem ok_check_most (T : Txt P w K mg base C) (F : FnT K mg "check_most" s_check_most ["what", "many", "most"])  : CalM P w K mg base 4 "check_most" m_check_most := by
  exact CalM.of F sc_check_most rfl rfl fun f cdv A outer s H E c => ⟨_, (css_one (cs_if (ct_p (ctp_w (ctpw_and (ctp_val (cp_isi c "int" T.n_isinstance T.n_int bb_int (cp_var 1))) (ctpw_and (ctp_not (ctp_val (cp_isi c "bool" T.n_isinstance T.n_bool bb_bool (cp_var 1)))) (ctpw_and1 (ctp_gt (cp_var 1) (cp_var 2))))))) (css_one (cs_raise c T.x_TooMany (ce_var 0))) css_nil))⟩
abbrev s_check_numbers : Stmt := top 15
theorem sc_check_numbers : FnScope ["what", "numbers", "most", "number"] ["what", "numbers", "most"] (defScope s_check_numbers) := ⟨rfl, rfl, rfl, by decide +kernel, rfl, by decide +kernel, by decide +kernel⟩
theorem ok_check_numbers (T : Txt P w K mg base C) (F : FnT K mg "check_numbers" s_check_numbers ["what", "numbers", "most"]) (f_check_most : CalM P w K mg base 4 "check_most" m_check_most) : CalM P w K mg base 5 "check_numbers" m_check_numbers := by
  exact CalM.of F sc_check_numbers rfl rfl fun f cdv A outer s H E c => ⟨_, (css_one (cs_for c (ci_lst c (ce_var 1)) (cg_name 3 c) (css_one (cs_expr (ce_call c f_check_most (ca_v (ce_var 0) (ca_v (ce_var 3) (ca_v (ce_var 2) ca_nil))))))))⟩
abbrev s_add_fractions : Stmt := top 17
theorem sc_add_fractions : FnScope ["one", "other"] ["one", "other"] (defScope s_add_fractions) := ⟨rfl, rfl, rfl, by decide +kernel, rfl, by decide +kernel, by decide +kernel⟩
theorem ok_add_fractions (T : Txt P w K mg base C) (F : FnT K mg "add_fractions" s_add_fractions ["one", "other"]) (f_lowest_terms : CalM P w K mg base 2 "lowest_terms" m_lowest_terms) : CalM P w K mg base 3 "add_fractions" m_add_fractions := by
  exact CalM.of F sc_add_fractions rfl rfl fun f cdv A outer s H E c => ⟨_, (css_one (cs_ret (ce_call c f_lowest_terms (ca_v (ce_p (cp_add (cp_mul (cp_ix c (cp_var 0) cp_int) (cp_ix c (cp_var 1) cp_int)) (cp_mul (cp_ix c (cp_var 1) cp_int) (cp_ix c (cp_var 0) cp_int)))) (ca_v (ce_p (cp_mul (cp_ix c (cp_var 0) cp_int) (cp_ix c (cp_var 1) cp_int))) ca_nil)))))⟩
abbrev s_sum_of_shares : Stmt := top 18
theorem sc_sum_of_shares : FnScope ["shares", "total", "share"] ["shares"] (defScope s_sum_of_shares) := ⟨rfl, rfl, rfl, by decide +kernel, rfl, by decide +kernel, by decide +kernel⟩
theorem ok_sum_of_shares (T : Txt P w K mg base C) (F : FnT K mg "sum_of_shares" s_sum_of_shares ["shares"]) (f_add_fractions : CalM P w K mg base 3 "add_fractions" m_add_fractions) : CalM P w K mg base 4 "sum_of_shares" m_sum_of_shares := by
  exact CalM.of F sc_sum_of_shares rfl rfl fun f cdv A outer s H E c => ⟨_, (css_cons (cs_asg (ce_tup (cv_cons (ce_p cp_int) (cv_cons (ce_p cp_int) cv_nil))) (cg_name 1 c))
      (css_cons (cs_for c (ci_lst c (ce_var 0)) (cg_name 2 c) (css_one (cs_asg (ce_call c f_add_fractions (ca_v (ce_var 1) (ca_v (ce_var 2) ca_nil))) (cg_name 1 c))))
      (css_one (cs_ret (ce_var 1)))))⟩
abbrev s_check_periods : Stmt := top 20
theorem sc_check_periods : FnScope ["periods", "period", "ascending", "at"] ["periods"] (defScope s_check_periods) := ⟨rfl, rfl, rfl, by decide +kernel, rfl, by decide +kernel, by decide +kernel⟩
theorem ok_check_periods (T : Txt P w K mg base C) (F : FnT K mg "check_periods" s_check_periods ["periods"]) (f_check_most : CalM P w K mg base 4 "check_most" m_check_most) (f_check_numbers : CalM P w K mg base 5 "check_numbers" m_check_numbers) (f_whole_from : CalM P w K mg base 2 "whole_from" m_whole_from) : CalM P w K mg base 6 "check_periods" m_check_periods := by
  exact CalM.of F sc_check_periods rfl rfl fun f cdv A outer s H E c => ⟨_, (css_cons (cs_expr (ce_call c f_check_numbers (ca_v (ce_p cp_str) (ca_v (ce_var 0) (ca_v (ce_p (cp_gint c T.k_FRACTION)) ca_nil)))))
      (css_cons (cs_expr (ce_call c f_check_most (ca_v (ce_p cp_str) (ca_v (ce_p (cp_len c T.n_len (cap_cons (cp_var 0) cap_nil))) (ca_v (ce_p (cp_gint c T.k_HOUSES)) ca_nil)))))
      (css_cons (cs_if (ct_p (ctp_eq c (cp_len c T.n_len (cap_cons (cp_var 0) cap_nil)) cp_int)) (css_one (cs_raise c T.x_BadShare (ce_p cp_str))) css_nil)
      (css_cons (cs_for c (ci_lst c (ce_var 0)) (cg_name 1 c) (css_one (cs_if (ct_p (ctp_not (ctp_val (cp_call c f_whole_from (cap_cons (cp_var 1) (cap_cons cp_int cap_nil)))))) (css_one (cs_raise c T.x_BadShare (ce_p cp_str))) css_nil)))
      (css_cons (cs_asgF 2 c (cf_sortI c (cc_f (cf_list c (cc_var 0) T.n_list)) T.n_sorted))
      (css_cons (cs_for c (ci_r2 c T.n_range (cv_cons (ce_p cp_int) (cv_cons (ce_p (cp_len c T.n_len (cap_cons (cp_var 2) cap_nil))) cv_nil))) (cg_name 3 c) (css_one (cs_if (ct_p (ctp_ne c (cp_mod (cp_toint c T.n_int (cap_cons (cp_ix c (cp_var 2) (cp_var 3)) cap_nil)) (cp_ix c (cp_var 2) (cp_sub (cp_var 3) cp_int))) cp_int)) (css_one (cs_raise c T.x_BadShare (ce_p cp_str))) css_nil)))
      (css_one (cs_retO 2))))))))⟩
abbrev s_phase_at : Stmt := top 21
theorem sc_phase_at : FnScope ["ascending", "at", "period", "used", "phase", "weight", "place", "digit"] ["ascending", "at"] (defScope s_phase_at) := ⟨rfl, rfl, rfl, by decide +kernel, rfl, by decide +kernel, by decide +kernel⟩
theorem ok_phase_at (T : Txt P w K mg base C) (F : FnT K mg "phase_at" s_phase_at ["ascending", "at"])  : CalM P w K mg base 1 "phase_at" m_phase_at := by
  exact CalM.of F sc_phase_at rfl rfl fun f cdv A outer s H E c => ⟨_, (css_cons (cs_asg (ce_ixC c (cc_var 0) (cp_var 1)) (cg_name 2 c))
      (css_cons (cs_asg (ce_sum c (cc_f (cf_lc c [("place", 6)] (ci_r1 c T.n_range (cv_cons (ce_var 1) cv_nil)) (fun _ _ _ _ _ c1 => (cgv_name 6 c1)) (fun _ _ _ _ _ c1 => cts_nil) (fun _ _ _ _ _ c1 => (ce_p (cp_fdiv (cp_var 2) (cp_ix c1 (cp_var 0) (cp_var 6))))))) T.n_sum) (cg_name 3 c))
      (css_cons (cs_asg (ce_p cp_int) (cg_name 4 c))
      (css_cons (cs_asg (ce_p cp_int) (cg_name 5 c))
      (css_cons (cs_for c (ci_r1 c T.n_range (cv_cons (ce_p (cp_add (cp_var 1) cp_int)) cv_nil)) (cg_name 6 c) (css_cons (cs_asg (ce_p (cp_mod (cp_toint c T.n_int (cap_cons (cp_fdiv (cp_var 3) (cp_fdiv (cp_var 2) (cp_ix c (cp_var 0) (cp_var 6)))) cap_nil)) (cp_fdiv (cp_ix c (cp_var 0) (cp_var 6)) (cp_var 5)))) (cg_name 7 c))
      (css_cons (cs_asg (ce_p (cp_add (cp_var 4) (cp_mul (cp_var 7) (cp_var 5)))) (cg_name 4 c))
      (css_one (cs_asg (ce_ixC c (cc_var 0) (cp_var 6)) (cg_name 5 c))))))
      (css_one (cs_ret (ce_var 4))))))))⟩
abbrev s_chain_phases : Stmt := top 22
theorem sc_chain_phases : FnScope ["periods", "ascending", "total", "order", "phases", "at", "period", "place"] ["periods"] (defScope s_chain_phases) := ⟨rfl, rfl, rfl, by decide +kernel, rfl, by decide +kernel, by decide +kernel⟩
theorem ok_chain_phases (T : Txt P w K mg base C) (F : FnT K mg "chain_phases" s_chain_phases ["periods"]) (f_below : CalM P w K mg base 1 "below" m_below) (f_check_periods : CalM P w K mg base 6 "check_periods" m_check_periods) (f_phase_at : CalM P w K mg base 1 "phase_at" m_phase_at) (f_sum_of_shares : CalM P w K mg base 4 "sum_of_shares" m_sum_of_shares) : CalM P w K mg base 7 "chain_phases" m_chain_phases := by
  exact CalM.of F sc_chain_phases rfl rfl fun f cdv A outer s H E c => ⟨_, (css_cons (cs_asgF 1 c (cf_call c f_check_periods (ca_v (ce_var 0) ca_nil)))
      (css_cons (cs_asg (ce_call c f_sum_of_shares (ca_v (ce_f (cf_lc c [("period", 6)] (ci_lst c (ce_var 1)) (fun _ _ _ _ _ c1 => (cgv_name 6 c1)) (fun _ _ _ _ _ c1 => cts_nil) (fun _ _ _ _ _ c1 => (ce_tup (cv_cons (ce_p cp_int) (cv_cons (ce_var 6) cv_nil)))))) ca_nil)) (cg_name 2 c))
      (css_cons (cs_if (ct_p (ctp_val (cp_call c f_below (cap_cons (cp_tup (cap_cons cp_int (cap_cons cp_int cap_nil))) (cap_cons (cp_var 2) cap_nil))))) (css_one (cs_ret (ce_tup (cv_cons (ce_p cp_str) (cv_cons (ce_var 2) cv_nil))))) css_nil)
      (css_cons (cs_asgF 3 c (cf_sortP c (cc_f (cf_lc c [("place", 7)] (ci_r1 c T.n_range (cv_cons (ce_p (cp_len c T.n_len (cap_cons (cp_var 0) cap_nil))) cv_nil)) (fun _ _ _ _ _ c1 => (cgv_name 7 c1)) (fun _ _ _ _ _ c1 => cts_nil) (fun _ _ _ _ _ c1 => (ce_tup (cv_cons (ce_ixC c1 (cc_var 0) (cp_var 7)) (cv_cons (ce_var 7) cv_nil)))))) T.n_sorted))
      (css_cons (cs_asgF 4 c (cf_rep (ck_lst (cap_cons cp_int cap_nil)) (cp_len c T.n_len (cap_cons (cp_var 0) cap_nil))))
      (css_cons (cs_for c (ci_r1 c T.n_range (cv_cons (ce_p (cp_len c T.n_len (cap_cons (cp_var 3) cap_nil))) cv_nil)) (cg_name 5 c) (css_one (cs_setIx 4 (ce_p (cp_call c f_phase_at (cap_cons (cp_var 1) (cap_cons (cp_var 5) cap_nil)))) (cp_ix c (cp_ix c (cp_var 3) (cp_var 5)) cp_int))))
      (css_one (cs_ret (ce_tup (cv_cons (ce_p cp_str) (cv_cons (ce_var 4) cv_nil)))))))))))⟩
abbrev s__law_purse : Stmt := top 24
theorem sc__law_purse : FnScope ["script", "at", "cell", "size", "one"] ["script", "at"] (defScope s__law_purse) := ⟨rfl, rfl, rfl, by decide +kernel, rfl, by decide +kernel, by decide +kernel⟩
theorem ok__law_purse (T : Txt P w K mg base C) (F : FnT K mg "_law_purse" s__law_purse ["script", "at"])  : CalM P w K mg base 1 "_law_purse" m__law_purse := by
  exact CalM.of F sc__law_purse rfl rfl fun f cdv A outer s H E c => ⟨_, (css_cons (cs_asg (ce_if (ct_p (ctp_lt (cp_var 1) (cp_len c T.n_len (cap_cons (cp_var 0) cap_nil)))) (ce_p (cp_toint c T.n_int (cap_cons (cp_ix c (cp_var 0) (cp_var 1)) cap_nil))) (ce_mul (ce_p cp_int) (ce_sum c (cc_f (cf_lc c [("one", 4)] (ci_lstF c (cf_cut c (cc_var 0) co_no (co_i cp_int))) (fun _ _ _ _ _ c1 => (cgv_name 4 c1)) (fun _ _ _ _ _ c1 => cts_nil) (fun _ _ _ _ _ c1 => (ce_p (cp_toint c1 T.n_int (cap_cons (cp_var 4) cap_nil)))))) T.n_sum))) (cg_name 2 c))
      (css_cons (cs_asg (ce_p (cp_add (cp_mul cp_int (cp_abs c T.n_abs (cap_cons (cp_var 2) cap_nil))) (cp_if (ctp_lt (cp_var 2) cp_int) cp_int cp_int))) (cg_name 3 c))
      (css_one (cs_retF (cf_lst (cv_cons (ce_p (cp_if (ctp_ge (cp_var 3) (cp_pow cp_int cp_int)) (cp_var 3) cp_int)) (cv_cons (ce_p (cp_mod (cp_toint c T.n_int (cap_cons (cp_add (cp_add (cp_var 3) (cp_mul (cp_var 1) cp_int)) cp_int) cap_nil)) cp_int)) (cv_cons (ce_var 1) cv_nil))))))))⟩
abbrev s__law_draw : Stmt := top 25
theorem sc__law_draw : FnScope ["purse", "many", "found"] ["purse", "many"] (defScope s__law_draw) := ⟨rfl, rfl, rfl, by decide +kernel, rfl, by decide +kernel, by decide +kernel⟩
theorem ok__law_draw (T : Txt P w K mg base C) (F : FnT K mg "_law_draw" s__law_draw ["purse", "many"])  : CalM P w K mg base 1 "_law_draw" m__law_draw := by
  exact CalM.of F sc__law_draw rfl rfl fun f cdv A outer s H E c => ⟨_, (css_cons (cs_if (ct_p (ctp_gt (cp_ix c (cp_var 0) cp_int) cp_int)) (css_cons (cs_asg (ce_p (cp_mod (cp_toint c T.n_int (cap_cons (cp_ix c (cp_var 0) cp_int) cap_nil)) (cp_var 1))) (cg_name 2 c))
      (css_cons (cs_setIx 0 (ce_p (cp_fdiv (cp_ix c (cp_var 0) cp_int) (cp_var 1))) cp_int)
      (css_one (cs_ret (ce_var 2))))) css_nil)
      (css_cons (cs_augIx 0 c ip_add cp_int cp_int)
      (css_cons (cs_setIx 0 (ce_p (cp_mod (cp_toint c T.n_int (cap_cons (cp_add (cp_mul (cp_ix c (cp_var 0) cp_int) cp_int) (cp_mul (cp_ix c (cp_var 0) cp_int) cp_int)) cap_nil)) cp_int)) cp_int)
      (css_one (cs_ret (ce_p (cp_mod (cp_fdiv (cp_mod (cp_toint c T.n_int (cap_cons (cp_add (cp_mul (cp_ix c (cp_var 0) cp_int) cp_int) (cp_mul (cp_ix c (cp_var 0) cp_int) cp_int)) cap_nil)) cp_int) cp_int) (cp_var 1))))))))⟩
abbrev s__law_mix : Stmt := top 26
theorem sc__law_mix : FnScope ["purse", "things", "left", "mixed", "turn"] ["purse", "things"] (defScope s__law_mix) := ⟨rfl, rfl, rfl, by decide +kernel, rfl, by decide +kernel, by decide +kernel⟩
theorem ok__law_mix (T : Txt P w K mg base C) (F : FnT K mg "_law_mix" s__law_mix ["purse", "things"]) (f__law_draw : CalM P w K mg base 1 "_law_draw" m__law_draw) : CalM P w K mg base 2 "_law_mix" m__law_mix := by
  exact CalM.of F sc__law_mix rfl rfl fun f cdv A outer s H E c => ⟨_, (css_cons (cs_asgF 2 c (cf_list c (cc_var 1) T.n_list))
      (css_cons (cs_asgF 3 c (cf_lst cv_nil))
      (css_cons (cs_for c (ci_r1 c T.n_range (cv_cons (ce_p (cp_len c T.n_len (cap_cons (cp_var 1) cap_nil))) cv_nil)) (cg_name 4 c) (css_one (cs_expr (ce_app 3 c (ce_popAt 2 c (ce_call c f__law_draw (ca_s 0 (ca_v (ce_p (cp_len c T.n_len (cap_cons (cp_var 2) cap_nil))) ca_nil))))))))
      (css_one (cs_retO 3)))))⟩
abbrev s__law_whole : Stmt := top 27
theorem sc__law_whole : FnScope ["value"] ["value"] (defScope s__law_whole) := ⟨rfl, rfl, rfl, by decide +kernel, rfl, by decide +kernel, by decide +kernel⟩
theorem ok__law_whole (T : Txt P w K mg base C) (F : FnT K mg "_law_whole" s__law_whole ["value"])  : CalM P w K mg base 1 "_law_whole" m__law_whole := by
  exact CalM.of F sc__law_whole rfl rfl fun f cdv A outer s H E c => ⟨_, (css_one (cs_ret (ce_p (cp_and (cp_isi c "int" T.n_isinstance T.n_int bb_int (cp_var 0)) (cp_one (cp_not (cp_isi c "bool" T.n_isinstance T.n_bool bb_bool (cp_var 0))))))))⟩
abbrev s__law_gcd : Stmt := top 28
theorem sc__law_gcd : FnScope ["one", "other", "rest"] ["one", "other"] (defScope s__law_gcd) := ⟨rfl, rfl, rfl, by decide +kernel, rfl, by decide +kernel, by decide +kernel⟩
theorem ok__law_gcd (T : Txt P w K mg base C) (F : FnT K mg "_law_gcd" s__law_gcd ["one", "other"])  : CalM P w K mg base 1 "_law_gcd" m__law_gcd := by
  exact CalM.of F sc__law_gcd rfl rfl fun f cdv A outer s H E c => ⟨_, (css_cons (cs_while c (ct_p (ctp_gt (cp_var 1) cp_int)) (css_cons (cs_asg (ce_p (cp_mod (cp_toint c T.n_int (cap_cons (cp_var 0) cap_nil)) (cp_var 1))) (cg_name 2 c))
      (css_cons (cs_asg (ce_var 1) (cg_name 0 c))
      (css_one (cs_asg (ce_var 2) (cg_name 1 c))))))
      (css_one (cs_ret (ce_var 0))))⟩
abbrev s__law_lowest : Stmt := top 29
theorem sc__law_lowest : FnScope ["p", "q", "common"] ["p", "q"] (defScope s__law_lowest) := ⟨rfl, rfl, rfl, by decide +kernel, rfl, by decide +kernel, by decide +kernel⟩
theorem ok__law_lowest (T : Txt P w K mg base C) (F : FnT K mg "_law_lowest" s__law_lowest ["p", "q"]) (f__law_gcd : CalM P w K mg base 1 "_law_gcd" m__law_gcd) : CalM P w K mg base 2 "_law_lowest" m__law_lowest := by
  exact CalM.of F sc__law_lowest rfl rfl fun f cdv A outer s H E c => ⟨_, (css_cons (cs_asg (ce_call c f__law_gcd (ca_v (ce_var 0) (ca_v (ce_var 1) ca_nil))) (cg_name 2 c))
      (css_one (cs_ret (ce_tup (cv_cons (ce_p (cp_fdiv (cp_var 0) (cp_var 2))) (cv_cons (ce_p (cp_fdiv (cp_var 1) (cp_var 2))) cv_nil))))))⟩
abbrev s__law_fraction_is : Stmt := top 30
theorem sc__law_fraction_is : FnScope ["value", "due"] ["value", "due"] (defScope s__law_fraction_is) := ⟨rfl, rfl, rfl, by decide +kernel, rfl, by decide +kernel, by decide +kernel⟩
theorem ok__law_fraction_is (T : Txt P w K mg base C) (F : FnT K mg "_law_fraction_is" s__law_fraction_is ["value", "due"]) (f__law_whole : CalM P w K mg base 1 "_law_whole" m__law_whole) : CalM P w K mg base 2 "_law_fraction_is" m__law_fraction_is := by
  exact CalM.of F sc__law_fraction_is rfl rfl fun f cdv A outer s H E c => ⟨_, (css_cons (cs_if (ct_p (ctp_w (ctpw_or (ctp_not (ctp_val (cp_isi c "tuple" T.n_isinstance T.n_tuple bb_tuple (cp_var 0)))) (ctpw_or1 (ctp_ne c (cp_len c T.n_len (cap_cons (cp_var 0) cap_nil)) cp_int))))) (css_one (cs_ret (ce_p cp_bl))) css_nil)
      (css_one (cs_ret (ce_p (cp_and (cp_call c f__law_whole (cap_cons (cp_ix c (cp_var 0) cp_int) cap_nil)) (cp_and (cp_call c f__law_whole (cap_cons (cp_ix c (cp_var 0) cp_int) cap_nil)) (cp_and (cp_eq c (cp_ix c (cp_var 0) cp_int) (cp_ix c (cp_var 1) cp_int)) (cp_one (cp_eq c (cp_ix c (cp_var 0) cp_int) (cp_ix c (cp_var 1) cp_int))))))))))⟩
abbrev s__law_sum_of : Stmt := top 31
theorem sc__law_sum_of : FnScope ["fractions", "total", "one"] ["fractions"] (defScope s__law_sum_of) := ⟨rfl, rfl, rfl, by decide +kernel, rfl, by decide +kernel, by decide +kernel⟩
theorem ok__law_sum_of (T : Txt P w K mg base C) (F : FnT K mg "_law_sum_of" s__law_sum_of ["fractions"]) (f__law_lowest : CalM P w K mg base 2 "_law_lowest" m__law_lowest) : CalM P w K mg base 3 "_law_sum_of" m__law_sum_of := by
  exact CalM.of F sc__law_sum_of rfl rfl fun f cdv A outer s H E c => ⟨_, (css_cons (cs_asg (ce_tup (cv_cons (ce_p cp_int) (cv_cons (ce_p cp_int) cv_nil))) (cg_name 1 c))
      (css_cons (cs_for c (ci_lst c (ce_var 0)) (cg_name 2 c) (css_one (cs_asg (ce_call c f__law_lowest (ca_v (ce_p (cp_add (cp_mul (cp_ix c (cp_var 1) cp_int) (cp_ix c (cp_var 2) cp_int)) (cp_mul (cp_ix c (cp_var 2) cp_int) (cp_ix c (cp_var 1) cp_int)))) (ca_v (ce_p (cp_mul (cp_ix c (cp_var 1) cp_int) (cp_ix c (cp_var 2) cp_int))) ca_nil))) (cg_name 1 c))))
      (css_one (cs_ret (ce_var 1)))))⟩
abbrev s__law_chain : Stmt := top 32
theorem sc__law_chain : FnScope ["periods", "found", "e"] ["periods"] (defScope s__law_chain) := ⟨rfl, rfl, rfl, by decide +kernel, rfl, by decide +kernel, by decide +kernel⟩
theorem hdis__law_chain (T : Txt P w K mg base C) : ∀ x n C C', dis__law_chain x n = true → mg x = some (.ref C) → mg n = some (.ref C') → PySem.W.exmOne K (.ref C) (.ref C') = some false := by
  intro x n A B h h1 h2
  unfold dis__law_chain at h
  simp only [Bool.or_eq_true, Bool.and_eq_true, beq_iff_eq] at h
  rcases h with ⟨rfl, rfl⟩ | ⟨rfl, rfl⟩
  · rw [T.x_BadShare.hm] at h1; rw [T.x_TooMany.hm] at h2; cases h1; cases h2; exact T.ex_BadShare_TooMany
  · rw [T.x_TooMany.hm] at h1; rw [T.x_BadShare.hm] at h2; cases h1; cases h2; exact T.ex_TooMany_BadShare
theorem ok__law_chain (T : Txt P w K mg base C) (F : FnT K mg "_law_chain" s__law_chain ["periods"]) (f_chain_phases : CalM P w K mg base 7 "chain_phases" m_chain_phases) : CalM P w K mg base 8 "_law_chain" m__law_chain := by
  exact CalM.of F sc__law_chain rfl rfl fun f cdv A outer s H E c => ⟨_, (css_cons (cs_asg (ce_p cp_non) (cg_name 1 c))
      (css_cons (cs_try c ⟨rfl, rfl⟩ (fun _ _ z c1 => by obtain ⟨_, _, rfl⟩ := z; exact (css_one (cs_asg (ce_call c1 f_chain_phases (ca_v (ce_var 0) ca_nil)) (cg_name 1 c1)))) (chs_cons c 2 T.x_TooMany (csu_retT (fun _ _ _ _ _ hz hf => (cxa_cons (cx_p cp_str) (cxa_cons (cx_fld c T.x_TooMany hz hf) (cxa_cons (cx_is c T.x_TooMany hz hf T.n_isinstance T.x_BadShare.hm T.kit_TooMany_BadShare) cxa_nil))))) (chs_cons c 2 T.x_BadShare (csu_retT (fun _ _ _ _ _ hz hf => (cxa_cons (cx_p cp_str) (cxa_cons (cx_fld c T.x_BadShare hz hf) (cxa_cons (cx_is c T.x_BadShare hz hf T.n_isinstance T.x_TooMany.hm T.kit_BadShare_TooMany) cxa_nil))))) chs_nil)) (hdis__law_chain T))
      (css_one (cs_ret (ce_tup (cv_cons (ce_p cp_str) (cv_cons (ce_var 1) cv_nil)))))))⟩
abbrev s__law_periods : Stmt := top 33
theorem sc__law_periods : FnScope ["purse", "turn", "levels", "step", "factor", "free", "periods", "many"] ["purse", "turn"] (defScope s__law_periods) := ⟨rfl, rfl, rfl, by decide +kernel, rfl, by decide +kernel, by decide +kernel⟩
theorem ok__law_periods (T : Txt P w K mg base C) (F : FnT K mg "_law_periods" s__law_periods ["purse", "turn"]) (f__law_draw : CalM P w K mg base 1 "_law_draw" m__law_draw) (f__law_mix : CalM P w K mg base 2 "_law_mix" m__law_mix) : CalM P w K mg base 3 "_law_periods" m__law_periods := by
  exact CalM.of F sc__law_periods rfl rfl fun f cdv A outer s H E c => ⟨_, (css_cons (cs_asgF 2 c (cf_lst (cv_cons (ce_p cp_int) cv_nil)))
      (css_cons (cs_for c (ci_r1 c T.n_range (cv_cons (ce_add (ce_p cp_int) (ce_call c f__law_draw (ca_s 0 (ca_v (ce_p cp_int) ca_nil)))) cv_nil)) (cg_name 3 c) (css_cons (cs_asg (ce_if (ct_gt (ce_call c f__law_draw (ca_s 0 (ca_v (ce_p cp_int) ca_nil))) (ce_p cp_int)) (ce_add (ce_p cp_int) (ce_call c f__law_draw (ca_s 0 (ca_v (ce_p cp_int) ca_nil)))) (ce_add (ce_p cp_int) (ce_call c f__law_draw (ca_s 0 (ca_v (ce_p cp_int) ca_nil))))) (cg_name 4 c))
      (css_one (cs_if (ct_p (ctp_le (cp_mul (cp_ix c (cp_var 2) (cp_var 3)) (cp_var 4)) (cp_pow cp_int cp_int))) (css_one (cs_expr (ce_app 2 c (ce_p (cp_mul (cp_ix c (cp_var 2) (cp_var 3)) (cp_var 4)))))) (css_one (cs_expr (ce_app 2 c (ce_ixC c (cc_var 2) (cp_var 3)))))))))
      (css_cons (cs_asg (ce_p cp_int) (cg_name 5 c))
      (css_cons (cs_asgF 6 c (cf_lst cv_nil))
      (css_cons (cs_for c (ci_r1 c T.n_range (cv_cons (ce_p (cp_len c T.n_len (cap_cons (cp_var 2) cap_nil))) cv_nil)) (cg_name 3 c) (css_cons (cs_if (ct_p (ctp_gt (cp_var 3) cp_int)) (css_one (cs_asg (ce_p (cp_mul (cp_var 5) (cp_fdiv (cp_ix c (cp_var 2) (cp_var 3)) (cp_ix c (cp_var 2) (cp_sub (cp_var 3) cp_int))))) (cg_name 5 c))) css_nil)
      (css_cons (cs_asg (ce_call c f__law_draw (ca_s 0 (ca_v (ce_p (cp_add (cp_min2 c T.n_min (cap_cons (cp_var 5) (cap_cons (cp_sub cp_int (cp_len c T.n_len (cap_cons (cp_var 6) cap_nil))) cap_nil))) cp_int)) ca_nil))) (cg_name 7 c))
      (css_cons (cs_if (ct_p (ctp_w (ctpw_and (ctp_gt (cp_var 1) cp_int) (ctpw_and1 (ctp_eq c (cp_var 3) (cp_sub (cp_len c T.n_len (cap_cons (cp_var 2) cap_nil)) cp_int)))))) (css_one (cs_asg (ce_p (cp_min2 c T.n_min (cap_cons (cp_var 5) (cap_cons (cp_sub cp_int (cp_len c T.n_len (cap_cons (cp_var 6) cap_nil))) cap_nil)))) (cg_name 7 c))) css_nil)
      (css_cons (cs_augS 5 c (ce_var 7))
      (css_one (cs_asgF 6 c (cf_cat (ck_var 6) (ck_rep (ck_lst (cap_cons (cp_ix c (cp_var 2) (cp_var 3)) cap_nil)) (cp_var 7))))))))))
      (css_cons (cs_if (ct_p (ctp_w (ctpw_and (ctp_eq c (cp_var 1) cp_int) (ctpw_and (ctp_eq c (cp_var 5) cp_int) (ctpw_and1 (ctp_lt (cp_len c T.n_len (cap_cons (cp_var 6) cap_nil)) cp_int)))))) (css_one (cs_expr (ce_app 6 c (ce_ix c (ce_var 2) (ce_call c f__law_draw (ca_s 0 (ca_v (ce_p (cp_len c T.n_len (cap_cons (cp_var 2) cap_nil))) ca_nil))))))) css_nil)
      (css_cons (cs_if (ct_p (ctp_eq c (cp_var 6) (cp_lst cap_nil))) (css_one (cs_asgF 6 c (cf_lst (cv_cons (ce_ixC c (cc_var 2) (cp_sub (cp_len c T.n_len (cap_cons (cp_var 2) cap_nil)) cp_int)) cv_nil)))) css_nil)
      (css_one (cs_retF (cf_call c f__law_mix (ca_s 0 (ca_v (ce_var 6) ca_nil))))))))))))⟩
abbrev s__law_apart_always : Stmt := top 34
theorem sc__law_apart_always : FnScope ["periods", "phases", "one", "other", "low"] ["periods", "phases"] (defScope s__law_apart_always) := ⟨rfl, rfl, rfl, by decide +kernel, rfl, by decide +kernel, by decide +kernel⟩
theorem ok__law_apart_always (T : Txt P w K mg base C) (F : FnT K mg "_law_apart_always" s__law_apart_always ["periods", "phases"]) (f__law_whole : CalM P w K mg base 1 "_law_whole" m__law_whole) : CalM P w K mg base 2 "_law_apart_always" m__law_apart_always := by
  exact CalM.of F sc__law_apart_always rfl rfl fun f cdv A outer s H E c => ⟨_, (css_cons (cs_for c (ci_r1 c T.n_range (cv_cons (ce_p (cp_len c T.n_len (cap_cons (cp_var 0) cap_nil))) cv_nil)) (cg_name 2 c) (css_cons (cs_if (ct_p (ctp_w (ctpw_or (ctp_not (ctp_val (cp_call c f__law_whole (cap_cons (cp_ix c (cp_var 1) (cp_var 2)) cap_nil)))) (ctpw_or (ctp_lt (cp_ix c (cp_var 1) (cp_var 2)) cp_int) (ctpw_or1 (ctp_ge (cp_ix c (cp_var 1) (cp_var 2)) (cp_ix c (cp_var 0) (cp_var 2)))))))) (css_one (cs_ret (ce_p cp_bl))) css_nil)
      (css_one (cs_for c (ci_r1 c T.n_range (cv_cons (ce_var 2) cv_nil)) (cg_name 3 c) (css_cons (cs_asg (ce_p (cp_min2 c T.n_min (cap_cons (cp_ix c (cp_var 0) (cp_var 2)) (cap_cons (cp_ix c (cp_var 0) (cp_var 3)) cap_nil)))) (cg_name 4 c))
      (css_one (cs_if (ct_p (ctp_eq c (cp_mod (cp_toint c T.n_int (cap_cons (cp_sub (cp_ix c (cp_var 1) (cp_var 2)) (cp_ix c (cp_var 1) (cp_var 3))) cap_nil)) (cp_var 4)) cp_int)) (css_one (cs_ret (ce_p cp_bl))) css_nil)))))))
      (css_one (cs_ret (ce_p cp_bl))))⟩
abbrev s__law_chain_right : Stmt := top 35
theorem sc__law_chain_right : FnScope ["periods", "found", "total", "kept", "again", "period"] ["periods"] (defScope s__law_chain_right) := ⟨rfl, rfl, rfl, by decide +kernel, rfl, by decide +kernel, by decide +kernel⟩
theorem ok__law_chain_right (T : Txt P w K mg base C) (F : FnT K mg "_law_chain_right" s__law_chain_right ["periods"]) (f__law_apart_always : CalM P w K mg base 2 "_law_apart_always" m__law_apart_always) (f__law_chain : CalM P w K mg base 8 "_law_chain" m__law_chain) (f__law_fraction_is : CalM P w K mg base 2 "_law_fraction_is" m__law_fraction_is) (f__law_sum_of : CalM P w K mg base 3 "_law_sum_of" m__law_sum_of) : CalM P w K mg base 9 "_law_chain_right" m__law_chain_right := by
  exact CalM.of F sc__law_chain_right rfl rfl fun f cdv A outer s H E c => ⟨_, (css_cons (cs_asgR 1 c f__law_chain (cr_f (cf_list c (cc_var 0) T.n_list) cr_nil))
      (css_cons (cs_if (ct_p (ctp_w (ctpw_or (ctp_ne c (cp_ix c (cp_var 1) cp_int) cp_str) (ctpw_or (ctp_not (ctp_val (cp_isi c "tuple" T.n_isinstance T.n_tuple bb_tuple (cp_ix c (cp_var 1) cp_int)))) (ctpw_or (ctp_ne c (cp_len c T.n_len (cap_cons (cp_ix c (cp_var 1) cp_int) cap_nil)) cp_int) (ctpw_or1 (ctp_not (ctp_val (cp_isi c "str" T.n_isinstance T.n_str bb_str (cp_ix c (cp_ix c (cp_var 1) cp_int) cp_int)))))))))) (css_one (cs_ret (ce_p cp_bl))) css_nil)
      (css_cons (cs_asg (ce_call c f__law_sum_of (ca_v (ce_f (cf_lc c [("period", 5)] (ci_lst c (ce_var 0)) (fun _ _ _ _ _ c1 => (cgv_name 5 c1)) (fun _ _ _ _ _ c1 => cts_nil) (fun _ _ _ _ _ c1 => (ce_tup (cv_cons (ce_p cp_int) (cv_cons (ce_var 5) cv_nil)))))) ca_nil)) (cg_name 2 c))
      (css_cons (cs_if (ct_p (ctp_gt (cp_ix c (cp_var 2) cp_int) (cp_ix c (cp_var 2) cp_int))) (css_one (cs_ret (ce_p (cp_and (cp_eq c (cp_ix c (cp_ix c (cp_var 1) cp_int) cp_int) cp_str) (cp_one (cp_call c f__law_fraction_is (cap_cons (cp_ix c (cp_ix c (cp_var 1) cp_int) cp_int) (cap_cons (cp_var 2) cap_nil)))))))) css_nil)
      (css_cons (cs_if (ct_p (ctp_w (ctpw_or (ctp_ne c (cp_ix c (cp_ix c (cp_var 1) cp_int) cp_int) cp_str) (ctpw_or (ctp_not (ctp_val (cp_isi c "list" T.n_isinstance T.n_list bb_list (cp_ix c (cp_ix c (cp_var 1) cp_int) cp_int)))) (ctpw_or1 (ctp_ne c (cp_len c T.n_len (cap_cons (cp_ix c (cp_ix c (cp_var 1) cp_int) cp_int) cap_nil)) (cp_len c T.n_len (cap_cons (cp_var 0) cap_nil)))))))) (css_one (cs_ret (ce_p cp_bl))) css_nil)
      (css_cons (cs_if (ct_p (ctp_not (ctp_val (cp_call c f__law_apart_always (cap_cons (cp_var 0) (cap_cons (cp_ix c (cp_ix c (cp_var 1) cp_int) cp_int) cap_nil)))))) (css_one (cs_ret (ce_p cp_bl))) css_nil)
      (css_cons (cs_asgF 3 c (cf_listP c (cp_ix c (cp_ix c (cp_var 1) cp_int) cp_int) T.n_list))
      (css_cons (cs_spoilA (cq_ix c (cq_ix c (cq_var 1))) c cp_int)
      (css_cons (cs_asg (ce_call c f__law_chain (ca_v (ce_f (cf_list c (cc_var 0) T.n_list)) ca_nil)) (cg_name 4 c))
      (css_one (cs_ret (ce_p (cp_and (cp_eq c (cp_ix c (cp_var 4) cp_int) cp_str) (cp_and (cp_isi c "tuple" T.n_isinstance T.n_tuple bb_tuple (cp_ix c (cp_var 4) cp_int)) (cp_one (cp_eq c (cp_ix c (cp_var 4) cp_int) (cp_tup (cap_cons cp_str (cap_cons (cp_var 3) cap_nil)))))))))))))))))))⟩
abbrev s__law_chain_refused : Stmt := top 36
theorem sc__law_chain_refused : FnScope ["purse", "periods", "place", "bad", "low", "odd", "cases", "row"] ["purse", "periods"] (defScope s__law_chain_refused) := ⟨rfl, rfl, rfl, by decide +kernel, rfl, by decide +kernel, by decide +kernel⟩
theorem ok__law_chain_refused (T : Txt P w K mg base C) (F : FnT K mg "_law_chain_refused" s__law_chain_refused ["purse", "periods"]) (f__law_chain : CalM P w K mg base 8 "_law_chain" m__law_chain) (f__law_draw : CalM P w K mg base 1 "_law_draw" m__law_draw) (f__law_mix : CalM P w K mg base 2 "_law_mix" m__law_mix) : CalM P w K mg base 9 "_law_chain_refused" m__law_chain_refused := by
  exact CalM.of F sc__law_chain_refused rfl rfl fun f cdv A outer s H E c => ⟨_, (css_cons (cs_asg (ce_call c f__law_draw (ca_s 0 (ca_v (ce_p (cp_len c T.n_len (cap_cons (cp_var 1) cap_nil))) ca_nil))) (cg_name 2 c))
      (css_cons (cs_asgF 3 c (cf_list c (cc_var 1) T.n_list))
      (css_cons (cs_setIx 3 (ce_ix c (ce_f (cf_lst (cv_cons (ce_p cp_int) (cv_cons (ce_p (cp_neg cp_int)) (cv_cons (ce_p cp_bl) (cv_cons (ce_p (cp_neg cp_int)) cv_nil)))))) (ce_call c f__law_draw (ca_s 0 (ca_v (ce_p cp_int) ca_nil)))) (cp_var 2))
      (css_cons (cs_asg (ce_add (ce_p cp_int) (ce_call c f__law_draw (ca_s 0 (ca_v (ce_p cp_int) ca_nil)))) (cg_name 4 c))
      (css_cons (cs_asgF 5 c (cf_call c f__law_mix (ca_s 0 (ca_v (ce_f (cf_lst (cv_cons (ce_var 4) (cv_cons (ce_add (ce_mul (ce_var 4) (ce_add (ce_p cp_int) (ce_call c f__law_draw (ca_s 0 (ca_v (ce_p cp_int) ca_nil))))) (ce_p cp_int)) cv_nil)))) ca_nil))))
      (css_cons (cs_asgF 6 c (cf_lst (cv_cons (ce_f (cf_lst (cv_cons (ce_f (cf_lst cv_nil)) (cv_cons (ce_tup (cv_cons (ce_p cp_str) (cv_cons (ce_p cp_str) (cv_cons (ce_p cp_bl) cv_nil)))) cv_nil)))) (cv_cons (ce_f (cf_lst (cv_cons (ce_var 3) (cv_cons (ce_tup (cv_cons (ce_p cp_str) (cv_cons (ce_p cp_str) (cv_cons (ce_p cp_bl) cv_nil)))) cv_nil)))) (cv_cons (ce_f (cf_lst (cv_cons (ce_var 5) (cv_cons (ce_tup (cv_cons (ce_p cp_str) (cv_cons (ce_p cp_str) (cv_cons (ce_p cp_bl) cv_nil)))) cv_nil)))) (cv_cons (ce_f (cf_lst (cv_cons (ce_f (cf_cat (ck_var 5) (ck_lst (cap_cons (cp_ix c (cp_var 5) cp_int) cap_nil)))) (cv_cons (ce_tup (cv_cons (ce_p cp_str) (cv_cons (ce_p cp_str) (cv_cons (ce_p cp_bl) cv_nil)))) cv_nil)))) (cv_cons (ce_f (cf_lst (cv_cons (ce_f (cf_cat (ck_var 5) (ck_lst (cap_cons (cp_add (cp_pow cp_int cp_int) cp_int) cap_nil)))) (cv_cons (ce_tup (cv_cons (ce_p cp_str) (cv_cons (ce_p cp_str) (cv_cons (ce_p cp_bl) cv_nil)))) cv_nil)))) (cv_cons (ce_f (cf_lst (cv_cons (ce_f (cf_rep (ck_lst (cap_cons (cp_add (cp_pow cp_int cp_int) cp_int) cap_nil)) cp_int)) (cv_cons (ce_tup (cv_cons (ce_p cp_str) (cv_cons (ce_p cp_str) (cv_cons (ce_p cp_bl) cv_nil)))) cv_nil)))) (cv_cons (ce_f (cf_lst (cv_cons (ce_f (cf_rep (ck_cut c (ck_var 3) co_no (co_i cp_int)) cp_int)) (cv_cons (ce_tup (cv_cons (ce_p cp_str) (cv_cons (ce_p cp_str) (cv_cons (ce_p cp_bl) cv_nil)))) cv_nil)))) cv_nil)))))))))
      (css_cons (cs_for c (ci_lst c (ce_var 6)) (cg_name 7 c) (css_one (cs_if (ct_p (ctp_ne c (cp_call c f__law_chain (cap_cons (cp_ix c (cp_var 7) cp_int) cap_nil)) (cp_ix c (cp_var 7) cp_int))) (css_one (cs_ret (ce_p cp_bl))) css_nil)))
      (css_one (cs_ret (ce_p cp_bl))))))))))⟩
abbrev s_law : Stmt := top 37
theorem sc_law : FnScope ["script", "lists", "periods", "turn"] ["script"] (defScope s_law) := ⟨rfl, rfl, rfl, by decide +kernel, rfl, by decide +kernel, by decide +kernel⟩
theorem ok_law {f : Addr} {fd : FuncData} (T : Txt P w K mg base C) (F : Fun K "law" "law" s_law f fd) (f__law_chain_refused : CalM P w K mg base 9 "_law_chain_refused" m__law_chain_refused) (f__law_chain_right : CalM P w K mg base 9 "_law_chain_right" m__law_chain_right) (f__law_periods : CalM P w K mg base 3 "_law_periods" m__law_periods) (f__law_purse : CalM P w K mg base 1 "_law_purse" m__law_purse) : FnOk P w K mg base (L2.CX P w) 10 f fd ["script"] (SpM K mg m_law) := by
  exact FnM.of F sc_law rfl rfl fun cdv A outer s H E c => ⟨_, (css_cons (cs_asgLc 1 c [("turn", 3)] (ci_r1 c T.n_range (cv_cons (ce_p cp_int) cv_nil)) (fun _ _ _ _ _ c1 => (cgv_name 3 c1)) (fun _ _ _ _ _ c1 => cts_nil) (fun _ _ _ _ _ c1 => (ce_w (cw_callT c1 f__law_periods (cf_call c1 f__law_purse (ca_v (ce_var 0) (ca_v (ce_var 3) ca_nil))) (ca_v (ce_var 3) ca_nil)))))
      (css_cons (cs_expr (ce_app 1 c (ce_f (cf_lst (cv_cons (ce_p (cp_pow cp_int cp_int)) cv_nil)))))
      (css_cons (cs_for c (ci_lst c (ce_var 1)) (cg_name 2 c) (css_one (cs_if (ct_p (ctp_not (ctp_val (cp_call c f__law_chain_right (cap_cons (cp_var 2) cap_nil))))) (css_one (cs_ret (ce_p cp_bl))) css_nil)))
      (css_cons (cs_if (ct_not (ct_val (ce_w (cw_callT c f__law_chain_refused (cf_call c f__law_purse (ca_v (ce_var 0) (ca_v (ce_p cp_int) ca_nil))) (ca_v (ce_ixC c (cc_var 1) cp_int) ca_nil))))) (css_one (cs_ret (ce_p cp_bl))) css_nil)
      (css_one (cs_ret (ce_p (cp_call c f__law_chain_right (cap_cons (cp_ix c (cp_var 1) cp_int) cap_nil)))))))))⟩
end
end Lw
end

section
set_option Elab.async false
set_option linter.all false
set_option maxRecDepth 100000
set_option maxHeartbeats 4000000
set_option autoImplicit false
/-! what the top has written -/
namespace Lw
open PySem L2 Cv PyProof.Rows
abbrev i_BadShare : Stmt := inClass (top 3) 0
theorem si_BadShare : FnScope ["self", "what"] ["self", "what"] (defScope i_BadShare) := ⟨rfl, rfl, rfl, by decide +kernel, rfl, by decide +kernel, by decide +kernel⟩
theorem oki_BadShare {P : Program} {w : World} {K : PySem.W.Frag} {mg : Str → Option Value} {base : Heap} {fI C C0 : Addr} {fd : FuncData} (hm : mg "SeldomError" = some (.ref C0)) (B : BaseI K C0) (F : Fun K "__init__" "BadShare.__init__" i_BadShare fI fd) (hno : PySem.W.findIn K (.ref C) "what" = some none) (T : OexC K C) : FnOk P w K mg base (L2.CX P w) 2 fI fd ["self", "what"] (spEx C "what") :=
  ex_init (z := "a share is not allowed") F T hno si_BadShare rfl fun cdv A outer s H E => pss_cons (ps_expr (pe_baseinit rfl hm B (pa_cons (pv 0) (pa_cons pe_str pa_nil)))) (pss_one (ps_ost (pv 0) (pv 1)))
abbrev i_TooMany : Stmt := inClass (top 2) 0
theorem si_TooMany : FnScope ["self", "what"] ["self", "what"] (defScope i_TooMany) := ⟨rfl, rfl, rfl, by decide +kernel, rfl, by decide +kernel, by decide +kernel⟩
theorem oki_TooMany {P : Program} {w : World} {K : PySem.W.Frag} {mg : Str → Option Value} {base : Heap} {fI C C0 : Addr} {fd : FuncData} (hm : mg "SeldomError" = some (.ref C0)) (B : BaseI K C0) (F : Fun K "__init__" "TooMany.__init__" i_TooMany fI fd) (hno : PySem.W.findIn K (.ref C) "what" = some none) (T : OexC K C) : FnOk P w K mg base (L2.CX P w) 2 fI fd ["self", "what"] (spEx C "what") :=
  ex_init (z := "an argument passes a bound of the package") F T hno si_TooMany rfl fun cdv A outer s H E => pss_cons (ps_expr (pe_baseinit rfl hm B (pa_cons (pv 0) (pa_cons pe_str pa_nil)))) (pss_one (ps_ost (pv 0) (pv 1)))
theorem all_mk {l : PySem.W.OpenLaw} {w : World} {K : PySem.W.Frag} {h : Heap} {mg : Str → Option Value} {fa : Addr} (X : K.In h) (G : h.Ns mainGlobals mg) (hfa : mg "law" = some (.ref fa)) (hv_FRACTION : ∃ t, mg "FRACTION" = some (.int 1000000 t))
    {f0 f1 f2 f3 f4 f5 f6 f7 f8 f9 f10 f11 f12 f13 f14 f15 f16 f17 f18 f19 f20 f21 f22 f23 f24 f25 : Addr}
    {od0 an0 od1 an1 od2 an2 od3 an3 od4 an4 od5 an5 od6 an6 od7 an7 od8 an8 od9 an9 od10 an10 od11 an11 od12 an12 od13 an13 od14 an14 od15 an15 od16 an16 od17 an17 od18 an18 od19 an19 od20 an20 od21 an21 od22 an22 od23 an23 od24 an24 od25 an25 : Option Addr} {sl0 sl1 sl2 sl3 sl4 sl5 sl6 sl7 sl8 sl9 sl10 sl11 sl12 sl13 sl14 sl15 sl16 sl17 sl18 sl19 sl20 sl21 sl22 sl23 sl24 sl25 : Array (Option Value)} {oc0 kV0 dc0 pm0 cd0 ct0 oc1 kV1 dc1 pm1 cd1 ct1 oc2 kV2 dc2 pm2 cd2 ct2 oc3 kV3 dc3 pm3 cd3 ct3 oc4 kV4 dc4 pm4 cd4 ct4 oc5 kV5 dc5 pm5 cd5 ct5 oc6 kV6 dc6 pm6 cd6 ct6 oc7 kV7 dc7 pm7 cd7 ct7 oc8 kV8 dc8 pm8 cd8 ct8 oc9 kV9 dc9 pm9 cd9 ct9 oc10 kV10 dc10 pm10 cd10 ct10 oc11 kV11 dc11 pm11 cd11 ct11 oc12 kV12 dc12 pm12 cd12 ct12 oc13 kV13 dc13 pm13 cd13 ct13 oc14 kV14 dc14 pm14 cd14 ct14 oc15 kV15 dc15 pm15 cd15 ct15 oc16 kV16 dc16 pm16 cd16 ct16 oc17 kV17 dc17 pm17 cd17 ct17 oc18 kV18 dc18 pm18 cd18 ct18 oc19 kV19 dc19 pm19 cd19 ct19 oc20 kV20 dc20 pm20 cd20 ct20 oc21 kV21 dc21 pm21 cd21 ct21 oc22 kV22 dc22 pm22 cd22 ct22 oc23 kV23 dc23 pm23 cd23 ct23 oc24 kV24 dc24 pm24 cd24 ct24 oc25 kV25 dc25 pm25 cd25 ct25 : Value}
    {t_HOUSES : Tok}
    {C0 : Addr}
    {C_x0 fI_x0 : Addr} {nm_x0 q_x0 : Str} {N_x0 : Addr} {bs_x0 : List Value} {sn_x0 : List Str} {sub_x0 : List Value} {ab_x0 : Bool} {col_x0 : Option Bool} {dd_x0 : Option Addr} {m0_x0 m1_x0 m2_x0 m3_x0 m5_x0 : Option Value} {od_x0 an_x0 : Option Addr} {sl_x0 : Array (Option Value)} {oc_x0 kV_x0 dc_x0 pm_x0 cd_x0 ct_x0 : Value}
    {C_x1 fI_x1 : Addr} {nm_x1 q_x1 : Str} {N_x1 : Addr} {bs_x1 : List Value} {sn_x1 : List Str} {sub_x1 : List Value} {ab_x1 : Bool} {col_x1 : Option Bool} {dd_x1 : Option Addr} {m0_x1 m1_x1 m2_x1 m3_x1 m5_x1 : Option Value} {od_x1 an_x1 : Option Addr} {sl_x1 : Array (Option Value)} {oc_x1 kV_x1 dc_x1 pm_x1 cd_x1 ct_x1 : Value}
    (a0 : PySem.W.nsIn K mainGlobals "greatest_common" = some (some (.ref f0)))
    (l0 : K.lookup f0 = some ⟨oc0, od0, .func (PySem.W.fnOf "greatest_common" "greatest_common" (defArgs s_greatest_common) (defBody s_greatest_common) (defScope s_greatest_common) .none kV0 dc0 pm0 an0 cd0 ct0), sl0⟩)
    (c0 : PySem.W.codeIn K cd0 "greatest_common" = true)
    (k0 : PySem.W.keepIn K (.ref f0) = true)
    (a1 : PySem.W.nsIn K mainGlobals "lowest_terms" = some (some (.ref f1)))
    (l1 : K.lookup f1 = some ⟨oc1, od1, .func (PySem.W.fnOf "lowest_terms" "lowest_terms" (defArgs s_lowest_terms) (defBody s_lowest_terms) (defScope s_lowest_terms) .none kV1 dc1 pm1 an1 cd1 ct1), sl1⟩)
    (c1 : PySem.W.codeIn K cd1 "lowest_terms" = true)
    (k1 : PySem.W.keepIn K (.ref f1) = true)
    (a2 : PySem.W.nsIn K mainGlobals "below" = some (some (.ref f2)))
    (l2 : K.lookup f2 = some ⟨oc2, od2, .func (PySem.W.fnOf "below" "below" (defArgs s_below) (defBody s_below) (defScope s_below) .none kV2 dc2 pm2 an2 cd2 ct2), sl2⟩)
    (c2 : PySem.W.codeIn K cd2 "below" = true)
    (k2 : PySem.W.keepIn K (.ref f2) = true)
    (a3 : PySem.W.nsIn K mainGlobals "is_whole" = some (some (.ref f3)))
    (l3 : K.lookup f3 = some ⟨oc3, od3, .func (PySem.W.fnOf "is_whole" "is_whole" (defArgs s_is_whole) (defBody s_is_whole) (defScope s_is_whole) .none kV3 dc3 pm3 an3 cd3 ct3), sl3⟩)
    (c3 : PySem.W.codeIn K cd3 "is_whole" = true)
    (k3 : PySem.W.keepIn K (.ref f3) = true)
    (a4 : PySem.W.nsIn K mainGlobals "whole_from" = some (some (.ref f4)))
    (l4 : K.lookup f4 = some ⟨oc4, od4, .func (PySem.W.fnOf "whole_from" "whole_from" (defArgs s_whole_from) (defBody s_whole_from) (defScope s_whole_from) .none kV4 dc4 pm4 an4 cd4 ct4), sl4⟩)
    (c4 : PySem.W.codeIn K cd4 "whole_from" = true)
    (k4 : PySem.W.keepIn K (.ref f4) = true)
    (a5 : PySem.W.nsIn K mainGlobals "check_most" = some (some (.ref f5)))
    (l5 : K.lookup f5 = some ⟨oc5, od5, .func (PySem.W.fnOf "check_most" "check_most" (defArgs s_check_most) (defBody s_check_most) (defScope s_check_most) .none kV5 dc5 pm5 an5 cd5 ct5), sl5⟩)
    (c5 : PySem.W.codeIn K cd5 "check_most" = true)
    (k5 : PySem.W.keepIn K (.ref f5) = true)
    (a6 : PySem.W.nsIn K mainGlobals "check_numbers" = some (some (.ref f6)))
    (l6 : K.lookup f6 = some ⟨oc6, od6, .func (PySem.W.fnOf "check_numbers" "check_numbers" (defArgs s_check_numbers) (defBody s_check_numbers) (defScope s_check_numbers) .none kV6 dc6 pm6 an6 cd6 ct6), sl6⟩)
    (c6 : PySem.W.codeIn K cd6 "check_numbers" = true)
    (k6 : PySem.W.keepIn K (.ref f6) = true)
    (a7 : PySem.W.nsIn K mainGlobals "add_fractions" = some (some (.ref f7)))
    (l7 : K.lookup f7 = some ⟨oc7, od7, .func (PySem.W.fnOf "add_fractions" "add_fractions" (defArgs s_add_fractions) (defBody s_add_fractions) (defScope s_add_fractions) .none kV7 dc7 pm7 an7 cd7 ct7), sl7⟩)
    (c7 : PySem.W.codeIn K cd7 "add_fractions" = true)
    (k7 : PySem.W.keepIn K (.ref f7) = true)
    (a8 : PySem.W.nsIn K mainGlobals "sum_of_shares" = some (some (.ref f8)))
    (l8 : K.lookup f8 = some ⟨oc8, od8, .func (PySem.W.fnOf "sum_of_shares" "sum_of_shares" (defArgs s_sum_of_shares) (defBody s_sum_of_shares) (defScope s_sum_of_shares) .none kV8 dc8 pm8 an8 cd8 ct8), sl8⟩)
    (c8 : PySem.W.codeIn K cd8 "sum_of_shares" = true)
    (k8 : PySem.W.keepIn K (.ref f8) = true)
    (a9 : PySem.W.nsIn K mainGlobals "check_periods" = some (some (.ref f9)))
    (l9 : K.lookup f9 = some ⟨oc9, od9, .func (PySem.W.fnOf "check_periods" "check_periods" (defArgs s_check_periods) (defBody s_check_periods) (defScope s_check_periods) .none kV9 dc9 pm9 an9 cd9 ct9), sl9⟩)
    (c9 : PySem.W.codeIn K cd9 "check_periods" = true)
    (k9 : PySem.W.keepIn K (.ref f9) = true)
    (a10 : PySem.W.nsIn K mainGlobals "phase_at" = some (some (.ref f10)))
    (l10 : K.lookup f10 = some ⟨oc10, od10, .func (PySem.W.fnOf "phase_at" "phase_at" (defArgs s_phase_at) (defBody s_phase_at) (defScope s_phase_at) .none kV10 dc10 pm10 an10 cd10 ct10), sl10⟩)
    (c10 : PySem.W.codeIn K cd10 "phase_at" = true)
    (k10 : PySem.W.keepIn K (.ref f10) = true)
    (a11 : PySem.W.nsIn K mainGlobals "chain_phases" = some (some (.ref f11)))
    (l11 : K.lookup f11 = some ⟨oc11, od11, .func (PySem.W.fnOf "chain_phases" "chain_phases" (defArgs s_chain_phases) (defBody s_chain_phases) (defScope s_chain_phases) .none kV11 dc11 pm11 an11 cd11 ct11), sl11⟩)
    (c11 : PySem.W.codeIn K cd11 "chain_phases" = true)
    (k11 : PySem.W.keepIn K (.ref f11) = true)
    (a12 : PySem.W.nsIn K mainGlobals "_law_purse" = some (some (.ref f12)))
    (l12 : K.lookup f12 = some ⟨oc12, od12, .func (PySem.W.fnOf "_law_purse" "_law_purse" (defArgs s__law_purse) (defBody s__law_purse) (defScope s__law_purse) .none kV12 dc12 pm12 an12 cd12 ct12), sl12⟩)
    (c12 : PySem.W.codeIn K cd12 "_law_purse" = true)
    (k12 : PySem.W.keepIn K (.ref f12) = true)
    (a13 : PySem.W.nsIn K mainGlobals "_law_draw" = some (some (.ref f13)))
    (l13 : K.lookup f13 = some ⟨oc13, od13, .func (PySem.W.fnOf "_law_draw" "_law_draw" (defArgs s__law_draw) (defBody s__law_draw) (defScope s__law_draw) .none kV13 dc13 pm13 an13 cd13 ct13), sl13⟩)
    (c13 : PySem.W.codeIn K cd13 "_law_draw" = true)
    (k13 : PySem.W.keepIn K (.ref f13) = true)
    (a14 : PySem.W.nsIn K mainGlobals "_law_mix" = some (some (.ref f14)))
    (l14 : K.lookup f14 = some ⟨oc14, od14, .func (PySem.W.fnOf "_law_mix" "_law_mix" (defArgs s__law_mix) (defBody s__law_mix) (defScope s__law_mix) .none kV14 dc14 pm14 an14 cd14 ct14), sl14⟩)
    (c14 : PySem.W.codeIn K cd14 "_law_mix" = true)
    (k14 : PySem.W.keepIn K (.ref f14) = true)
    (a15 : PySem.W.nsIn K mainGlobals "_law_whole" = some (some (.ref f15)))
    (l15 : K.lookup f15 = some ⟨oc15, od15, .func (PySem.W.fnOf "_law_whole" "_law_whole" (defArgs s__law_whole) (defBody s__law_whole) (defScope s__law_whole) .none kV15 dc15 pm15 an15 cd15 ct15), sl15⟩)
    (c15 : PySem.W.codeIn K cd15 "_law_whole" = true)
    (k15 : PySem.W.keepIn K (.ref f15) = true)
    (a16 : PySem.W.nsIn K mainGlobals "_law_gcd" = some (some (.ref f16)))
    (l16 : K.lookup f16 = some ⟨oc16, od16, .func (PySem.W.fnOf "_law_gcd" "_law_gcd" (defArgs s__law_gcd) (defBody s__law_gcd) (defScope s__law_gcd) .none kV16 dc16 pm16 an16 cd16 ct16), sl16⟩)
    (c16 : PySem.W.codeIn K cd16 "_law_gcd" = true)
    (k16 : PySem.W.keepIn K (.ref f16) = true)
    (a17 : PySem.W.nsIn K mainGlobals "_law_lowest" = some (some (.ref f17)))
    (l17 : K.lookup f17 = some ⟨oc17, od17, .func (PySem.W.fnOf "_law_lowest" "_law_lowest" (defArgs s__law_lowest) (defBody s__law_lowest) (defScope s__law_lowest) .none kV17 dc17 pm17 an17 cd17 ct17), sl17⟩)
    (c17 : PySem.W.codeIn K cd17 "_law_lowest" = true)
    (k17 : PySem.W.keepIn K (.ref f17) = true)
    (a18 : PySem.W.nsIn K mainGlobals "_law_fraction_is" = some (some (.ref f18)))
    (l18 : K.lookup f18 = some ⟨oc18, od18, .func (PySem.W.fnOf "_law_fraction_is" "_law_fraction_is" (defArgs s__law_fraction_is) (defBody s__law_fraction_is) (defScope s__law_fraction_is) .none kV18 dc18 pm18 an18 cd18 ct18), sl18⟩)
    (c18 : PySem.W.codeIn K cd18 "_law_fraction_is" = true)
    (k18 : PySem.W.keepIn K (.ref f18) = true)
    (a19 : PySem.W.nsIn K mainGlobals "_law_sum_of" = some (some (.ref f19)))
    (l19 : K.lookup f19 = some ⟨oc19, od19, .func (PySem.W.fnOf "_law_sum_of" "_law_sum_of" (defArgs s__law_sum_of) (defBody s__law_sum_of) (defScope s__law_sum_of) .none kV19 dc19 pm19 an19 cd19 ct19), sl19⟩)
    (c19 : PySem.W.codeIn K cd19 "_law_sum_of" = true)
    (k19 : PySem.W.keepIn K (.ref f19) = true)
    (a20 : PySem.W.nsIn K mainGlobals "_law_chain" = some (some (.ref f20)))
    (l20 : K.lookup f20 = some ⟨oc20, od20, .func (PySem.W.fnOf "_law_chain" "_law_chain" (defArgs s__law_chain) (defBody s__law_chain) (defScope s__law_chain) .none kV20 dc20 pm20 an20 cd20 ct20), sl20⟩)
    (c20 : PySem.W.codeIn K cd20 "_law_chain" = true)
    (k20 : PySem.W.keepIn K (.ref f20) = true)
    (a21 : PySem.W.nsIn K mainGlobals "_law_periods" = some (some (.ref f21)))
    (l21 : K.lookup f21 = some ⟨oc21, od21, .func (PySem.W.fnOf "_law_periods" "_law_periods" (defArgs s__law_periods) (defBody s__law_periods) (defScope s__law_periods) .none kV21 dc21 pm21 an21 cd21 ct21), sl21⟩)
    (c21 : PySem.W.codeIn K cd21 "_law_periods" = true)
    (k21 : PySem.W.keepIn K (.ref f21) = true)
    (a22 : PySem.W.nsIn K mainGlobals "_law_apart_always" = some (some (.ref f22)))
    (l22 : K.lookup f22 = some ⟨oc22, od22, .func (PySem.W.fnOf "_law_apart_always" "_law_apart_always" (defArgs s__law_apart_always) (defBody s__law_apart_always) (defScope s__law_apart_always) .none kV22 dc22 pm22 an22 cd22 ct22), sl22⟩)
    (c22 : PySem.W.codeIn K cd22 "_law_apart_always" = true)
    (k22 : PySem.W.keepIn K (.ref f22) = true)
    (a23 : PySem.W.nsIn K mainGlobals "_law_chain_right" = some (some (.ref f23)))
    (l23 : K.lookup f23 = some ⟨oc23, od23, .func (PySem.W.fnOf "_law_chain_right" "_law_chain_right" (defArgs s__law_chain_right) (defBody s__law_chain_right) (defScope s__law_chain_right) .none kV23 dc23 pm23 an23 cd23 ct23), sl23⟩)
    (c23 : PySem.W.codeIn K cd23 "_law_chain_right" = true)
    (k23 : PySem.W.keepIn K (.ref f23) = true)
    (a24 : PySem.W.nsIn K mainGlobals "_law_chain_refused" = some (some (.ref f24)))
    (l24 : K.lookup f24 = some ⟨oc24, od24, .func (PySem.W.fnOf "_law_chain_refused" "_law_chain_refused" (defArgs s__law_chain_refused) (defBody s__law_chain_refused) (defScope s__law_chain_refused) .none kV24 dc24 pm24 an24 cd24 ct24), sl24⟩)
    (c24 : PySem.W.codeIn K cd24 "_law_chain_refused" = true)
    (k24 : PySem.W.keepIn K (.ref f24) = true)
    (a25 : PySem.W.nsIn K mainGlobals "law" = some (some (.ref f25)))
    (l25 : K.lookup f25 = some ⟨oc25, od25, .func (PySem.W.fnOf "law" "law" (defArgs s_law) (defBody s_law) (defScope s_law) .none kV25 dc25 pm25 an25 cd25 ct25), sl25⟩)
    (c25 : PySem.W.codeIn K cd25 "law" = true)
    (k25 : PySem.W.keepIn K (.ref f25) = true)
    (z_abs : PySem.W.nsIn K mainGlobals "abs" = some none)
    (z_bool : PySem.W.nsIn K mainGlobals "bool" = some none)
    (z_int : PySem.W.nsIn K mainGlobals "int" = some none)
    (z_isinstance : PySem.W.nsIn K mainGlobals "isinstance" = some none)
    (z_len : PySem.W.nsIn K mainGlobals "len" = some none)
    (z_list : PySem.W.nsIn K mainGlobals "list" = some none)
    (z_min : PySem.W.nsIn K mainGlobals "min" = some none)
    (z_range : PySem.W.nsIn K mainGlobals "range" = some none)
    (z_sorted : PySem.W.nsIn K mainGlobals "sorted" = some none)
    (z_str : PySem.W.nsIn K mainGlobals "str" = some none)
    (z_sum : PySem.W.nsIn K mainGlobals "sum" = some none)
    (z_tuple : PySem.W.nsIn K mainGlobals "tuple" = some none)
    (v_HOUSES : PySem.W.nsIn K mainGlobals "HOUSES" = some (some (.int 12 t_HOUSES)))
    (aS : PySem.W.nsIn K mainGlobals "SeldomError" = some (some (.ref C0)))
    (b1 : PySem.W.readsIn K C0 (.type "type") = true)
    (b2 : PySem.W.specialIn K (.ref C0) "__getattribute__" = some (some (.builtin "type.__getattribute__")))
    (b3 : PySem.W.findCls K (.ref C0) (.type "type") "__init__" = some (.val (.builtin "ValueError.__init__")))
    (cg : PySem.W.specialIn K (.builtin "object.__class__") "__get__" = some (some (.builtin "getset_descriptor.__get__")))
    (cT : PySem.W.takesIn K (.builtin "object.__class__") = some true)
    (aCx0 : PySem.W.nsIn K mainGlobals "BadShare" = some (some (.ref C_x0)))
    (lkx0 : K.lookup C_x0 = some (excClassObj nm_x0 q_x0 C_x0 N_x0 bs_x0 [.ref C0, .type "ValueError", .type "Exception", .type "BaseException", .type "object"] true sn_x0 sub_x0 ab_x0 col_x0 dd_x0 m0_x0 m1_x0 m2_x0 m3_x0 m5_x0 "ValueError.__new__"))
    (sax0 : PySem.W.findIn K (.ref C_x0) "__setattr__" = some (some (.builtin "object.__setattr__")))
    (eCx0 : PySem.W.subIn K (.ref C_x0) (.type "BaseException") = some true)
    (tCx0 : PySem.W.typeIn K (.ref C_x0) = some (.type "type"))
    (kCx0 : PySem.W.keepIn K (.ref C_x0) = true)
    (gax0 : PySem.W.findIn K (.ref C_x0) "__getattribute__" = some (some (.builtin "BaseException.__getattribute__")))
    (ggx0 : PySem.W.findIn K (.ref C_x0) "__getattr__" = some none)
    (hdx0 : PySem.W.hasDictIn K C_x0 = true)
    (cax0 : PySem.W.findIn K (.ref C_x0) "__class__" = some (some (.builtin "object.__class__")))
    (mox0 : PySem.W.mroIn K C_x0 (.type "object") = some true)
    (nfx0 : PySem.W.findIn K (.ref C_x0) "what" = some none)
    (sfx0 : PySem.W.subIn K (.ref C_x0) (.ref C_x0) = some true)
    (iCx0 : PySem.W.findIn K (.ref C_x0) "__init__" = some (some (.ref fI_x0)))
    (tIx0 : PySem.W.typeIn K (.ref fI_x0) = some (.type "function"))
    (lix0 : K.lookup fI_x0 = some ⟨oc_x0, od_x0, .func (PySem.W.fnOf "__init__" "BadShare.__init__" (defArgs i_BadShare) (defBody i_BadShare) (defScope i_BadShare) .none kV_x0 dc_x0 pm_x0 an_x0 cd_x0 ct_x0), sl_x0⟩)
    (cix0 : PySem.W.codeIn K cd_x0 "BadShare.__init__" = true)
    (kix0 : PySem.W.keepIn K (.ref fI_x0) = true)
    (aCx1 : PySem.W.nsIn K mainGlobals "TooMany" = some (some (.ref C_x1)))
    (lkx1 : K.lookup C_x1 = some (excClassObj nm_x1 q_x1 C_x1 N_x1 bs_x1 [.ref C0, .type "ValueError", .type "Exception", .type "BaseException", .type "object"] true sn_x1 sub_x1 ab_x1 col_x1 dd_x1 m0_x1 m1_x1 m2_x1 m3_x1 m5_x1 "ValueError.__new__"))
    (sax1 : PySem.W.findIn K (.ref C_x1) "__setattr__" = some (some (.builtin "object.__setattr__")))
    (eCx1 : PySem.W.subIn K (.ref C_x1) (.type "BaseException") = some true)
    (tCx1 : PySem.W.typeIn K (.ref C_x1) = some (.type "type"))
    (kCx1 : PySem.W.keepIn K (.ref C_x1) = true)
    (gax1 : PySem.W.findIn K (.ref C_x1) "__getattribute__" = some (some (.builtin "BaseException.__getattribute__")))
    (ggx1 : PySem.W.findIn K (.ref C_x1) "__getattr__" = some none)
    (hdx1 : PySem.W.hasDictIn K C_x1 = true)
    (cax1 : PySem.W.findIn K (.ref C_x1) "__class__" = some (some (.builtin "object.__class__")))
    (mox1 : PySem.W.mroIn K C_x1 (.type "object") = some true)
    (nfx1 : PySem.W.findIn K (.ref C_x1) "what" = some none)
    (sfx1 : PySem.W.subIn K (.ref C_x1) (.ref C_x1) = some true)
    (iCx1 : PySem.W.findIn K (.ref C_x1) "__init__" = some (some (.ref fI_x1)))
    (tIx1 : PySem.W.typeIn K (.ref fI_x1) = some (.type "function"))
    (lix1 : K.lookup fI_x1 = some ⟨oc_x1, od_x1, .func (PySem.W.fnOf "__init__" "TooMany.__init__" (defArgs i_TooMany) (defBody i_TooMany) (defScope i_TooMany) .none kV_x1 dc_x1 pm_x1 an_x1 cd_x1 ct_x1), sl_x1⟩)
    (cix1 : PySem.W.codeIn K cd_x1 "TooMany.__init__" = true)
    (kix1 : PySem.W.keepIn K (.ref fI_x1) = true)
    (sb_x0_x1 : PySem.W.subIn K (.ref C_x0) (.ref C_x1) = some false)
    (sb_x1_x0 : PySem.W.subIn K (.ref C_x1) (.ref C_x0) = some false)
    (hlaw : ∀ ns : List Int, ns.length ≤ 63 → ∃ o, m_law [.imm (.rls (ns.map .int))] = .ok (.imm (.bl true)) o) :
    ∃ fd : FuncData, (∀ (s : Shared) (v : Value), BindsTo s fd ⟨[v], []⟩ [("script", v)]) ∧ ∀ base : Heap, K.In base → base.Ns mainGlobals mg → FnOk l.prog w K mg base (L2.CX l.prog w) 10 fa fd ["script"] (spLaw K) := by
  have e := hfa.symm.trans (PySem.W.mg_of X G a25)
  cases e
  have hS := PySem.W.mg_of X G aS
  have B : BaseI K C0 := ⟨b1, b2, b3⟩
  have FI_x0 := fun_mk (st := i_BadShare) lix0 cix0 kix0
  have BI_x0 := FI_x0.binds (ps := ["self", "what"]) fun _ _ _ _ _ _ us hl => match us, hl with | [_, _], _ => rfl
  have X_x0 : ∀ base : Heap, ExM l.prog w K mg base 2 "BadShare" "what" C_x0 := fun base => ExM.of_facts (PySem.W.mg_of X G aCx0) lkx0 (by rfl) sax0 eCx0 tCx0 kCx0 gax0 ggx0 hdx0 cax0 cg cT mox0 nfx0 sfx0 iCx0 tIx0 (oki_BadShare hS B FI_x0 nfx0) BI_x0
  have FI_x1 := fun_mk (st := i_TooMany) lix1 cix1 kix1
  have BI_x1 := FI_x1.binds (ps := ["self", "what"]) fun _ _ _ _ _ _ us hl => match us, hl with | [_, _], _ => rfl
  have X_x1 : ∀ base : Heap, ExM l.prog w K mg base 2 "TooMany" "what" C_x1 := fun base => ExM.of_facts (PySem.W.mg_of X G aCx1) lkx1 (by rfl) sax1 eCx1 tCx1 kCx1 gax1 ggx1 hdx1 cax1 cg cT mox1 nfx1 sfx1 iCx1 tIx1 (oki_TooMany hS B FI_x1 nfx1) BI_x1
  have T : ∀ base : Heap, Txt l.prog w K mg base (fun i => if i = 0 then C_x0 else if i = 1 then C_x1 else 0) := fun base => {
    n_abs := PySem.W.mg_none_of X G z_abs
    n_bool := PySem.W.mg_none_of X G z_bool
    n_int := PySem.W.mg_none_of X G z_int
    n_isinstance := PySem.W.mg_none_of X G z_isinstance
    n_len := PySem.W.mg_none_of X G z_len
    n_list := PySem.W.mg_none_of X G z_list
    n_min := PySem.W.mg_none_of X G z_min
    n_range := PySem.W.mg_none_of X G z_range
    n_sorted := PySem.W.mg_none_of X G z_sorted
    n_str := PySem.W.mg_none_of X G z_str
    n_sum := PySem.W.mg_none_of X G z_sum
    n_tuple := PySem.W.mg_none_of X G z_tuple
    k_FRACTION := hv_FRACTION
    k_HOUSES := ⟨_, PySem.W.mg_of X G v_HOUSES⟩
    x_BadShare := X_x0 base
    x_TooMany := X_x1 base
    ex_BadShare_TooMany := PySem.W.exm_ref eCx1 hdx1 tCx1 sb_x0_x1
    ex_TooMany_BadShare := PySem.W.exm_ref eCx0 hdx0 tCx0 sb_x1_x0
    kit_BadShare_TooMany := kit_of hdx1 tCx1 sfx1 sb_x0_x1
    kit_TooMany_BadShare := kit_of hdx0 tCx0 sfx0 sb_x1_x0
  }
  have F0 := fun_mk (st := s_greatest_common) l0 c0 k0
  have N0 : FnT K mg "greatest_common" s_greatest_common ["one", "other"] := ⟨f0, _, F0, PySem.W.mg_of X G a0, F0.binds (ps := ["one", "other"]) fun _ _ _ _ _ _ us hl => match us, hl with | [_, _], _ => rfl⟩
  have F1 := fun_mk (st := s_lowest_terms) l1 c1 k1
  have N1 : FnT K mg "lowest_terms" s_lowest_terms ["p", "q"] := ⟨f1, _, F1, PySem.W.mg_of X G a1, F1.binds (ps := ["p", "q"]) fun _ _ _ _ _ _ us hl => match us, hl with | [_, _], _ => rfl⟩
  have F2 := fun_mk (st := s_below) l2 c2 k2
  have N2 : FnT K mg "below" s_below ["one", "other"] := ⟨f2, _, F2, PySem.W.mg_of X G a2, F2.binds (ps := ["one", "other"]) fun _ _ _ _ _ _ us hl => match us, hl with | [_, _], _ => rfl⟩
  have F3 := fun_mk (st := s_is_whole) l3 c3 k3
  have N3 : FnT K mg "is_whole" s_is_whole ["value"] := ⟨f3, _, F3, PySem.W.mg_of X G a3, F3.binds (ps := ["value"]) fun _ _ _ _ _ _ us hl => match us, hl with | [_], _ => rfl⟩
  have F4 := fun_mk (st := s_whole_from) l4 c4 k4
  have N4 : FnT K mg "whole_from" s_whole_from ["value", "least"] := ⟨f4, _, F4, PySem.W.mg_of X G a4, F4.binds (ps := ["value", "least"]) fun _ _ _ _ _ _ us hl => match us, hl with | [_, _], _ => rfl⟩
  have F5 := fun_mk (st := s_check_most) l5 c5 k5
  have N5 : FnT K mg "check_most" s_check_most ["what", "many", "most"] := ⟨f5, _, F5, PySem.W.mg_of X G a5, F5.binds (ps := ["what", "many", "most"]) fun _ _ _ _ _ _ us hl => match us, hl with | [_, _, _], _ => rfl⟩
  have F6 := fun_mk (st := s_check_numbers) l6 c6 k6
  have N6 : FnT K mg "check_numbers" s_check_numbers ["what", "numbers", "most"] := ⟨f6, _, F6, PySem.W.mg_of X G a6, F6.binds (ps := ["what", "numbers", "most"]) fun _ _ _ _ _ _ us hl => match us, hl with | [_, _, _], _ => rfl⟩
  have F7 := fun_mk (st := s_add_fractions) l7 c7 k7
  have N7 : FnT K mg "add_fractions" s_add_fractions ["one", "other"] := ⟨f7, _, F7, PySem.W.mg_of X G a7, F7.binds (ps := ["one", "other"]) fun _ _ _ _ _ _ us hl => match us, hl with | [_, _], _ => rfl⟩
  have F8 := fun_mk (st := s_sum_of_shares) l8 c8 k8
  have N8 : FnT K mg "sum_of_shares" s_sum_of_shares ["shares"] := ⟨f8, _, F8, PySem.W.mg_of X G a8, F8.binds (ps := ["shares"]) fun _ _ _ _ _ _ us hl => match us, hl with | [_], _ => rfl⟩
  have F9 := fun_mk (st := s_check_periods) l9 c9 k9
  have N9 : FnT K mg "check_periods" s_check_periods ["periods"] := ⟨f9, _, F9, PySem.W.mg_of X G a9, F9.binds (ps := ["periods"]) fun _ _ _ _ _ _ us hl => match us, hl with | [_], _ => rfl⟩
  have F10 := fun_mk (st := s_phase_at) l10 c10 k10
  have N10 : FnT K mg "phase_at" s_phase_at ["ascending", "at"] := ⟨f10, _, F10, PySem.W.mg_of X G a10, F10.binds (ps := ["ascending", "at"]) fun _ _ _ _ _ _ us hl => match us, hl with | [_, _], _ => rfl⟩
  have F11 := fun_mk (st := s_chain_phases) l11 c11 k11
  have N11 : FnT K mg "chain_phases" s_chain_phases ["periods"] := ⟨f11, _, F11, PySem.W.mg_of X G a11, F11.binds (ps := ["periods"]) fun _ _ _ _ _ _ us hl => match us, hl with | [_], _ => rfl⟩
  have F12 := fun_mk (st := s__law_purse) l12 c12 k12
  have N12 : FnT K mg "_law_purse" s__law_purse ["script", "at"] := ⟨f12, _, F12, PySem.W.mg_of X G a12, F12.binds (ps := ["script", "at"]) fun _ _ _ _ _ _ us hl => match us, hl with | [_, _], _ => rfl⟩
  have F13 := fun_mk (st := s__law_draw) l13 c13 k13
  have N13 : FnT K mg "_law_draw" s__law_draw ["purse", "many"] := ⟨f13, _, F13, PySem.W.mg_of X G a13, F13.binds (ps := ["purse", "many"]) fun _ _ _ _ _ _ us hl => match us, hl with | [_, _], _ => rfl⟩
  have F14 := fun_mk (st := s__law_mix) l14 c14 k14
  have N14 : FnT K mg "_law_mix" s__law_mix ["purse", "things"] := ⟨f14, _, F14, PySem.W.mg_of X G a14, F14.binds (ps := ["purse", "things"]) fun _ _ _ _ _ _ us hl => match us, hl with | [_, _], _ => rfl⟩
  have F15 := fun_mk (st := s__law_whole) l15 c15 k15
  have N15 : FnT K mg "_law_whole" s__law_whole ["value"] := ⟨f15, _, F15, PySem.W.mg_of X G a15, F15.binds (ps := ["value"]) fun _ _ _ _ _ _ us hl => match us, hl with | [_], _ => rfl⟩
  have F16 := fun_mk (st := s__law_gcd) l16 c16 k16
  have N16 : FnT K mg "_law_gcd" s__law_gcd ["one", "other"] := ⟨f16, _, F16, PySem.W.mg_of X G a16, F16.binds (ps := ["one", "other"]) fun _ _ _ _ _ _ us hl => match us, hl with | [_, _], _ => rfl⟩
  have F17 := fun_mk (st := s__law_lowest) l17 c17 k17
  have N17 : FnT K mg "_law_lowest" s__law_lowest ["p", "q"] := ⟨f17, _, F17, PySem.W.mg_of X G a17, F17.binds (ps := ["p", "q"]) fun _ _ _ _ _ _ us hl => match us, hl with | [_, _], _ => rfl⟩
  have F18 := fun_mk (st := s__law_fraction_is) l18 c18 k18
  have N18 : FnT K mg "_law_fraction_is" s__law_fraction_is ["value", "due"] := ⟨f18, _, F18, PySem.W.mg_of X G a18, F18.binds (ps := ["value", "due"]) fun _ _ _ _ _ _ us hl => match us, hl with | [_, _], _ => rfl⟩
  have F19 := fun_mk (st := s__law_sum_of) l19 c19 k19
  have N19 : FnT K mg "_law_sum_of" s__law_sum_of ["fractions"] := ⟨f19, _, F19, PySem.W.mg_of X G a19, F19.binds (ps := ["fractions"]) fun _ _ _ _ _ _ us hl => match us, hl with | [_], _ => rfl⟩
  have F20 := fun_mk (st := s__law_chain) l20 c20 k20
  have N20 : FnT K mg "_law_chain" s__law_chain ["periods"] := ⟨f20, _, F20, PySem.W.mg_of X G a20, F20.binds (ps := ["periods"]) fun _ _ _ _ _ _ us hl => match us, hl with | [_], _ => rfl⟩
  have F21 := fun_mk (st := s__law_periods) l21 c21 k21
  have N21 : FnT K mg "_law_periods" s__law_periods ["purse", "turn"] := ⟨f21, _, F21, PySem.W.mg_of X G a21, F21.binds (ps := ["purse", "turn"]) fun _ _ _ _ _ _ us hl => match us, hl with | [_, _], _ => rfl⟩
  have F22 := fun_mk (st := s__law_apart_always) l22 c22 k22
  have N22 : FnT K mg "_law_apart_always" s__law_apart_always ["periods", "phases"] := ⟨f22, _, F22, PySem.W.mg_of X G a22, F22.binds (ps := ["periods", "phases"]) fun _ _ _ _ _ _ us hl => match us, hl with | [_, _], _ => rfl⟩
  have F23 := fun_mk (st := s__law_chain_right) l23 c23 k23
  have N23 : FnT K mg "_law_chain_right" s__law_chain_right ["periods"] := ⟨f23, _, F23, PySem.W.mg_of X G a23, F23.binds (ps := ["periods"]) fun _ _ _ _ _ _ us hl => match us, hl with | [_], _ => rfl⟩
  have F24 := fun_mk (st := s__law_chain_refused) l24 c24 k24
  have N24 : FnT K mg "_law_chain_refused" s__law_chain_refused ["purse", "periods"] := ⟨f24, _, F24, PySem.W.mg_of X G a24, F24.binds (ps := ["purse", "periods"]) fun _ _ _ _ _ _ us hl => match us, hl with | [_, _], _ => rfl⟩
  refine ⟨PySem.W.fnOf "law" "law" (defArgs s_law) (defBody s_law) (defScope s_law) .none kV25 dc25 pm25 an25 cd25 ct25, fun s v => .of_eq rfl, fun base _ _ => ?_⟩
  have O_greatest_common := ok_greatest_common (T base) N0 
  have O_below := ok_below (T base) N2 
  have O_is_whole := ok_is_whole (T base) N3 
  have O_phase_at := ok_phase_at (T base) N10 
  have O__law_purse := ok__law_purse (T base) N12 
  have O__law_draw := ok__law_draw (T base) N13 
  have O__law_whole := ok__law_whole (T base) N15 
  have O__law_gcd := ok__law_gcd (T base) N16 
  have O_lowest_terms := ok_lowest_terms (T base) N1 O_greatest_common
  have O_whole_from := ok_whole_from (T base) N4 O_is_whole
  have O__law_mix := ok__law_mix (T base) N14 O__law_draw
  have O__law_lowest := ok__law_lowest (T base) N17 O__law_gcd
  have O__law_fraction_is := ok__law_fraction_is (T base) N18 O__law_whole
  have O__law_apart_always := ok__law_apart_always (T base) N22 O__law_whole
  have O_add_fractions := ok_add_fractions (T base) N7 O_lowest_terms
  have O__law_sum_of := ok__law_sum_of (T base) N19 O__law_lowest
  have O__law_periods := ok__law_periods (T base) N21 O__law_draw O__law_mix
  have O_check_most := ok_check_most (T base) N5 
  have O_sum_of_shares := ok_sum_of_shares (T base) N8 O_add_fractions
  have O_check_numbers := ok_check_numbers (T base) N6 O_check_most
  have O_check_periods := ok_check_periods (T base) N9 O_check_most O_check_numbers O_whole_from
  have O_chain_phases := ok_chain_phases (T base) N11 O_below O_check_periods O_phase_at O_sum_of_shares
  have O__law_chain := ok__law_chain (T base) N20 O_chain_phases
  have O__law_chain_right := ok__law_chain_right (T base) N23 O__law_apart_always O__law_chain O__law_fraction_is O__law_sum_of
  have O__law_chain_refused := ok__law_chain_refused (T base) N24 O__law_chain O__law_draw O__law_mix
  exact (ok_law (T base) (fun_mk (st := s_law) l25 c25 k25) O__law_chain_refused O__law_chain_right O__law_periods O__law_purse).imp (law_end hlaw)
end Lw
end

section
set_option Elab.async false
set_option linter.all false
set_option maxRecDepth 100000
set_option maxHeartbeats 4000000
set_option autoImplicit false
open PySem L2 Cv
namespace Lw
/-- a purse -/
abbrev pu (a b c : Int) : D := .lst [.int a, .int b, .int c]
theorem r_draw (a b c many : Int) (hm : 0 < many) (hs : many < 18446744073709551616) : ∃ r a' b' c', 0 ≤ r ∧ r < many ∧
    m__law_draw [.par (.lst [.int a, .int b, .int c]), .imm (.int many)] = .ok (.imm (.int r)) [.par (.lst [.int a', .int b', .int c']), .imm (.int many)] := by
  by_cases h : 0 < a
  · refine ⟨a % many, a / many, b, c, Int.emod_nonneg _ (by omega), Int.emod_lt_of_pos _ hm, ?_⟩
    simp [m__law_draw, b__law_draw, mDef, outsOf, sSeq, sIf, sDrop, sRet, sRetN, sRetF, sRetO, sAsg, sAsgF, sAsgR, sPar, sSetIx, sAugIx, sAug, sRaise, sNext, sBrk, sCont, sFor, sSpoilA, sSpoilP, sTry, sHand, Fl.clr, suRet, suRetT, xFld, xC, liftP, liftT, okF, Res.bind, RP.bind, Res.of, RP.of, pVar, pC, p1, p2, pN, pAnd, pOr, pIf, pNil, pCons, pTup, pLst, pCall, qB, qAnd, qOr, qNot, dNot, eVar, Cv.e1, Cv.e2, eAnd, eOr, eIf, tBm, tAndm, tOrm, tNotm, vNil, vCons, aNil, aV, aS, eTup, fLst, eOfF, cOfF, cOfE, cVar, rNil, rE, rF, td_lst, mf_lst, dSub, dAdd, dFdiv, dMod, dNeg, dLt, dLe, dGt, dGe, dIsN, dNotN, dInt, dAbs, dMin2, dMax2, dLen, tyName, dIsi, dIx, eIx, cIx, cS, cL, sLen, sSum, lAll, kVar, kLst, kRep, kCat, kCut, fOfK, fCut, oNo, oI, fListP, itemsD, Sl.mo, Sl.put, ownL, setL, eApp, ePop, ePopAt, gN, gT, gsNil, gsCons, iR1, iR2, iLst, iTupl, eCall, fCall, slotsOf, argSl, putB, wCallT, eOfW, fOfW, unfre, qVar, qIx, freAt, lstOf, fl_non, fl_bl, fl_int, fl_str, fl_lst, fl_tup, fl_rls, tYesm, atI, ixN, h, hm, cdivW_of hm hs]
  · refine ⟨((b * 48271 + (c + 1) * 69621) % 2147483647 * 16807 + (c + 1) * 7919) % 2147483629 / 8 % many, a, (b * 48271 + (c + 1) * 69621) % 2147483647, c + 1, Int.emod_nonneg _ (by omega), Int.emod_lt_of_pos _ hm, ?_⟩
    simp [m__law_draw, b__law_draw, mDef, outsOf, sSeq, sIf, sDrop, sRet, sRetN, sRetF, sRetO, sAsg, sAsgF, sAsgR, sPar, sSetIx, sAugIx, sAug, sRaise, sNext, sBrk, sCont, sFor, sSpoilA, sSpoilP, sTry, sHand, Fl.clr, suRet, suRetT, xFld, xC, liftP, liftT, okF, Res.bind, RP.bind, Res.of, RP.of, pVar, pC, p1, p2, pN, pAnd, pOr, pIf, pNil, pCons, pTup, pLst, pCall, qB, qAnd, qOr, qNot, dNot, eVar, Cv.e1, Cv.e2, eAnd, eOr, eIf, tBm, tAndm, tOrm, tNotm, vNil, vCons, aNil, aV, aS, eTup, fLst, eOfF, cOfF, cOfE, cVar, rNil, rE, rF, td_lst, mf_lst, dSub, dAdd, dFdiv, dMod, dNeg, dLt, dLe, dGt, dGe, dIsN, dNotN, dInt, dAbs, dMin2, dMax2, dLen, tyName, dIsi, dIx, eIx, cIx, cS, cL, sLen, sSum, lAll, kVar, kLst, kRep, kCat, kCut, fOfK, fCut, oNo, oI, fListP, itemsD, Sl.mo, Sl.put, ownL, setL, eApp, ePop, ePopAt, gN, gT, gsNil, gsCons, iR1, iR2, iLst, iTupl, eCall, fCall, slotsOf, argSl, putB, wCallT, eOfW, fOfW, unfre, qVar, qIx, freAt, lstOf, fl_non, fl_bl, fl_int, fl_str, fl_lst, fl_tup, fl_rls, tYesm, atI, ixN, h, hm, dMul_r, cdivW_of]
theorem r_is_whole (i : Int) : m_is_whole [.imm (.int i)] = .ok (.imm (.bl true)) [.imm (.int i)] := by
  simp [m_is_whole, b_is_whole, mDef, outsOf, sSeq, sIf, sDrop, sRet, sRetN, sRetF, sRetO, sAsg, sAsgF, sAsgR, sPar, sSetIx, sAugIx, sAug, sRaise, sNext, sBrk, sCont, sFor, sSpoilA, sSpoilP, sTry, sHand, Fl.clr, suRet, suRetT, xFld, xC, liftP, liftT, okF, Res.bind, RP.bind, Res.of, RP.of, pVar, pC, p1, p2, pN, pAnd, pOr, pIf, pNil, pCons, pTup, pLst, pCall, qB, qAnd, qOr, qNot, dNot, eVar, Cv.e1, Cv.e2, eAnd, eOr, eIf, tBm, tAndm, tOrm, tNotm, vNil, vCons, aNil, aV, aS, eTup, fLst, eOfF, cOfF, cOfE, cVar, rNil, rE, rF, td_lst, mf_lst, dSub, dAdd, dFdiv, dMod, dNeg, dLt, dLe, dGt, dGe, dIsN, dNotN, dInt, dAbs, dMin2, dMax2, dLen, tyName, dIsi, dIx, eIx, cIx, cS, cL, sLen, sSum, lAll, kVar, kLst, kRep, kCat, kCut, fOfK, fCut, oNo, oI, fListP, itemsD, Sl.mo, Sl.put, ownL, setL, eApp, ePop, ePopAt, gN, gT, gsNil, gsCons, iR1, iR2, iLst, iTupl, eCall, fCall, slotsOf, argSl, putB, wCallT, eOfW, fOfW, unfre, qVar, qIx, freAt, lstOf, fl_non, fl_bl, fl_int, fl_str, fl_lst, fl_tup, fl_rls, tYesm, kb1, kb2]
theorem r_is_whole_b (i : Bool) : m_is_whole [.imm (.bl i)] = .ok (.imm (.bl false)) [.imm (.bl i)] := by
  simp [m_is_whole, b_is_whole, mDef, outsOf, sSeq, sIf, sDrop, sRet, sRetN, sRetF, sRetO, sAsg, sAsgF, sAsgR, sPar, sSetIx, sAugIx, sAug, sRaise, sNext, sBrk, sCont, sFor, sSpoilA, sSpoilP, sTry, sHand, Fl.clr, suRet, suRetT, xFld, xC, liftP, liftT, okF, Res.bind, RP.bind, Res.of, RP.of, pVar, pC, p1, p2, pN, pAnd, pOr, pIf, pNil, pCons, pTup, pLst, pCall, qB, qAnd, qOr, qNot, dNot, eVar, Cv.e1, Cv.e2, eAnd, eOr, eIf, tBm, tAndm, tOrm, tNotm, vNil, vCons, aNil, aV, aS, eTup, fLst, eOfF, cOfF, cOfE, cVar, rNil, rE, rF, td_lst, mf_lst, dSub, dAdd, dFdiv, dMod, dNeg, dLt, dLe, dGt, dGe, dIsN, dNotN, dInt, dAbs, dMin2, dMax2, dLen, tyName, dIsi, dIx, eIx, cIx, cS, cL, sLen, sSum, lAll, kVar, kLst, kRep, kCat, kCut, fOfK, fCut, oNo, oI, fListP, itemsD, Sl.mo, Sl.put, ownL, setL, eApp, ePop, ePopAt, gN, gT, gsNil, gsCons, iR1, iR2, iLst, iTupl, eCall, fCall, slotsOf, argSl, putB, wCallT, eOfW, fOfW, unfre, qVar, qIx, freAt, lstOf, fl_non, fl_bl, fl_int, fl_str, fl_lst, fl_tup, fl_rls, tYesm, kb3, kb4]
theorem r_law_whole (i : Int) : m__law_whole [.imm (.int i)] = .ok (.imm (.bl true)) [.imm (.int i)] := by
  simp [m__law_whole, b__law_whole, mDef, outsOf, sSeq, sIf, sDrop, sRet, sRetN, sRetF, sRetO, sAsg, sAsgF, sAsgR, sPar, sSetIx, sAugIx, sAug, sRaise, sNext, sBrk, sCont, sFor, sSpoilA, sSpoilP, sTry, sHand, Fl.clr, suRet, suRetT, xFld, xC, liftP, liftT, okF, Res.bind, RP.bind, Res.of, RP.of, pVar, pC, p1, p2, pN, pAnd, pOr, pIf, pNil, pCons, pTup, pLst, pCall, qB, qAnd, qOr, qNot, dNot, eVar, Cv.e1, Cv.e2, eAnd, eOr, eIf, tBm, tAndm, tOrm, tNotm, vNil, vCons, aNil, aV, aS, eTup, fLst, eOfF, cOfF, cOfE, cVar, rNil, rE, rF, td_lst, mf_lst, dSub, dAdd, dFdiv, dMod, dNeg, dLt, dLe, dGt, dGe, dIsN, dNotN, dInt, dAbs, dMin2, dMax2, dLen, tyName, dIsi, dIx, eIx, cIx, cS, cL, sLen, sSum, lAll, kVar, kLst, kRep, kCat, kCut, fOfK, fCut, oNo, oI, fListP, itemsD, Sl.mo, Sl.put, ownL, setL, eApp, ePop, ePopAt, gN, gT, gsNil, gsCons, iR1, iR2, iLst, iTupl, eCall, fCall, slotsOf, argSl, putB, wCallT, eOfW, fOfW, unfre, qVar, qIx, freAt, lstOf, fl_non, fl_bl, fl_int, fl_str, fl_lst, fl_tup, fl_rls, tYesm, kb1, kb2]
theorem r_whole_from (i j : Int) : m_whole_from [.imm (.int i), .imm (.int j)] = .ok (.imm (.bl (decide (j ≤ i)))) [.imm (.int i), .imm (.int j)] := by
  simp [m_whole_from, b_whole_from, mDef, outsOf, sSeq, sIf, sDrop, sRet, sRetN, sRetF, sRetO, sAsg, sAsgF, sAsgR, sPar, sSetIx, sAugIx, sAug, sRaise, sNext, sBrk, sCont, sFor, sSpoilA, sSpoilP, sTry, sHand, Fl.clr, suRet, suRetT, xFld, xC, liftP, liftT, okF, Res.bind, RP.bind, Res.of, RP.of, pVar, pC, p1, p2, pN, pAnd, pOr, pIf, pNil, pCons, pTup, pLst, pCall, qB, qAnd, qOr, qNot, dNot, eVar, Cv.e1, Cv.e2, eAnd, eOr, eIf, tBm, tAndm, tOrm, tNotm, vNil, vCons, aNil, aV, aS, eTup, fLst, eOfF, cOfF, cOfE, cVar, rNil, rE, rF, td_lst, mf_lst, dSub, dAdd, dFdiv, dMod, dNeg, dLt, dLe, dGt, dGe, dIsN, dNotN, dInt, dAbs, dMin2, dMax2, dLen, tyName, dIsi, dIx, eIx, cIx, cS, cL, sLen, sSum, lAll, kVar, kLst, kRep, kCat, kCut, fOfK, fCut, oNo, oI, fListP, itemsD, Sl.mo, Sl.put, ownL, setL, eApp, ePop, ePopAt, gN, gT, gsNil, gsCons, iR1, iR2, iLst, iTupl, eCall, fCall, slotsOf, argSl, putB, wCallT, eOfW, fOfW, unfre, qVar, qIx, freAt, lstOf, fl_non, fl_bl, fl_int, fl_str, fl_lst, fl_tup, fl_rls, tYesm, r_is_whole]
theorem r_whole_from_b (i : Bool) (j : Int) : m_whole_from [.imm (.bl i), .imm (.int j)] = .ok (.imm (.bl false)) [.imm (.bl i), .imm (.int j)] := by
  simp [m_whole_from, b_whole_from, mDef, outsOf, sSeq, sIf, sDrop, sRet, sRetN, sRetF, sRetO, sAsg, sAsgF, sAsgR, sPar, sSetIx, sAugIx, sAug, sRaise, sNext, sBrk, sCont, sFor, sSpoilA, sSpoilP, sTry, sHand, Fl.clr, suRet, suRetT, xFld, xC, liftP, liftT, okF, Res.bind, RP.bind, Res.of, RP.of, pVar, pC, p1, p2, pN, pAnd, pOr, pIf, pNil, pCons, pTup, pLst, pCall, qB, qAnd, qOr, qNot, dNot, eVar, Cv.e1, Cv.e2, eAnd, eOr, eIf, tBm, tAndm, tOrm, tNotm, vNil, vCons, aNil, aV, aS, eTup, fLst, eOfF, cOfF, cOfE, cVar, rNil, rE, rF, td_lst, mf_lst, dSub, dAdd, dFdiv, dMod, dNeg, dLt, dLe, dGt, dGe, dIsN, dNotN, dInt, dAbs, dMin2, dMax2, dLen, tyName, dIsi, dIx, eIx, cIx, cS, cL, sLen, sSum, lAll, kVar, kLst, kRep, kCat, kCut, fOfK, fCut, oNo, oI, fListP, itemsD, Sl.mo, Sl.put, ownL, setL, eApp, ePop, ePopAt, gN, gT, gsNil, gsCons, iR1, iR2, iLst, iTupl, eCall, fCall, slotsOf, argSl, putB, wCallT, eOfW, fOfW, unfre, qVar, qIx, freAt, lstOf, fl_non, fl_bl, fl_int, fl_str, fl_lst, fl_tup, fl_rls, tYesm, r_is_whole_b]
theorem r_check_most (w : Str) (i m : Int) : m_check_most [.imm (.str w), .imm (.int i), .imm (.int m)] = if m < i then .exc ⟨"TooMany", [("what", .str w)]⟩ [.imm (.str w), .imm (.int i), .imm (.int m)] else .ok (.imm .non) [.imm (.str w), .imm (.int i), .imm (.int m)] := by
  by_cases h : m < i <;> simp [m_check_most, b_check_most, mDef, outsOf, sSeq, sIf, sDrop, sRet, sRetN, sRetF, sRetO, sAsg, sAsgF, sAsgR, sPar, sSetIx, sAugIx, sAug, sRaise, sNext, sBrk, sCont, sFor, sSpoilA, sSpoilP, sTry, sHand, Fl.clr, suRet, suRetT, xFld, xC, liftP, liftT, okF, Res.bind, RP.bind, Res.of, RP.of, pVar, pC, p1, p2, pN, pAnd, pOr, pIf, pNil, pCons, pTup, pLst, pCall, qB, qAnd, qOr, qNot, dNot, eVar, Cv.e1, Cv.e2, eAnd, eOr, eIf, tBm, tAndm, tOrm, tNotm, vNil, vCons, aNil, aV, aS, eTup, fLst, eOfF, cOfF, cOfE, cVar, rNil, rE, rF, td_lst, mf_lst, dSub, dAdd, dFdiv, dMod, dNeg, dLt, dLe, dGt, dGe, dIsN, dNotN, dInt, dAbs, dMin2, dMax2, dLen, tyName, dIsi, dIx, eIx, cIx, cS, cL, sLen, sSum, lAll, kVar, kLst, kRep, kCat, kCut, fOfK, fCut, oNo, oI, fListP, itemsD, Sl.mo, Sl.put, ownL, setL, eApp, ePop, ePopAt, gN, gT, gsNil, gsCons, iR1, iR2, iLst, iTupl, eCall, fCall, slotsOf, argSl, putB, wCallT, eOfW, fOfW, unfre, qVar, qIx, freAt, lstOf, fl_non, fl_bl, fl_int, fl_str, fl_lst, fl_tup, fl_rls, tYesm, kb1, kb2, h]
theorem r_check_most_b (w : Str) (i : Bool) (m : Int) : m_check_most [.imm (.str w), .imm (.bl i), .imm (.int m)] = .ok (.imm .non) [.imm (.str w), .imm (.bl i), .imm (.int m)] := by
  simp [m_check_most, b_check_most, mDef, outsOf, sSeq, sIf, sDrop, sRet, sRetN, sRetF, sRetO, sAsg, sAsgF, sAsgR, sPar, sSetIx, sAugIx, sAug, sRaise, sNext, sBrk, sCont, sFor, sSpoilA, sSpoilP, sTry, sHand, Fl.clr, suRet, suRetT, xFld, xC, liftP, liftT, okF, Res.bind, RP.bind, Res.of, RP.of, pVar, pC, p1, p2, pN, pAnd, pOr, pIf, pNil, pCons, pTup, pLst, pCall, qB, qAnd, qOr, qNot, dNot, eVar, Cv.e1, Cv.e2, eAnd, eOr, eIf, tBm, tAndm, tOrm, tNotm, vNil, vCons, aNil, aV, aS, eTup, fLst, eOfF, cOfF, cOfE, cVar, rNil, rE, rF, td_lst, mf_lst, dSub, dAdd, dFdiv, dMod, dNeg, dLt, dLe, dGt, dGe, dIsN, dNotN, dInt, dAbs, dMin2, dMax2, dLen, tyName, dIsi, dIx, eIx, cIx, cS, cL, sLen, sSum, lAll, kVar, kLst, kRep, kCat, kCut, fOfK, fCut, oNo, oI, fListP, itemsD, Sl.mo, Sl.put, ownL, setL, eApp, ePop, ePopAt, gN, gT, gsNil, gsCons, iR1, iR2, iLst, iTupl, eCall, fCall, slotsOf, argSl, putB, wCallT, eOfW, fOfW, unfre, qVar, qIx, freAt, lstOf, fl_non, fl_bl, fl_int, fl_str, fl_lst, fl_tup, fl_rls, tYesm, kb3, kb4]

theorem cut_ints (ns : List Int) (lo hi : Option Int) : ∃ ms : List Int, cutD (ns.map .int) lo hi = ms.map .int ∧ ms.length ≤ ns.length := by
  refine ⟨(ns.drop (HT.sIx (ns.map D.int).length 0 lo)).take (HT.sIx (ns.map D.int).length (ns.map D.int).length hi - HT.sIx (ns.map D.int).length 0 lo), ?_, ?_⟩
  · unfold cutD; rw [List.map_take, List.map_drop]
  · rw [List.length_take, List.length_drop]; omega
theorem r_cell (ns : List Int) (hn : ns.length ≤ 63) (t : Nat) : ∃ cell : Int, (eIf (liftT (qB (p2 dLt (pVar 1) (pN dLen (pCons (pVar 0) pNil))))) (liftP (pN dInt (pCons (p2 dIx (pVar 0) (pVar 1)) pNil))) (e2 dMul (liftP (pC (.int 31))) (cS sSum (cOfF (fLc (iLst (eOfF (fCut (cVar 0) oNo (oI (pC (.int 4)))))) [4] (gN 4) tYesm (liftP (pN dInt (pCons (pVar 4) pNil)))))))) [.imm (.rls (ns.map .int)), .imm (.int t), .none, .none, .none] = .ok (.int cell) [.imm (.rls (ns.map .int)), .imm (.int t), .none, .none, .none] := by
  by_cases h : t < ns.length
  · have hx : atI (ns.map D.int) (t : Int) = some (.int ns[t]) := atI_of rfl (by simp [h])
    exact ⟨ns[t], by simp [mDef, outsOf, sSeq, sIf, sDrop, sRet, sRetN, sRetF, sRetO, sAsg, sAsgF, sAsgR, sPar, sSetIx, sAugIx, sAug, sRaise, sNext, sBrk, sCont, sFor, sSpoilA, sSpoilP, sTry, sHand, Fl.clr, suRet, suRetT, xFld, xC, liftP, liftT, okF, Res.bind, RP.bind, Res.of, RP.of, pVar, pC, p1, p2, pN, pAnd, pOr, pIf, pNil, pCons, pTup, pLst, pCall, qB, qAnd, qOr, qNot, dNot, eVar, Cv.e1, Cv.e2, eAnd, eOr, eIf, tBm, tAndm, tOrm, tNotm, vNil, vCons, aNil, aV, aS, eTup, fLst, eOfF, cOfF, cOfE, cVar, rNil, rE, rF, td_lst, mf_lst, dSub, dAdd, dFdiv, dMod, dNeg, dLt, dLe, dGt, dGe, dIsN, dNotN, dInt, dAbs, dMin2, dMax2, dLen, tyName, dIsi, dIx, eIx, cIx, cS, cL, sLen, sSum, lAll, kVar, kLst, kRep, kCat, kCut, fOfK, fCut, oNo, oI, fListP, itemsD, Sl.mo, Sl.put, ownL, setL, eApp, ePop, ePopAt, gN, gT, gsNil, gsCons, iR1, iR2, iLst, iTupl, eCall, fCall, slotsOf, argSl, putB, wCallT, eOfW, fOfW, unfre, qVar, qIx, freAt, lstOf, fl_non, fl_bl, fl_int, fl_str, fl_lst, fl_tup, fl_rls, tYesm, h, hx]⟩
  · obtain ⟨ms, e1, e2⟩ := cut_ints ns none (some 4)
    have hc := fLc_map (vs := [4]) (src := iLst (eOfF (fCut (cVar 0) oNo (oI (pC (.int 4)))))) (tg := gN 4) (test := tYesm) (elt := liftP (pN dInt (pCons (pVar 4) pNil))) (e := [.imm (.rls (ns.map .int)), .imm (.int t), .none, .none, .none]) (e1 := [.imm (.rls (ns.map .int)), .imm (.int t), .none, .none, .none]) (ds := ms.map .int) (fun d => d)
      (by simp [mDef, outsOf, sSeq, sIf, sDrop, sRet, sRetN, sRetF, sRetO, sAsg, sAsgF, sAsgR, sPar, sSetIx, sAugIx, sAug, sRaise, sNext, sBrk, sCont, sFor, sSpoilA, sSpoilP, sTry, sHand, Fl.clr, suRet, suRetT, xFld, xC, liftP, liftT, okF, Res.bind, RP.bind, Res.of, RP.of, pVar, pC, p1, p2, pN, pAnd, pOr, pIf, pNil, pCons, pTup, pLst, pCall, qB, qAnd, qOr, qNot, dNot, eVar, Cv.e1, Cv.e2, eAnd, eOr, eIf, tBm, tAndm, tOrm, tNotm, vNil, vCons, aNil, aV, aS, eTup, fLst, eOfF, cOfF, cOfE, cVar, rNil, rE, rF, td_lst, mf_lst, dSub, dAdd, dFdiv, dMod, dNeg, dLt, dLe, dGt, dGe, dIsN, dNotN, dInt, dAbs, dMin2, dMax2, dLen, tyName, dIsi, dIx, eIx, cIx, cS, cL, sLen, sSum, lAll, kVar, kLst, kRep, kCat, kCut, fOfK, fCut, oNo, oI, fListP, itemsD, Sl.mo, Sl.put, ownL, setL, eApp, ePop, ePopAt, gN, gT, gsNil, gsCons, iR1, iR2, iLst, iTupl, eCall, fCall, slotsOf, argSl, putB, wCallT, eOfW, fOfW, unfre, qVar, qIx, freAt, lstOf, fl_non, fl_bl, fl_int, fl_str, fl_lst, fl_tup, fl_rls, tYesm, e1]) rfl (fun d hd => by
        obtain ⟨i, _, rfl⟩ := List.mem_map.mp hd
        exact ⟨_, rfl, rfl, rfl, rfl, rfl⟩) (le_line (by simp; omega))
    refine ⟨31 * ms.sum, ?_⟩
    simp only [List.map_id'] at hc
    simp [mDef, outsOf, sSeq, sIf, sDrop, sRet, sRetN, sRetF, sRetO, sAsg, sAsgF, sAsgR, sPar, sSetIx, sAugIx, sAug, sRaise, sNext, sBrk, sCont, sFor, sSpoilA, sSpoilP, sTry, sHand, Fl.clr, suRet, suRetT, xFld, xC, liftP, liftT, okF, Res.bind, RP.bind, Res.of, RP.of, pVar, pC, p1, p2, pN, pAnd, pOr, pIf, pNil, pCons, pTup, pLst, pCall, qB, qAnd, qOr, qNot, dNot, eVar, Cv.e1, Cv.e2, eAnd, eOr, eIf, tBm, tAndm, tOrm, tNotm, vNil, vCons, aNil, aV, aS, eTup, fLst, eOfF, cOfF, cOfE, cVar, rNil, rE, rF, td_lst, mf_lst, dSub, dAdd, dFdiv, dMod, dNeg, dLt, dLe, dGt, dGe, dIsN, dNotN, dInt, dAbs, dMin2, dMax2, dLen, tyName, dIsi, dIx, eIx, cIx, cS, cL, sLen, sSum, lAll, kVar, kLst, kRep, kCat, kCut, fOfK, fCut, oNo, oI, fListP, itemsD, Sl.mo, Sl.put, ownL, setL, eApp, ePop, ePopAt, gN, gT, gsNil, gsCons, iR1, iR2, iLst, iTupl, eCall, fCall, slotsOf, argSl, putB, wCallT, eOfW, fOfW, unfre, qVar, qIx, freAt, lstOf, fl_non, fl_bl, fl_int, fl_str, fl_lst, fl_tup, fl_rls, tYesm, h, hc, Cv.rest, wipeE, intsD_map, dMul_l]
theorem r_size (c t : Int) (x : D) : ∃ s : Int, (liftP (p2 dAdd (p2 dMul (pC (.int 2)) (pN dAbs (pCons (pVar 2) pNil))) (pIf (qB (p2 dLt (pVar 2) (pC (.int 0)))) (pC (.int 1)) (pC (.int 0))))) [.imm x, .imm (.int t), .imm (.int c), .none, .none] = .ok (.int s) [.imm x, .imm (.int t), .imm (.int c), .none, .none] := by
  by_cases h : c < 0
  · exact ⟨2 * -c + 1, by simp [mDef, outsOf, sSeq, sIf, sDrop, sRet, sRetN, sRetF, sRetO, sAsg, sAsgF, sAsgR, sPar, sSetIx, sAugIx, sAug, sRaise, sNext, sBrk, sCont, sFor, sSpoilA, sSpoilP, sTry, sHand, Fl.clr, suRet, suRetT, xFld, xC, liftP, liftT, okF, Res.bind, RP.bind, Res.of, RP.of, pVar, pC, p1, p2, pN, pAnd, pOr, pIf, pNil, pCons, pTup, pLst, pCall, qB, qAnd, qOr, qNot, dNot, eVar, Cv.e1, Cv.e2, eAnd, eOr, eIf, tBm, tAndm, tOrm, tNotm, vNil, vCons, aNil, aV, aS, eTup, fLst, eOfF, cOfF, cOfE, cVar, rNil, rE, rF, td_lst, mf_lst, dSub, dAdd, dFdiv, dMod, dNeg, dLt, dLe, dGt, dGe, dIsN, dNotN, dInt, dAbs, dMin2, dMax2, dLen, tyName, dIsi, dIx, eIx, cIx, cS, cL, sLen, sSum, lAll, kVar, kLst, kRep, kCat, kCut, fOfK, fCut, oNo, oI, fListP, itemsD, Sl.mo, Sl.put, ownL, setL, eApp, ePop, ePopAt, gN, gT, gsNil, gsCons, iR1, iR2, iLst, iTupl, eCall, fCall, slotsOf, argSl, putB, wCallT, eOfW, fOfW, unfre, qVar, qIx, freAt, lstOf, fl_non, fl_bl, fl_int, fl_str, fl_lst, fl_tup, fl_rls, tYesm, dMul_l, h]⟩
  · exact ⟨2 * c, by simp [mDef, outsOf, sSeq, sIf, sDrop, sRet, sRetN, sRetF, sRetO, sAsg, sAsgF, sAsgR, sPar, sSetIx, sAugIx, sAug, sRaise, sNext, sBrk, sCont, sFor, sSpoilA, sSpoilP, sTry, sHand, Fl.clr, suRet, suRetT, xFld, xC, liftP, liftT, okF, Res.bind, RP.bind, Res.of, RP.of, pVar, pC, p1, p2, pN, pAnd, pOr, pIf, pNil, pCons, pTup, pLst, pCall, qB, qAnd, qOr, qNot, dNot, eVar, Cv.e1, Cv.e2, eAnd, eOr, eIf, tBm, tAndm, tOrm, tNotm, vNil, vCons, aNil, aV, aS, eTup, fLst, eOfF, cOfF, cOfE, cVar, rNil, rE, rF, td_lst, mf_lst, dSub, dAdd, dFdiv, dMod, dNeg, dLt, dLe, dGt, dGe, dIsN, dNotN, dInt, dAbs, dMin2, dMax2, dLen, tyName, dIsi, dIx, eIx, cIx, cS, cL, sLen, sSum, lAll, kVar, kLst, kRep, kCat, kCut, fOfK, fCut, oNo, oI, fListP, itemsD, Sl.mo, Sl.put, ownL, setL, eApp, ePop, ePopAt, gN, gT, gsNil, gsCons, iR1, iR2, iLst, iTupl, eCall, fCall, slotsOf, argSl, putB, wCallT, eOfW, fOfW, unfre, qVar, qIx, freAt, lstOf, fl_non, fl_bl, fl_int, fl_str, fl_lst, fl_tup, fl_rls, tYesm, dMul_l, h]⟩
theorem r_first (s : Int) : ∃ a : Int, ∀ e : En, e[3]? = some (.imm (.int s)) → (liftP (pIf (qB (p2 dGe (pVar 3) (p2 dPow (pC (.int 10)) (pC (.int 18))))) (pVar 3) (pC (.int 0)))) e = .ok (.int a) e := by
  have h0 : ∀ e : En, e[3]? = some (.imm (.int s)) → (p2 dGe (pVar 3) (p2 dPow (pC (.int 10)) (pC (.int 18)))) e = .ok (.bl (decide ((10 : Int) ^ (18 : Int).toNat ≤ s))) := fun e h => by
    simp [p2, RP.bind, pVar, h, pC, RP.of, dPow_ok (i := 10) (j := 18) (by decide), dGe]
  by_cases g : (10 : Int) ^ (18 : Int).toNat ≤ s
  · exact ⟨s, fun e h => by simp only [liftP, pIf, qB, h0 e h, RP.bind, decide_eq_true g, if_true]; simp [pVar, h, okF, fl_int]⟩
  · exact ⟨0, fun e h => by simp only [liftP, pIf, qB, h0 e h, RP.bind, decide_eq_false g]; simp [pC, okF, fl_int]⟩
theorem r_second (s c t : Int) (x : D) : (liftP (p2 dMod (pN dInt (pCons (p2 dAdd (p2 dAdd (pVar 3) (p2 dMul (pVar 1) (pC (.int 104729)))) (pC (.int 12345))) pNil)) (pC (.int 2147483629)))) [.imm x, .imm (.int t), .imm (.int c), .imm (.int s), .none] = .ok (.int ((s + t * 104729 + 12345) % 2147483629)) [.imm x, .imm (.int t), .imm (.int c), .imm (.int s), .none] := by simp [mDef, outsOf, sSeq, sIf, sDrop, sRet, sRetN, sRetF, sRetO, sAsg, sAsgF, sAsgR, sPar, sSetIx, sAugIx, sAug, sRaise, sNext, sBrk, sCont, sFor, sSpoilA, sSpoilP, sTry, sHand, Fl.clr, suRet, suRetT, xFld, xC, liftP, liftT, okF, Res.bind, RP.bind, Res.of, RP.of, pVar, pC, p1, p2, pN, pAnd, pOr, pIf, pNil, pCons, pTup, pLst, pCall, qB, qAnd, qOr, qNot, dNot, eVar, Cv.e1, Cv.e2, eAnd, eOr, eIf, tBm, tAndm, tOrm, tNotm, vNil, vCons, aNil, aV, aS, eTup, fLst, eOfF, cOfF, cOfE, cVar, rNil, rE, rF, td_lst, mf_lst, dSub, dAdd, dFdiv, dMod, dNeg, dLt, dLe, dGt, dGe, dIsN, dNotN, dInt, dAbs, dMin2, dMax2, dLen, tyName, dIsi, dIx, eIx, cIx, cS, cL, sLen, sSum, lAll, kVar, kLst, kRep, kCat, kCut, fOfK, fCut, oNo, oI, fListP, itemsD, Sl.mo, Sl.put, ownL, setL, eApp, ePop, ePopAt, gN, gT, gsNil, gsCons, iR1, iR2, iLst, iTupl, eCall, fCall, slotsOf, argSl, putB, wCallT, eOfW, fOfW, unfre, qVar, qIx, freAt, lstOf, fl_non, fl_bl, fl_int, fl_str, fl_lst, fl_tup, fl_rls, tYesm, dMul_r]
theorem r_purse (ns : List Int) (hn : ns.length ≤ 63) (t : Int) (ht : 0 ≤ t) : ∃ a b c : Int, m__law_purse [.imm (.rls (ns.map .int)), .imm (.int t)] = .ok (.own (.lst [.int a, .int b, .int c])) [.imm (.rls (ns.map .int)), .imm (.int t)] := by
  obtain ⟨n, hnt⟩ := Int.eq_ofNat_of_zero_le ht
  obtain ⟨cell, hcell⟩ := r_cell ns hn n
  rw [← hnt] at hcell
  clear hnt
  obtain ⟨s, hs⟩ := r_size cell t (.rls (ns.map .int))
  obtain ⟨a, ha⟩ := r_first s
  have st : b__law_purse [.imm (.rls (ns.map .int)), .imm (.int t), .none, .none, .none] = _ := (seq_next (asg_ok hcell rfl)).trans (seq_next (asg_ok hs rfl))
  refine ⟨a, (s + t * 104729 + 12345) % 2147483629, t, ?_⟩
  rw [show m__law_purse [.imm (.rls (ns.map .int)), .imm (.int t)] = _ from mDef_go rfl rfl st]
  have h1 := ha [.imm (.rls (ns.map .int)), .imm (.int t), .imm (.int cell), .imm (.int s), .none] rfl
  have h2 := r_second s cell t (.rls (ns.map .int))
  have h3 : (eVar 1) [.imm (.rls (ns.map .int)), .imm (.int t), .imm (.int cell), .imm (.int s), .none] = .ok (.int t) [.imm (.rls (ns.map .int)), .imm (.int t), .imm (.int cell), .imm (.int s), .none] := rfl
  have h4 : ∀ x y z : D, [x, y, z].length ≤ sizeLine := fun x y z => le_line (by simp)
  simp only [sRetF, fLst, vCons, vNil, List.set_cons_succ, List.set_cons_zero, h1, h2, h3, Res.bind, if_pos (h4 _ _ _), fin, outsOf, Option.map]
/-! ### gcd, sums -/
theorem gcd_step (a b : Nat) : ((a : Int) % (b : Int)) = ((a % b : Nat) : Int) := rfl
theorem r_gcd (a b : Nat) : m_greatest_common [.imm (.int a), .imm (.int b)] = .ok (.imm (.int (Nat.gcd a b))) [.imm (.int a), .imm (.int b)] := by
  have loop : ∀ (n a b : Nat), b < n → whileN (liftT (qB (p2 dGt (pVar 1) (pC (.int 0))))) (sPar 0 1 (vCons (eVar 1) (vCons (liftP (p2 dMod (pN dInt (pCons (pVar 0) pNil)) (pVar 1))) vNil))) n [.imm (.int a), .imm (.int b)] = .next [.imm (.int (Nat.gcd a b)), .imm (.int 0)] := by
    intro n
    induction n with
    | zero => intro a b h; omega
    | succ n ih =>
      intro a b h
      by_cases hb : b = 0
      · subst hb; simp [whileN, mDef, outsOf, sSeq, sIf, sDrop, sRet, sRetN, sRetF, sRetO, sAsg, sAsgF, sAsgR, sPar, sSetIx, sAugIx, sAug, sRaise, sNext, sBrk, sCont, sFor, sSpoilA, sSpoilP, sTry, sHand, Fl.clr, suRet, suRetT, xFld, xC, liftP, liftT, okF, Res.bind, RP.bind, Res.of, RP.of, pVar, pC, p1, p2, pN, pAnd, pOr, pIf, pNil, pCons, pTup, pLst, pCall, qB, qAnd, qOr, qNot, dNot, eVar, Cv.e1, Cv.e2, eAnd, eOr, eIf, tBm, tAndm, tOrm, tNotm, vNil, vCons, aNil, aV, aS, eTup, fLst, eOfF, cOfF, cOfE, cVar, rNil, rE, rF, td_lst, mf_lst, dSub, dAdd, dFdiv, dMod, dNeg, dLt, dLe, dGt, dGe, dIsN, dNotN, dInt, dAbs, dMin2, dMax2, dLen, tyName, dIsi, dIx, eIx, cIx, cS, cL, sLen, sSum, lAll, kVar, kLst, kRep, kCat, kCut, fOfK, fCut, oNo, oI, fListP, itemsD, Sl.mo, Sl.put, ownL, setL, eApp, ePop, ePopAt, gN, gT, gsNil, gsCons, iR1, iR2, iLst, iTupl, eCall, fCall, slotsOf, argSl, putB, wCallT, eOfW, fOfW, unfre, qVar, qIx, freAt, lstOf, fl_non, fl_bl, fl_int, fl_str, fl_lst, fl_tup, fl_rls, tYesm]
      · have hb' : (0 : Int) < b := by omega
        have := ih b (a % b) (by have := Nat.mod_lt a (Nat.pos_of_ne_zero hb); omega)
        rw [whileN]
        simp [mDef, outsOf, sSeq, sIf, sDrop, sRet, sRetN, sRetF, sRetO, sAsg, sAsgF, sAsgR, sPar, sSetIx, sAugIx, sAug, sRaise, sNext, sBrk, sCont, sFor, sSpoilA, sSpoilP, sTry, sHand, Fl.clr, suRet, suRetT, xFld, xC, liftP, liftT, okF, Res.bind, RP.bind, Res.of, RP.of, pVar, pC, p1, p2, pN, pAnd, pOr, pIf, pNil, pCons, pTup, pLst, pCall, qB, qAnd, qOr, qNot, dNot, eVar, Cv.e1, Cv.e2, eAnd, eOr, eIf, tBm, tAndm, tOrm, tNotm, vNil, vCons, aNil, aV, aS, eTup, fLst, eOfF, cOfF, cOfE, cVar, rNil, rE, rF, td_lst, mf_lst, dSub, dAdd, dFdiv, dMod, dNeg, dLt, dLe, dGt, dGe, dIsN, dNotN, dInt, dAbs, dMin2, dMax2, dLen, tyName, dIsi, dIx, eIx, cIx, cS, cL, sLen, sSum, lAll, kVar, kLst, kRep, kCat, kCut, fOfK, fCut, oNo, oI, fListP, itemsD, Sl.mo, Sl.put, ownL, setL, eApp, ePop, ePopAt, gN, gT, gsNil, gsCons, iR1, iR2, iLst, iTupl, eCall, fCall, slotsOf, argSl, putB, wCallT, eOfW, fOfW, unfre, qVar, qIx, freAt, lstOf, fl_non, fl_bl, fl_int, fl_str, fl_lst, fl_tup, fl_rls, tYesm, hb', Nat.pos_of_ne_zero hb] at this ⊢
        rw [this]
        rw [Nat.gcd_comm b, ← Nat.gcd_rec, Nat.gcd_comm]
  have w := sWhile_of (loop (b + 1) a b (Nat.lt_succ_self b)) (by simp)
  have st : b_greatest_common [.imm (.int a), .imm (.int b)] = _ := seq_next w
  rw [show m_greatest_common [.imm (.int a), .imm (.int b)] = _ from mDef_go rfl rfl st]
  simp [mDef, outsOf, sSeq, sIf, sDrop, sRet, sRetN, sRetF, sRetO, sAsg, sAsgF, sAsgR, sPar, sSetIx, sAugIx, sAug, sRaise, sNext, sBrk, sCont, sFor, sSpoilA, sSpoilP, sTry, sHand, Fl.clr, suRet, suRetT, xFld, xC, liftP, liftT, okF, Res.bind, RP.bind, Res.of, RP.of, pVar, pC, p1, p2, pN, pAnd, pOr, pIf, pNil, pCons, pTup, pLst, pCall, qB, qAnd, qOr, qNot, dNot, eVar, Cv.e1, Cv.e2, eAnd, eOr, eIf, tBm, tAndm, tOrm, tNotm, vNil, vCons, aNil, aV, aS, eTup, fLst, eOfF, cOfF, cOfE, cVar, rNil, rE, rF, td_lst, mf_lst, dSub, dAdd, dFdiv, dMod, dNeg, dLt, dLe, dGt, dGe, dIsN, dNotN, dInt, dAbs, dMin2, dMax2, dLen, tyName, dIsi, dIx, eIx, cIx, cS, cL, sLen, sSum, lAll, kVar, kLst, kRep, kCat, kCut, fOfK, fCut, oNo, oI, fListP, itemsD, Sl.mo, Sl.put, ownL, setL, eApp, ePop, ePopAt, gN, gT, gsNil, gsCons, iR1, iR2, iLst, iTupl, eCall, fCall, slotsOf, argSl, putB, wCallT, eOfW, fOfW, unfre, qVar, qIx, freAt, lstOf, fl_non, fl_bl, fl_int, fl_str, fl_lst, fl_tup, fl_rls, tYesm, fin]
theorem r_lgcd (a b : Nat) : m__law_gcd [.imm (.int a), .imm (.int b)] = .ok (.imm (.int (Nat.gcd a b))) [.imm (.int a), .imm (.int b)] := by
  have loop : ∀ (n a b : Nat) (x : Sl), b < n → ∃ y, whileN (liftT (qB (p2 dGt (pVar 1) (pC (.int 0))))) (sSeq (sAsg (liftP (p2 dMod (pN dInt (pCons (pVar 0) pNil)) (pVar 1))) (gN 2)) (sSeq (sAsg (eVar 1) (gN 0)) (sAsg (eVar 2) (gN 1)))) n [.imm (.int a), .imm (.int b), x] = .next [.imm (.int (Nat.gcd a b)), .imm (.int 0), y] := by
    intro n
    induction n with
    | zero => intro a b x h; omega
    | succ n ih =>
      intro a b x h
      by_cases hb : b = 0
      · subst hb; exact ⟨x, by simp [whileN, mDef, outsOf, sSeq, sIf, sDrop, sRet, sRetN, sRetF, sRetO, sAsg, sAsgF, sAsgR, sPar, sSetIx, sAugIx, sAug, sRaise, sNext, sBrk, sCont, sFor, sSpoilA, sSpoilP, sTry, sHand, Fl.clr, suRet, suRetT, xFld, xC, liftP, liftT, okF, Res.bind, RP.bind, Res.of, RP.of, pVar, pC, p1, p2, pN, pAnd, pOr, pIf, pNil, pCons, pTup, pLst, pCall, qB, qAnd, qOr, qNot, dNot, eVar, Cv.e1, Cv.e2, eAnd, eOr, eIf, tBm, tAndm, tOrm, tNotm, vNil, vCons, aNil, aV, aS, eTup, fLst, eOfF, cOfF, cOfE, cVar, rNil, rE, rF, td_lst, mf_lst, dSub, dAdd, dFdiv, dMod, dNeg, dLt, dLe, dGt, dGe, dIsN, dNotN, dInt, dAbs, dMin2, dMax2, dLen, tyName, dIsi, dIx, eIx, cIx, cS, cL, sLen, sSum, lAll, kVar, kLst, kRep, kCat, kCut, fOfK, fCut, oNo, oI, fListP, itemsD, Sl.mo, Sl.put, ownL, setL, eApp, ePop, ePopAt, gN, gT, gsNil, gsCons, iR1, iR2, iLst, iTupl, eCall, fCall, slotsOf, argSl, putB, wCallT, eOfW, fOfW, unfre, qVar, qIx, freAt, lstOf, fl_non, fl_bl, fl_int, fl_str, fl_lst, fl_tup, fl_rls, tYesm]⟩
      · have hb' : (0 : Int) < b := by omega
        obtain ⟨y, this⟩ := ih b (a % b) (.imm (.int (a % b : Nat))) (by have := Nat.mod_lt a (Nat.pos_of_ne_zero hb); omega)
        refine ⟨y, ?_⟩
        rw [whileN]
        simp [mDef, outsOf, sSeq, sIf, sDrop, sRet, sRetN, sRetF, sRetO, sAsg, sAsgF, sAsgR, sPar, sSetIx, sAugIx, sAug, sRaise, sNext, sBrk, sCont, sFor, sSpoilA, sSpoilP, sTry, sHand, Fl.clr, suRet, suRetT, xFld, xC, liftP, liftT, okF, Res.bind, RP.bind, Res.of, RP.of, pVar, pC, p1, p2, pN, pAnd, pOr, pIf, pNil, pCons, pTup, pLst, pCall, qB, qAnd, qOr, qNot, dNot, eVar, Cv.e1, Cv.e2, eAnd, eOr, eIf, tBm, tAndm, tOrm, tNotm, vNil, vCons, aNil, aV, aS, eTup, fLst, eOfF, cOfF, cOfE, cVar, rNil, rE, rF, td_lst, mf_lst, dSub, dAdd, dFdiv, dMod, dNeg, dLt, dLe, dGt, dGe, dIsN, dNotN, dInt, dAbs, dMin2, dMax2, dLen, tyName, dIsi, dIx, eIx, cIx, cS, cL, sLen, sSum, lAll, kVar, kLst, kRep, kCat, kCut, fOfK, fCut, oNo, oI, fListP, itemsD, Sl.mo, Sl.put, ownL, setL, eApp, ePop, ePopAt, gN, gT, gsNil, gsCons, iR1, iR2, iLst, iTupl, eCall, fCall, slotsOf, argSl, putB, wCallT, eOfW, fOfW, unfre, qVar, qIx, freAt, lstOf, fl_non, fl_bl, fl_int, fl_str, fl_lst, fl_tup, fl_rls, tYesm, hb', Nat.pos_of_ne_zero hb] at this ⊢
        rw [this]
        rw [Nat.gcd_comm b, ← Nat.gcd_rec, Nat.gcd_comm]
  obtain ⟨y, l⟩ := loop (b + 1) a b .none (Nat.lt_succ_self b)
  have w := sWhile_of l (by simp)
  have st : b__law_gcd [.imm (.int a), .imm (.int b), .none] = _ := seq_next w
  rw [show m__law_gcd [.imm (.int a), .imm (.int b)] = _ from mDef_go rfl rfl st]
  simp [mDef, outsOf, sSeq, sIf, sDrop, sRet, sRetN, sRetF, sRetO, sAsg, sAsgF, sAsgR, sPar, sSetIx, sAugIx, sAug, sRaise, sNext, sBrk, sCont, sFor, sSpoilA, sSpoilP, sTry, sHand, Fl.clr, suRet, suRetT, xFld, xC, liftP, liftT, okF, Res.bind, RP.bind, Res.of, RP.of, pVar, pC, p1, p2, pN, pAnd, pOr, pIf, pNil, pCons, pTup, pLst, pCall, qB, qAnd, qOr, qNot, dNot, eVar, Cv.e1, Cv.e2, eAnd, eOr, eIf, tBm, tAndm, tOrm, tNotm, vNil, vCons, aNil, aV, aS, eTup, fLst, eOfF, cOfF, cOfE, cVar, rNil, rE, rF, td_lst, mf_lst, dSub, dAdd, dFdiv, dMod, dNeg, dLt, dLe, dGt, dGe, dIsN, dNotN, dInt, dAbs, dMin2, dMax2, dLen, tyName, dIsi, dIx, eIx, cIx, cS, cL, sLen, sSum, lAll, kVar, kLst, kRep, kCat, kCut, fOfK, fCut, oNo, oI, fListP, itemsD, Sl.mo, Sl.put, ownL, setL, eApp, ePop, ePopAt, gN, gT, gsNil, gsCons, iR1, iR2, iLst, iTupl, eCall, fCall, slotsOf, argSl, putB, wCallT, eOfW, fOfW, unfre, qVar, qIx, freAt, lstOf, fl_non, fl_bl, fl_int, fl_str, fl_lst, fl_tup, fl_rls, tYesm, fin]
end Lw
end

section
set_option Elab.async false
set_option linter.all false
set_option maxRecDepth 100000
set_option maxHeartbeats 4000000
set_option autoImplicit false
open PySem L2 Cv
namespace Lw
theorem r_gcdI {p q : Int} (hp : 0 ≤ p) (hq : 0 ≤ q) : m_greatest_common [.imm (.int p), .imm (.int q)] = .ok (.imm (.int (Int.gcd p q))) [.imm (.int p), .imm (.int q)] := by
  obtain ⟨a, rfl⟩ := Int.eq_ofNat_of_zero_le hp
  obtain ⟨b, rfl⟩ := Int.eq_ofNat_of_zero_le hq
  exact r_gcd a b
theorem r_lgcdI {p q : Int} (hp : 0 ≤ p) (hq : 0 ≤ q) : m__law_gcd [.imm (.int p), .imm (.int q)] = .ok (.imm (.int (Int.gcd p q))) [.imm (.int p), .imm (.int q)] := by
  obtain ⟨a, rfl⟩ := Int.eq_ofNat_of_zero_le hp
  obtain ⟨b, rfl⟩ := Int.eq_ofNat_of_zero_le hq
  exact r_lgcd a b
theorem r_low1 {p q g : Int} (hg : 0 < g) (hb : g < 18446744073709551616) (h : m_greatest_common [.imm (.int p), .imm (.int q)] = .ok (.imm (.int g)) [.imm (.int p), .imm (.int q)]) : m_lowest_terms [.imm (.int p), .imm (.int q)] = .ok (.imm (.tup [.int (p / g), .int (q / g)])) [.imm (.int p), .imm (.int q)] := by
  simp [m_lowest_terms, b_lowest_terms, mDef, outsOf, sSeq, sIf, sDrop, sRet, sRetN, sRetF, sRetO, sAsg, sAsgF, sAsgR, sPar, sSetIx, sAugIx, sAug, sRaise, sNext, sBrk, sCont, sFor, sSpoilA, sSpoilP, sTry, sHand, Fl.clr, suRet, suRetT, xFld, xC, liftP, liftT, okF, Res.bind, RP.bind, Res.of, RP.of, pVar, pC, p1, p2, pN, pAnd, pOr, pIf, pNil, pCons, pTup, pLst, pCall, qB, qAnd, qOr, qNot, dNot, eVar, Cv.e1, Cv.e2, eAnd, eOr, eIf, tBm, tAndm, tOrm, tNotm, vNil, vCons, aNil, aV, aS, eTup, fLst, eOfF, cOfF, cOfE, cVar, rNil, rE, rF, td_lst, mf_lst, dSub, dAdd, dFdiv, dMod, dNeg, dLt, dLe, dGt, dGe, dIsN, dNotN, dInt, dAbs, dMin2, dMax2, dLen, tyName, dIsi, dIx, eIx, cIx, cS, cL, sLen, sSum, lAll, kVar, kLst, kRep, kCat, kCut, fOfK, fCut, oNo, oI, fListP, itemsD, Sl.mo, Sl.put, ownL, setL, eApp, ePop, ePopAt, gN, gT, gsNil, gsCons, iR1, iR2, iLst, iTupl, eCall, fCall, slotsOf, argSl, putB, wCallT, eOfW, fOfW, unfre, qVar, qIx, freAt, lstOf, fl_non, fl_bl, fl_int, fl_str, fl_lst, fl_tup, fl_rls, tYesm, h, cdivW_of hg hb, le_line]
theorem r_low2 {p q g : Int} (hg : 0 < g) (hb : g < 18446744073709551616) (h : m__law_gcd [.imm (.int p), .imm (.int q)] = .ok (.imm (.int g)) [.imm (.int p), .imm (.int q)]) : m__law_lowest [.imm (.int p), .imm (.int q)] = .ok (.imm (.tup [.int (p / g), .int (q / g)])) [.imm (.int p), .imm (.int q)] := by
  simp [m__law_lowest, b__law_lowest, mDef, outsOf, sSeq, sIf, sDrop, sRet, sRetN, sRetF, sRetO, sAsg, sAsgF, sAsgR, sPar, sSetIx, sAugIx, sAug, sRaise, sNext, sBrk, sCont, sFor, sSpoilA, sSpoilP, sTry, sHand, Fl.clr, suRet, suRetT, xFld, xC, liftP, liftT, okF, Res.bind, RP.bind, Res.of, RP.of, pVar, pC, p1, p2, pN, pAnd, pOr, pIf, pNil, pCons, pTup, pLst, pCall, qB, qAnd, qOr, qNot, dNot, eVar, Cv.e1, Cv.e2, eAnd, eOr, eIf, tBm, tAndm, tOrm, tNotm, vNil, vCons, aNil, aV, aS, eTup, fLst, eOfF, cOfF, cOfE, cVar, rNil, rE, rF, td_lst, mf_lst, dSub, dAdd, dFdiv, dMod, dNeg, dLt, dLe, dGt, dGe, dIsN, dNotN, dInt, dAbs, dMin2, dMax2, dLen, tyName, dIsi, dIx, eIx, cIx, cS, cL, sLen, sSum, lAll, kVar, kLst, kRep, kCat, kCut, fOfK, fCut, oNo, oI, fListP, itemsD, Sl.mo, Sl.put, ownL, setL, eApp, ePop, ePopAt, gN, gT, gsNil, gsCons, iR1, iR2, iLst, iTupl, eCall, fCall, slotsOf, argSl, putB, wCallT, eOfW, fOfW, unfre, qVar, qIx, freAt, lstOf, fl_non, fl_bl, fl_int, fl_str, fl_lst, fl_tup, fl_rls, tYesm, h, cdivW_of hg hb, le_line]
/-- lowest terms -/
def low (p q : Int) : Int × Int := (p / (Int.gcd p q : Int), q / (Int.gcd p q : Int))
def tupF (t : Int × Int) : D := .tup [.int t.1, .int t.2]
theorem gcd_bound {p q : Int} (hq : 0 < q) (hb : q < 18446744073709551616) : 0 < (Int.gcd p q : Int) ∧ (Int.gcd p q : Int) < 18446744073709551616 := by
  have h1 : 0 < Int.gcd p q := Int.gcd_pos_of_ne_zero_right p (by omega)
  have h2 : (Int.gcd p q : Int) ≤ q := Int.le_of_dvd hq (Int.gcd_dvd_right ..)
  omega
theorem r_lowest {p q : Int} (hp : 0 ≤ p) (hq : 0 < q) (hb : q < 18446744073709551616) : m_lowest_terms [.imm (.int p), .imm (.int q)] = .ok (.imm (tupF (low p q))) [.imm (.int p), .imm (.int q)] :=
  r_low1 (gcd_bound hq hb).1 (gcd_bound hq hb).2 (r_gcdI hp (by omega))
theorem r_llowest {p q : Int} (hp : 0 ≤ p) (hq : 0 < q) (hb : q < 18446744073709551616) : m__law_lowest [.imm (.int p), .imm (.int q)] = .ok (.imm (tupF (low p q))) [.imm (.int p), .imm (.int q)] :=
  r_low2 (gcd_bound hq hb).1 (gcd_bound hq hb).2 (r_lgcdI hp (by omega))
/-- a sum of shares so far, one more -/
def addF (t : Int × Int) (q : Int) : Int × Int := low (t.1 * q + 1 * t.2) (t.2 * q)
def sumF (qs : List Int) : Int × Int := qs.foldl addF (0, 1)
def Good (t : Int × Int) : Prop := 0 ≤ t.1 ∧ t.1 ≤ 1000000000 ∧ 0 < t.2 ∧ t.2 ≤ 1000000
def shD (q : Int) : D := .tup [.int 1, .int q]
theorem r_addF {t : Int × Int} {q : Int} (ht : Good t) (hq : 0 < q ∧ q ≤ 1000000) : m_add_fractions [.imm (tupF t), .imm (shD q)] = .ok (.imm (tupF (addF t q))) [.imm (tupF t), .imm (shD q)] := by
  obtain ⟨n, d⟩ := t
  obtain ⟨h1, h2, h3, h4⟩ := ht
  obtain ⟨q1, q2⟩ := hq
  dsimp only at h1 h2 h3 h4
  have e1 : 0 ≤ n * q + 1 * d := by have := Int.mul_nonneg h1 (Int.le_of_lt q1); omega
  have e2 : 0 < d * q := Int.mul_pos h3 q1
  have e3 : d * q < 18446744073709551616 := by have := Int.mul_le_mul h4 q2 (Int.le_of_lt q1) (by omega); omega
  have r := r_lowest e1 e2 e3
  have a1 : dMul (.int n) (.int q) = some (.int (n * q)) := dMul_r (by omega) (by omega)
  have a2 : dMul (.int 1) (.int d) = some (.int (1 * d)) := dMul_l (by omega) (by omega)
  have a3 : dMul (.int d) (.int q) = some (.int (d * q)) := dMul_r (by omega) (by omega)
  have i0 : ∀ x y : D, atI [x, y] 0 = some x := fun _ _ => rfl
  have i1 : ∀ x y : D, atI [x, y] 1 = some y := fun _ _ => rfl
  unfold addF tupF shD
  dsimp only
  simp only [m_add_fractions, b_add_fractions, mDef, outsOf, sSeq, sIf, sDrop, sRet, sRetN, sRetF, sRetO, sAsg, sAsgF, sAsgR, sPar, sSetIx, sAugIx, sAug, sRaise, sNext, sBrk, sCont, sFor, sSpoilA, sSpoilP, sTry, sHand, Fl.clr, suRet, suRetT, xFld, xC, liftP, liftT, okF, Res.bind, RP.bind, Res.of, RP.of, pVar, pC, p1, p2, pN, pAnd, pOr, pIf, pNil, pCons, pTup, pLst, pCall, qB, qAnd, qOr, qNot, dNot, eVar, Cv.e1, Cv.e2, eAnd, eOr, eIf, tBm, tAndm, tOrm, tNotm, vNil, vCons, aNil, aV, aS, eTup, fLst, eOfF, cOfF, cOfE, cVar, rNil, rE, rF, td_lst, mf_lst, dSub, dAdd, dFdiv, dMod, dNeg, dLt, dLe, dGt, dGe, dIsN, dNotN, dInt, dAbs, dMin2, dMax2, dLen, tyName, dIsi, dIx, eIx, cIx, cS, cL, sLen, sSum, lAll, kVar, kLst, kRep, kCat, kCut, fOfK, fCut, oNo, oI, fListP, itemsD, Sl.mo, Sl.put, ownL, setL, eApp, ePop, ePopAt, gN, gT, gsNil, gsCons, iR1, iR2, iLst, iTupl, eCall, fCall, slotsOf, argSl, putB, wCallT, eOfW, fOfW, unfre, qVar, qIx, freAt, lstOf, fl_non, fl_bl, fl_int, fl_str, fl_lst, fl_tup, fl_rls, tYesm, a1, a2, a3, i0, i1, List.length_cons, List.length_nil, Nat.reduceAdd, if_true, List.replicate, Nat.reduceSub, List.append_nil, List.getElem?_cons_zero, List.getElem?_cons_succ, Option.bind, List.nodup_nil, Option.map, r, tupF]
end Lw
end

section
set_option Elab.async false
set_option linter.all false
set_option maxRecDepth 100000
set_option maxHeartbeats 4000000
set_option autoImplicit false
open PySem L2 Cv
namespace Lw
theorem sumF_take {qs : List Int} {i : Nat} {q : Int} (h : qs[i]? = some q) : sumF (qs.take (i + 1)) = addF (sumF (qs.take i)) q := by
  unfold sumF
  rw [List.take_add_one, h, List.foldl_append]
  rfl
theorem r_sum {qs : List Int} (hg : ∀ i, i ≤ qs.length → Good (sumF (qs.take i))) (hq : ∀ q ∈ qs, 0 < q ∧ q ≤ 1000000) : m_sum_of_shares [.imm (.lst (qs.map shD))] = .ok (.imm (tupF (sumF qs))) [.imm (.lst (qs.map shD))] := by
  have loop := forL_rel (tg := gN 2) (body := sAsg (eCall m_add_fractions (aV (eVar 1) (aV (eVar 2) aNil))) (gN 1)) (ds := qs.map shD) (fun i e => ∃ x, e = [.imm (.lst (qs.map shD)), .imm (tupF (sumF (qs.take i))), x]) (e := [.imm (.lst (qs.map shD)), .imm (tupF (0, 1)), .none]) ⟨.none, by simp [sumF]⟩
    (fun i d e hd ⟨x, he⟩ => by
      subst he
      rw [List.getElem?_map] at hd
      cases hqi : qs[i]? with
      | none => rw [hqi] at hd; cases hd
      | some q =>
        rw [hqi] at hd
        cases hd
        have hi : i < qs.length := (List.getElem?_eq_some_iff.mp hqi).1
        have r := r_addF (hg i (by omega)) (hq q (List.mem_of_getElem? hqi))
        refine ⟨_, [.imm (.lst (qs.map shD)), .imm (tupF (sumF (qs.take (i + 1)))), .imm (shD q)], rfl, .inl ?_, _, rfl⟩
        rw [sumF_take hqi]
        simp [mDef, outsOf, sSeq, sIf, sDrop, sRet, sRetN, sRetF, sRetO, sAsg, sAsgF, sAsgR, sPar, sSetIx, sAugIx, sAug, sRaise, sNext, sBrk, sCont, sFor, sSpoilA, sSpoilP, sTry, sHand, Fl.clr, suRet, suRetT, xFld, xC, liftP, liftT, okF, Res.bind, RP.bind, Res.of, RP.of, pVar, pC, p1, p2, pN, pAnd, pOr, pIf, pNil, pCons, pTup, pLst, pCall, qB, qAnd, qOr, qNot, dNot, eVar, Cv.e1, Cv.e2, eAnd, eOr, eIf, tBm, tAndm, tOrm, tNotm, vNil, vCons, aNil, aV, aS, eTup, fLst, eOfF, cOfF, cOfE, cVar, rNil, rE, rF, td_lst, mf_lst, dSub, dAdd, dFdiv, dMod, dNeg, dLt, dLe, dGt, dGe, dIsN, dNotN, dInt, dAbs, dMin2, dMax2, dLen, tyName, dIsi, dIx, eIx, cIx, cS, cL, sLen, sSum, lAll, kVar, kLst, kRep, kCat, kCut, fOfK, fCut, oNo, oI, fListP, itemsD, Sl.mo, Sl.put, ownL, setL, eApp, ePop, ePopAt, gN, gT, gsNil, gsCons, iR1, iR2, iLst, iTupl, eCall, fCall, slotsOf, argSl, putB, wCallT, eOfW, fOfW, unfre, qVar, qIx, freAt, lstOf, fl_non, fl_bl, fl_int, fl_str, fl_lst, fl_tup, fl_rls, tYesm, r])
  obtain ⟨e', h1, x, h2⟩ := loop
  subst h2
  have st : b_sum_of_shares [.imm (.lst (qs.map shD)), .none, .none] = .ret (.imm (tupF (sumF qs))) [.imm (.lst (qs.map shD)), .imm (tupF (sumF qs)), x] := by
    refine (seq_next (e1 := [.imm (.lst (qs.map shD)), .imm (tupF (0, 1)), .none]) ?_).trans ((seq_next ((for_ok (e1 := [.imm (.lst (qs.map shD)), .imm (tupF (0, 1)), .none]) ?_).trans h1)).trans ?_)
    · simp [mDef, outsOf, sSeq, sIf, sDrop, sRet, sRetN, sRetF, sRetO, sAsg, sAsgF, sAsgR, sPar, sSetIx, sAugIx, sAug, sRaise, sNext, sBrk, sCont, sFor, sSpoilA, sSpoilP, sTry, sHand, Fl.clr, suRet, suRetT, xFld, xC, liftP, liftT, okF, Res.bind, RP.bind, Res.of, RP.of, pVar, pC, p1, p2, pN, pAnd, pOr, pIf, pNil, pCons, pTup, pLst, pCall, qB, qAnd, qOr, qNot, dNot, eVar, Cv.e1, Cv.e2, eAnd, eOr, eIf, tBm, tAndm, tOrm, tNotm, vNil, vCons, aNil, aV, aS, eTup, fLst, eOfF, cOfF, cOfE, cVar, rNil, rE, rF, td_lst, mf_lst, dSub, dAdd, dFdiv, dMod, dNeg, dLt, dLe, dGt, dGe, dIsN, dNotN, dInt, dAbs, dMin2, dMax2, dLen, tyName, dIsi, dIx, eIx, cIx, cS, cL, sLen, sSum, lAll, kVar, kLst, kRep, kCat, kCut, fOfK, fCut, oNo, oI, fListP, itemsD, Sl.mo, Sl.put, ownL, setL, eApp, ePop, ePopAt, gN, gT, gsNil, gsCons, iR1, iR2, iLst, iTupl, eCall, fCall, slotsOf, argSl, putB, wCallT, eOfW, fOfW, unfre, qVar, qIx, freAt, lstOf, fl_non, fl_bl, fl_int, fl_str, fl_lst, fl_tup, fl_rls, tYesm, tupF, le_line]
    · simp [mDef, outsOf, sSeq, sIf, sDrop, sRet, sRetN, sRetF, sRetO, sAsg, sAsgF, sAsgR, sPar, sSetIx, sAugIx, sAug, sRaise, sNext, sBrk, sCont, sFor, sSpoilA, sSpoilP, sTry, sHand, Fl.clr, suRet, suRetT, xFld, xC, liftP, liftT, okF, Res.bind, RP.bind, Res.of, RP.of, pVar, pC, p1, p2, pN, pAnd, pOr, pIf, pNil, pCons, pTup, pLst, pCall, qB, qAnd, qOr, qNot, dNot, eVar, Cv.e1, Cv.e2, eAnd, eOr, eIf, tBm, tAndm, tOrm, tNotm, vNil, vCons, aNil, aV, aS, eTup, fLst, eOfF, cOfF, cOfE, cVar, rNil, rE, rF, td_lst, mf_lst, dSub, dAdd, dFdiv, dMod, dNeg, dLt, dLe, dGt, dGe, dIsN, dNotN, dInt, dAbs, dMin2, dMax2, dLen, tyName, dIsi, dIx, eIx, cIx, cS, cL, sLen, sSum, lAll, kVar, kLst, kRep, kCat, kCut, fOfK, fCut, oNo, oI, fListP, itemsD, Sl.mo, Sl.put, ownL, setL, eApp, ePop, ePopAt, gN, gT, gsNil, gsCons, iR1, iR2, iLst, iTupl, eCall, fCall, slotsOf, argSl, putB, wCallT, eOfW, fOfW, unfre, qVar, qIx, freAt, lstOf, fl_non, fl_bl, fl_int, fl_str, fl_lst, fl_tup, fl_rls, tYesm]
    · rw [List.length_map, List.take_of_length_le (Nat.le_refl _)]; rfl
  rw [show m_sum_of_shares [.imm (.lst (qs.map shD))] = _ from mDef_go rfl rfl st]
  simp [fin, outsOf]
theorem r_lsum {qs : List Int} (hg : ∀ i, i ≤ qs.length → Good (sumF (qs.take i))) (hq : ∀ q ∈ qs, 0 < q ∧ q ≤ 1000000) : m__law_sum_of [.imm (.lst (qs.map shD))] = .ok (.imm (tupF (sumF qs))) [.imm (.lst (qs.map shD))] := by
  have i0 : ∀ x y : D, atI [x, y] 0 = some x := fun _ _ => rfl
  have i1 : ∀ x y : D, atI [x, y] 1 = some y := fun _ _ => rfl
  have loop := forL_rel (tg := gN 2) (body := sAsg (eCall m__law_lowest (aV (liftP (p2 dAdd (p2 dMul (p2 dIx (pVar 1) (pC (.int 0))) (p2 dIx (pVar 2) (pC (.int 1)))) (p2 dMul (p2 dIx (pVar 2) (pC (.int 0))) (p2 dIx (pVar 1) (pC (.int 1)))))) (aV (liftP (p2 dMul (p2 dIx (pVar 1) (pC (.int 1))) (p2 dIx (pVar 2) (pC (.int 1))))) aNil))) (gN 1)) (ds := qs.map shD) (fun i e => ∃ x, e = [.imm (.lst (qs.map shD)), .imm (tupF (sumF (qs.take i))), x]) (e := [.imm (.lst (qs.map shD)), .imm (tupF (0, 1)), .none]) ⟨.none, by simp [sumF]⟩
    (fun i d e hd ⟨x, he⟩ => by
      subst he
      rw [List.getElem?_map] at hd
      cases hqi : qs[i]? with
      | none => rw [hqi] at hd; cases hd
      | some q =>
        rw [hqi] at hd
        cases hd
        have hi : i < qs.length := (List.getElem?_eq_some_iff.mp hqi).1
        have hgi := hg i (by omega)
        obtain ⟨q1, q2⟩ := hq q (List.mem_of_getElem? hqi)
        refine ⟨_, [.imm (.lst (qs.map shD)), .imm (tupF (sumF (qs.take (i + 1)))), .imm (shD q)], rfl, .inl ?_, _, rfl⟩
        rw [sumF_take hqi]
        generalize sumF (qs.take i) = t at hgi
        obtain ⟨n, d⟩ := t
        obtain ⟨h1, h2, h3, h4⟩ := hgi
        dsimp only at h1 h2 h3 h4
        have e1 : 0 ≤ n * q + 1 * d := by have := Int.mul_nonneg h1 (Int.le_of_lt q1); omega
        have e2 : 0 < d * q := Int.mul_pos h3 q1
        have e3 : d * q < 18446744073709551616 := by have := Int.mul_le_mul h4 q2 (Int.le_of_lt q1) (by omega); omega
        have r := r_llowest e1 e2 e3
        have a1 : dMul (.int n) (.int q) = some (.int (n * q)) := dMul_r (by omega) (by omega)
        have a2 : dMul (.int 1) (.int d) = some (.int (1 * d)) := dMul_l (by omega) (by omega)
        have a3 : dMul (.int d) (.int q) = some (.int (d * q)) := dMul_r (by omega) (by omega)
        unfold addF tupF shD
        dsimp only
        simp only [mDef, outsOf, sSeq, sIf, sDrop, sRet, sRetN, sRetF, sRetO, sAsg, sAsgF, sAsgR, sPar, sSetIx, sAugIx, sAug, sRaise, sNext, sBrk, sCont, sFor, sSpoilA, sSpoilP, sTry, sHand, Fl.clr, suRet, suRetT, xFld, xC, liftP, liftT, okF, Res.bind, RP.bind, Res.of, RP.of, pVar, pC, p1, p2, pN, pAnd, pOr, pIf, pNil, pCons, pTup, pLst, pCall, qB, qAnd, qOr, qNot, dNot, eVar, Cv.e1, Cv.e2, eAnd, eOr, eIf, tBm, tAndm, tOrm, tNotm, vNil, vCons, aNil, aV, aS, eTup, fLst, eOfF, cOfF, cOfE, cVar, rNil, rE, rF, td_lst, mf_lst, dSub, dAdd, dFdiv, dMod, dNeg, dLt, dLe, dGt, dGe, dIsN, dNotN, dInt, dAbs, dMin2, dMax2, dLen, tyName, dIsi, dIx, eIx, cIx, cS, cL, sLen, sSum, lAll, kVar, kLst, kRep, kCat, kCut, fOfK, fCut, oNo, oI, fListP, itemsD, Sl.mo, Sl.put, ownL, setL, eApp, ePop, ePopAt, gN, gT, gsNil, gsCons, iR1, iR2, iLst, iTupl, eCall, fCall, slotsOf, argSl, putB, wCallT, eOfW, fOfW, unfre, qVar, qIx, freAt, lstOf, fl_non, fl_bl, fl_int, fl_str, fl_lst, fl_tup, fl_rls, tYesm, a1, a2, a3, i0, i1, List.length_cons, List.length_nil, Nat.reduceAdd, if_true, List.replicate, Nat.reduceSub, List.append_nil, List.getElem?_cons_zero, List.getElem?_cons_succ, Option.bind, List.nodup_nil, Option.map, r, tupF, List.set_cons_succ, List.set_cons_zero, Nat.reduceLT, Nat.lt_add_one])
  obtain ⟨e', h1, x, h2⟩ := loop
  subst h2
  have st : b__law_sum_of [.imm (.lst (qs.map shD)), .none, .none] = .ret (.imm (tupF (sumF qs))) [.imm (.lst (qs.map shD)), .imm (tupF (sumF qs)), x] := by
    refine (seq_next (e1 := [.imm (.lst (qs.map shD)), .imm (tupF (0, 1)), .none]) ?_).trans ((seq_next ((for_ok (e1 := [.imm (.lst (qs.map shD)), .imm (tupF (0, 1)), .none]) ?_).trans h1)).trans ?_)
    · simp [mDef, outsOf, sSeq, sIf, sDrop, sRet, sRetN, sRetF, sRetO, sAsg, sAsgF, sAsgR, sPar, sSetIx, sAugIx, sAug, sRaise, sNext, sBrk, sCont, sFor, sSpoilA, sSpoilP, sTry, sHand, Fl.clr, suRet, suRetT, xFld, xC, liftP, liftT, okF, Res.bind, RP.bind, Res.of, RP.of, pVar, pC, p1, p2, pN, pAnd, pOr, pIf, pNil, pCons, pTup, pLst, pCall, qB, qAnd, qOr, qNot, dNot, eVar, Cv.e1, Cv.e2, eAnd, eOr, eIf, tBm, tAndm, tOrm, tNotm, vNil, vCons, aNil, aV, aS, eTup, fLst, eOfF, cOfF, cOfE, cVar, rNil, rE, rF, td_lst, mf_lst, dSub, dAdd, dFdiv, dMod, dNeg, dLt, dLe, dGt, dGe, dIsN, dNotN, dInt, dAbs, dMin2, dMax2, dLen, tyName, dIsi, dIx, eIx, cIx, cS, cL, sLen, sSum, lAll, kVar, kLst, kRep, kCat, kCut, fOfK, fCut, oNo, oI, fListP, itemsD, Sl.mo, Sl.put, ownL, setL, eApp, ePop, ePopAt, gN, gT, gsNil, gsCons, iR1, iR2, iLst, iTupl, eCall, fCall, slotsOf, argSl, putB, wCallT, eOfW, fOfW, unfre, qVar, qIx, freAt, lstOf, fl_non, fl_bl, fl_int, fl_str, fl_lst, fl_tup, fl_rls, tYesm, tupF, le_line]
    · simp [mDef, outsOf, sSeq, sIf, sDrop, sRet, sRetN, sRetF, sRetO, sAsg, sAsgF, sAsgR, sPar, sSetIx, sAugIx, sAug, sRaise, sNext, sBrk, sCont, sFor, sSpoilA, sSpoilP, sTry, sHand, Fl.clr, suRet, suRetT, xFld, xC, liftP, liftT, okF, Res.bind, RP.bind, Res.of, RP.of, pVar, pC, p1, p2, pN, pAnd, pOr, pIf, pNil, pCons, pTup, pLst, pCall, qB, qAnd, qOr, qNot, dNot, eVar, Cv.e1, Cv.e2, eAnd, eOr, eIf, tBm, tAndm, tOrm, tNotm, vNil, vCons, aNil, aV, aS, eTup, fLst, eOfF, cOfF, cOfE, cVar, rNil, rE, rF, td_lst, mf_lst, dSub, dAdd, dFdiv, dMod, dNeg, dLt, dLe, dGt, dGe, dIsN, dNotN, dInt, dAbs, dMin2, dMax2, dLen, tyName, dIsi, dIx, eIx, cIx, cS, cL, sLen, sSum, lAll, kVar, kLst, kRep, kCat, kCut, fOfK, fCut, oNo, oI, fListP, itemsD, Sl.mo, Sl.put, ownL, setL, eApp, ePop, ePopAt, gN, gT, gsNil, gsCons, iR1, iR2, iLst, iTupl, eCall, fCall, slotsOf, argSl, putB, wCallT, eOfW, fOfW, unfre, qVar, qIx, freAt, lstOf, fl_non, fl_bl, fl_int, fl_str, fl_lst, fl_tup, fl_rls, tYesm]
    · rw [List.length_map, List.take_of_length_le (Nat.le_refl _)]; rfl
  rw [show m__law_sum_of [.imm (.lst (qs.map shD))] = _ from mDef_go rfl rfl st]
  simp [fin, outsOf]
/-! ### what the sum is -/
/-- the sum of M / q -/
def ups (M : Int) (qs : List Int) : Int := (qs.map fun q => M / q).sum
theorem low_spec {p q M S : Int} (hp : 0 ≤ p) (hq : 0 < q) (hM : 0 < M) (h : p * M = q * S) : 0 ≤ (low p q).1 ∧ 0 < (low p q).2 ∧ (low p q).1 * M = (low p q).2 * S ∧ (low p q).2 ∣ M := by
  have g0 : 0 < Int.gcd p q := Int.gcd_pos_of_ne_zero_right p (by omega)
  have g0' : (0 : Int) < (Int.gcd p q : Int) := by omega
  obtain ⟨a, ha⟩ := Int.gcd_dvd_left p q
  obtain ⟨b, hb⟩ := Int.gcd_dvd_right p q
  unfold low
  dsimp only
  have ea : p / (Int.gcd p q : Int) = a := Int.ediv_eq_of_eq_mul_right (by omega) ha
  have eb : q / (Int.gcd p q : Int) = b := Int.ediv_eq_of_eq_mul_right (by omega) hb
  have key : a * M = b * S := by
    have : (Int.gcd p q : Int) * (a * M) = (Int.gcd p q : Int) * (b * S) := by
      rw [← Int.mul_assoc, ← Int.mul_assoc, ← ha, ← hb, h]
    exact Int.eq_of_mul_eq_mul_left (by omega) this
  rw [ea, eb]
  refine ⟨?_, ?_, key, ?_⟩
  · rw [← ea]; exact Int.ediv_nonneg hp (by omega)
  · by_cases c : 0 < b
    · exact c
    · exfalso
      have : (Int.gcd p q : Int) * b ≤ 0 := Int.mul_nonpos_of_nonneg_of_nonpos (by omega) (by omega)
      omega
  · have co : Int.gcd a b = 1 := by
      have := Int.gcd_ediv_gcd_ediv_gcd g0
      rwa [ea, eb] at this
    have : b ∣ a * M := ⟨S, key⟩
    rw [← Int.natAbs_dvd_natAbs, Int.natAbs_mul] at this
    rw [← Int.natAbs_dvd_natAbs]
    have co' : Nat.Coprime b.natAbs a.natAbs := by rw [Nat.coprime_comm]; exact co
    exact co'.dvd_of_dvd_mul_left this
theorem snoc_ind {α : Type} {p : List α → Prop} (h0 : p []) (h1 : ∀ l a, p l → p (l ++ [a])) (l : List α) : p l := by
  have : ∀ n (l : List α), l.length = n → p l := by
    intro n
    induction n with
    | zero => intro l h; rw [List.length_eq_zero_iff.mp h]; exact h0
    | succ n ih =>
      intro l h
      have hl : l ≠ [] := fun z => by rw [z] at h; cases h
      rw [← List.dropLast_concat_getLast hl]
      exact h1 _ _ (ih _ (by rw [List.length_dropLast]; omega))
  exact this _ l rfl
theorem sumF_spec {M : Int} (hM : 0 < M) : ∀ {qs : List Int}, (∀ q ∈ qs, 0 < q ∧ q ∣ M) → 0 ≤ (sumF qs).1 ∧ 0 < (sumF qs).2 ∧ (sumF qs).1 * M = (sumF qs).2 * ups M qs ∧ (sumF qs).2 ∣ M := by
  intro qs
  refine snoc_ind (p := fun qs => (∀ q ∈ qs, 0 < q ∧ q ∣ M) → 0 ≤ (sumF qs).1 ∧ 0 < (sumF qs).2 ∧ (sumF qs).1 * M = (sumF qs).2 * ups M qs ∧ (sumF qs).2 ∣ M) ?_ ?_ qs
  · intro _; exact ⟨by decide, by decide, by simp [sumF, ups], by simp [sumF]⟩
  · intro qs q ih h
    obtain ⟨h1, h2, h3, h4⟩ := ih fun x hx => h x (List.mem_append_left _ hx)
    obtain ⟨q1, c, hc⟩ := h q (by simp)
    have e : sumF (qs ++ [q]) = addF (sumF qs) q := by unfold sumF; rw [List.foldl_append]; rfl
    have eu : ups M (qs ++ [q]) = ups M qs + c := by
      unfold ups
      rw [List.map_append, List.sum_append]
      simp
      rw [hc]; exact Int.mul_ediv_cancel_left _ (by omega)
    rw [e, eu]
    unfold addF
    refine low_spec ?_ (Int.mul_pos h2 q1) hM ?_
    · have := Int.mul_nonneg h1 (Int.le_of_lt q1); omega
    · have : ((sumF qs).1 * q + 1 * (sumF qs).2) * M = q * ((sumF qs).1 * M) + (sumF qs).2 * M := by
        rw [Int.add_mul]; congr 1
        · rw [Int.mul_comm (sumF qs).1 q, Int.mul_assoc]
        · rw [Int.one_mul]
      rw [this, h3]
      have hM' : (sumF qs).2 * M = (sumF qs).2 * q * c := by rw [Int.mul_assoc, ← hc]
      rw [hM', Int.mul_add, ← Int.mul_assoc, Int.mul_comm q]
theorem ups_le {M : Int} (hM : 0 < M) : ∀ {qs : List Int}, (∀ q ∈ qs, 0 < q) → 0 ≤ ups M qs ∧ ups M qs ≤ qs.length * M
  | [], _ => by simp [ups]
  | q :: qs, h => by
    obtain ⟨h1, h2⟩ := ups_le hM (qs := qs) fun x hx => h x (List.mem_cons_of_mem _ hx)
    have q1 := h q List.mem_cons_self
    have a1 : 0 ≤ M / q := Int.ediv_nonneg (by omega) (by omega)
    have a2 : M / q ≤ M := Int.ediv_le_self _ (by omega)
    have : ups M (q :: qs) = M / q + ups M qs := by simp [ups]
    rw [this]
    constructor
    · omega
    · simp; rw [Int.add_mul]; omega
theorem good_of {M : Int} (hM : 0 < M) (hM2 : M ≤ 1000000) {qs : List Int} (hl : qs.length ≤ 12) (h : ∀ q ∈ qs, 0 < q ∧ q ∣ M) : Good (sumF qs) := by
  obtain ⟨h1, h2, h3, h4⟩ := sumF_spec hM h
  obtain ⟨u1, u2⟩ := ups_le hM (qs := qs) fun q hq => (h q hq).1
  have d1 : (sumF qs).2 ≤ M := Int.le_of_dvd hM h4
  refine ⟨h1, ?_, h2, by omega⟩
  obtain ⟨c, hc⟩ := h4
  have c0 : 0 < c := by
    by_cases z : 0 < c
    · exact z
    · exfalso
      have : (sumF qs).2 * c ≤ 0 := Int.mul_nonpos_of_nonneg_of_nonpos (by omega) (by omega)
      omega
  have e : (sumF qs).1 * c = ups M qs := by
    have : (sumF qs).2 * ((sumF qs).1 * c) = (sumF qs).2 * ups M qs := by
      rw [← h3, hc, ← Int.mul_assoc, Int.mul_comm (sumF qs).2 (sumF qs).1, Int.mul_assoc]
    exact Int.eq_of_mul_eq_mul_left (by omega) this
  have l1 : (sumF qs).1 ≤ (sumF qs).1 * c := by
    have := Int.mul_le_mul_of_nonneg_left (show (1 : Int) ≤ c by omega) h1
    simpa using this
  have l2 : (qs.length : Int) * M ≤ 12 * 1000000 := Int.mul_le_mul (by omega) hM2 (by omega) (by omega)
  omega
/-- the sum is at most 1 -/
theorem sum_le_one {M : Int} (hM : 0 < M) {qs : List Int} (h : ∀ q ∈ qs, 0 < q ∧ q ∣ M) (hs : (sumF qs).1 ≤ (sumF qs).2) : ups M qs ≤ M := by
  obtain ⟨h1, h2, h3, h4⟩ := sumF_spec hM h
  have : (sumF qs).2 * ups M qs ≤ (sumF qs).2 * M := by rw [← h3]; exact Int.mul_le_mul_of_nonneg_right hs (by omega)
  exact Int.le_of_mul_le_mul_left this h2
end Lw
end

section
set_option Elab.async false
set_option linter.all false
set_option maxRecDepth 100000
set_option maxHeartbeats 4000000
set_option autoImplicit false
open PySem L2 Cv
namespace Lw
/-- a number that passes no bound, or a truth value -/
def okN (m : Int) (d : D) : Prop := (∃ i, d = .int i ∧ i ≤ m) ∨ ∃ b, d = .bl b
theorem r_cm_ok {w : Str} {m : Int} {d : D} (h : okN m d) : m_check_most [.imm (.str w), .imm d, .imm (.int m)] = .ok (.imm .non) [.imm (.str w), .imm d, .imm (.int m)] := by
  rcases h with ⟨i, rfl, h⟩ | ⟨b, rfl⟩
  · rw [r_check_most, if_neg (by omega)]
  · exact r_check_most_b w b m
theorem r_nums_ok {w : Str} {m : Int} {ds : List D} (h : ∀ d ∈ ds, okN m d) : m_check_numbers [.imm (.str w), .imm (.lst ds), .imm (.int m)] = .ok (.imm .non) [.imm (.str w), .imm (.lst ds), .imm (.int m)] := by
  obtain ⟨e', h1, x, h2⟩ := forL_rel (tg := gN 3) (body := sDrop (eCall m_check_most (aV (eVar 0) (aV (eVar 3) (aV (eVar 2) aNil))))) (ds := ds) (fun i e => ∃ x, e = [.imm (.str w), .imm (.lst ds), .imm (.int m), x]) (e := [.imm (.str w), .imm (.lst ds), .imm (.int m), .none]) ⟨.none, rfl⟩
    (fun i d e hd ⟨x, he⟩ => by
      subst he
      have r := r_cm_ok (w := w) (h d (List.mem_of_getElem? hd))
      exact ⟨_, [.imm (.str w), .imm (.lst ds), .imm (.int m), .imm d], rfl, .inl (by simp [mDef, outsOf, sSeq, sIf, sDrop, sRet, sRetN, sRetF, sRetO, sAsg, sAsgF, sAsgR, sPar, sSetIx, sAugIx, sAug, sRaise, sNext, sBrk, sCont, sFor, sSpoilA, sSpoilP, sTry, sHand, Fl.clr, suRet, suRetT, xFld, xC, liftP, liftT, okF, Res.bind, RP.bind, Res.of, RP.of, pVar, pC, p1, p2, pN, pAnd, pOr, pIf, pNil, pCons, pTup, pLst, pCall, qB, qAnd, qOr, qNot, dNot, eVar, Cv.e1, Cv.e2, eAnd, eOr, eIf, tBm, tAndm, tOrm, tNotm, vNil, vCons, aNil, aV, aS, eTup, fLst, eOfF, cOfF, cOfE, cVar, rNil, rE, rF, td_lst, mf_lst, dSub, dAdd, dFdiv, dMod, dNeg, dLt, dLe, dGt, dGe, dIsN, dNotN, dInt, dAbs, dMin2, dMax2, dLen, tyName, dIsi, dIx, eIx, cIx, cS, cL, sLen, sSum, lAll, kVar, kLst, kRep, kCat, kCut, fOfK, fCut, oNo, oI, fListP, itemsD, Sl.mo, Sl.put, ownL, setL, eApp, ePop, ePopAt, gN, gT, gsNil, gsCons, iR1, iR2, iLst, iTupl, eCall, fCall, slotsOf, argSl, putB, wCallT, eOfW, fOfW, unfre, qVar, qIx, freAt, lstOf, fl_non, fl_bl, fl_int, fl_str, fl_lst, fl_tup, fl_rls, tYesm, r]), _, rfl⟩)
  subst h2
  have st : b_check_numbers [.imm (.str w), .imm (.lst ds), .imm (.int m), .none] = _ := (for_ok (e1 := [.imm (.str w), .imm (.lst ds), .imm (.int m), .none]) (ds := ds) (by simp [mDef, outsOf, sSeq, sIf, sDrop, sRet, sRetN, sRetF, sRetO, sAsg, sAsgF, sAsgR, sPar, sSetIx, sAugIx, sAug, sRaise, sNext, sBrk, sCont, sFor, sSpoilA, sSpoilP, sTry, sHand, Fl.clr, suRet, suRetT, xFld, xC, liftP, liftT, okF, Res.bind, RP.bind, Res.of, RP.of, pVar, pC, p1, p2, pN, pAnd, pOr, pIf, pNil, pCons, pTup, pLst, pCall, qB, qAnd, qOr, qNot, dNot, eVar, Cv.e1, Cv.e2, eAnd, eOr, eIf, tBm, tAndm, tOrm, tNotm, vNil, vCons, aNil, aV, aS, eTup, fLst, eOfF, cOfF, cOfE, cVar, rNil, rE, rF, td_lst, mf_lst, dSub, dAdd, dFdiv, dMod, dNeg, dLt, dLe, dGt, dGe, dIsN, dNotN, dInt, dAbs, dMin2, dMax2, dLen, tyName, dIsi, dIx, eIx, cIx, cS, cL, sLen, sSum, lAll, kVar, kLst, kRep, kCat, kCut, fOfK, fCut, oNo, oI, fListP, itemsD, Sl.mo, Sl.put, ownL, setL, eApp, ePop, ePopAt, gN, gT, gsNil, gsCons, iR1, iR2, iLst, iTupl, eCall, fCall, slotsOf, argSl, putB, wCallT, eOfW, fOfW, unfre, qVar, qIx, freAt, lstOf, fl_non, fl_bl, fl_int, fl_str, fl_lst, fl_tup, fl_rls, tYesm])).trans h1
  rw [show m_check_numbers [.imm (.str w), .imm (.lst ds), .imm (.int m)] = _ from mDef_go rfl rfl st]
  simp [fin, outsOf]
def tooMany (w : Str) : Exc := ⟨"TooMany", [("what", .str w)]⟩
def badShare (w : Str) : Exc := ⟨"BadShare", [("what", .str w)]⟩
theorem r_nums_bad {w : Str} {m : Int} {ds : List D} (h : ∃ d ∈ ds, ∃ i, d = .int i ∧ m < i) (ho : ∀ d ∈ ds, (∃ i, d = .int i) ∨ ∃ b, d = .bl b) : m_check_numbers [.imm (.str w), .imm (.lst ds), .imm (.int m)] = .exc (tooMany w) [.imm (.str w), .imm (.lst ds), .imm (.int m)] := by
  obtain ⟨j, d, hj, ⟨n, rfl, hn⟩, hf⟩ := first_ix h
  have lp : ∃ x, forL (gN 3) (sDrop (eCall m_check_most (aV (eVar 0) (aV (eVar 3) (aV (eVar 2) aNil))))) ds [.imm (.str w), .imm (.lst ds), .imm (.int m), .none] = .exc (tooMany w) [.imm (.str w), .imm (.lst ds), .imm (.int m), x] :=
    forL_outR (R := fun r => ∃ x, r = .exc (tooMany w) [.imm (.str w), .imm (.lst ds), .imm (.int m), x]) (fun e => ⟨(fun ⟨_, z⟩ => by cases z), (fun ⟨_, z⟩ => by cases z), (fun ⟨_, z⟩ => by cases z)⟩) (fun i e => ∃ x, e = [.imm (.str w), .imm (.lst ds), .imm (.int m), x]) ⟨.none, rfl⟩
      (fun i d e hi hd ⟨x, he⟩ => by
        subst he
        have ok : okN m d := by
          rcases ho d (List.mem_of_getElem? hd) with ⟨z, rfl⟩ | ⟨b, rfl⟩
          · exact .inl ⟨z, rfl, by have := hf i _ hi hd; simp at this; exact this⟩
          · exact .inr ⟨b, rfl⟩
        have r := r_cm_ok (w := w) ok
        exact ⟨_, [.imm (.str w), .imm (.lst ds), .imm (.int m), .imm d], rfl, .inl (by simp [mDef, outsOf, sSeq, sIf, sDrop, sRet, sRetN, sRetF, sRetO, sAsg, sAsgF, sAsgR, sPar, sSetIx, sAugIx, sAug, sRaise, sNext, sBrk, sCont, sFor, sSpoilA, sSpoilP, sTry, sHand, Fl.clr, suRet, suRetT, xFld, xC, liftP, liftT, okF, Res.bind, RP.bind, Res.of, RP.of, pVar, pC, p1, p2, pN, pAnd, pOr, pIf, pNil, pCons, pTup, pLst, pCall, qB, qAnd, qOr, qNot, dNot, eVar, Cv.e1, Cv.e2, eAnd, eOr, eIf, tBm, tAndm, tOrm, tNotm, vNil, vCons, aNil, aV, aS, eTup, fLst, eOfF, cOfF, cOfE, cVar, rNil, rE, rF, td_lst, mf_lst, dSub, dAdd, dFdiv, dMod, dNeg, dLt, dLe, dGt, dGe, dIsN, dNotN, dInt, dAbs, dMin2, dMax2, dLen, tyName, dIsi, dIx, eIx, cIx, cS, cL, sLen, sSum, lAll, kVar, kLst, kRep, kCat, kCut, fOfK, fCut, oNo, oI, fListP, itemsD, Sl.mo, Sl.put, ownL, setL, eApp, ePop, ePopAt, gN, gT, gsNil, gsCons, iR1, iR2, iLst, iTupl, eCall, fCall, slotsOf, argSl, putB, wCallT, eOfW, fOfW, unfre, qVar, qIx, freAt, lstOf, fl_non, fl_bl, fl_int, fl_str, fl_lst, fl_tup, fl_rls, tYesm, r]), _, rfl⟩) hj
      (fun e ⟨x, he⟩ => by
        subst he
        have r := r_check_most w n m
        rw [if_pos hn] at r
        exact ⟨_, rfl, .imm (.int n), by simp [mDef, outsOf, sSeq, sIf, sDrop, sRet, sRetN, sRetF, sRetO, sAsg, sAsgF, sAsgR, sPar, sSetIx, sAugIx, sAug, sRaise, sNext, sBrk, sCont, sFor, sSpoilA, sSpoilP, sTry, sHand, Fl.clr, suRet, suRetT, xFld, xC, liftP, liftT, okF, Res.bind, RP.bind, Res.of, RP.of, pVar, pC, p1, p2, pN, pAnd, pOr, pIf, pNil, pCons, pTup, pLst, pCall, qB, qAnd, qOr, qNot, dNot, eVar, Cv.e1, Cv.e2, eAnd, eOr, eIf, tBm, tAndm, tOrm, tNotm, vNil, vCons, aNil, aV, aS, eTup, fLst, eOfF, cOfF, cOfE, cVar, rNil, rE, rF, td_lst, mf_lst, dSub, dAdd, dFdiv, dMod, dNeg, dLt, dLe, dGt, dGe, dIsN, dNotN, dInt, dAbs, dMin2, dMax2, dLen, tyName, dIsi, dIx, eIx, cIx, cS, cL, sLen, sSum, lAll, kVar, kLst, kRep, kCat, kCut, fOfK, fCut, oNo, oI, fListP, itemsD, Sl.mo, Sl.put, ownL, setL, eApp, ePop, ePopAt, gN, gT, gsNil, gsCons, iR1, iR2, iLst, iTupl, eCall, fCall, slotsOf, argSl, putB, wCallT, eOfW, fOfW, unfre, qVar, qIx, freAt, lstOf, fl_non, fl_bl, fl_int, fl_str, fl_lst, fl_tup, fl_rls, tYesm, r, tooMany]⟩)
  obtain ⟨x, lp⟩ := lp
  have st : b_check_numbers [.imm (.str w), .imm (.lst ds), .imm (.int m), .none] = _ := (for_ok (e1 := [.imm (.str w), .imm (.lst ds), .imm (.int m), .none]) (ds := ds) (by simp [mDef, outsOf, sSeq, sIf, sDrop, sRet, sRetN, sRetF, sRetO, sAsg, sAsgF, sAsgR, sPar, sSetIx, sAugIx, sAug, sRaise, sNext, sBrk, sCont, sFor, sSpoilA, sSpoilP, sTry, sHand, Fl.clr, suRet, suRetT, xFld, xC, liftP, liftT, okF, Res.bind, RP.bind, Res.of, RP.of, pVar, pC, p1, p2, pN, pAnd, pOr, pIf, pNil, pCons, pTup, pLst, pCall, qB, qAnd, qOr, qNot, dNot, eVar, Cv.e1, Cv.e2, eAnd, eOr, eIf, tBm, tAndm, tOrm, tNotm, vNil, vCons, aNil, aV, aS, eTup, fLst, eOfF, cOfF, cOfE, cVar, rNil, rE, rF, td_lst, mf_lst, dSub, dAdd, dFdiv, dMod, dNeg, dLt, dLe, dGt, dGe, dIsN, dNotN, dInt, dAbs, dMin2, dMax2, dLen, tyName, dIsi, dIx, eIx, cIx, cS, cL, sLen, sSum, lAll, kVar, kLst, kRep, kCat, kCut, fOfK, fCut, oNo, oI, fListP, itemsD, Sl.mo, Sl.put, ownL, setL, eApp, ePop, ePopAt, gN, gT, gsNil, gsCons, iR1, iR2, iLst, iTupl, eCall, fCall, slotsOf, argSl, putB, wCallT, eOfW, fOfW, unfre, qVar, qIx, freAt, lstOf, fl_non, fl_bl, fl_int, fl_str, fl_lst, fl_tup, fl_rls, tYesm])).trans lp
  rw [show m_check_numbers [.imm (.str w), .imm (.lst ds), .imm (.int m)] = _ from mDef_go rfl rfl st]
  simp [fin, outsOf]
/-! ### check_periods -/
theorem dLen_l (ds : List D) : dLen [.lst ds] = some (.int ds.length) := rfl
theorem cp_frac {ds : List D} (h : ∃ d ∈ ds, ∃ i, d = .int i ∧ 1000000 < i) (ho : ∀ d ∈ ds, (∃ i, d = .int i) ∨ ∃ b, d = .bl b) : m_check_periods [.imm (.lst ds)] = .exc (tooMany "fraction") [.imm (.lst ds)] := by
  have r := r_nums_bad (w := "fraction") h ho
  have st : b_check_periods [.imm (.lst ds), .none, .none, .none] = .exc (tooMany "fraction") [.imm (.lst ds), .none, .none, .none] := seq_exc (drop_exc (by simp [mDef, outsOf, sSeq, sIf, sDrop, sRet, sRetN, sRetF, sRetO, sAsg, sAsgF, sAsgR, sPar, sSetIx, sAugIx, sAug, sRaise, sNext, sBrk, sCont, sFor, sSpoilA, sSpoilP, sTry, sHand, Fl.clr, suRet, suRetT, xFld, xC, liftP, liftT, okF, Res.bind, RP.bind, Res.of, RP.of, pVar, pC, p1, p2, pN, pAnd, pOr, pIf, pNil, pCons, pTup, pLst, pCall, qB, qAnd, qOr, qNot, dNot, eVar, Cv.e1, Cv.e2, eAnd, eOr, eIf, tBm, tAndm, tOrm, tNotm, vNil, vCons, aNil, aV, aS, eTup, fLst, eOfF, cOfF, cOfE, cVar, rNil, rE, rF, td_lst, mf_lst, dSub, dAdd, dFdiv, dMod, dNeg, dLt, dLe, dGt, dGe, dIsN, dNotN, dInt, dAbs, dMin2, dMax2, dLen, tyName, dIsi, dIx, eIx, cIx, cS, cL, sLen, sSum, lAll, kVar, kLst, kRep, kCat, kCut, fOfK, fCut, oNo, oI, fListP, itemsD, Sl.mo, Sl.put, ownL, setL, eApp, ePop, ePopAt, gN, gT, gsNil, gsCons, iR1, iR2, iLst, iTupl, eCall, fCall, slotsOf, argSl, putB, wCallT, eOfW, fOfW, unfre, qVar, qIx, freAt, lstOf, fl_non, fl_bl, fl_int, fl_str, fl_lst, fl_tup, fl_rls, tYesm, r]))
  rw [show m_check_periods [.imm (.lst ds)] = _ from mDef_go rfl rfl st]
  simp [fin, outsOf]
theorem cp_houses {ds : List D} (h : ∀ d ∈ ds, okN 1000000 d) (hl : 12 < ds.length) : m_check_periods [.imm (.lst ds)] = .exc (tooMany "houses") [.imm (.lst ds)] := by
  have r := r_nums_ok (w := "fraction") h
  have r2 := r_check_most "houses" ds.length 12
  rw [if_pos (by omega)] at r2
  have st : b_check_periods [.imm (.lst ds), .none, .none, .none] = .exc (tooMany "houses") [.imm (.lst ds), .none, .none, .none] := (seq_next (e1 := [.imm (.lst ds), .none, .none, .none]) (drop_ok (d := .non) (by simp [mDef, outsOf, sSeq, sIf, sDrop, sRet, sRetN, sRetF, sRetO, sAsg, sAsgF, sAsgR, sPar, sSetIx, sAugIx, sAug, sRaise, sNext, sBrk, sCont, sFor, sSpoilA, sSpoilP, sTry, sHand, Fl.clr, suRet, suRetT, xFld, xC, liftP, liftT, okF, Res.bind, RP.bind, Res.of, RP.of, pVar, pC, p1, p2, pN, pAnd, pOr, pIf, pNil, pCons, pTup, pLst, pCall, qB, qAnd, qOr, qNot, dNot, eVar, Cv.e1, Cv.e2, eAnd, eOr, eIf, tBm, tAndm, tOrm, tNotm, vNil, vCons, aNil, aV, aS, eTup, fLst, eOfF, cOfF, cOfE, cVar, rNil, rE, rF, td_lst, mf_lst, dSub, dAdd, dFdiv, dMod, dNeg, dLt, dLe, dGt, dGe, dIsN, dNotN, dInt, dAbs, dMin2, dMax2, dLen, tyName, dIsi, dIx, eIx, cIx, cS, cL, sLen, sSum, lAll, kVar, kLst, kRep, kCat, kCut, fOfK, fCut, oNo, oI, fListP, itemsD, Sl.mo, Sl.put, ownL, setL, eApp, ePop, ePopAt, gN, gT, gsNil, gsCons, iR1, iR2, iLst, iTupl, eCall, fCall, slotsOf, argSl, putB, wCallT, eOfW, fOfW, unfre, qVar, qIx, freAt, lstOf, fl_non, fl_bl, fl_int, fl_str, fl_lst, fl_tup, fl_rls, tYesm, r]))).trans (seq_exc (drop_exc (by simp [mDef, outsOf, sSeq, sIf, sDrop, sRet, sRetN, sRetF, sRetO, sAsg, sAsgF, sAsgR, sPar, sSetIx, sAugIx, sAug, sRaise, sNext, sBrk, sCont, sFor, sSpoilA, sSpoilP, sTry, sHand, Fl.clr, suRet, suRetT, xFld, xC, liftP, liftT, okF, Res.bind, RP.bind, Res.of, RP.of, pVar, pC, p1, p2, pN, pAnd, pOr, pIf, pNil, pCons, pTup, pLst, pCall, qB, qAnd, qOr, qNot, dNot, eVar, Cv.e1, Cv.e2, eAnd, eOr, eIf, tBm, tAndm, tOrm, tNotm, vNil, vCons, aNil, aV, aS, eTup, fLst, eOfF, cOfF, cOfE, cVar, rNil, rE, rF, td_lst, mf_lst, dSub, dAdd, dFdiv, dMod, dNeg, dLt, dLe, dGt, dGe, dIsN, dNotN, dInt, dAbs, dMin2, dMax2, dLen, tyName, dIsi, dIx, eIx, cIx, cS, cL, sLen, sSum, lAll, kVar, kLst, kRep, kCat, kCut, fOfK, fCut, oNo, oI, fListP, itemsD, Sl.mo, Sl.put, ownL, setL, eApp, ePop, ePopAt, gN, gT, gsNil, gsCons, iR1, iR2, iLst, iTupl, eCall, fCall, slotsOf, argSl, putB, wCallT, eOfW, fOfW, unfre, qVar, qIx, freAt, lstOf, fl_non, fl_bl, fl_int, fl_str, fl_lst, fl_tup, fl_rls, tYesm, r2, tooMany])))
  rw [show m_check_periods [.imm (.lst ds)] = _ from mDef_go rfl rfl st]
  simp [fin, outsOf]
/-- the first two checks passed -/
theorem cp_two {ds : List D} (h : ∀ d ∈ ds, okN 1000000 d) (hl : ds.length ≤ 12) {rest : En → Fl} : sSeq (sDrop (eCall m_check_numbers (aV (liftP (pC (.str "fraction"))) (aV (eVar 0) (aV (liftP (pC (.int 1000000))) aNil))))) (sSeq (sDrop (eCall m_check_most (aV (liftP (pC (.str "houses"))) (aV (liftP (pN dLen (pCons (pVar 0) pNil))) (aV (liftP (pC (.int 12))) aNil))))) rest) [.imm (.lst ds), .none, .none, .none] = rest [.imm (.lst ds), .none, .none, .none] := by
  have r := r_nums_ok (w := "fraction") h
  have r2 := r_check_most "houses" ds.length 12
  rw [if_neg (by omega)] at r2
  exact (seq_next (e1 := [.imm (.lst ds), .none, .none, .none]) (drop_ok (d := .non) (by simp [mDef, outsOf, sSeq, sIf, sDrop, sRet, sRetN, sRetF, sRetO, sAsg, sAsgF, sAsgR, sPar, sSetIx, sAugIx, sAug, sRaise, sNext, sBrk, sCont, sFor, sSpoilA, sSpoilP, sTry, sHand, Fl.clr, suRet, suRetT, xFld, xC, liftP, liftT, okF, Res.bind, RP.bind, Res.of, RP.of, pVar, pC, p1, p2, pN, pAnd, pOr, pIf, pNil, pCons, pTup, pLst, pCall, qB, qAnd, qOr, qNot, dNot, eVar, Cv.e1, Cv.e2, eAnd, eOr, eIf, tBm, tAndm, tOrm, tNotm, vNil, vCons, aNil, aV, aS, eTup, fLst, eOfF, cOfF, cOfE, cVar, rNil, rE, rF, td_lst, mf_lst, dSub, dAdd, dFdiv, dMod, dNeg, dLt, dLe, dGt, dGe, dIsN, dNotN, dInt, dAbs, dMin2, dMax2, dLen, tyName, dIsi, dIx, eIx, cIx, cS, cL, sLen, sSum, lAll, kVar, kLst, kRep, kCat, kCut, fOfK, fCut, oNo, oI, fListP, itemsD, Sl.mo, Sl.put, ownL, setL, eApp, ePop, ePopAt, gN, gT, gsNil, gsCons, iR1, iR2, iLst, iTupl, eCall, fCall, slotsOf, argSl, putB, wCallT, eOfW, fOfW, unfre, qVar, qIx, freAt, lstOf, fl_non, fl_bl, fl_int, fl_str, fl_lst, fl_tup, fl_rls, tYesm, r]))).trans (seq_next (drop_ok (d := .non) (by simp [mDef, outsOf, sSeq, sIf, sDrop, sRet, sRetN, sRetF, sRetO, sAsg, sAsgF, sAsgR, sPar, sSetIx, sAugIx, sAug, sRaise, sNext, sBrk, sCont, sFor, sSpoilA, sSpoilP, sTry, sHand, Fl.clr, suRet, suRetT, xFld, xC, liftP, liftT, okF, Res.bind, RP.bind, Res.of, RP.of, pVar, pC, p1, p2, pN, pAnd, pOr, pIf, pNil, pCons, pTup, pLst, pCall, qB, qAnd, qOr, qNot, dNot, eVar, Cv.e1, Cv.e2, eAnd, eOr, eIf, tBm, tAndm, tOrm, tNotm, vNil, vCons, aNil, aV, aS, eTup, fLst, eOfF, cOfF, cOfE, cVar, rNil, rE, rF, td_lst, mf_lst, dSub, dAdd, dFdiv, dMod, dNeg, dLt, dLe, dGt, dGe, dIsN, dNotN, dInt, dAbs, dMin2, dMax2, dLen, tyName, dIsi, dIx, eIx, cIx, cS, cL, sLen, sSum, lAll, kVar, kLst, kRep, kCat, kCut, fOfK, fCut, oNo, oI, fListP, itemsD, Sl.mo, Sl.put, ownL, setL, eApp, ePop, ePopAt, gN, gT, gsNil, gsCons, iR1, iR2, iLst, iTupl, eCall, fCall, slotsOf, argSl, putB, wCallT, eOfW, fOfW, unfre, qVar, qIx, freAt, lstOf, fl_non, fl_bl, fl_int, fl_str, fl_lst, fl_tup, fl_rls, tYesm, r2])))
theorem cp_none : m_check_periods [.imm (.lst [])] = .exc (badShare "houses") [.imm (.lst [])] := by
  have st : b_check_periods [.imm (.lst []), .none, .none, .none] = .exc (badShare "houses") [.imm (.lst []), .none, .none, .none] := (cp_two (by simp) (by simp)).trans (seq_exc (by simp [mDef, outsOf, sSeq, sIf, sDrop, sRet, sRetN, sRetF, sRetO, sAsg, sAsgF, sAsgR, sPar, sSetIx, sAugIx, sAug, sRaise, sNext, sBrk, sCont, sFor, sSpoilA, sSpoilP, sTry, sHand, Fl.clr, suRet, suRetT, xFld, xC, liftP, liftT, okF, Res.bind, RP.bind, Res.of, RP.of, pVar, pC, p1, p2, pN, pAnd, pOr, pIf, pNil, pCons, pTup, pLst, pCall, qB, qAnd, qOr, qNot, dNot, eVar, Cv.e1, Cv.e2, eAnd, eOr, eIf, tBm, tAndm, tOrm, tNotm, vNil, vCons, aNil, aV, aS, eTup, fLst, eOfF, cOfF, cOfE, cVar, rNil, rE, rF, td_lst, mf_lst, dSub, dAdd, dFdiv, dMod, dNeg, dLt, dLe, dGt, dGe, dIsN, dNotN, dInt, dAbs, dMin2, dMax2, dLen, tyName, dIsi, dIx, eIx, cIx, cS, cL, sLen, sSum, lAll, kVar, kLst, kRep, kCat, kCut, fOfK, fCut, oNo, oI, fListP, itemsD, Sl.mo, Sl.put, ownL, setL, eApp, ePop, ePopAt, gN, gT, gsNil, gsCons, iR1, iR2, iLst, iTupl, eCall, fCall, slotsOf, argSl, putB, wCallT, eOfW, fOfW, unfre, qVar, qIx, freAt, lstOf, fl_non, fl_bl, fl_int, fl_str, fl_lst, fl_tup, fl_rls, tYesm, dEq_int, badShare]))
  rw [show m_check_periods [.imm (.lst [])] = _ from mDef_go rfl rfl st]
  simp [fin, outsOf]
theorem len_ne {ds : List D} (h : ds ≠ []) : ¬ ((ds.length : Int) = 0) := by
  cases ds with
  | nil => exact absurd rfl h
  | cons a r => simp; omega
/-- not a whole number from 1 on -/
def notP (d : D) : Prop := (∃ i, d = .int i ∧ i < 1) ∨ ∃ b, d = .bl b
theorem cp_notP {ds : List D} (h : ∀ d ∈ ds, okN 1000000 d) (hl : ds.length ≤ 12) (hb : ∃ d ∈ ds, notP d) : m_check_periods [.imm (.lst ds)] = .exc (badShare "periods") [.imm (.lst ds)] := by
  have hne : ds ≠ [] := fun z => by obtain ⟨d, hd, _⟩ := hb; rw [z] at hd; simp at hd
  obtain ⟨j, d, hj, hn, hf⟩ := first_ix hb
  have lp : ∃ x, forL (gN 1) (sIf (liftT (qNot (qB (pCall m_whole_from (pCons (pVar 1) (pCons (pC (.int 1)) pNil)))))) (sRaise "BadShare" "what" (liftP (pC (.str "periods")))) sNext) ds [.imm (.lst ds), .none, .none, .none] = .exc (badShare "periods") [.imm (.lst ds), x, .none, .none] :=
    forL_outR (R := fun r => ∃ x, r = .exc (badShare "periods") [.imm (.lst ds), x, .none, .none]) (fun e => ⟨(fun ⟨_, z⟩ => by cases z), (fun ⟨_, z⟩ => by cases z), (fun ⟨_, z⟩ => by cases z)⟩) (fun i e => ∃ x, e = [.imm (.lst ds), x, .none, .none]) ⟨.none, rfl⟩
      (fun i d e hi hd ⟨x, he⟩ => by
        subst he
        have nb := hf i d hi hd
        rcases h d (List.mem_of_getElem? hd) with ⟨z, rfl, _⟩ | ⟨b, rfl⟩
        · have h1 : 1 ≤ z := by
            by_cases c : 1 ≤ z
            · exact c
            · exact absurd (.inl ⟨z, rfl, by omega⟩) nb
          exact ⟨_, [.imm (.lst ds), .imm (.int z), .none, .none], rfl, .inl (by simp [mDef, outsOf, sSeq, sIf, sDrop, sRet, sRetN, sRetF, sRetO, sAsg, sAsgF, sAsgR, sPar, sSetIx, sAugIx, sAug, sRaise, sNext, sBrk, sCont, sFor, sSpoilA, sSpoilP, sTry, sHand, Fl.clr, suRet, suRetT, xFld, xC, liftP, liftT, okF, Res.bind, RP.bind, Res.of, RP.of, pVar, pC, p1, p2, pN, pAnd, pOr, pIf, pNil, pCons, pTup, pLst, pCall, qB, qAnd, qOr, qNot, dNot, eVar, Cv.e1, Cv.e2, eAnd, eOr, eIf, tBm, tAndm, tOrm, tNotm, vNil, vCons, aNil, aV, aS, eTup, fLst, eOfF, cOfF, cOfE, cVar, rNil, rE, rF, td_lst, mf_lst, dSub, dAdd, dFdiv, dMod, dNeg, dLt, dLe, dGt, dGe, dIsN, dNotN, dInt, dAbs, dMin2, dMax2, dLen, tyName, dIsi, dIx, eIx, cIx, cS, cL, sLen, sSum, lAll, kVar, kLst, kRep, kCat, kCut, fOfK, fCut, oNo, oI, fListP, itemsD, Sl.mo, Sl.put, ownL, setL, eApp, ePop, ePopAt, gN, gT, gsNil, gsCons, iR1, iR2, iLst, iTupl, eCall, fCall, slotsOf, argSl, putB, wCallT, eOfW, fOfW, unfre, qVar, qIx, freAt, lstOf, fl_non, fl_bl, fl_int, fl_str, fl_lst, fl_tup, fl_rls, tYesm, r_whole_from, h1]), _, rfl⟩
        · exact absurd (.inr ⟨b, rfl⟩) nb) hj
      (fun e ⟨x, he⟩ => by
        subst he
        rcases hn with ⟨z, rfl, hz⟩ | ⟨b, rfl⟩
        · have h1 : ¬ (1 ≤ z) := by omega
          exact ⟨_, rfl, .imm (.int z), by simp [mDef, outsOf, sSeq, sIf, sDrop, sRet, sRetN, sRetF, sRetO, sAsg, sAsgF, sAsgR, sPar, sSetIx, sAugIx, sAug, sRaise, sNext, sBrk, sCont, sFor, sSpoilA, sSpoilP, sTry, sHand, Fl.clr, suRet, suRetT, xFld, xC, liftP, liftT, okF, Res.bind, RP.bind, Res.of, RP.of, pVar, pC, p1, p2, pN, pAnd, pOr, pIf, pNil, pCons, pTup, pLst, pCall, qB, qAnd, qOr, qNot, dNot, eVar, Cv.e1, Cv.e2, eAnd, eOr, eIf, tBm, tAndm, tOrm, tNotm, vNil, vCons, aNil, aV, aS, eTup, fLst, eOfF, cOfF, cOfE, cVar, rNil, rE, rF, td_lst, mf_lst, dSub, dAdd, dFdiv, dMod, dNeg, dLt, dLe, dGt, dGe, dIsN, dNotN, dInt, dAbs, dMin2, dMax2, dLen, tyName, dIsi, dIx, eIx, cIx, cS, cL, sLen, sSum, lAll, kVar, kLst, kRep, kCat, kCut, fOfK, fCut, oNo, oI, fListP, itemsD, Sl.mo, Sl.put, ownL, setL, eApp, ePop, ePopAt, gN, gT, gsNil, gsCons, iR1, iR2, iLst, iTupl, eCall, fCall, slotsOf, argSl, putB, wCallT, eOfW, fOfW, unfre, qVar, qIx, freAt, lstOf, fl_non, fl_bl, fl_int, fl_str, fl_lst, fl_tup, fl_rls, tYesm, r_whole_from, h1, badShare]⟩
        · exact ⟨_, rfl, .imm (.bl b), by simp [mDef, outsOf, sSeq, sIf, sDrop, sRet, sRetN, sRetF, sRetO, sAsg, sAsgF, sAsgR, sPar, sSetIx, sAugIx, sAug, sRaise, sNext, sBrk, sCont, sFor, sSpoilA, sSpoilP, sTry, sHand, Fl.clr, suRet, suRetT, xFld, xC, liftP, liftT, okF, Res.bind, RP.bind, Res.of, RP.of, pVar, pC, p1, p2, pN, pAnd, pOr, pIf, pNil, pCons, pTup, pLst, pCall, qB, qAnd, qOr, qNot, dNot, eVar, Cv.e1, Cv.e2, eAnd, eOr, eIf, tBm, tAndm, tOrm, tNotm, vNil, vCons, aNil, aV, aS, eTup, fLst, eOfF, cOfF, cOfE, cVar, rNil, rE, rF, td_lst, mf_lst, dSub, dAdd, dFdiv, dMod, dNeg, dLt, dLe, dGt, dGe, dIsN, dNotN, dInt, dAbs, dMin2, dMax2, dLen, tyName, dIsi, dIx, eIx, cIx, cS, cL, sLen, sSum, lAll, kVar, kLst, kRep, kCat, kCut, fOfK, fCut, oNo, oI, fListP, itemsD, Sl.mo, Sl.put, ownL, setL, eApp, ePop, ePopAt, gN, gT, gsNil, gsCons, iR1, iR2, iLst, iTupl, eCall, fCall, slotsOf, argSl, putB, wCallT, eOfW, fOfW, unfre, qVar, qIx, freAt, lstOf, fl_non, fl_bl, fl_int, fl_str, fl_lst, fl_tup, fl_rls, tYesm, r_whole_from_b, badShare]⟩)
  obtain ⟨x, lp⟩ := lp
  have st : b_check_periods [.imm (.lst ds), .none, .none, .none] = _ := (cp_two h hl).trans ((seq_next (e1 := [.imm (.lst ds), .none, .none, .none]) (by simp [mDef, outsOf, sSeq, sIf, sDrop, sRet, sRetN, sRetF, sRetO, sAsg, sAsgF, sAsgR, sPar, sSetIx, sAugIx, sAug, sRaise, sNext, sBrk, sCont, sFor, sSpoilA, sSpoilP, sTry, sHand, Fl.clr, suRet, suRetT, xFld, xC, liftP, liftT, okF, Res.bind, RP.bind, Res.of, RP.of, pVar, pC, p1, p2, pN, pAnd, pOr, pIf, pNil, pCons, pTup, pLst, pCall, qB, qAnd, qOr, qNot, dNot, eVar, Cv.e1, Cv.e2, eAnd, eOr, eIf, tBm, tAndm, tOrm, tNotm, vNil, vCons, aNil, aV, aS, eTup, fLst, eOfF, cOfF, cOfE, cVar, rNil, rE, rF, td_lst, mf_lst, dSub, dAdd, dFdiv, dMod, dNeg, dLt, dLe, dGt, dGe, dIsN, dNotN, dInt, dAbs, dMin2, dMax2, dLen, tyName, dIsi, dIx, eIx, cIx, cS, cL, sLen, sSum, lAll, kVar, kLst, kRep, kCat, kCut, fOfK, fCut, oNo, oI, fListP, itemsD, Sl.mo, Sl.put, ownL, setL, eApp, ePop, ePopAt, gN, gT, gsNil, gsCons, iR1, iR2, iLst, iTupl, eCall, fCall, slotsOf, argSl, putB, wCallT, eOfW, fOfW, unfre, qVar, qIx, freAt, lstOf, fl_non, fl_bl, fl_int, fl_str, fl_lst, fl_tup, fl_rls, tYesm, dEq_int, hne])).trans (seq_exc ((for_ok (e1 := [.imm (.lst ds), .none, .none, .none]) (ds := ds) (by simp [mDef, outsOf, sSeq, sIf, sDrop, sRet, sRetN, sRetF, sRetO, sAsg, sAsgF, sAsgR, sPar, sSetIx, sAugIx, sAug, sRaise, sNext, sBrk, sCont, sFor, sSpoilA, sSpoilP, sTry, sHand, Fl.clr, suRet, suRetT, xFld, xC, liftP, liftT, okF, Res.bind, RP.bind, Res.of, RP.of, pVar, pC, p1, p2, pN, pAnd, pOr, pIf, pNil, pCons, pTup, pLst, pCall, qB, qAnd, qOr, qNot, dNot, eVar, Cv.e1, Cv.e2, eAnd, eOr, eIf, tBm, tAndm, tOrm, tNotm, vNil, vCons, aNil, aV, aS, eTup, fLst, eOfF, cOfF, cOfE, cVar, rNil, rE, rF, td_lst, mf_lst, dSub, dAdd, dFdiv, dMod, dNeg, dLt, dLe, dGt, dGe, dIsN, dNotN, dInt, dAbs, dMin2, dMax2, dLen, tyName, dIsi, dIx, eIx, cIx, cS, cL, sLen, sSum, lAll, kVar, kLst, kRep, kCat, kCut, fOfK, fCut, oNo, oI, fListP, itemsD, Sl.mo, Sl.put, ownL, setL, eApp, ePop, ePopAt, gN, gT, gsNil, gsCons, iR1, iR2, iLst, iTupl, eCall, fCall, slotsOf, argSl, putB, wCallT, eOfW, fOfW, unfre, qVar, qIx, freAt, lstOf, fl_non, fl_bl, fl_int, fl_str, fl_lst, fl_tup, fl_rls, tYesm])).trans lp)))
  rw [show m_check_periods [.imm (.lst ds)] = _ from mDef_go rfl rfl st]
  simp [fin, outsOf]
end Lw
end

section
set_option Elab.async false
set_option linter.all false
set_option maxRecDepth 100000
set_option maxHeartbeats 4000000
set_option autoImplicit false
open PySem L2 Cv
namespace Lw
theorem atI_map {ns : List Int} {i : Int} {j : Nat} {n : Int} (hj : i = (j : Int)) (h : ns[j]? = some n) : atI (ns.map D.int) i = some (.int n) := atI_of hj (by rw [List.getElem?_map, h]; rfl)
def intOk (n : Int) : Prop := 1 ≤ n ∧ n ≤ 1000000
/-- three checks passed, sorted -/
theorem cp_sorted {ns : List Int} (h : ∀ n ∈ ns, intOk n) (hl : ns.length ≤ 12) (hne : ns ≠ []) : ∃ x, ∀ rest : En → Fl, b_check_periods [.imm (.lst (ns.map .int)), .none, .none, .none] =
    sSeq (sFor (iR2 (vCons (liftP (pC (.int 1))) (vCons (liftP (pN dLen (pCons (pVar 2) pNil))) vNil))) (gN 3) (sIf (liftT (qB (p2 dNe (p2 dMod (pN dInt (pCons (p2 dIx (pVar 2) (pVar 3)) pNil)) (p2 dIx (pVar 2) (p2 dSub (pVar 3) (pC (.int 1))))) (pC (.int 0))))) (sRaise "BadShare" "what" (liftP (pC (.str "periods")))) sNext)) (sRetO 2)
      [.imm (.lst (ns.map .int)), x, .own (.lst ((sortI ns).map .int)), .none] := by
  have hok : ∀ d ∈ ns.map D.int, okN 1000000 d := fun d hd => by
    obtain ⟨n, hn, rfl⟩ := List.mem_map.mp hd
    exact .inl ⟨n, rfl, (h n hn).2⟩
  have hne' : ns.map D.int ≠ [] := fun z => hne (List.map_eq_nil_iff.mp z)
  obtain ⟨e', h1, x, h2⟩ := forL_rel (tg := gN 1) (body := sIf (liftT (qNot (qB (pCall m_whole_from (pCons (pVar 1) (pCons (pC (.int 1)) pNil)))))) (sRaise "BadShare" "what" (liftP (pC (.str "periods")))) sNext) (ds := ns.map .int) (fun i e => ∃ x, e = [.imm (.lst (ns.map .int)), x, .none, .none]) (e := [.imm (.lst (ns.map .int)), .none, .none, .none]) ⟨.none, rfl⟩
    (fun i d e hd ⟨x, he⟩ => by
      subst he
      obtain ⟨n, hn, rfl⟩ := List.mem_map.mp (List.mem_of_getElem? hd)
      exact ⟨_, [.imm (.lst (ns.map .int)), .imm (.int n), .none, .none], rfl, .inl (by simp [mDef, outsOf, sSeq, sIf, sDrop, sRet, sRetN, sRetF, sRetO, sAsg, sAsgF, sAsgR, sPar, sSetIx, sAugIx, sAug, sRaise, sNext, sBrk, sCont, sFor, sSpoilA, sSpoilP, sTry, sHand, Fl.clr, suRet, suRetT, xFld, xC, liftP, liftT, okF, Res.bind, RP.bind, Res.of, RP.of, pVar, pC, p1, p2, pN, pAnd, pOr, pIf, pNil, pCons, pTup, pLst, pCall, qB, qAnd, qOr, qNot, dNot, eVar, Cv.e1, Cv.e2, eAnd, eOr, eIf, tBm, tAndm, tOrm, tNotm, vNil, vCons, aNil, aV, aS, eTup, fLst, eOfF, cOfF, cOfE, cVar, rNil, rE, rF, td_lst, mf_lst, dSub, dAdd, dFdiv, dMod, dNeg, dLt, dLe, dGt, dGe, dIsN, dNotN, dInt, dAbs, dMin2, dMax2, dLen, tyName, dIsi, dIx, eIx, cIx, cS, cL, sLen, sSum, lAll, kVar, kLst, kRep, kCat, kCut, fOfK, fCut, oNo, oI, fListP, itemsD, Sl.mo, Sl.put, ownL, setL, eApp, ePop, ePopAt, gN, gT, gsNil, gsCons, iR1, iR2, iLst, iTupl, eCall, fCall, slotsOf, argSl, putB, wCallT, eOfW, fOfW, unfre, qVar, qIx, freAt, lstOf, fl_non, fl_bl, fl_int, fl_str, fl_lst, fl_tup, fl_rls, tYesm, r_whole_from, (h n hn).1]), _, rfl⟩)
  subst h2
  refine ⟨x, fun _ => ?_⟩
  refine (cp_two hok (by simpa using hl)).trans ((seq_next (e1 := [.imm (.lst (ns.map .int)), .none, .none, .none]) (by simp [mDef, outsOf, sSeq, sIf, sDrop, sRet, sRetN, sRetF, sRetO, sAsg, sAsgF, sAsgR, sPar, sSetIx, sAugIx, sAug, sRaise, sNext, sBrk, sCont, sFor, sSpoilA, sSpoilP, sTry, sHand, Fl.clr, suRet, suRetT, xFld, xC, liftP, liftT, okF, Res.bind, RP.bind, Res.of, RP.of, pVar, pC, p1, p2, pN, pAnd, pOr, pIf, pNil, pCons, pTup, pLst, pCall, qB, qAnd, qOr, qNot, dNot, eVar, Cv.e1, Cv.e2, eAnd, eOr, eIf, tBm, tAndm, tOrm, tNotm, vNil, vCons, aNil, aV, aS, eTup, fLst, eOfF, cOfF, cOfE, cVar, rNil, rE, rF, td_lst, mf_lst, dSub, dAdd, dFdiv, dMod, dNeg, dLt, dLe, dGt, dGe, dIsN, dNotN, dInt, dAbs, dMin2, dMax2, dLen, tyName, dIsi, dIx, eIx, cIx, cS, cL, sLen, sSum, lAll, kVar, kLst, kRep, kCat, kCut, fOfK, fCut, oNo, oI, fListP, itemsD, Sl.mo, Sl.put, ownL, setL, eApp, ePop, ePopAt, gN, gT, gsNil, gsCons, iR1, iR2, iLst, iTupl, eCall, fCall, slotsOf, argSl, putB, wCallT, eOfW, fOfW, unfre, qVar, qIx, freAt, lstOf, fl_non, fl_bl, fl_int, fl_str, fl_lst, fl_tup, fl_rls, tYesm, dEq_int, hne])).trans ((seq_next ((for_ok (e1 := [.imm (.lst (ns.map .int)), .none, .none, .none]) (ds := ns.map .int) (by simp [mDef, outsOf, sSeq, sIf, sDrop, sRet, sRetN, sRetF, sRetO, sAsg, sAsgF, sAsgR, sPar, sSetIx, sAugIx, sAug, sRaise, sNext, sBrk, sCont, sFor, sSpoilA, sSpoilP, sTry, sHand, Fl.clr, suRet, suRetT, xFld, xC, liftP, liftT, okF, Res.bind, RP.bind, Res.of, RP.of, pVar, pC, p1, p2, pN, pAnd, pOr, pIf, pNil, pCons, pTup, pLst, pCall, qB, qAnd, qOr, qNot, dNot, eVar, Cv.e1, Cv.e2, eAnd, eOr, eIf, tBm, tAndm, tOrm, tNotm, vNil, vCons, aNil, aV, aS, eTup, fLst, eOfF, cOfF, cOfE, cVar, rNil, rE, rF, td_lst, mf_lst, dSub, dAdd, dFdiv, dMod, dNeg, dLt, dLe, dGt, dGe, dIsN, dNotN, dInt, dAbs, dMin2, dMax2, dLen, tyName, dIsi, dIx, eIx, cIx, cS, cL, sLen, sSum, lAll, kVar, kLst, kRep, kCat, kCut, fOfK, fCut, oNo, oI, fListP, itemsD, Sl.mo, Sl.put, ownL, setL, eApp, ePop, ePopAt, gN, gT, gsNil, gsCons, iR1, iR2, iLst, iTupl, eCall, fCall, slotsOf, argSl, putB, wCallT, eOfW, fOfW, unfre, qVar, qIx, freAt, lstOf, fl_non, fl_bl, fl_int, fl_str, fl_lst, fl_tup, fl_rls, tYesm])).trans h1)).trans ?_))
  exact seq_next (by simp [mDef, outsOf, sSeq, sIf, sDrop, sRet, sRetN, sRetF, sRetO, sAsg, sAsgF, sAsgR, sPar, sSetIx, sAugIx, sAug, sRaise, sNext, sBrk, sCont, sFor, sSpoilA, sSpoilP, sTry, sHand, Fl.clr, suRet, suRetT, xFld, xC, liftP, liftT, okF, Res.bind, RP.bind, Res.of, RP.of, pVar, pC, p1, p2, pN, pAnd, pOr, pIf, pNil, pCons, pTup, pLst, pCall, qB, qAnd, qOr, qNot, dNot, eVar, Cv.e1, Cv.e2, eAnd, eOr, eIf, tBm, tAndm, tOrm, tNotm, vNil, vCons, aNil, aV, aS, eTup, fLst, eOfF, cOfF, cOfE, cVar, rNil, rE, rF, td_lst, mf_lst, dSub, dAdd, dFdiv, dMod, dNeg, dLt, dLe, dGt, dGe, dIsN, dNotN, dInt, dAbs, dMin2, dMax2, dLen, tyName, dIsi, dIx, eIx, cIx, cS, cL, sLen, sSum, lAll, kVar, kLst, kRep, kCat, kCut, fOfK, fCut, oNo, oI, fListP, itemsD, Sl.mo, Sl.put, ownL, setL, eApp, ePop, ePopAt, gN, gT, gsNil, gsCons, iR1, iR2, iLst, iTupl, eCall, fCall, slotsOf, argSl, putB, wCallT, eOfW, fOfW, unfre, qVar, qIx, freAt, lstOf, fl_non, fl_bl, fl_int, fl_str, fl_lst, fl_tup, fl_rls, tYesm, lSortI, intsD_map])
theorem sortI_len (ns : List Int) : (sortI ns).length = ns.length := (sortI_perm ns).length_eq
theorem cp_ok {ns : List Int} (h : ∀ n ∈ ns, intOk n) (hl : ns.length ≤ 12) (hne : ns ≠ []) (hd : ∀ (i : Nat) (a b : Int), (sortI ns)[i]? = some a → (sortI ns)[i + 1]? = some b → b % a = 0) : m_check_periods [.imm (.lst (ns.map .int))] = .ok (.own (.lst ((sortI ns).map .int))) [.imm (.lst (ns.map .int))] := by
  obtain ⟨x, hx⟩ := cp_sorted h hl hne
  have hsl := sortI_len ns
  have hpos : 0 < ns.length := List.length_pos_iff.mpr hne
  obtain ⟨e', h1, y, h2⟩ := forL_rel (tg := gN 3) (body := sIf (liftT (qB (p2 dNe (p2 dMod (pN dInt (pCons (p2 dIx (pVar 2) (pVar 3)) pNil)) (p2 dIx (pVar 2) (p2 dSub (pVar 3) (pC (.int 1))))) (pC (.int 0))))) (sRaise "BadShare" "what" (liftP (pC (.str "periods")))) sNext) (ds := rng 1 (ns.length - 1)) (fun i e => ∃ y, e = [.imm (.lst (ns.map .int)), x, .own (.lst ((sortI ns).map .int)), y]) (e := [.imm (.lst (ns.map .int)), x, .own (.lst ((sortI ns).map .int)), .none]) ⟨.none, rfl⟩
    (fun i d e hd' ⟨y, he⟩ => by
      subst he
      obtain ⟨hi, rfl⟩ := rng_get hd'
      have hb : (sortI ns)[i + 1]? = some ((sortI ns)[i + 1]'(by omega)) := List.getElem?_eq_getElem (by omega)
      have ha : (sortI ns)[i]? = some ((sortI ns)[i]'(by omega)) := List.getElem?_eq_getElem (by omega)
      have h0 := hd i _ _ ha hb
      have pa : 0 < (sortI ns)[i]'(by omega) := by have := (h _ ((sortI_perm ns).mem_iff.mp (List.mem_of_getElem? ha))).1; omega
      have x1 := atI_map (i := 1 + (i : Int)) (by omega) hb
      have x2 := atI_map (i := 1 + (i : Int) - 1) (by omega) ha
      exact ⟨_, [.imm (.lst (ns.map .int)), x, .own (.lst ((sortI ns).map .int)), .imm (.int (1 + i))], rfl, .inl (by simp only [mDef, outsOf, sSeq, sIf, sDrop, sRet, sRetN, sRetF, sRetO, sAsg, sAsgF, sAsgR, sPar, sSetIx, sAugIx, sAug, sRaise, sNext, sBrk, sCont, sFor, sSpoilA, sSpoilP, sTry, sHand, Fl.clr, suRet, suRetT, xFld, xC, liftP, liftT, okF, Res.bind, RP.bind, Res.of, RP.of, pVar, pC, p1, p2, pN, pAnd, pOr, pIf, pNil, pCons, pTup, pLst, pCall, qB, qAnd, qOr, qNot, dNot, eVar, Cv.e1, Cv.e2, eAnd, eOr, eIf, tBm, tAndm, tOrm, tNotm, vNil, vCons, aNil, aV, aS, eTup, fLst, eOfF, cOfF, cOfE, cVar, rNil, rE, rF, td_lst, mf_lst, dSub, dAdd, dFdiv, dMod, dNeg, dLt, dLe, dGt, dGe, dIsN, dNotN, dInt, dAbs, dMin2, dMax2, dLen, tyName, dIsi, dIx, eIx, cIx, cS, cL, sLen, sSum, lAll, kVar, kLst, kRep, kCat, kCut, fOfK, fCut, oNo, oI, fListP, itemsD, Sl.mo, Sl.put, ownL, setL, eApp, ePop, ePopAt, gN, gT, gsNil, gsCons, iR1, iR2, iLst, iTupl, eCall, fCall, slotsOf, argSl, putB, wCallT, eOfW, fOfW, unfre, qVar, qIx, freAt, lstOf, fl_non, fl_bl, fl_int, fl_str, fl_lst, fl_tup, fl_rls, tYesm, List.set_cons_succ, List.set_cons_zero, x1, x2, if_pos pa, h0, dNe_int, List.getElem?_cons_zero, List.getElem?_cons_succ, decide_true, Bool.not_true]), _, rfl⟩)
  subst h2
  have st : b_check_periods [.imm (.lst (ns.map .int)), .none, .none, .none] = _ := (hx sNext).trans (seq_next ((for_ok (e1 := [.imm (.lst (ns.map .int)), x, .own (.lst ((sortI ns).map .int)), .none]) (ds := rng 1 (ns.length - 1)) (iR2_ok (i := 1) (j := ns.length) (by simp [mDef, outsOf, sSeq, sIf, sDrop, sRet, sRetN, sRetF, sRetO, sAsg, sAsgF, sAsgR, sPar, sSetIx, sAugIx, sAug, sRaise, sNext, sBrk, sCont, sFor, sSpoilA, sSpoilP, sTry, sHand, Fl.clr, suRet, suRetT, xFld, xC, liftP, liftT, okF, Res.bind, RP.bind, Res.of, RP.of, pVar, pC, p1, p2, pN, pAnd, pOr, pIf, pNil, pCons, pTup, pLst, pCall, qB, qAnd, qOr, qNot, dNot, eVar, Cv.e1, Cv.e2, eAnd, eOr, eIf, tBm, tAndm, tOrm, tNotm, vNil, vCons, aNil, aV, aS, eTup, fLst, eOfF, cOfF, cOfE, cVar, rNil, rE, rF, td_lst, mf_lst, dSub, dAdd, dFdiv, dMod, dNeg, dLt, dLe, dGt, dGe, dIsN, dNotN, dInt, dAbs, dMin2, dMax2, dLen, tyName, dIsi, dIx, eIx, cIx, cS, cL, sLen, sSum, lAll, kVar, kLst, kRep, kCat, kCut, fOfK, fCut, oNo, oI, fListP, itemsD, Sl.mo, Sl.put, ownL, setL, eApp, ePop, ePopAt, gN, gT, gsNil, gsCons, iR1, iR2, iLst, iTupl, eCall, fCall, slotsOf, argSl, putB, wCallT, eOfW, fOfW, unfre, qVar, qIx, freAt, lstOf, fl_non, fl_bl, fl_int, fl_str, fl_lst, fl_tup, fl_rls, tYesm, hsl]) (by omega) (by omega) (by omega) (by omega) (by omega))).trans h1))
  rw [show m_check_periods [.imm (.lst (ns.map .int))] = _ from mDef_go rfl rfl st]
  simp [mDef, outsOf, sSeq, sIf, sDrop, sRet, sRetN, sRetF, sRetO, sAsg, sAsgF, sAsgR, sPar, sSetIx, sAugIx, sAug, sRaise, sNext, sBrk, sCont, sFor, sSpoilA, sSpoilP, sTry, sHand, Fl.clr, suRet, suRetT, xFld, xC, liftP, liftT, okF, Res.bind, RP.bind, Res.of, RP.of, pVar, pC, p1, p2, pN, pAnd, pOr, pIf, pNil, pCons, pTup, pLst, pCall, qB, qAnd, qOr, qNot, dNot, eVar, Cv.e1, Cv.e2, eAnd, eOr, eIf, tBm, tAndm, tOrm, tNotm, vNil, vCons, aNil, aV, aS, eTup, fLst, eOfF, cOfF, cOfE, cVar, rNil, rE, rF, td_lst, mf_lst, dSub, dAdd, dFdiv, dMod, dNeg, dLt, dLe, dGt, dGe, dIsN, dNotN, dInt, dAbs, dMin2, dMax2, dLen, tyName, dIsi, dIx, eIx, cIx, cS, cL, sLen, sSum, lAll, kVar, kLst, kRep, kCat, kCut, fOfK, fCut, oNo, oI, fListP, itemsD, Sl.mo, Sl.put, ownL, setL, eApp, ePop, ePopAt, gN, gT, gsNil, gsCons, iR1, iR2, iLst, iTupl, eCall, fCall, slotsOf, argSl, putB, wCallT, eOfW, fOfW, unfre, qVar, qIx, freAt, lstOf, fl_non, fl_bl, fl_int, fl_str, fl_lst, fl_tup, fl_rls, tYesm, fin]
theorem cp_bad {ns : List Int} (h : ∀ n ∈ ns, intOk n) (hl : ns.length ≤ 12) (hne : ns ≠ []) (hd : ∃ (i : Nat) (a b : Int), (sortI ns)[i]? = some a ∧ (sortI ns)[i + 1]? = some b ∧ b % a ≠ 0) : m_check_periods [.imm (.lst (ns.map .int))] = .exc (badShare "periods") [.imm (.lst (ns.map .int))] := by
  obtain ⟨x, hx⟩ := cp_sorted h hl hne
  have hsl := sortI_len ns
  have hpos : 0 < ns.length := List.length_pos_iff.mpr hne
  have key : ∀ (i : Nat) (y : Sl), i + 1 < ns.length → ∃ a b, (sortI ns)[i]? = some a ∧ (sortI ns)[i + 1]? = some b ∧ sIf (liftT (qB (p2 dNe (p2 dMod (pN dInt (pCons (p2 dIx (pVar 2) (pVar 3)) pNil)) (p2 dIx (pVar 2) (p2 dSub (pVar 3) (pC (.int 1))))) (pC (.int 0))))) (sRaise "BadShare" "what" (liftP (pC (.str "periods")))) sNext [.imm (.lst (ns.map .int)), x, .own (.lst ((sortI ns).map .int)), .imm (.int (1 + i))] =
      if b % a = 0 then .next [.imm (.lst (ns.map .int)), x, .own (.lst ((sortI ns).map .int)), .imm (.int (1 + i))] else .exc (badShare "periods") [.imm (.lst (ns.map .int)), x, .own (.lst ((sortI ns).map .int)), .imm (.int (1 + i))] := fun i y hi => by
    have hb : (sortI ns)[i + 1]? = some ((sortI ns)[i + 1]'(by omega)) := List.getElem?_eq_getElem (by omega)
    have ha : (sortI ns)[i]? = some ((sortI ns)[i]'(by omega)) := List.getElem?_eq_getElem (by omega)
    have pa : 0 < (sortI ns)[i]'(by omega) := by have := (h _ ((sortI_perm ns).mem_iff.mp (List.mem_of_getElem? ha))).1; omega
    have x1 := atI_map (i := 1 + (i : Int)) (by omega) hb
    have x2 := atI_map (i := 1 + (i : Int) - 1) (by omega) ha
    refine ⟨_, _, ha, hb, ?_⟩
    by_cases c : (sortI ns)[i + 1]'(by omega) % (sortI ns)[i]'(by omega) = 0
    · rw [if_pos c]
      simp only [mDef, outsOf, sSeq, sIf, sDrop, sRet, sRetN, sRetF, sRetO, sAsg, sAsgF, sAsgR, sPar, sSetIx, sAugIx, sAug, sRaise, sNext, sBrk, sCont, sFor, sSpoilA, sSpoilP, sTry, sHand, Fl.clr, suRet, suRetT, xFld, xC, liftP, liftT, okF, Res.bind, RP.bind, Res.of, RP.of, pVar, pC, p1, p2, pN, pAnd, pOr, pIf, pNil, pCons, pTup, pLst, pCall, qB, qAnd, qOr, qNot, dNot, eVar, Cv.e1, Cv.e2, eAnd, eOr, eIf, tBm, tAndm, tOrm, tNotm, vNil, vCons, aNil, aV, aS, eTup, fLst, eOfF, cOfF, cOfE, cVar, rNil, rE, rF, td_lst, mf_lst, dSub, dAdd, dFdiv, dMod, dNeg, dLt, dLe, dGt, dGe, dIsN, dNotN, dInt, dAbs, dMin2, dMax2, dLen, tyName, dIsi, dIx, eIx, cIx, cS, cL, sLen, sSum, lAll, kVar, kLst, kRep, kCat, kCut, fOfK, fCut, oNo, oI, fListP, itemsD, Sl.mo, Sl.put, ownL, setL, eApp, ePop, ePopAt, gN, gT, gsNil, gsCons, iR1, iR2, iLst, iTupl, eCall, fCall, slotsOf, argSl, putB, wCallT, eOfW, fOfW, unfre, qVar, qIx, freAt, lstOf, fl_non, fl_bl, fl_int, fl_str, fl_lst, fl_tup, fl_rls, tYesm, x1, x2, if_pos pa, c, dNe_int, List.getElem?_cons_zero, List.getElem?_cons_succ, decide_true, Bool.not_true]
    · rw [if_neg c]
      simp only [mDef, outsOf, sSeq, sIf, sDrop, sRet, sRetN, sRetF, sRetO, sAsg, sAsgF, sAsgR, sPar, sSetIx, sAugIx, sAug, sRaise, sNext, sBrk, sCont, sFor, sSpoilA, sSpoilP, sTry, sHand, Fl.clr, suRet, suRetT, xFld, xC, liftP, liftT, okF, Res.bind, RP.bind, Res.of, RP.of, pVar, pC, p1, p2, pN, pAnd, pOr, pIf, pNil, pCons, pTup, pLst, pCall, qB, qAnd, qOr, qNot, dNot, eVar, Cv.e1, Cv.e2, eAnd, eOr, eIf, tBm, tAndm, tOrm, tNotm, vNil, vCons, aNil, aV, aS, eTup, fLst, eOfF, cOfF, cOfE, cVar, rNil, rE, rF, td_lst, mf_lst, dSub, dAdd, dFdiv, dMod, dNeg, dLt, dLe, dGt, dGe, dIsN, dNotN, dInt, dAbs, dMin2, dMax2, dLen, tyName, dIsi, dIx, eIx, cIx, cS, cL, sLen, sSum, lAll, kVar, kLst, kRep, kCat, kCut, fOfK, fCut, oNo, oI, fListP, itemsD, Sl.mo, Sl.put, ownL, setL, eApp, ePop, ePopAt, gN, gT, gsNil, gsCons, iR1, iR2, iLst, iTupl, eCall, fCall, slotsOf, argSl, putB, wCallT, eOfW, fOfW, unfre, qVar, qIx, freAt, lstOf, fl_non, fl_bl, fl_int, fl_str, fl_lst, fl_tup, fl_rls, tYesm, x1, x2, if_pos pa, dNe_int, List.getElem?_cons_zero, List.getElem?_cons_succ, decide_eq_false c, Bool.not_false, badShare]
      rfl
  obtain ⟨i0, a0, b0, ha0, hb0, hc0⟩ := hd
  have hi0 : i0 + 1 < ns.length := by have := (List.getElem?_eq_some_iff.mp hb0).1; omega
  have lp : ∃ y, forL (gN 3) (sIf (liftT (qB (p2 dNe (p2 dMod (pN dInt (pCons (p2 dIx (pVar 2) (pVar 3)) pNil)) (p2 dIx (pVar 2) (p2 dSub (pVar 3) (pC (.int 1))))) (pC (.int 0))))) (sRaise "BadShare" "what" (liftP (pC (.str "periods")))) sNext) (rng 1 (ns.length - 1)) [.imm (.lst (ns.map .int)), x, .own (.lst ((sortI ns).map .int)), .none] = .exc (badShare "periods") [.imm (.lst (ns.map .int)), x, .own (.lst ((sortI ns).map .int)), y] := by
    have ex : ∃ d ∈ rng 1 (ns.length - 1), ∃ (i : Nat) (a b : Int), d = .int (1 + i) ∧ (sortI ns)[i]? = some a ∧ (sortI ns)[i + 1]? = some b ∧ b % a ≠ 0 := by
      refine ⟨.int (1 + i0), ?_, i0, a0, b0, rfl, ha0, hb0, hc0⟩
      unfold rng
      exact List.mem_map.mpr ⟨i0, List.mem_range.mpr (by omega), rfl⟩
    obtain ⟨j, d, hj, ⟨i, a, b, rfl, h1, h2, h3⟩, hf⟩ := first_ix ex
    obtain ⟨hj1, hj2⟩ := rng_get hj
    refine forL_outR (R := fun r => ∃ y, r = .exc (badShare "periods") [.imm (.lst (ns.map .int)), x, .own (.lst ((sortI ns).map .int)), y]) (fun e => ⟨(fun ⟨_, z⟩ => by cases z), (fun ⟨_, z⟩ => by cases z), (fun ⟨_, z⟩ => by cases z)⟩) (fun i e => ∃ y, e = [.imm (.lst (ns.map .int)), x, .own (.lst ((sortI ns).map .int)), y]) ⟨.none, rfl⟩ ?_ hj ?_
    · rintro i' d' e hi' hd' ⟨y, rfl⟩
      obtain ⟨q1, rfl⟩ := rng_get hd'
      obtain ⟨a', b', ha', hb', hk⟩ := key i' y (by omega)
      refine ⟨_, [.imm (.lst (ns.map .int)), x, .own (.lst ((sortI ns).map .int)), .imm (.int (1 + i'))], rfl, .inl ?_, _, rfl⟩
      have z : b' % a' = 0 := by
        by_cases c : b' % a' = 0
        · exact c
        · exact absurd ⟨i', a', b', rfl, ha', hb', c⟩ (hf i' _ hi' hd')
      rw [if_pos z] at hk
      exact hk
    · rintro e ⟨y, rfl⟩
      have ij : i = j := by
        have := D.int.inj hj2; omega
      subst ij
      obtain ⟨a', b', ha', hb', hk⟩ := key i y (by omega)
      rw [h1] at ha'; rw [h2] at hb'; cases ha'; cases hb'
      rw [if_neg h3] at hk
      exact ⟨_, rfl, _, hk⟩
  obtain ⟨y, lp⟩ := lp
  have st : b_check_periods [.imm (.lst (ns.map .int)), .none, .none, .none] = _ := (hx sNext).trans (seq_exc ((for_ok (e1 := [.imm (.lst (ns.map .int)), x, .own (.lst ((sortI ns).map .int)), .none]) (ds := rng 1 (ns.length - 1)) (iR2_ok (i := 1) (j := ns.length) (by simp [mDef, outsOf, sSeq, sIf, sDrop, sRet, sRetN, sRetF, sRetO, sAsg, sAsgF, sAsgR, sPar, sSetIx, sAugIx, sAug, sRaise, sNext, sBrk, sCont, sFor, sSpoilA, sSpoilP, sTry, sHand, Fl.clr, suRet, suRetT, xFld, xC, liftP, liftT, okF, Res.bind, RP.bind, Res.of, RP.of, pVar, pC, p1, p2, pN, pAnd, pOr, pIf, pNil, pCons, pTup, pLst, pCall, qB, qAnd, qOr, qNot, dNot, eVar, Cv.e1, Cv.e2, eAnd, eOr, eIf, tBm, tAndm, tOrm, tNotm, vNil, vCons, aNil, aV, aS, eTup, fLst, eOfF, cOfF, cOfE, cVar, rNil, rE, rF, td_lst, mf_lst, dSub, dAdd, dFdiv, dMod, dNeg, dLt, dLe, dGt, dGe, dIsN, dNotN, dInt, dAbs, dMin2, dMax2, dLen, tyName, dIsi, dIx, eIx, cIx, cS, cL, sLen, sSum, lAll, kVar, kLst, kRep, kCat, kCut, fOfK, fCut, oNo, oI, fListP, itemsD, Sl.mo, Sl.put, ownL, setL, eApp, ePop, ePopAt, gN, gT, gsNil, gsCons, iR1, iR2, iLst, iTupl, eCall, fCall, slotsOf, argSl, putB, wCallT, eOfW, fOfW, unfre, qVar, qIx, freAt, lstOf, fl_non, fl_bl, fl_int, fl_str, fl_lst, fl_tup, fl_rls, tYesm, hsl]) (by omega) (by omega) (by omega) (by omega) (by omega))).trans lp))
  rw [show m_check_periods [.imm (.lst (ns.map .int))] = _ from mDef_go rfl rfl st]
  simp [mDef, outsOf, sSeq, sIf, sDrop, sRet, sRetN, sRetF, sRetO, sAsg, sAsgF, sAsgR, sPar, sSetIx, sAugIx, sAug, sRaise, sNext, sBrk, sCont, sFor, sSpoilA, sSpoilP, sTry, sHand, Fl.clr, suRet, suRetT, xFld, xC, liftP, liftT, okF, Res.bind, RP.bind, Res.of, RP.of, pVar, pC, p1, p2, pN, pAnd, pOr, pIf, pNil, pCons, pTup, pLst, pCall, qB, qAnd, qOr, qNot, dNot, eVar, Cv.e1, Cv.e2, eAnd, eOr, eIf, tBm, tAndm, tOrm, tNotm, vNil, vCons, aNil, aV, aS, eTup, fLst, eOfF, cOfF, cOfE, cVar, rNil, rE, rF, td_lst, mf_lst, dSub, dAdd, dFdiv, dMod, dNeg, dLt, dLe, dGt, dGe, dIsN, dNotN, dInt, dAbs, dMin2, dMax2, dLen, tyName, dIsi, dIx, eIx, cIx, cS, cL, sLen, sSum, lAll, kVar, kLst, kRep, kCat, kCut, fOfK, fCut, oNo, oI, fListP, itemsD, Sl.mo, Sl.put, ownL, setL, eApp, ePop, ePopAt, gN, gT, gsNil, gsCons, iR1, iR2, iLst, iTupl, eCall, fCall, slotsOf, argSl, putB, wCallT, eOfW, fOfW, unfre, qVar, qIx, freAt, lstOf, fl_non, fl_bl, fl_int, fl_str, fl_lst, fl_tup, fl_rls, tYesm, fin]
end Lw
end

section
set_option Elab.async false
set_option linter.all false
set_option maxRecDepth 100000
set_option maxHeartbeats 4000000
set_option autoImplicit false
open PySem L2 Cv
namespace Lw
/-- a rising chain of periods -/
structure Chn (asc : List Int) : Prop where
  pos : ∀ a ∈ asc, 0 < a
  le : ∀ a ∈ asc, a ≤ 1000000
  len : asc.length ≤ 12
  dv : ∀ (i j : Nat) (a b : Int), i ≤ j → asc[i]? = some a → asc[j]? = some b → a ∣ b
def stepP (P u : Int) (s : Int × Int) (a : Int) : Int × Int := (s.1 + (u / (P / a) % (a / s.2)) * s.2, a)
def usedP (P : Int) (l : List Int) : Int := (l.map fun a => P / a).sum
def foldP (P u : Int) (l : List Int) : Int × Int := l.foldl (stepP P u) (0, 1)
theorem foldP_take {P u : Int} {l : List Int} {i : Nat} {a : Int} (h : l[i]? = some a) : foldP P u (l.take (i + 1)) = stepP P u (foldP P u (l.take i)) a := by
  unfold foldP
  rw [List.take_add_one, h, List.foldl_append]
  rfl
theorem foldP_snd {P u : Int} {l : List Int} {i : Nat} {a : Int} (h : l[i]? = some a) : (foldP P u (l.take (i + 1))).2 = a := by rw [foldP_take h]; rfl
theorem rng_map_used {P : Int} {l : List Int} {n : Nat} (hn : n ≤ l.length) : intsD ((rng 0 n).map fun d => match d with | .int i => D.int (P / (l.getD i.toNat 0)) | d => d) = some ((l.take n).map fun a => P / a) := by
  have e : ((rng 0 n).map fun d => match d with | .int i => D.int (P / (l.getD i.toNat 0)) | d => d) = ((l.take n).map fun a => P / a).map D.int := by
    apply List.ext_getElem?
    intro i
    rw [List.getElem?_map, List.getElem?_map, List.getElem?_map]
    by_cases h : i < n
    · have h1 : (rng 0 n)[i]? = some (.int i) := by
        unfold rng
        rw [List.getElem?_map, List.getElem?_range h]; simp
      have h2 : (l.take n)[i]? = some (l[i]'(by omega)) := by rw [List.getElem?_take_of_lt h]; exact List.getElem?_eq_getElem (by omega)
      rw [h1, h2]
      simp [List.getD, List.getElem?_eq_getElem (show i < l.length by omega)]
    · rw [List.getElem?_eq_none (by rw [rng_len]; omega), List.getElem?_eq_none (by rw [List.length_take]; omega)]; rfl
  rw [e]; exact intsD_map _
theorem r_phase {asc : List Int} (c : Chn asc) {t : Nat} {P : Int} (ht : asc[t]? = some P) : m_phase_at [.imm (.lst (asc.map .int)), .imm (.int t)] = .ok (.imm (.int (foldP P (usedP P (asc.take t)) (asc.take (t + 1))).1)) [.imm (.lst (asc.map .int)), .imm (.int t)] := by
  have hlt : t < asc.length := (List.getElem?_eq_some_iff.mp ht).1
  have hl := c.len
  have pP : 0 < P := c.pos P (List.mem_of_getElem? ht)
  have lP : P ≤ 1000000 := c.le P (List.mem_of_getElem? ht)
  have cnt : ((t : Int) + 1).toNat = t + 1 := by omega
  have x0 := atI_map (i := (t : Int)) rfl ht
  generalize hA : D.lst (asc.map D.int) = A at *
  -- the sum
  have hc := fLc_map (vs := [6]) (src := iR1 (vCons (eVar 1) vNil)) (tg := gN 6) (test := tYesm) (elt := liftP (p2 dFdiv (pVar 2) (p2 dIx (pVar 0) (pVar 6)))) (e := [.imm A, .imm (.int t), .imm (.int P), .none, .none, .none, .none, .none]) (e1 := [.imm A, .imm (.int t), .imm (.int P), .none, .none, .none, .none, .none]) (ds := rng 0 t)
    (fun d => match d with | .int i => D.int (P / (asc.getD i.toNat 0)) | d => d) (iR1_ok (j := t) rfl (by omega) (by omega) (by omega)) rfl (fun d hd => by
      obtain ⟨i, hi, rfl⟩ := List.mem_map.mp hd
      have hi' : i < t := List.mem_range.mp hi
      have ha : asc[i]? = some (asc[i]'(by omega)) := List.getElem?_eq_getElem (by omega)
      have x1 := atI_map (i := 0 + (i : Int)) (by omega) ha
      have pa := c.pos _ (List.mem_of_getElem? ha)
      have la := c.le _ (List.mem_of_getElem? ha)
      refine ⟨[.imm A, .imm (.int t), .imm (.int P), .none, .none, .none, .imm (.int (0 + i)), .none], rfl, rfl, ?_, rfl, rfl⟩
      have e2 : asc.getD (0 + (i : Int)).toNat 0 = asc[i]'(by omega) := by
        have : (0 + (i : Int)).toNat = i := by omega
        rw [this, List.getD, ha]; rfl
      have dv := cdivW_of (i := P) pa (by omega)
      subst hA
      simp only [mDef, outsOf, sSeq, sIf, sDrop, sRet, sRetN, sRetF, sRetO, sAsg, sAsgF, sAsgR, sPar, sSetIx, sAugIx, sAug, sRaise, sNext, sBrk, sCont, sFor, sSpoilA, sSpoilP, sTry, sHand, Fl.clr, suRet, suRetT, xFld, xC, liftP, liftT, okF, Res.bind, RP.bind, Res.of, RP.of, pVar, pC, p1, p2, pN, pAnd, pOr, pIf, pNil, pCons, pTup, pLst, pCall, qB, qAnd, qOr, qNot, dNot, eVar, Cv.e1, Cv.e2, eAnd, eOr, eIf, tBm, tAndm, tOrm, tNotm, vNil, vCons, aNil, aV, aS, eTup, fLst, eOfF, cOfF, cOfE, cVar, rNil, rE, rF, td_lst, mf_lst, dSub, dAdd, dFdiv, dMod, dNeg, dLt, dLe, dGt, dGe, dIsN, dNotN, dInt, dAbs, dMin2, dMax2, dLen, tyName, dIsi, dIx, eIx, cIx, cS, cL, sLen, sSum, lAll, kVar, kLst, kRep, kCat, kCut, fOfK, fCut, oNo, oI, fListP, itemsD, Sl.mo, Sl.put, ownL, setL, eApp, ePop, ePopAt, gN, gT, gsNil, gsCons, iR1, iR2, iLst, iTupl, eCall, fCall, slotsOf, argSl, putB, wCallT, eOfW, fOfW, unfre, qVar, qIx, freAt, lstOf, fl_non, fl_bl, fl_int, fl_str, fl_lst, fl_tup, fl_rls, tYesm, x1, e2, if_pos dv, List.getElem?_cons_zero, List.getElem?_cons_succ, if_true]) (le_line (by rw [rng_len]; omega))
  have hsum : (cS sSum (cOfF (fLc (iR1 (vCons (eVar 1) vNil)) [6] (gN 6) tYesm (liftP (p2 dFdiv (pVar 2) (p2 dIx (pVar 0) (pVar 6))))))) [.imm A, .imm (.int t), .imm (.int P), .none, .none, .none, .none, .none] = .ok (.int (usedP P (asc.take t))) [.imm A, .imm (.int t), .imm (.int P), .none, .none, .none, .none, .none] := by
    unfold cS cOfF
    rw [hc]
    simp only [Res.bind, sSum, if_true, rng_map_used (P := P) (Nat.le_of_lt hlt), Option.map_some, okF, fl_int]
    rfl
  -- the loop
  obtain ⟨e', h1, x, y, h2⟩ := forL_rel (tg := gN 6) (body := sSeq (sAsg (liftP (p2 dMod (pN dInt (pCons (p2 dFdiv (pVar 3) (p2 dFdiv (pVar 2) (p2 dIx (pVar 0) (pVar 6)))) pNil)) (p2 dFdiv (p2 dIx (pVar 0) (pVar 6)) (pVar 5)))) (gN 7)) (sSeq (sAsg (liftP (p2 dAdd (pVar 4) (p2 dMul (pVar 7) (pVar 5)))) (gN 4)) (sAsg (cIx (cVar 0) (pVar 6)) (gN 5))))
    (ds := rng 0 (t + 1)) (fun i e => ∃ x y, e = [.imm A, .imm (.int t), .imm (.int P), .imm (.int (usedP P (asc.take t))), .imm (.int (foldP P (usedP P (asc.take t)) (asc.take i)).1), .imm (.int (foldP P (usedP P (asc.take t)) (asc.take i)).2), x, y])
    (e := [.imm A, .imm (.int t), .imm (.int P), .imm (.int (usedP P (asc.take t))), .imm (.int 0), .imm (.int 1), .none, .none]) ⟨.none, .none, rfl⟩
    (fun i d e hd ⟨x, y, he⟩ => by
      subst he
      obtain ⟨hi, rfl⟩ := rng_get hd
      have ha : asc[i]? = some (asc[i]'(by omega)) := List.getElem?_eq_getElem (by omega)
      rw [foldP_take ha]
      generalize asc[i]'(by omega) = a at ha
      have x1 := atI_map (i := 0 + (i : Int)) (by omega) ha
      have pa := c.pos _ (List.mem_of_getElem? ha)
      have la := c.le _ (List.mem_of_getElem? ha)
      have aP : a ∣ P := c.dv i t a P (by omega) ha ht
      have pw : 0 < (foldP P (usedP P (asc.take t)) (asc.take i)).2 ∧ (foldP P (usedP P (asc.take t)) (asc.take i)).2 ≤ 1000000 ∧ (foldP P (usedP P (asc.take t)) (asc.take i)).2 ∣ a := by
        cases i with
        | zero => exact ⟨by show (0 : Int) < 1; decide, by show (1 : Int) ≤ 1000000; decide, ⟨a, by simp [foldP]⟩⟩
        | succ i =>
          have hb : asc[i]? = some (asc[i]'(by omega)) := List.getElem?_eq_getElem (by omega)
          rw [foldP_snd hb]
          exact ⟨c.pos _ (List.mem_of_getElem? hb), c.le _ (List.mem_of_getElem? hb), c.dv i (i + 1) _ _ (by omega) hb ha⟩
      generalize foldP P (usedP P (asc.take t)) (asc.take i) = s at pw
      obtain ⟨ph, w⟩ := s
      obtain ⟨w1, w2, w3⟩ := pw
      dsimp only at w1 w2 w3
      have q1 : 0 < P / a := Int.ediv_pos_of_pos_of_dvd pP (by omega) aP
      have q2 : P / a ≤ 1000000 := Int.le_trans (Int.ediv_le_self _ (by omega)) lP
      have q3 : 0 < a / w := Int.ediv_pos_of_pos_of_dvd pa (by omega) w3
      have d1 := cdivW_of (i := P) pa (by omega)
      have d2 := cdivW_of (i := usedP P (asc.take t)) q1 (by omega)
      have d3 := cdivW_of (i := a) w1 (by omega)
      generalize usedP P (asc.take t) = u at d2
      have m1 : dMul (.int (u / (P / a) % (a / w))) (.int w) = some (.int (u / (P / a) % (a / w) * w)) := dMul_r (by omega) (by omega)
      generalize (0 + (i : Int)) = z at x1
      subst hA
      refine ⟨_, [.imm (.lst (asc.map .int)), .imm (.int t), .imm (.int P), .imm (.int u), .imm (.int (stepP P u (ph, w) a).1), .imm (.int (stepP P u (ph, w) a).2), .imm (.int z), .imm (.int (u / (P / a) % (a / w)))], rfl, .inl ?_, _, _, rfl⟩
      simp only [mDef, outsOf, sSeq, sIf, sDrop, sRet, sRetN, sRetF, sRetO, sAsg, sAsgF, sAsgR, sPar, sSetIx, sAugIx, sAug, sRaise, sNext, sBrk, sCont, sFor, sSpoilA, sSpoilP, sTry, sHand, Fl.clr, suRet, suRetT, xFld, xC, liftP, liftT, okF, Res.bind, RP.bind, Res.of, RP.of, pVar, pC, p1, p2, pN, pAnd, pOr, pIf, pNil, pCons, pTup, pLst, pCall, qB, qAnd, qOr, qNot, dNot, eVar, Cv.e1, Cv.e2, eAnd, eOr, eIf, tBm, tAndm, tOrm, tNotm, vNil, vCons, aNil, aV, aS, eTup, fLst, eOfF, cOfF, cOfE, cVar, rNil, rE, rF, td_lst, mf_lst, dSub, dAdd, dFdiv, dMod, dNeg, dLt, dLe, dGt, dGe, dIsN, dNotN, dInt, dAbs, dMin2, dMax2, dLen, tyName, dIsi, dIx, eIx, cIx, cS, cL, sLen, sSum, lAll, kVar, kLst, kRep, kCat, kCut, fOfK, fCut, oNo, oI, fListP, itemsD, Sl.mo, Sl.put, ownL, setL, eApp, ePop, ePopAt, gN, gT, gsNil, gsCons, iR1, iR2, iLst, iTupl, eCall, fCall, slotsOf, argSl, putB, wCallT, eOfW, fOfW, unfre, qVar, qIx, freAt, lstOf, fl_non, fl_bl, fl_int, fl_str, fl_lst, fl_tup, fl_rls, tYesm, List.set_cons_succ, List.set_cons_zero, x1, if_pos d1, if_pos d2, if_pos d3, if_pos q3, m1, stepP, List.getElem?_cons_zero, List.getElem?_cons_succ, List.length_cons, List.length_nil, Nat.reduceAdd, Nat.reduceLT, if_true])
  subst h2
  rw [rng_len] at h1
  have s1 : sAsg (cIx (cVar 0) (pVar 1)) (gN 2) [.imm A, .imm (.int t), .none, .none, .none, .none, .none, .none] = .next [.imm A, .imm (.int t), .imm (.int P), .none, .none, .none, .none, .none] :=
    asg_ok (d := .int P) (e1 := [.imm A, .imm (.int t), .none, .none, .none, .none, .none, .none]) (by subst hA; simp only [mDef, outsOf, sSeq, sIf, sDrop, sRet, sRetN, sRetF, sRetO, sAsg, sAsgF, sAsgR, sPar, sSetIx, sAugIx, sAug, sRaise, sNext, sBrk, sCont, sFor, sSpoilA, sSpoilP, sTry, sHand, Fl.clr, suRet, suRetT, xFld, xC, liftP, liftT, okF, Res.bind, RP.bind, Res.of, RP.of, pVar, pC, p1, p2, pN, pAnd, pOr, pIf, pNil, pCons, pTup, pLst, pCall, qB, qAnd, qOr, qNot, dNot, eVar, Cv.e1, Cv.e2, eAnd, eOr, eIf, tBm, tAndm, tOrm, tNotm, vNil, vCons, aNil, aV, aS, eTup, fLst, eOfF, cOfF, cOfE, cVar, rNil, rE, rF, td_lst, mf_lst, dSub, dAdd, dFdiv, dMod, dNeg, dLt, dLe, dGt, dGe, dIsN, dNotN, dInt, dAbs, dMin2, dMax2, dLen, tyName, dIsi, dIx, eIx, cIx, cS, cL, sLen, sSum, lAll, kVar, kLst, kRep, kCat, kCut, fOfK, fCut, oNo, oI, fListP, itemsD, Sl.mo, Sl.put, ownL, setL, eApp, ePop, ePopAt, gN, gT, gsNil, gsCons, iR1, iR2, iLst, iTupl, eCall, fCall, slotsOf, argSl, putB, wCallT, eOfW, fOfW, unfre, qVar, qIx, freAt, lstOf, fl_non, fl_bl, fl_int, fl_str, fl_lst, fl_tup, fl_rls, tYesm, x0, List.getElem?_cons_zero, List.getElem?_cons_succ]) rfl
  have s2 := asg_ok (g := gN 3) hsum rfl
  have s3 : ∀ u, sAsg (liftP (pC (.int 0))) (gN 4) [.imm A, .imm (.int t), .imm (.int P), .imm u, .none, .none, .none, .none] = .next [.imm A, .imm (.int t), .imm (.int P), .imm u, .imm (.int 0), .none, .none, .none] := fun u => rfl
  have s4 : ∀ u, sAsg (liftP (pC (.int 1))) (gN 5) [.imm A, .imm (.int t), .imm (.int P), .imm u, .imm (.int 0), .none, .none, .none] = .next [.imm A, .imm (.int t), .imm (.int P), .imm u, .imm (.int 0), .imm (.int 1), .none, .none] := fun u => rfl
  have s5 := (for_ok (src := iR1 (vCons (liftP (p2 dAdd (pVar 1) (pC (.int 1)))) vNil)) (e := [.imm A, .imm (.int t), .imm (.int P), .imm (.int (usedP P (asc.take t))), .imm (.int 0), .imm (.int 1), .none, .none]) (e1 := [.imm A, .imm (.int t), .imm (.int P), .imm (.int (usedP P (asc.take t))), .imm (.int 0), .imm (.int 1), .none, .none]) (ds := rng 0 (t + 1)) (iR1_ok (j := (t : Int) + 1) rfl (by omega) (by omega) cnt)).trans h1
  have s6 : ∀ u v w, sRet (eVar 4) [.imm A, .imm (.int t), .imm (.int P), .imm u, .imm v, .imm w, x, y] = .ret (.imm v) [.imm A, .imm (.int t), .imm (.int P), .imm u, .imm v, .imm w, x, y] := fun u v w => rfl
  have st := (seq_next s1).trans ((seq_next s2).trans ((seq_next (s3 _)).trans ((seq_next (s4 _)).trans ((seq_next s5).trans (s6 _ _ _)))))
  exact mDef_go (np := 2) (n := 8) (b := b_phase_at) (as := [.imm A, .imm (.int t)]) (e := [.imm A, .imm (.int t), .none, .none, .none, .none, .none, .none]) rfl rfl st
end Lw
end

section
set_option Elab.async false
set_option linter.all false
set_option maxRecDepth 100000
set_option maxHeartbeats 4000000
set_option autoImplicit false
open PySem L2 Cv
namespace Lw
theorem r_below {a b c d : Int} (h : CMul a d ∨ CMulW a d) (h2 : CMul c b ∨ CMulW c b) : m_below [.imm (.tup [.int a, .int b]), .imm (.tup [.int c, .int d])] = .ok (.imm (.bl (decide (a * d < c * b)))) [.imm (.tup [.int a, .int b]), .imm (.tup [.int c, .int d])] := by
  simp [m_below, b_below, mDef, outsOf, sSeq, sIf, sDrop, sRet, sRetN, sRetF, sRetO, sAsg, sAsgF, sAsgR, sPar, sSetIx, sAugIx, sAug, sRaise, sNext, sBrk, sCont, sFor, sSpoilA, sSpoilP, sTry, sHand, Fl.clr, suRet, suRetT, xFld, xC, liftP, liftT, okF, Res.bind, RP.bind, Res.of, RP.of, pVar, pC, p1, p2, pN, pAnd, pOr, pIf, pNil, pCons, pTup, pLst, pCall, qB, qAnd, qOr, qNot, dNot, eVar, Cv.e1, Cv.e2, eAnd, eOr, eIf, tBm, tAndm, tOrm, tNotm, vNil, vCons, aNil, aV, aS, eTup, fLst, eOfF, cOfF, cOfE, cVar, rNil, rE, rF, td_lst, mf_lst, dSub, dAdd, dFdiv, dMod, dNeg, dLt, dLe, dGt, dGe, dIsN, dNotN, dInt, dAbs, dMin2, dMax2, dLen, tyName, dIsi, dIx, eIx, cIx, cS, cL, sLen, sSum, lAll, kVar, kLst, kRep, kCat, kCut, fOfK, fCut, oNo, oI, fListP, itemsD, Sl.mo, Sl.put, ownL, setL, eApp, ePop, ePopAt, gN, gT, gsNil, gsCons, iR1, iR2, iLst, iTupl, eCall, fCall, slotsOf, argSl, putB, wCallT, eOfW, fOfW, unfre, qVar, qIx, freAt, lstOf, fl_non, fl_bl, fl_int, fl_str, fl_lst, fl_tup, fl_rls, tYesm, dMul, h, h2, atI, ixN]
theorem chn_good {asc : List Int} (c : Chn asc) : ∀ i, i ≤ asc.length → Good (sumF (asc.take i)) := by
  intro i hi
  by_cases h : asc = []
  · subst h; rw [List.take_nil]; exact ⟨by decide, by decide, by decide, by decide⟩
  · have hp : 0 < asc.length := List.length_pos_iff.mpr h
    have hM : asc[asc.length - 1]? = some (asc[asc.length - 1]'(by omega)) := List.getElem?_eq_getElem (by omega)
    have mM := List.mem_of_getElem? hM
    refine good_of (c.pos _ mM) (c.le _ mM) (by rw [List.length_take]; have := c.len; omega) fun q hq => ?_
    have hq' := List.mem_of_mem_take hq
    obtain ⟨j, hj, e⟩ := List.getElem_of_mem hq'
    exact ⟨c.pos _ hq', c.dv j (asc.length - 1) _ _ (by omega) (by rw [List.getElem?_eq_getElem hj, e]) hM⟩
/-- the places with their periods, in order -/
def prs (ns : List Int) : List (Int × Int) := (List.range ns.length).map fun (i : Nat) => (ns.getD i 0, (i : Int))
def ordP (ns : List Int) : List (Int × Int) := sortP (prs ns)
theorem ordP_len (ns : List Int) : (ordP ns).length = ns.length := by unfold ordP; rw [(sortP_perm _).length_eq]; simp [prs]
/-- the phase of turn t -/
def phT (ns : List Int) (t : Nat) : Int := (foldP ((sortI ns).getD t 0) (usedP ((sortI ns).getD t 0) ((sortI ns).take t)) ((sortI ns).take (t + 1))).1
def setP (ns : List Int) : Nat → List Int
  | 0 => List.replicate ns.length 0
  | i + 1 => (setP ns i).set ((ordP ns).getD i (0, 0)).2.toNat (phT ns i)
theorem setP_len (ns : List Int) : ∀ i, (setP ns i).length = ns.length
  | 0 => by simp [setP]
  | i + 1 => by simp [setP, setP_len ns i]
def chainD (ns : List Int) : D := if (sumF (sortI ns)).2 < (sumF (sortI ns)).1 then .tup [.str "more than one", tupF (sumF (sortI ns))] else .tup [.str "phases", .lst ((setP ns ns.length).map .int)]
theorem ord_snd {ns : List Int} {p : Int × Int} (h : p ∈ ordP ns) : ∃ i : Nat, i < ns.length ∧ p = (ns.getD i 0, (i : Int)) := by
  have h' := (sortP_perm (prs ns)).mem_iff.mp h
  obtain ⟨i, hi, rfl⟩ := List.mem_map.mp h'
  exact ⟨i, List.mem_range.mp hi, rfl⟩
theorem r_chain {ns : List Int} (h : ∀ n ∈ ns, intOk n) (hl : ns.length ≤ 12) (hne : ns ≠ []) (hd : ∀ (i : Nat) (a b : Int), (sortI ns)[i]? = some a → (sortI ns)[i + 1]? = some b → b % a = 0) (c : Chn (sortI ns)) :
    m_chain_phases [.imm (.lst (ns.map .int))] = .ok (.imm (chainD ns)) [.imm (.lst (ns.map .int))] := by
  have r1 := cp_ok h hl hne hd
  have hsl := sortI_len ns
  generalize hA : D.lst (ns.map .int) = A at *
  generalize hB : D.lst ((sortI ns).map D.int) = B
  have g := chn_good c
  have r2 := r_sum g fun q hq => ⟨c.pos q hq, c.le q hq⟩
  have gt := g _ (Nat.le_refl _)
  rw [List.take_length] at gt
  have s1 : sAsgF (fCall m_check_periods (aV (eVar 0) aNil)) 1 [.imm A, .none, .none, .none, .none, .none, .none, .none] = .next [.imm A, .own (.lst ((sortI ns).map .int)), .none, .none, .none, .none, .none, .none] := by
    simp [mDef, outsOf, sSeq, sIf, sDrop, sRet, sRetN, sRetF, sRetO, sAsg, sAsgF, sAsgR, sPar, sSetIx, sAugIx, sAug, sRaise, sNext, sBrk, sCont, sFor, sSpoilA, sSpoilP, sTry, sHand, Fl.clr, suRet, suRetT, xFld, xC, liftP, liftT, okF, Res.bind, RP.bind, Res.of, RP.of, pVar, pC, p1, p2, pN, pAnd, pOr, pIf, pNil, pCons, pTup, pLst, pCall, qB, qAnd, qOr, qNot, dNot, eVar, Cv.e1, Cv.e2, eAnd, eOr, eIf, tBm, tAndm, tOrm, tNotm, vNil, vCons, aNil, aV, aS, eTup, fLst, eOfF, cOfF, cOfE, cVar, rNil, rE, rF, td_lst, mf_lst, dSub, dAdd, dFdiv, dMod, dNeg, dLt, dLe, dGt, dGe, dIsN, dNotN, dInt, dAbs, dMin2, dMax2, dLen, tyName, dIsi, dIx, eIx, cIx, cS, cL, sLen, sSum, lAll, kVar, kLst, kRep, kCat, kCut, fOfK, fCut, oNo, oI, fListP, itemsD, Sl.mo, Sl.put, ownL, setL, eApp, ePop, ePopAt, gN, gT, gsNil, gsCons, iR1, iR2, iLst, iTupl, eCall, fCall, slotsOf, argSl, putB, wCallT, eOfW, fOfW, unfre, qVar, qIx, freAt, lstOf, fl_non, fl_bl, fl_int, fl_str, fl_lst, fl_tup, fl_rls, tYesm, r1]
  have hc := fLc_map (vs := [6]) (src := iLst (eVar 1)) (tg := gN 6) (test := tYesm) (elt := eTup (vCons (liftP (pC (.int 1))) (vCons (eVar 6) vNil))) (e := [.imm A, .own (.lst ((sortI ns).map .int)), .none, .none, .none, .none, .none, .none]) (e1 := [.imm A, .imm B, .none, .none, .none, .none, .none, .none]) (ds := (sortI ns).map .int)
    (fun d => .tup [.int 1, d]) (by subst hB; simp [mDef, outsOf, sSeq, sIf, sDrop, sRet, sRetN, sRetF, sRetO, sAsg, sAsgF, sAsgR, sPar, sSetIx, sAugIx, sAug, sRaise, sNext, sBrk, sCont, sFor, sSpoilA, sSpoilP, sTry, sHand, Fl.clr, suRet, suRetT, xFld, xC, liftP, liftT, okF, Res.bind, RP.bind, Res.of, RP.of, pVar, pC, p1, p2, pN, pAnd, pOr, pIf, pNil, pCons, pTup, pLst, pCall, qB, qAnd, qOr, qNot, dNot, eVar, Cv.e1, Cv.e2, eAnd, eOr, eIf, tBm, tAndm, tOrm, tNotm, vNil, vCons, aNil, aV, aS, eTup, fLst, eOfF, cOfF, cOfE, cVar, rNil, rE, rF, td_lst, mf_lst, dSub, dAdd, dFdiv, dMod, dNeg, dLt, dLe, dGt, dGe, dIsN, dNotN, dInt, dAbs, dMin2, dMax2, dLen, tyName, dIsi, dIx, eIx, cIx, cS, cL, sLen, sSum, lAll, kVar, kLst, kRep, kCat, kCut, fOfK, fCut, oNo, oI, fListP, itemsD, Sl.mo, Sl.put, ownL, setL, eApp, ePop, ePopAt, gN, gT, gsNil, gsCons, iR1, iR2, iLst, iTupl, eCall, fCall, slotsOf, argSl, putB, wCallT, eOfW, fOfW, unfre, qVar, qIx, freAt, lstOf, fl_non, fl_bl, fl_int, fl_str, fl_lst, fl_tup, fl_rls, tYesm]) rfl (fun d hd' => by
      obtain ⟨n, _, rfl⟩ := List.mem_map.mp hd'
      exact ⟨[.imm A, .imm B, .none, .none, .none, .none, .imm (.int n), .none], rfl, rfl, by simp [mDef, outsOf, sSeq, sIf, sDrop, sRet, sRetN, sRetF, sRetO, sAsg, sAsgF, sAsgR, sPar, sSetIx, sAugIx, sAug, sRaise, sNext, sBrk, sCont, sFor, sSpoilA, sSpoilP, sTry, sHand, Fl.clr, suRet, suRetT, xFld, xC, liftP, liftT, okF, Res.bind, RP.bind, Res.of, RP.of, pVar, pC, p1, p2, pN, pAnd, pOr, pIf, pNil, pCons, pTup, pLst, pCall, qB, qAnd, qOr, qNot, dNot, eVar, Cv.e1, Cv.e2, eAnd, eOr, eIf, tBm, tAndm, tOrm, tNotm, vNil, vCons, aNil, aV, aS, eTup, fLst, eOfF, cOfF, cOfE, cVar, rNil, rE, rF, td_lst, mf_lst, dSub, dAdd, dFdiv, dMod, dNeg, dLt, dLe, dGt, dGe, dIsN, dNotN, dInt, dAbs, dMin2, dMax2, dLen, tyName, dIsi, dIx, eIx, cIx, cS, cL, sLen, sSum, lAll, kVar, kLst, kRep, kCat, kCut, fOfK, fCut, oNo, oI, fListP, itemsD, Sl.mo, Sl.put, ownL, setL, eApp, ePop, ePopAt, gN, gT, gsNil, gsCons, iR1, iR2, iLst, iTupl, eCall, fCall, slotsOf, argSl, putB, wCallT, eOfW, fOfW, unfre, qVar, qIx, freAt, lstOf, fl_non, fl_bl, fl_int, fl_str, fl_lst, fl_tup, fl_rls, tYesm, le_line], rfl, rfl⟩) (le_line (by rw [List.length_map, hsl]; omega))
  have em : ((sortI ns).map D.int).map (fun d => D.tup [.int 1, d]) = (sortI ns).map shD := by rw [List.map_map]; rfl
  rw [em] at hc
  have s2 : sAsg (eCall m_sum_of_shares (aV (eOfF (fLc (iLst (eVar 1)) [6] (gN 6) tYesm (eTup (vCons (liftP (pC (.int 1))) (vCons (eVar 6) vNil))))) aNil)) (gN 2) [.imm A, .own (.lst ((sortI ns).map .int)), .none, .none, .none, .none, .none, .none] = .next [.imm A, .imm B, .imm (tupF (sumF (sortI ns))), .none, .none, .none, .none, .none] := by
    refine asg_ok (e1 := [.imm A, .imm B, .none, .none, .none, .none, .none, .none]) (d := tupF (sumF (sortI ns))) ?_ rfl
    unfold eCall aV eOfF
    rw [hc]
    simp only [Res.bind, aNil, td_lst, slotsOf, argSl, Option.map, List.nodup_nil, if_true, r2, putB]
    rfl
  have q : (liftT (qB (pCall m_below (pCons (pTup (pCons (pC (.int 1)) (pCons (pC (.int 1)) pNil))) (pCons (pVar 2) pNil))))) [.imm A, .imm B, .imm (tupF (sumF (sortI ns))), .none, .none, .none, .none, .none] = .ok (decide ((sumF (sortI ns)).2 < (sumF (sortI ns)).1)) [.imm A, .imm B, .imm (tupF (sumF (sortI ns))), .none, .none, .none, .none, .none] := by
    generalize sumF (sortI ns) = t at gt
    obtain ⟨n, d⟩ := t
    obtain ⟨g1, g2, g3, g4⟩ := gt
    dsimp only at g1 g2 g3 g4
    have rb := r_below (a := 1) (b := 1) (c := n) (d := d) (.inl (.inl ⟨by omega, by omega⟩)) (.inl (.inr ⟨by omega, by omega⟩))
    simp [mDef, outsOf, sSeq, sIf, sDrop, sRet, sRetN, sRetF, sRetO, sAsg, sAsgF, sAsgR, sPar, sSetIx, sAugIx, sAug, sRaise, sNext, sBrk, sCont, sFor, sSpoilA, sSpoilP, sTry, sHand, Fl.clr, suRet, suRetT, xFld, xC, liftP, liftT, okF, Res.bind, RP.bind, Res.of, RP.of, pVar, pC, p1, p2, pN, pAnd, pOr, pIf, pNil, pCons, pTup, pLst, pCall, qB, qAnd, qOr, qNot, dNot, eVar, Cv.e1, Cv.e2, eAnd, eOr, eIf, tBm, tAndm, tOrm, tNotm, vNil, vCons, aNil, aV, aS, eTup, fLst, eOfF, cOfF, cOfE, cVar, rNil, rE, rF, td_lst, mf_lst, dSub, dAdd, dFdiv, dMod, dNeg, dLt, dLe, dGt, dGe, dIsN, dNotN, dInt, dAbs, dMin2, dMax2, dLen, tyName, dIsi, dIx, eIx, cIx, cS, cL, sLen, sSum, lAll, kVar, kLst, kRep, kCat, kCut, fOfK, fCut, oNo, oI, fListP, itemsD, Sl.mo, Sl.put, ownL, setL, eApp, ePop, ePopAt, gN, gT, gsNil, gsCons, iR1, iR2, iLst, iTupl, eCall, fCall, slotsOf, argSl, putB, wCallT, eOfW, fOfW, unfre, qVar, qIx, freAt, lstOf, fl_non, fl_bl, fl_int, fl_str, fl_lst, fl_tup, fl_rls, tYesm, tupF, le_line, rb]
  by_cases more : (sumF (sortI ns)).2 < (sumF (sortI ns)).1
  · rw [decide_eq_true more] at q
    have s3 : sIf (liftT (qB (pCall m_below (pCons (pTup (pCons (pC (.int 1)) (pCons (pC (.int 1)) pNil))) (pCons (pVar 2) pNil))))) (sRet (eTup (vCons (liftP (pC (.str "more than one"))) (vCons (eVar 2) vNil)))) sNext [.imm A, .imm B, .imm (tupF (sumF (sortI ns))), .none, .none, .none, .none, .none] = .ret (.imm (.tup [.str "more than one", tupF (sumF (sortI ns))])) [.imm A, .imm B, .imm (tupF (sumF (sortI ns))), .none, .none, .none, .none, .none] :=
      (if_t q).trans (by simp [mDef, outsOf, sSeq, sIf, sDrop, sRet, sRetN, sRetF, sRetO, sAsg, sAsgF, sAsgR, sPar, sSetIx, sAugIx, sAug, sRaise, sNext, sBrk, sCont, sFor, sSpoilA, sSpoilP, sTry, sHand, Fl.clr, suRet, suRetT, xFld, xC, liftP, liftT, okF, Res.bind, RP.bind, Res.of, RP.of, pVar, pC, p1, p2, pN, pAnd, pOr, pIf, pNil, pCons, pTup, pLst, pCall, qB, qAnd, qOr, qNot, dNot, eVar, Cv.e1, Cv.e2, eAnd, eOr, eIf, tBm, tAndm, tOrm, tNotm, vNil, vCons, aNil, aV, aS, eTup, fLst, eOfF, cOfF, cOfE, cVar, rNil, rE, rF, td_lst, mf_lst, dSub, dAdd, dFdiv, dMod, dNeg, dLt, dLe, dGt, dGe, dIsN, dNotN, dInt, dAbs, dMin2, dMax2, dLen, tyName, dIsi, dIx, eIx, cIx, cS, cL, sLen, sSum, lAll, kVar, kLst, kRep, kCat, kCut, fOfK, fCut, oNo, oI, fListP, itemsD, Sl.mo, Sl.put, ownL, setL, eApp, ePop, ePopAt, gN, gT, gsNil, gsCons, iR1, iR2, iLst, iTupl, eCall, fCall, slotsOf, argSl, putB, wCallT, eOfW, fOfW, unfre, qVar, qIx, freAt, lstOf, fl_non, fl_bl, fl_int, fl_str, fl_lst, fl_tup, fl_rls, tYesm, le_line])
    have st := (seq_next s1).trans ((seq_next s2).trans (seq_ret s3 (b := (sSeq (sAsgF (cL lSortP (cOfF (fLc (iR1 (vCons (liftP (pN dLen (pCons (pVar 0) pNil))) vNil)) [7] (gN 7) tYesm (eTup (vCons (cIx (cVar 0) (pVar 7)) (vCons (eVar 7) vNil)))))) 3)
      (sSeq (sAsgF (fOfK (kRep (kLst (pCons (pC (.int 0)) pNil)) (pN dLen (pCons (pVar 0) pNil)))) 4)
      (sSeq (sFor (iR1 (vCons (liftP (pN dLen (pCons (pVar 3) pNil))) vNil)) (gN 5) (sSetIx 4 (p2 dIx (p2 dIx (pVar 3) (pVar 5)) (pC (.int 1))) (liftP (pCall m_phase_at (pCons (pVar 1) (pCons (pVar 5) pNil))))))
      (sRet (eTup (vCons (liftP (pC (.str "phases"))) (vCons (eVar 4) vNil)))))))))) 
    unfold chainD
    rw [if_pos more]
    exact mDef_go (np := 1) (n := 8) (b := b_chain_phases) (as := [.imm A]) (e := [.imm A, .none, .none, .none, .none, .none, .none, .none]) rfl rfl st
  · rw [decide_eq_false more] at q
    have s3 : sIf (liftT (qB (pCall m_below (pCons (pTup (pCons (pC (.int 1)) (pCons (pC (.int 1)) pNil))) (pCons (pVar 2) pNil))))) (sRet (eTup (vCons (liftP (pC (.str "more than one"))) (vCons (eVar 2) vNil)))) sNext [.imm A, .imm B, .imm (tupF (sumF (sortI ns))), .none, .none, .none, .none, .none] = .next [.imm A, .imm B, .imm (tupF (sumF (sortI ns))), .none, .none, .none, .none, .none] :=
      (if_f q).trans rfl
    generalize tupF (sumF (sortI ns)) = T at s1 s2 s3 q
    -- order
    have hc2 := fLc_map (vs := [7]) (src := iR1 (vCons (liftP (pN dLen (pCons (pVar 0) pNil))) vNil)) (tg := gN 7) (test := tYesm) (elt := eTup (vCons (cIx (cVar 0) (pVar 7)) (vCons (eVar 7) vNil))) (e := [.imm A, .imm B, .imm T, .none, .none, .none, .none, .none]) (e1 := [.imm A, .imm B, .imm T, .none, .none, .none, .none, .none]) (ds := rng 0 ns.length)
      (fun d => match d with | .int i => pairD (ns.getD i.toNat 0, i) | d => d) (iR1_ok (j := ns.length) (by subst hA; simp [mDef, outsOf, sSeq, sIf, sDrop, sRet, sRetN, sRetF, sRetO, sAsg, sAsgF, sAsgR, sPar, sSetIx, sAugIx, sAug, sRaise, sNext, sBrk, sCont, sFor, sSpoilA, sSpoilP, sTry, sHand, Fl.clr, suRet, suRetT, xFld, xC, liftP, liftT, okF, Res.bind, RP.bind, Res.of, RP.of, pVar, pC, p1, p2, pN, pAnd, pOr, pIf, pNil, pCons, pTup, pLst, pCall, qB, qAnd, qOr, qNot, dNot, eVar, Cv.e1, Cv.e2, eAnd, eOr, eIf, tBm, tAndm, tOrm, tNotm, vNil, vCons, aNil, aV, aS, eTup, fLst, eOfF, cOfF, cOfE, cVar, rNil, rE, rF, td_lst, mf_lst, dSub, dAdd, dFdiv, dMod, dNeg, dLt, dLe, dGt, dGe, dIsN, dNotN, dInt, dAbs, dMin2, dMax2, dLen, tyName, dIsi, dIx, eIx, cIx, cS, cL, sLen, sSum, lAll, kVar, kLst, kRep, kCat, kCut, fOfK, fCut, oNo, oI, fListP, itemsD, Sl.mo, Sl.put, ownL, setL, eApp, ePop, ePopAt, gN, gT, gsNil, gsCons, iR1, iR2, iLst, iTupl, eCall, fCall, slotsOf, argSl, putB, wCallT, eOfW, fOfW, unfre, qVar, qIx, freAt, lstOf, fl_non, fl_bl, fl_int, fl_str, fl_lst, fl_tup, fl_rls, tYesm]) (by omega) (by omega) (by omega)) rfl (fun d hd' => by
        obtain ⟨i, hi, rfl⟩ := List.mem_map.mp hd'
        have hi' : i < ns.length := List.mem_range.mp hi
        have ha : ns[i]? = some (ns[i]'(by omega)) := List.getElem?_eq_getElem (by omega)
        have x1 := atI_map (i := 0 + (i : Int)) (by omega) ha
        have e2 : ns.getD (0 + (i : Int)).toNat 0 = ns[i]'(by omega) := by
          have : (0 + (i : Int)).toNat = i := by omega
          rw [this, List.getD, ha]; rfl
        refine ⟨[.imm A, .imm B, .imm T, .none, .none, .none, .none, .imm (.int (0 + i))], rfl, rfl, ?_, rfl, rfl⟩
        have h2 : ∀ x y : D, [x, y].length ≤ sizeLine := fun x y => le_line (by simp)
        subst hA
        simp only [mDef, outsOf, sSeq, sIf, sDrop, sRet, sRetN, sRetF, sRetO, sAsg, sAsgF, sAsgR, sPar, sSetIx, sAugIx, sAug, sRaise, sNext, sBrk, sCont, sFor, sSpoilA, sSpoilP, sTry, sHand, Fl.clr, suRet, suRetT, xFld, xC, liftP, liftT, okF, Res.bind, RP.bind, Res.of, RP.of, pVar, pC, p1, p2, pN, pAnd, pOr, pIf, pNil, pCons, pTup, pLst, pCall, qB, qAnd, qOr, qNot, dNot, eVar, Cv.e1, Cv.e2, eAnd, eOr, eIf, tBm, tAndm, tOrm, tNotm, vNil, vCons, aNil, aV, aS, eTup, fLst, eOfF, cOfF, cOfE, cVar, rNil, rE, rF, td_lst, mf_lst, dSub, dAdd, dFdiv, dMod, dNeg, dLt, dLe, dGt, dGe, dIsN, dNotN, dInt, dAbs, dMin2, dMax2, dLen, tyName, dIsi, dIx, eIx, cIx, cS, cL, sLen, sSum, lAll, kVar, kLst, kRep, kCat, kCut, fOfK, fCut, oNo, oI, fListP, itemsD, Sl.mo, Sl.put, ownL, setL, eApp, ePop, ePopAt, gN, gT, gsNil, gsCons, iR1, iR2, iLst, iTupl, eCall, fCall, slotsOf, argSl, putB, wCallT, eOfW, fOfW, unfre, qVar, qIx, freAt, lstOf, fl_non, fl_bl, fl_int, fl_str, fl_lst, fl_tup, fl_rls, tYesm, x1, e2, pairD, if_pos (h2 _ _), List.getElem?_cons_zero, List.getElem?_cons_succ]) (le_line (by rw [rng_len]; omega))
    have ep : (rng 0 ns.length).map (fun d => match d with | .int i => pairD (ns.getD i.toNat 0, i) | d => d) = (prs ns).map pairD := by
      unfold rng prs
      rw [List.map_map, List.map_map]
      refine List.map_congr_left fun i _ => ?_
      have : (0 + (i : Int)).toNat = i := by omega
      simp [this]
    rw [ep] at hc2
    have s4 : sAsgF (cL lSortP (cOfF (fLc (iR1 (vCons (liftP (pN dLen (pCons (pVar 0) pNil))) vNil)) [7] (gN 7) tYesm (eTup (vCons (cIx (cVar 0) (pVar 7)) (vCons (eVar 7) vNil)))))) 3 [.imm A, .imm B, .imm T, .none, .none, .none, .none, .none] = .next [.imm A, .imm B, .imm T, .own (.lst ((ordP ns).map pairD)), .none, .none, .none, .none] := by
      refine asgF_ok (e1 := [.imm A, .imm B, .imm T, .none, .none, .none, .none, .none]) (d := .lst ((ordP ns).map pairD)) ?_ (by simp)
      unfold cL cOfF
      rw [hc2]
      simp only [Res.bind, lSortP, if_true, pairsD_of, Option.map_some]
      rfl
    have hrep : (List.replicate ns.length [D.int 0]).flatten = (setP ns 0).map .int := by
      simp [setP]
    have s5 : sAsgF (fOfK (kRep (kLst (pCons (pC (.int 0)) pNil)) (pN dLen (pCons (pVar 0) pNil)))) 4 [.imm A, .imm B, .imm T, .own (.lst ((ordP ns).map pairD)), .none, .none, .none, .none] = .next [.imm A, .imm B, .imm T, .own (.lst ((ordP ns).map pairD)), .own (.lst ((setP ns 0).map .int)), .none, .none, .none] := by
      refine asgF_ok (e1 := [.imm A, .imm B, .imm T, .own (.lst ((ordP ns).map pairD)), .none, .none, .none, .none]) (d := .lst ((setP ns 0).map .int)) ?_ (by simp)
      have k1 : (kLst (pCons (pC (.int 0)) pNil)) [.imm A, .imm B, .imm T, .own (.lst ((ordP ns).map pairD)), .none, .none, .none, .none] = .ok [.int 0] := by simp [mDef, outsOf, sSeq, sIf, sDrop, sRet, sRetN, sRetF, sRetO, sAsg, sAsgF, sAsgR, sPar, sSetIx, sAugIx, sAug, sRaise, sNext, sBrk, sCont, sFor, sSpoilA, sSpoilP, sTry, sHand, Fl.clr, suRet, suRetT, xFld, xC, liftP, liftT, okF, Res.bind, RP.bind, Res.of, RP.of, pVar, pC, p1, p2, pN, pAnd, pOr, pIf, pNil, pCons, pTup, pLst, pCall, qB, qAnd, qOr, qNot, dNot, eVar, Cv.e1, Cv.e2, eAnd, eOr, eIf, tBm, tAndm, tOrm, tNotm, vNil, vCons, aNil, aV, aS, eTup, fLst, eOfF, cOfF, cOfE, cVar, rNil, rE, rF, td_lst, mf_lst, dSub, dAdd, dFdiv, dMod, dNeg, dLt, dLe, dGt, dGe, dIsN, dNotN, dInt, dAbs, dMin2, dMax2, dLen, tyName, dIsi, dIx, eIx, cIx, cS, cL, sLen, sSum, lAll, kVar, kLst, kRep, kCat, kCut, fOfK, fCut, oNo, oI, fListP, itemsD, Sl.mo, Sl.put, ownL, setL, eApp, ePop, ePopAt, gN, gT, gsNil, gsCons, iR1, iR2, iLst, iTupl, eCall, fCall, slotsOf, argSl, putB, wCallT, eOfW, fOfW, unfre, qVar, qIx, freAt, lstOf, fl_non, fl_bl, fl_int, fl_str, fl_lst, fl_tup, fl_rls, tYesm, le_line]
      have k2 : (pN dLen (pCons (pVar 0) pNil)) [.imm A, .imm B, .imm T, .own (.lst ((ordP ns).map pairD)), .none, .none, .none, .none] = .ok (.int ns.length) := by subst hA; simp [mDef, outsOf, sSeq, sIf, sDrop, sRet, sRetN, sRetF, sRetO, sAsg, sAsgF, sAsgR, sPar, sSetIx, sAugIx, sAug, sRaise, sNext, sBrk, sCont, sFor, sSpoilA, sSpoilP, sTry, sHand, Fl.clr, suRet, suRetT, xFld, xC, liftP, liftT, okF, Res.bind, RP.bind, Res.of, RP.of, pVar, pC, p1, p2, pN, pAnd, pOr, pIf, pNil, pCons, pTup, pLst, pCall, qB, qAnd, qOr, qNot, dNot, eVar, Cv.e1, Cv.e2, eAnd, eOr, eIf, tBm, tAndm, tOrm, tNotm, vNil, vCons, aNil, aV, aS, eTup, fLst, eOfF, cOfF, cOfE, cVar, rNil, rE, rF, td_lst, mf_lst, dSub, dAdd, dFdiv, dMod, dNeg, dLt, dLe, dGt, dGe, dIsN, dNotN, dInt, dAbs, dMin2, dMax2, dLen, tyName, dIsi, dIx, eIx, cIx, cS, cL, sLen, sSum, lAll, kVar, kLst, kRep, kCat, kCut, fOfK, fCut, oNo, oI, fListP, itemsD, Sl.mo, Sl.put, ownL, setL, eApp, ePop, ePopAt, gN, gT, gsNil, gsCons, iR1, iR2, iLst, iTupl, eCall, fCall, slotsOf, argSl, putB, wCallT, eOfW, fOfW, unfre, qVar, qIx, freAt, lstOf, fl_non, fl_bl, fl_int, fl_str, fl_lst, fl_tup, fl_rls, tYesm]
      exact fOfK_ok ((kRep_ok k1 k2 (by omega) (by omega) (n := ns.length) (by omega) (by simp; omega)).trans (congrArg RP.ok hrep))
    obtain ⟨e', h1, x, h2⟩ := forL_rel (tg := gN 5) (body := sSetIx 4 (p2 dIx (p2 dIx (pVar 3) (pVar 5)) (pC (.int 1))) (liftP (pCall m_phase_at (pCons (pVar 1) (pCons (pVar 5) pNil))))) (ds := rng 0 ns.length) (fun i e => ∃ x, e = [.imm A, .imm B, .imm T, .own (.lst ((ordP ns).map pairD)), .own (.lst ((setP ns i).map .int)), x, .none, .none])
      (e := [.imm A, .imm B, .imm T, .own (.lst ((ordP ns).map pairD)), .own (.lst ((setP ns 0).map .int)), .none, .none, .none]) ⟨.none, rfl⟩
      (fun i d e hd' ⟨x, he⟩ => by
        subst he
        obtain ⟨hi, rfl⟩ := rng_get hd'
        have hi2 : i < (sortI ns).length := by omega
        have hP : (sortI ns)[i]? = some ((sortI ns)[i]'hi2) := List.getElem?_eq_getElem hi2
        have rp := r_phase c hP
        have eP : (sortI ns).getD i 0 = (sortI ns)[i]'hi2 := by rw [List.getD, hP]; rfl
        have hO : (ordP ns)[i]? = some ((ordP ns)[i]'(by rw [ordP_len]; omega)) := List.getElem?_eq_getElem _
        obtain ⟨k, hk, ek⟩ := ord_snd (List.mem_of_getElem? hO)
        have eO : (ordP ns).getD i (0, 0) = (ns.getD k 0, (k : Int)) := by rw [List.getD, hO, ek]; rfl
        have x1 : atI ((ordP ns).map pairD) (0 + (i : Int)) = some (pairD (ns.getD k 0, (k : Int))) := atI_of (j := i) (by omega) (by rw [List.getElem?_map, hO, ek]; rfl)
        have x2 : atI [D.int (ns.getD k 0), D.int (k : Int)] 1 = some (.int k) := rfl
        have x3 : ixN (((setP ns i).map D.int).length) (k : Int) = some k := ixN_of rfl (by rw [List.length_map, setP_len]; omega)
        have eS : (setP ns (i + 1)).map D.int = ((setP ns i).map .int).set k (.int (phT ns i)) := by
          show ((setP ns i).set ((ordP ns).getD i (0, 0)).2.toNat (phT ns i)).map D.int = _
          rw [eO, List.map_set]
          rfl
        have ez : (0 + (i : Int)) = (i : Int) := by omega
        rw [ez] at x1 ⊢
        refine ⟨_, [.imm A, .imm B, .imm T, .own (.lst ((ordP ns).map pairD)), .own (.lst ((setP ns (i + 1)).map .int)), .imm (.int i), .none, .none], rfl, .inl ?_, _, rfl⟩
        rw [eS]
        unfold phT
        rw [eP]
        rw [hB] at rp
        simp only [pairD] at x1
        simp only [mDef, outsOf, sSeq, sIf, sDrop, sRet, sRetN, sRetF, sRetO, sAsg, sAsgF, sAsgR, sPar, sSetIx, sAugIx, sAug, sRaise, sNext, sBrk, sCont, sFor, sSpoilA, sSpoilP, sTry, sHand, Fl.clr, suRet, suRetT, xFld, xC, liftP, liftT, okF, Res.bind, RP.bind, Res.of, RP.of, pVar, pC, p1, p2, pN, pAnd, pOr, pIf, pNil, pCons, pTup, pLst, pCall, qB, qAnd, qOr, qNot, dNot, eVar, Cv.e1, Cv.e2, eAnd, eOr, eIf, tBm, tAndm, tOrm, tNotm, vNil, vCons, aNil, aV, aS, eTup, fLst, eOfF, cOfF, cOfE, cVar, rNil, rE, rF, td_lst, mf_lst, dSub, dAdd, dFdiv, dMod, dNeg, dLt, dLe, dGt, dGe, dIsN, dNotN, dInt, dAbs, dMin2, dMax2, dLen, tyName, dIsi, dIx, eIx, cIx, cS, cL, sLen, sSum, lAll, kVar, kLst, kRep, kCat, kCut, fOfK, fCut, oNo, oI, fListP, itemsD, Sl.mo, Sl.put, ownL, setL, eApp, ePop, ePopAt, gN, gT, gsNil, gsCons, iR1, iR2, iLst, iTupl, eCall, fCall, slotsOf, argSl, putB, wCallT, eOfW, fOfW, unfre, qVar, qIx, freAt, lstOf, fl_non, fl_bl, fl_int, fl_str, fl_lst, fl_tup, fl_rls, tYesm, List.set_cons_succ, List.set_cons_zero, x1, x2, x3, rp, pairD, List.map, List.getElem?_cons_zero, List.getElem?_cons_succ, if_true])
    subst h2
    rw [rng_len] at h1
    have s6 := (for_ok (src := iR1 (vCons (liftP (pN dLen (pCons (pVar 3) pNil))) vNil)) (e := [.imm A, .imm B, .imm T, .own (.lst ((ordP ns).map pairD)), .own (.lst ((setP ns 0).map .int)), .none, .none, .none]) (e1 := [.imm A, .imm B, .imm T, .own (.lst ((ordP ns).map pairD)), .own (.lst ((setP ns 0).map .int)), .none, .none, .none]) (ds := rng 0 ns.length)
      (iR1_ok (j := ns.length) (by simp [mDef, outsOf, sSeq, sIf, sDrop, sRet, sRetN, sRetF, sRetO, sAsg, sAsgF, sAsgR, sPar, sSetIx, sAugIx, sAug, sRaise, sNext, sBrk, sCont, sFor, sSpoilA, sSpoilP, sTry, sHand, Fl.clr, suRet, suRetT, xFld, xC, liftP, liftT, okF, Res.bind, RP.bind, Res.of, RP.of, pVar, pC, p1, p2, pN, pAnd, pOr, pIf, pNil, pCons, pTup, pLst, pCall, qB, qAnd, qOr, qNot, dNot, eVar, Cv.e1, Cv.e2, eAnd, eOr, eIf, tBm, tAndm, tOrm, tNotm, vNil, vCons, aNil, aV, aS, eTup, fLst, eOfF, cOfF, cOfE, cVar, rNil, rE, rF, td_lst, mf_lst, dSub, dAdd, dFdiv, dMod, dNeg, dLt, dLe, dGt, dGe, dIsN, dNotN, dInt, dAbs, dMin2, dMax2, dLen, tyName, dIsi, dIx, eIx, cIx, cS, cL, sLen, sSum, lAll, kVar, kLst, kRep, kCat, kCut, fOfK, fCut, oNo, oI, fListP, itemsD, Sl.mo, Sl.put, ownL, setL, eApp, ePop, ePopAt, gN, gT, gsNil, gsCons, iR1, iR2, iLst, iTupl, eCall, fCall, slotsOf, argSl, putB, wCallT, eOfW, fOfW, unfre, qVar, qIx, freAt, lstOf, fl_non, fl_bl, fl_int, fl_str, fl_lst, fl_tup, fl_rls, tYesm, ordP_len]) (by omega) (by omega) (by omega))).trans h1
    have s7 : sRet (eTup (vCons (liftP (pC (.str "phases"))) (vCons (eVar 4) vNil))) [.imm A, .imm B, .imm T, .own (.lst ((ordP ns).map pairD)), .own (.lst ((setP ns ns.length).map .int)), x, .none, .none] = .ret (.imm (.tup [.str "phases", .lst ((setP ns ns.length).map .int)])) [.imm A, .imm B, .imm T, .own (.lst ((ordP ns).map pairD)), .imm (.lst ((setP ns ns.length).map .int)), x, .none, .none] := by
      simp [mDef, outsOf, sSeq, sIf, sDrop, sRet, sRetN, sRetF, sRetO, sAsg, sAsgF, sAsgR, sPar, sSetIx, sAugIx, sAug, sRaise, sNext, sBrk, sCont, sFor, sSpoilA, sSpoilP, sTry, sHand, Fl.clr, suRet, suRetT, xFld, xC, liftP, liftT, okF, Res.bind, RP.bind, Res.of, RP.of, pVar, pC, p1, p2, pN, pAnd, pOr, pIf, pNil, pCons, pTup, pLst, pCall, qB, qAnd, qOr, qNot, dNot, eVar, Cv.e1, Cv.e2, eAnd, eOr, eIf, tBm, tAndm, tOrm, tNotm, vNil, vCons, aNil, aV, aS, eTup, fLst, eOfF, cOfF, cOfE, cVar, rNil, rE, rF, td_lst, mf_lst, dSub, dAdd, dFdiv, dMod, dNeg, dLt, dLe, dGt, dGe, dIsN, dNotN, dInt, dAbs, dMin2, dMax2, dLen, tyName, dIsi, dIx, eIx, cIx, cS, cL, sLen, sSum, lAll, kVar, kLst, kRep, kCat, kCut, fOfK, fCut, oNo, oI, fListP, itemsD, Sl.mo, Sl.put, ownL, setL, eApp, ePop, ePopAt, gN, gT, gsNil, gsCons, iR1, iR2, iLst, iTupl, eCall, fCall, slotsOf, argSl, putB, wCallT, eOfW, fOfW, unfre, qVar, qIx, freAt, lstOf, fl_non, fl_bl, fl_int, fl_str, fl_lst, fl_tup, fl_rls, tYesm, le_line]
    have st := (seq_next s1).trans ((seq_next s2).trans ((seq_next s3).trans ((seq_next s4).trans ((seq_next s5).trans ((seq_next s6).trans s7)))))
    unfold chainD
    rw [if_neg more]
    exact mDef_go (np := 1) (n := 8) (b := b_chain_phases) (as := [.imm A]) (e := [.imm A, .none, .none, .none, .none, .none, .none, .none]) rfl rfl st
end Lw
end

section
set_option Elab.async false
set_option linter.all false
set_option maxRecDepth 100000
set_option maxHeartbeats 4000000
set_option autoImplicit false
open PySem L2 Cv
namespace Lw
theorem r_chain_exc {ds : List D} {x : Exc} (h : m_check_periods [.imm (.lst ds)] = .exc x [.imm (.lst ds)]) : m_chain_phases [.imm (.lst ds)] = .exc x [.imm (.lst ds)] := by
  have s1 : sAsgF (fCall m_check_periods (aV (eVar 0) aNil)) 1 [.imm (.lst ds), .none, .none, .none, .none, .none, .none, .none] = .exc x [.imm (.lst ds), .none, .none, .none, .none, .none, .none, .none] := by
    simp [mDef, outsOf, sSeq, sIf, sDrop, sRet, sRetN, sRetF, sRetO, sAsg, sAsgF, sAsgR, sPar, sSetIx, sAugIx, sAug, sRaise, sNext, sBrk, sCont, sFor, sSpoilA, sSpoilP, sTry, sHand, Fl.clr, suRet, suRetT, xFld, xC, liftP, liftT, okF, Res.bind, RP.bind, Res.of, RP.of, pVar, pC, p1, p2, pN, pAnd, pOr, pIf, pNil, pCons, pTup, pLst, pCall, qB, qAnd, qOr, qNot, dNot, eVar, Cv.e1, Cv.e2, eAnd, eOr, eIf, tBm, tAndm, tOrm, tNotm, vNil, vCons, aNil, aV, aS, eTup, fLst, eOfF, cOfF, cOfE, cVar, rNil, rE, rF, td_lst, mf_lst, dSub, dAdd, dFdiv, dMod, dNeg, dLt, dLe, dGt, dGe, dIsN, dNotN, dInt, dAbs, dMin2, dMax2, dLen, tyName, dIsi, dIx, eIx, cIx, cS, cL, sLen, sSum, lAll, kVar, kLst, kRep, kCat, kCut, fOfK, fCut, oNo, oI, fListP, itemsD, Sl.mo, Sl.put, ownL, setL, eApp, ePop, ePopAt, gN, gT, gsNil, gsCons, iR1, iR2, iLst, iTupl, eCall, fCall, slotsOf, argSl, putB, wCallT, eOfW, fOfW, unfre, qVar, qIx, freAt, lstOf, fl_non, fl_bl, fl_int, fl_str, fl_lst, fl_tup, fl_rls, tYesm, h]
  have st : b_chain_phases [.imm (.lst ds), .none, .none, .none, .none, .none, .none, .none] = _ := seq_exc s1
  exact mDef_go (np := 1) (n := 8) (b := b_chain_phases) (as := [.imm (.lst ds)]) (e := [.imm (.lst ds), .none, .none, .none, .none, .none, .none, .none]) rfl rfl st
def toldD (d : D) : D := .tup [.str "told", d]
theorem r_told {ds : List D} {d : D} (h : m_chain_phases [.imm (.lst ds)] = .ok (.imm d) [.imm (.lst ds)]) : m__law_chain [.imm (.lst ds)] = .ok (.imm (toldD d)) [.imm (.lst ds)] := by
  simp [m__law_chain, b__law_chain, mDef, outsOf, sSeq, sIf, sDrop, sRet, sRetN, sRetF, sRetO, sAsg, sAsgF, sAsgR, sPar, sSetIx, sAugIx, sAug, sRaise, sNext, sBrk, sCont, sFor, sSpoilA, sSpoilP, sTry, sHand, Fl.clr, suRet, suRetT, xFld, xC, liftP, liftT, okF, Res.bind, RP.bind, Res.of, RP.of, pVar, pC, p1, p2, pN, pAnd, pOr, pIf, pNil, pCons, pTup, pLst, pCall, qB, qAnd, qOr, qNot, dNot, eVar, Cv.e1, Cv.e2, eAnd, eOr, eIf, tBm, tAndm, tOrm, tNotm, vNil, vCons, aNil, aV, aS, eTup, fLst, eOfF, cOfF, cOfE, cVar, rNil, rE, rF, td_lst, mf_lst, dSub, dAdd, dFdiv, dMod, dNeg, dLt, dLe, dGt, dGe, dIsN, dNotN, dInt, dAbs, dMin2, dMax2, dLen, tyName, dIsi, dIx, eIx, cIx, cS, cL, sLen, sSum, lAll, kVar, kLst, kRep, kCat, kCut, fOfK, fCut, oNo, oI, fListP, itemsD, Sl.mo, Sl.put, ownL, setL, eApp, ePop, ePopAt, gN, gT, gsNil, gsCons, iR1, iR2, iLst, iTupl, eCall, fCall, slotsOf, argSl, putB, wCallT, eOfW, fOfW, unfre, qVar, qIx, freAt, lstOf, fl_non, fl_bl, fl_int, fl_str, fl_lst, fl_tup, fl_rls, tYesm, h, le_line, toldD]
def manyD (w : Str) : D := .tup [.str "TooMany", .str w, .bl false]
def badD (w : Str) : D := .tup [.str "BadShare", .str w, .bl false]
theorem s_ne : ¬ (("BadShare" : Str) = "TooMany") := by decide +kernel
theorem s_what (w : Str) : (([("what", D.str w)] : List (Str × D)).lookup ("what" : Str)) = some (D.str w) := by simp [List.lookup]
theorem r_many {ds : List D} {w : Str} (h : m_chain_phases [.imm (.lst ds)] = .exc (tooMany w) [.imm (.lst ds)]) : m__law_chain [.imm (.lst ds)] = .ok (.imm (manyD w)) [.imm (.lst ds)] := by
  simp [m__law_chain, b__law_chain, mDef, outsOf, sSeq, sIf, sDrop, sRet, sRetN, sRetF, sRetO, sAsg, sAsgF, sAsgR, sPar, sSetIx, sAugIx, sAug, sRaise, sNext, sBrk, sCont, sFor, sSpoilA, sSpoilP, sTry, sHand, Fl.clr, suRet, suRetT, xFld, xC, liftP, liftT, okF, Res.bind, RP.bind, Res.of, RP.of, pVar, pC, p1, p2, pN, pAnd, pOr, pIf, pNil, pCons, pTup, pLst, pCall, qB, qAnd, qOr, qNot, dNot, eVar, Cv.e1, Cv.e2, eAnd, eOr, eIf, tBm, tAndm, tOrm, tNotm, vNil, vCons, aNil, aV, aS, eTup, fLst, eOfF, cOfF, cOfE, cVar, rNil, rE, rF, td_lst, mf_lst, dSub, dAdd, dFdiv, dMod, dNeg, dLt, dLe, dGt, dGe, dIsN, dNotN, dInt, dAbs, dMin2, dMax2, dLen, tyName, dIsi, dIx, eIx, cIx, cS, cL, sLen, sSum, lAll, kVar, kLst, kRep, kCat, kCut, fOfK, fCut, oNo, oI, fListP, itemsD, Sl.mo, Sl.put, ownL, setL, eApp, ePop, ePopAt, gN, gT, gsNil, gsCons, iR1, iR2, iLst, iTupl, eCall, fCall, slotsOf, argSl, putB, wCallT, eOfW, fOfW, unfre, qVar, qIx, freAt, lstOf, fl_non, fl_bl, fl_int, fl_str, fl_lst, fl_tup, fl_rls, tYesm, h, le_line, manyD, tooMany, s_what]
theorem r_bad {ds : List D} {w : Str} (h : m_chain_phases [.imm (.lst ds)] = .exc (badShare w) [.imm (.lst ds)]) : m__law_chain [.imm (.lst ds)] = .ok (.imm (badD w)) [.imm (.lst ds)] := by
  simp [m__law_chain, b__law_chain, mDef, outsOf, sSeq, sIf, sDrop, sRet, sRetN, sRetF, sRetO, sAsg, sAsgF, sAsgR, sPar, sSetIx, sAugIx, sAug, sRaise, sNext, sBrk, sCont, sFor, sSpoilA, sSpoilP, sTry, sHand, Fl.clr, suRet, suRetT, xFld, xC, liftP, liftT, okF, Res.bind, RP.bind, Res.of, RP.of, pVar, pC, p1, p2, pN, pAnd, pOr, pIf, pNil, pCons, pTup, pLst, pCall, qB, qAnd, qOr, qNot, dNot, eVar, Cv.e1, Cv.e2, eAnd, eOr, eIf, tBm, tAndm, tOrm, tNotm, vNil, vCons, aNil, aV, aS, eTup, fLst, eOfF, cOfF, cOfE, cVar, rNil, rE, rF, td_lst, mf_lst, dSub, dAdd, dFdiv, dMod, dNeg, dLt, dLe, dGt, dGe, dIsN, dNotN, dInt, dAbs, dMin2, dMax2, dLen, tyName, dIsi, dIx, eIx, cIx, cS, cL, sLen, sSum, lAll, kVar, kLst, kRep, kCat, kCut, fOfK, fCut, oNo, oI, fListP, itemsD, Sl.mo, Sl.put, ownL, setL, eApp, ePop, ePopAt, gN, gT, gsNil, gsCons, iR1, iR2, iLst, iTupl, eCall, fCall, slotsOf, argSl, putB, wCallT, eOfW, fOfW, unfre, qVar, qIx, freAt, lstOf, fl_non, fl_bl, fl_int, fl_str, fl_lst, fl_tup, fl_rls, tYesm, h, le_line, badD, badShare, s_what, s_ne, dis__law_chain]
/-! ### the mathematics: phases apart -/
/-- the digits turned round -/
theorem foldP_mod {P : Int} {l : List Int} (hp : ∀ a ∈ l, 0 < a) (hdv : ∀ (i j : Nat) (a b : Int), i ≤ j → l[i]? = some a → l[j]? = some b → a ∣ b) (hP : 0 < P) (hPd : ∀ a ∈ l, a ∣ P) (u : Int) (hu : 0 ≤ u) : ∀ (k : Nat), k ≤ l.length → 0 ≤ (foldP P u (l.take k)).1 ∧ (foldP P u (l.take k)).1 < (foldP P u (l.take k)).2 ∨ k = 0 := by
  intro k
  induction k with
  | zero => intro _; exact .inr rfl
  | succ k ih =>
    intro hk
    left
    have ha : l[k]? = some (l[k]'(by omega)) := List.getElem?_eq_getElem (by omega)
    rw [foldP_take ha]
    generalize l[k]'(by omega) = a at ha
    have pa := hp a (List.mem_of_getElem? ha)
    have key : 0 ≤ (foldP P u (l.take k)).1 ∧ (foldP P u (l.take k)).1 < (foldP P u (l.take k)).2 ∧ (foldP P u (l.take k)).2 ∣ a := by
      rcases ih (by omega) with ⟨h1, h2⟩ | h
      · refine ⟨h1, h2, ?_⟩
        cases k with
        | zero => exact ⟨a, by simp [foldP]⟩
        | succ k =>
          have hb : l[k]? = some (l[k]'(by omega)) := List.getElem?_eq_getElem (by omega)
          rw [foldP_snd hb]
          exact hdv k (k + 1) _ _ (by omega) hb ha
      · subst h; exact ⟨by show (0 : Int) ≤ 0; decide, by show (0 : Int) < 1; decide, ⟨a, by simp [foldP]⟩⟩
    generalize foldP P u (l.take k) = s at key
    obtain ⟨ph, w⟩ := s
    obtain ⟨k1, k2, c, k3⟩ := key
    dsimp only at k1 k2 k3
    unfold stepP
    dsimp only
    have w0 : 0 < w := by omega
    have c0 : 0 < c := by
      by_cases z : 0 < c
      · exact z
      · exfalso
        have : w * c ≤ 0 := Int.mul_nonpos_of_nonneg_of_nonpos (by omega) (by omega)
        omega
    have e : a / w = c := Int.ediv_eq_of_eq_mul_right (by omega) k3
    rw [e]
    have d1 : 0 ≤ u / (P / a) % c := Int.emod_nonneg _ (by omega)
    have d2 : u / (P / a) % c < c := Int.emod_lt_of_pos _ c0
    generalize u / (P / a) % c = d at d1 d2
    have m1 : 0 ≤ d * w := Int.mul_nonneg d1 (by omega)
    have m2 : d * w ≤ (c - 1) * w := Int.mul_le_mul_of_nonneg_right (by omega) (by omega)
    have m3 : (c - 1) * w = a - w := by rw [Int.sub_mul, Int.one_mul, Int.mul_comm c w, ← k3]
    omega
end Lw
end

section
set_option Elab.async false
set_option linter.all false
set_option maxRecDepth 100000
set_option maxHeartbeats 4000000
set_option autoImplicit false
open PySem L2 Cv
namespace Lw
theorem div_mul_of {a b c : Int} (hc : 0 < c) (h1 : c ∣ a) (h2 : a ∣ b) (ha : 0 < a) : b / c = (b / a) * (a / c) := by
  obtain ⟨x, rfl⟩ := h1
  obtain ⟨y, rfl⟩ := h2
  have e1 : c * x * y / c = x * y := by rw [Int.mul_assoc]; exact Int.mul_ediv_cancel_left _ (by omega)
  have e2 : c * x * y / (c * x) = y := Int.mul_ediv_cancel_left _ (by omega)
  have e3 : c * x / c = x := Int.mul_ediv_cancel_left _ (by omega)
  rw [e1, e2, e3, Int.mul_comm]
theorem step_scale {a b u c : Int} (hc : 0 < c) (h1 : c ∣ a) (h2 : a ∣ b) (ha : 0 < a) (hb : 0 < b) (s : Int × Int) : stepP b u s c = stepP a (u / (b / a)) s c := by
  unfold stepP
  have q : 0 ≤ b / a := Int.ediv_nonneg (by omega) (by omega)
  have e : u / (b / c) = u / (b / a) / (a / c) := by rw [div_mul_of hc h1 h2 ha, Int.ediv_ediv_of_nonneg q]
  rw [e]
theorem fold_scale {a b u : Int} (h2 : a ∣ b) (ha : 0 < a) (hb : 0 < b) : ∀ (l : List Int) (s : Int × Int), (∀ c ∈ l, 0 < c ∧ c ∣ a) → l.foldl (stepP b u) s = l.foldl (stepP a (u / (b / a))) s
  | [], _, _ => rfl
  | c :: l, s, h => by
    obtain ⟨c1, c2⟩ := h c List.mem_cons_self
    rw [List.foldl_cons, List.foldl_cons, step_scale c1 c2 h2 ha hb]
    exact fold_scale h2 ha hb l _ fun x hx => h x (List.mem_cons_of_mem _ hx)
theorem used_scale {a b : Int} (h2 : a ∣ b) (ha : 0 < a) : ∀ (l : List Int), (∀ c ∈ l, 0 < c ∧ c ∣ a) → usedP b l = (b / a) * usedP a l
  | [], _ => by simp [usedP]
  | c :: l, h => by
    obtain ⟨c1, c2⟩ := h c List.mem_cons_self
    have ih := used_scale h2 ha l fun x hx => h x (List.mem_cons_of_mem _ hx)
    have e1 : usedP b (c :: l) = b / c + usedP b l := by simp [usedP]
    have e2 : usedP a (c :: l) = a / c + usedP a l := by simp [usedP]
    rw [e1, e2, ih, div_mul_of c1 c2 h2 ha, Int.mul_add]
theorem used_nonneg {P : Int} (hP : 0 ≤ P) : ∀ (l : List Int), (∀ c ∈ l, 0 < c) → 0 ≤ usedP P l
  | [], _ => by simp [usedP]
  | c :: l, h => by
    have ih := used_nonneg hP l fun x hx => h x (List.mem_cons_of_mem _ hx)
    have e1 : usedP P (c :: l) = P / c + usedP P l := by simp [usedP]
    have : 0 ≤ P / c := Int.ediv_nonneg hP (Int.le_of_lt (h c List.mem_cons_self))
    omega
/-- later digits leave the rest by a -/
theorem fold_cong {P u : Int} {l : List Int} (hdv : ∀ (i j : Nat) (a b : Int), i ≤ j → l[i]? = some a → l[j]? = some b → a ∣ b) {k : Nat} {a : Int} (ha : l[k]? = some a) : ∀ m, k < m → m ≤ l.length → a ∣ (foldP P u (l.take m)).1 - (foldP P u (l.take (k + 1))).1 := by
  intro m
  induction m with
  | zero => intro h; omega
  | succ m ih =>
    intro h hm
    by_cases e : m = k
    · subst e; rw [Int.sub_self]; exact Int.dvd_zero a
    · have hc : l[m]? = some (l[m]'(by omega)) := List.getElem?_eq_getElem (by omega)
      rw [foldP_take hc]
      have i := ih (by omega) (by omega)
      have w : a ∣ (foldP P u (l.take m)).2 := by
        obtain ⟨m', rfl⟩ : ∃ m', m = m' + 1 := ⟨m - 1, by omega⟩
        have hb : l[m']? = some (l[m']'(by omega)) := List.getElem?_eq_getElem (by omega)
        rw [foldP_snd hb]
        exact hdv k m' _ _ (by omega) ha hb
      unfold stepP
      dsimp only
      generalize u / (P / l[m]'(by omega)) % (l[m]'(by omega) / (foldP P u (l.take m)).2) = d
      have z : a ∣ d * (foldP P u (l.take m)).2 := Int.dvd_trans w (Int.dvd_mul_left _ _)
      have := Int.dvd_add i z
      have e : (foldP P u (l.take m)).1 - (foldP P u (l.take (k + 1))).1 + d * (foldP P u (l.take m)).2 = (foldP P u (l.take m)).1 + d * (foldP P u (l.take m)).2 - (foldP P u (l.take (k + 1))).1 := by omega
      rwa [e] at this
/-- the digits tell the number -/
theorem fold_inj {P : Int} {l : List Int} (hp : ∀ a ∈ l, 0 < a) (hdv : ∀ (i j : Nat) (a b : Int), i ≤ j → l[i]? = some a → l[j]? = some b → a ∣ b) (hP : 0 < P) (hPd : ∀ a ∈ l, a ∣ P) {u v : Int} (hu : 0 ≤ u) (hu2 : u < P) (hv : 0 ≤ v) (hv2 : v < P) :
    ∀ (k : Nat) (a : Int), l[k]? = some a → (foldP P u (l.take (k + 1))).1 = (foldP P v (l.take (k + 1))).1 → u / (P / a) = v / (P / a) := by
  intro k
  induction k with
  | zero =>
    intro a ha h
    rw [foldP_take ha, foldP_take ha] at h
    have e0 : ∀ x, foldP P x (l.take 0) = (0, 1) := fun x => rfl
    rw [e0, e0] at h
    unfold stepP at h
    dsimp only at h
    rw [Int.ediv_one, Int.mul_one, Int.mul_one, Int.zero_add, Int.zero_add] at h
    have pa := hp a (List.mem_of_getElem? ha)
    have q0 : 0 < P / a := Int.ediv_pos_of_pos_of_dvd hP (by omega) (hPd a (List.mem_of_getElem? ha))
    have small : ∀ x, 0 ≤ x → x < P → x / (P / a) % a = x / (P / a) := fun x x0 x1 => by
      refine Int.emod_eq_of_lt (Int.ediv_nonneg x0 (by omega)) ?_
      refine Int.ediv_lt_of_lt_mul q0 ?_
      obtain ⟨c, hc⟩ := hPd a (List.mem_of_getElem? ha)
      have : P / a = c := Int.ediv_eq_of_eq_mul_right (by omega) hc
      rw [this, ← hc]; exact x1
    rw [small u hu hu2, small v hv hv2] at h
    exact h
  | succ k ih =>
    intro a ha h
    have hb : l[k]? = some (l[k]'(by have := (List.getElem?_eq_some_iff.mp ha).1; omega)) := List.getElem?_eq_getElem _
    generalize l[k]'(by have := (List.getElem?_eq_some_iff.mp ha).1; omega) = b at hb
    have hlen := (List.getElem?_eq_some_iff.mp ha).1
    have pa := hp a (List.mem_of_getElem? ha)
    have pb := hp b (List.mem_of_getElem? hb)
    have dba := hdv k (k + 1) b a (by omega) hb ha
    have mu := foldP_mod hp hdv hP hPd u hu (k + 1) (by omega)
    have mv := foldP_mod hp hdv hP hPd v hv (k + 1) (by omega)
    rw [foldP_snd hb] at mu mv
    rw [foldP_take ha, foldP_take ha] at h
    unfold stepP at h
    dsimp only at h
    rw [foldP_snd hb, foldP_snd hb] at h
    have ih' := ih b hb
    generalize (foldP P u (l.take (k + 1))).1 = x at mu h ih'
    generalize (foldP P v (l.take (k + 1))).1 = y at mv h ih'
    have mu' : 0 ≤ x ∧ x < b := by rcases mu with z | z; exact z; omega
    have mv' : 0 ≤ y ∧ y < b := by rcases mv with z | z; exact z; omega
    obtain ⟨m, hm⟩ := dba
    have em : a / b = m := Int.ediv_eq_of_eq_mul_right (by omega) hm
    rw [em] at h
    have m0 : 0 < m := by
      by_cases z : 0 < m
      · exact z
      · exfalso
        have : b * m ≤ 0 := Int.mul_nonpos_of_nonneg_of_nonpos (by omega) (by omega)
        omega
    have hxy : x = y := by
      have h1 := congrArg (· % b) h
      simp only [Int.add_mul_emod_self_right] at h1
      rwa [Int.emod_eq_of_lt mu'.1 mu'.2, Int.emod_eq_of_lt mv'.1 mv'.2] at h1
    have hd : u / (P / a) % m = v / (P / a) % m := by
      rw [hxy] at h
      have : u / (P / a) % m * b = v / (P / a) % m * b := by omega
      exact Int.eq_of_mul_eq_mul_right (by omega) this
    have hq := ih' hxy
    have q0 : 0 ≤ P / a := Int.ediv_nonneg (by omega) (by omega)
    have eb : P / b = (P / a) * m := by rw [div_mul_of pb ⟨m, hm⟩ (hPd a (List.mem_of_getElem? ha)) pa, em]
    rw [eb, ← Int.ediv_ediv_of_nonneg q0, ← Int.ediv_ediv_of_nonneg q0] at hq
    have := Int.emod_add_mul_ediv (u / (P / a)) m
    have := Int.emod_add_mul_ediv (v / (P / a)) m
    rw [← Int.emod_add_mul_ediv (u / (P / a)) m, ← Int.emod_add_mul_ediv (v / (P / a)) m, hd, hq]
end Lw
end

section
set_option Elab.async false
set_option linter.all false
set_option maxRecDepth 100000
set_option maxHeartbeats 4000000
set_option autoImplicit false
open PySem L2 Cv
namespace Lw
theorem take_take_self {α : Type} (l : List α) (k : Nat) : (l.take k).take k = l.take k := by rw [List.take_take, Nat.min_self]
theorem take_get {α : Type} {l : List α} {i k : Nat} {a : α} (h : (l.take k)[i]? = some a) : i < k ∧ l[i]? = some a := by
  by_cases c : i < k
  · rw [List.getElem?_take_of_lt c] at h; exact ⟨c, h⟩
  · rw [List.getElem?_eq_none (by rw [List.length_take]; omega)] at h; cases h
theorem take_dv {asc : List Int} (c : Chn asc) {t : Nat} {a : Int} (h : asc[t]? = some a) : ∀ x ∈ asc.take (t + 1), 0 < x ∧ x ∣ a := fun x hx => by
  obtain ⟨i, hi⟩ := List.getElem?_of_mem hx
  obtain ⟨h1, h2⟩ := take_get hi
  exact ⟨c.pos x (List.mem_of_getElem? h2), c.dv i t x a (by omega) h2 h⟩
theorem phase_range {asc : List Int} (c : Chn asc) {t : Nat} {a u : Int} (h : asc[t]? = some a) (hu : 0 ≤ u) : 0 ≤ (foldP a u (asc.take (t + 1))).1 ∧ (foldP a u (asc.take (t + 1))).1 < a := by
  have hp := take_dv c h
  have pa := c.pos a (List.mem_of_getElem? h)
  have hl : t < asc.length := (List.getElem?_eq_some_iff.mp h).1
  have := foldP_mod (l := asc.take (t + 1)) (P := a) (fun x hx => (hp x hx).1) (fun i j x y hij hx hy => c.dv i j x y hij (take_get hx).2 (take_get hy).2) pa (fun x hx => (hp x hx).2) u hu (t + 1) (by rw [List.length_take]; omega)
  rw [take_take_self] at this
  rw [foldP_snd h] at this
  rcases this with z | z
  · exact z
  · omega
theorem apart {asc : List Int} (c : Chn asc) (hs : ∀ (t : Nat) (b : Int), asc[t]? = some b → usedP b (asc.take t) + 1 ≤ b) {t1 t2 : Nat} {a b : Int} (ht : t1 < t2) (ha : asc[t1]? = some a) (hb : asc[t2]? = some b) :
    ¬ a ∣ (foldP b (usedP b (asc.take t2)) (asc.take (t2 + 1))).1 - (foldP a (usedP a (asc.take t1)) (asc.take (t1 + 1))).1 := fun hdv => by
  have pa := c.pos a (List.mem_of_getElem? ha)
  have pb := c.pos b (List.mem_of_getElem? hb)
  have dab := c.dv t1 t2 a b (by omega) ha hb
  have l2 := (List.getElem?_eq_some_iff.mp hb).1
  have u1 : 0 ≤ usedP a (asc.take t1) := used_nonneg (by omega) _ fun x hx => c.pos x (List.mem_of_mem_take hx)
  have u2 : 0 ≤ usedP b (asc.take t2) := used_nonneg (by omega) _ fun x hx => c.pos x (List.mem_of_mem_take hx)
  have s1 := hs t1 a ha
  have s2 := hs t2 b hb
  -- what is used at t2 is more than what was used at t1
  have more : (b / a) * (usedP a (asc.take t1) + 1) ≤ usedP b (asc.take t2) := by
    have e : asc.take t2 = asc.take (t1 + 1) ++ (asc.take t2).drop (t1 + 1) := by
      have h := List.take_append_drop (t1 + 1) (asc.take t2)
      rw [List.take_take, Nat.min_eq_left (by omega)] at h
      exact h.symm
    have e2 : usedP b (asc.take t2) = usedP b (asc.take (t1 + 1)) + usedP b ((asc.take t2).drop (t1 + 1)) := by
      conv => lhs; rw [e]
      unfold usedP
      rw [List.map_append, List.sum_append]
    have e3 : usedP b (asc.take (t1 + 1)) = (b / a) * usedP a (asc.take (t1 + 1)) := used_scale dab pa _ (take_dv c ha)
    have e4 : usedP a (asc.take (t1 + 1)) = usedP a (asc.take t1) + 1 := by
      rw [List.take_add_one, ha]
      unfold usedP
      rw [List.map_append, List.sum_append]
      simp [Int.ediv_self (show a ≠ 0 by omega)]
    have e5 : 0 ≤ usedP b ((asc.take t2).drop (t1 + 1)) := used_nonneg (by omega) _ fun x hx => c.pos x (List.mem_of_mem_take (List.mem_of_mem_drop hx))
    rw [e2, e3, e4]; omega
  have q0 : 0 < b / a := Int.ediv_pos_of_pos_of_dvd pb (by omega) dab
  have v1 : usedP a (asc.take t1) + 1 ≤ usedP b (asc.take t2) / (b / a) := (Int.le_ediv_iff_mul_le q0).mpr (by rw [Int.mul_comm]; exact more)
  have v2 : usedP b (asc.take t2) / (b / a) < a := by
    refine Int.ediv_lt_of_lt_mul q0 ?_
    have : a * (b / a) = b := Int.mul_ediv_cancel' dab
    rw [this]; omega
  -- the first digits
  have fc := fold_cong (P := b) (u := usedP b (asc.take t2)) c.dv ha (t2 + 1) (by omega) (by omega)
  have sc : foldP b (usedP b (asc.take t2)) (asc.take (t1 + 1)) = foldP a (usedP b (asc.take t2) / (b / a)) (asc.take (t1 + 1)) := fold_scale dab pa pb _ _ (take_dv c ha)
  rw [sc] at fc
  have r1 := phase_range c ha u1
  have r2 := phase_range c ha (u := usedP b (asc.take t2) / (b / a)) (by omega)
  have dd := Int.dvd_sub hdv fc
  generalize hx : (foldP a (usedP a (asc.take t1)) (asc.take (t1 + 1))).1 = x at *
  generalize hy : (foldP a (usedP b (asc.take t2) / (b / a)) (asc.take (t1 + 1))).1 = y at *
  generalize (foldP b (usedP b (asc.take t2)) (asc.take (t2 + 1))).1 = z at *
  have exy : x = y := by
    have e : z - x - (z - y) = y - x := by omega
    rw [e] at dd
    have h1 : y % a = x % a := Int.emod_eq_emod_iff_emod_sub_eq_zero.mpr (Int.emod_eq_zero_of_dvd dd)
    rwa [Int.emod_eq_of_lt r1.1 r1.2, Int.emod_eq_of_lt r2.1 r2.2, eq_comm] at h1
  have inj := fold_inj (l := asc.take (t1 + 1)) (P := a) (fun x hx => (take_dv c ha x hx).1) (fun i j x y hij hx hy => c.dv i j x y hij (take_get hx).2 (take_get hy).2) pa (fun x hx => (take_dv c ha x hx).2) u1 (by omega) (v := usedP b (asc.take t2) / (b / a)) (by omega) v2 t1 a (by rw [List.getElem?_take_of_lt (by omega)]; exact ha) (by rw [take_take_self, hx, hy, exy])
  rw [Int.ediv_self (by omega), Int.ediv_one, Int.ediv_one] at inj
  omega
theorem used_le {asc : List Int} (c : Chn asc) (hs : (sumF asc).1 ≤ (sumF asc).2) : ∀ (t : Nat) (b : Int), asc[t]? = some b → usedP b (asc.take t) + 1 ≤ b := fun t b hb => by
  have hl := (List.getElem?_eq_some_iff.mp hb).1
  have hM : asc[asc.length - 1]? = some (asc[asc.length - 1]'(by omega)) := List.getElem?_eq_getElem (by omega)
  generalize asc[asc.length - 1]'(by omega) = M at hM
  have pM := c.pos M (List.mem_of_getElem? hM)
  have pb := c.pos b (List.mem_of_getElem? hb)
  have all : ∀ q ∈ asc, 0 < q ∧ q ∣ M := fun q hq => by
    obtain ⟨i, hi⟩ := List.getElem?_of_mem hq
    have := (List.getElem?_eq_some_iff.mp hi).1
    exact ⟨c.pos q hq, c.dv i (asc.length - 1) q M (by omega) hi hM⟩
  have h1 : usedP M asc ≤ M := sum_le_one pM all hs
  have dbM := (all b (List.mem_of_getElem? hb)).2
  have e2 : usedP M asc = usedP M (asc.take (t + 1)) + usedP M (asc.drop (t + 1)) := by
    conv => lhs; rw [← List.take_append_drop (t + 1) asc]
    unfold usedP
    rw [List.map_append, List.sum_append]
  have e3 : usedP M (asc.take (t + 1)) = (M / b) * usedP b (asc.take (t + 1)) := used_scale dbM pb _ (take_dv c hb)
  have e4 : usedP b (asc.take (t + 1)) = usedP b (asc.take t) + 1 := by
    rw [List.take_add_one, hb]
    unfold usedP
    rw [List.map_append, List.sum_append]
    simp [Int.ediv_self (show b ≠ 0 by omega)]
  have e5 : 0 ≤ usedP M (asc.drop (t + 1)) := used_nonneg (by omega) _ fun x hx => c.pos x (List.mem_of_mem_drop hx)
  have q0 : 0 < M / b := Int.ediv_pos_of_pos_of_dvd pM (by omega) dbM
  have e6 : (M / b) * b = M := by rw [Int.mul_comm]; exact Int.mul_ediv_cancel' dbM
  have : (M / b) * (usedP b (asc.take t) + 1) ≤ (M / b) * b := by rw [e6, ← e4, ← e3]; omega
  exact Int.le_of_mul_le_mul_left this q0
end Lw
end

section
set_option Elab.async false
set_option linter.all false
set_option maxRecDepth 100000
set_option maxHeartbeats 4000000
set_option autoImplicit false
open PySem L2 Cv
namespace Lw
theorem prs_fst (ns : List Int) : (prs ns).map Prod.fst = ns := by
  unfold prs
  rw [List.map_map]
  apply List.ext_getElem?
  intro i
  rw [List.getElem?_map]
  by_cases h : i < ns.length
  · rw [List.getElem?_range h, List.getElem?_eq_getElem h]
    simp [List.getD, List.getElem?_eq_getElem h]
  · rw [List.getElem?_eq_none (by simp; omega), List.getElem?_eq_none (by omega)]; rfl
theorem ordP_fst (ns : List Int) : (ordP ns).map Prod.fst = sortI ns := by
  refine sortI_unique ?_ ?_
  · have := (sortP_perm (prs ns)).map Prod.fst
    rwa [prs_fst] at this
  · rw [List.pairwise_map]
    exact (sortP_sorted (prs ns)).imp fun h => by rw [lePair_iff] at h; omega
theorem ordP_snd_nodup (ns : List Int) : ((ordP ns).map Prod.snd).Nodup := by
  have p := (sortP_perm (prs ns)).map Prod.snd
  refine (p.nodup_iff).mpr ?_
  unfold prs
  rw [List.map_map]
  refine List.pairwise_map.mpr ?_
  exact (List.nodup_range (n := ns.length)).imp fun {a b} hab z => hab (by simp at z; omega)
theorem nodup_ix2 {α : Type} {l : List α} (nd : l.Nodup) {i j : Nat} {x : α} (h1 : l[i]? = some x) (h2 : l[j]? = some x) : i = j := by
  obtain ⟨a1, a2⟩ := List.getElem?_eq_some_iff.mp h1
  obtain ⟨b1, b2⟩ := List.getElem?_eq_some_iff.mp h2
  have p := List.pairwise_iff_getElem.mp nd
  rcases Nat.lt_trichotomy i j with h | h | h
  · exact absurd (a2.trans b2.symm) (p i j a1 b1 h)
  · exact h
  · exact absurd (b2.trans a2.symm) (p j i b1 a1 h)
theorem setP_get (ns : List Int) : ∀ (m : Nat), m ≤ ns.length → ∀ (t : Nat) (x : Int) (k : Nat), t < m → (ordP ns)[t]? = some (x, (k : Int)) → (setP ns m)[k]? = some (phT ns t)
  | 0, _, t, x, k, h, _ => by omega
  | m + 1, hm, t, x, k, h, ho => by
    have hO : (ordP ns)[m]? = some ((ordP ns)[m]'(by rw [ordP_len]; omega)) := List.getElem?_eq_getElem _
    obtain ⟨km, hkm, ekm⟩ := ord_snd (List.mem_of_getElem? hO)
    rw [ekm] at hO
    have eO : (ordP ns).getD m (0, 0) = (ns.getD km 0, (km : Int)) := by rw [List.getD, hO]; rfl
    show ((setP ns m).set ((ordP ns).getD m (0, 0)).2.toNat (phT ns m))[k]? = _
    rw [eO]
    show ((setP ns m).set (km : Int).toNat (phT ns m))[k]? = _
    have ek : (km : Int).toNat = km := by omega
    rw [ek]
    by_cases e : t = m
    · subst e
      rw [hO] at ho
      have : km = k := by
        have := congrArg Prod.snd (Option.some.inj ho)
        simp at this; omega
      subst this
      rw [List.getElem?_set_self (by rw [setP_len]; exact hkm)]
    · have ne : km ≠ k := fun z => by
        subst z
        have nd := ordP_snd_nodup ns
        have h1 : ((ordP ns).map Prod.snd)[t]? = some (km : Int) := by rw [List.getElem?_map, ho]; rfl
        have h2 : ((ordP ns).map Prod.snd)[m]? = some (km : Int) := by rw [List.getElem?_map, hO]; rfl
        exact e (nodup_ix2 nd h1 h2)
      rw [List.getElem?_set_ne ne]
      exact setP_get ns m (by omega) t x k (by omega) ho
/-- each place stands at some turn -/
theorem ordP_at (ns : List Int) {k : Nat} (hk : k < ns.length) : ∃ t, t < ns.length ∧ (ordP ns)[t]? = some (ns.getD k 0, (k : Int)) := by
  have : (ns.getD k 0, (k : Int)) ∈ ordP ns := (sortP_perm (prs ns)).mem_iff.mpr (List.mem_map.mpr ⟨k, List.mem_range.mpr hk, rfl⟩)
  obtain ⟨t, ht⟩ := List.getElem?_of_mem this
  have := (List.getElem?_eq_some_iff.mp ht).1
  rw [ordP_len] at this
  exact ⟨t, this, ht⟩
theorem asc_at (ns : List Int) {t k : Nat} (h : (ordP ns)[t]? = some (ns.getD k 0, (k : Int))) : (sortI ns)[t]? = some (ns.getD k 0) := by
  rw [← ordP_fst, List.getElem?_map, h]; rfl
theorem phT_eq (ns : List Int) {t : Nat} {a : Int} (h : (sortI ns)[t]? = some a) : phT ns t = (foldP a (usedP a ((sortI ns).take t)) ((sortI ns).take (t + 1))).1 := by
  unfold phT
  rw [List.getD, h]; rfl
/-- all phases within their periods, no two meet -/
theorem phases_right {ns : List Int} (c : Chn (sortI ns)) (hs : (sumF (sortI ns)).1 ≤ (sumF (sortI ns)).2) : (∀ k, k < ns.length → ∃ f, (setP ns ns.length)[k]? = some f ∧ 0 ≤ f ∧ f < ns.getD k 0) ∧
    ∀ (k j : Nat) (f g : Int), k < ns.length → j < ns.length → k ≠ j → (setP ns ns.length)[k]? = some f → (setP ns ns.length)[j]? = some g → (f - g) % (if ns.getD j 0 < ns.getD k 0 then ns.getD j 0 else ns.getD k 0) ≠ 0 := by
  have hu := used_le c hs
  refine ⟨fun k hk => ?_, fun k j f g hk hj ne hf hg => ?_⟩
  · obtain ⟨t, ht, ho⟩ := ordP_at ns hk
    have ha := asc_at ns ho
    refine ⟨_, setP_get ns ns.length (Nat.le_refl _) t _ k ht ho, ?_⟩
    rw [phT_eq ns ha]
    exact phase_range c ha (used_nonneg (Int.le_of_lt (c.pos _ (List.mem_of_getElem? ha))) _ fun x hx => c.pos x (List.mem_of_mem_take hx))
  · obtain ⟨t, ht, ho⟩ := ordP_at ns hk
    obtain ⟨s, hs', hq⟩ := ordP_at ns hj
    have ha := asc_at ns ho
    have hb := asc_at ns hq
    rw [setP_get ns ns.length (Nat.le_refl _) t _ k ht ho] at hf
    rw [setP_get ns ns.length (Nat.le_refl _) s _ j hs' hq] at hg
    cases hf; cases hg
    rw [phT_eq ns ha, phT_eq ns hb]
    have nts : t ≠ s := fun z => by
      subst z
      rw [ho] at hq
      have := congrArg Prod.snd (Option.some.inj hq)
      simp at this; exact ne (by omega)
    generalize hA : ns.getD k 0 = a at *
    generalize hB : ns.getD j 0 = b at *
    have pa := c.pos a (List.mem_of_getElem? ha)
    have pb := c.pos b (List.mem_of_getElem? hb)
    intro z
    rcases Nat.lt_or_gt_of_ne nts with h | h
    · have dab := c.dv t s a b (by omega) ha hb
      have le : a ≤ b := Int.le_of_dvd pb dab
      have nd := apart c hu h ha hb
      rw [if_neg (by omega)] at z
      have d := Int.dvd_of_emod_eq_zero z
      refine nd ?_
      have := (Int.dvd_neg).mpr d
      rwa [Int.neg_sub] at this
    · have dab := c.dv s t b a (by omega) hb ha
      have le : b ≤ a := Int.le_of_dvd pa dab
      have nd := apart c hu h hb ha
      by_cases lt : b < a
      · rw [if_pos lt] at z
        exact nd (Int.dvd_of_emod_eq_zero z)
      · have e : a = b := by omega
        rw [if_neg lt, e] at z
        rw [e] at nd
        exact nd (Int.dvd_of_emod_eq_zero z)
end Lw
end

section
set_option Elab.async false
set_option linter.all false
set_option maxRecDepth 100000
set_option maxHeartbeats 4000000
set_option autoImplicit false
open PySem L2 Cv
namespace Lw
theorem r_apart {ns fs : List Int} (hl : ns.length ≤ 12) (he : fs.length = ns.length) (pos : ∀ n ∈ ns, intOk n) (h1 : ∀ k, k < ns.length → ∃ f, fs[k]? = some f ∧ 0 ≤ f ∧ f < ns.getD k 0)
    (h2 : ∀ (k j : Nat) (f g : Int), k < ns.length → j < ns.length → k ≠ j → fs[k]? = some f → fs[j]? = some g → (f - g) % (if ns.getD j 0 < ns.getD k 0 then ns.getD j 0 else ns.getD k 0) ≠ 0) :
    m__law_apart_always [.imm (.lst (ns.map .int)), .imm (.lst (fs.map .int))] = .ok (.imm (.bl true)) [.imm (.lst (ns.map .int)), .imm (.lst (fs.map .int))] := by
  have inner : ∀ (k : Nat) (y z : Sl), k < ns.length → ∃ y' z', sFor (iR1 (vCons (eVar 2) vNil)) (gN 3) (sSeq (sAsg (liftP (pN dMin2 (pCons (p2 dIx (pVar 0) (pVar 2)) (pCons (p2 dIx (pVar 0) (pVar 3)) pNil)))) (gN 4)) (sIf (liftT (qB (p2 dEq (p2 dMod (pN dInt (pCons (p2 dSub (p2 dIx (pVar 1) (pVar 2)) (p2 dIx (pVar 1) (pVar 3))) pNil)) (pVar 4)) (pC (.int 0))))) (sRet (liftP (pC (.bl false)))) sNext))
      [.imm (.lst (ns.map .int)), .imm (.lst (fs.map .int)), .imm (.int k), y, z] = .next [.imm (.lst (ns.map .int)), .imm (.lst (fs.map .int)), .imm (.int k), y', z'] := fun k y z hk => by
    obtain ⟨f, hf, f0, f1⟩ := h1 k hk
    have hn : ns[k]? = some (ns.getD k 0) := by rw [List.getD, List.getElem?_eq_getElem hk]; rfl
    have xk := atI_map (i := (k : Int)) rfl hn
    have fk := atI_map (i := (k : Int)) rfl hf
    have pk := pos _ (List.mem_of_getElem? hn)
    obtain ⟨e', q1, y', z', q2⟩ := forL_rel (tg := gN 3) (body := sSeq (sAsg (liftP (pN dMin2 (pCons (p2 dIx (pVar 0) (pVar 2)) (pCons (p2 dIx (pVar 0) (pVar 3)) pNil)))) (gN 4)) (sIf (liftT (qB (p2 dEq (p2 dMod (pN dInt (pCons (p2 dSub (p2 dIx (pVar 1) (pVar 2)) (p2 dIx (pVar 1) (pVar 3))) pNil)) (pVar 4)) (pC (.int 0))))) (sRet (liftP (pC (.bl false)))) sNext)) (ds := rng 0 k)
      (fun i e => ∃ y z, e = [.imm (.lst (ns.map .int)), .imm (.lst (fs.map .int)), .imm (.int k), y, z]) (e := [.imm (.lst (ns.map .int)), .imm (.lst (fs.map .int)), .imm (.int k), y, z]) ⟨y, z, rfl⟩
      (fun i d e hd ⟨y, z, he⟩ => by
        subst he
        obtain ⟨hi, rfl⟩ := rng_get hd
        obtain ⟨g, hg, g0, g1⟩ := h1 i (by omega)
        have hm : ns[i]? = some (ns.getD i 0) := by rw [List.getD, List.getElem?_eq_getElem (show i < ns.length by omega)]; rfl
        have xi := atI_map (i := 0 + (i : Int)) (by omega) hm
        have fi := atI_map (i := 0 + (i : Int)) (by omega) hg
        have pi := pos _ (List.mem_of_getElem? hm)
        have nd := h2 k i f g hk (by omega) (by omega) hf hg
        generalize ns.getD k 0 = a at *
        generalize ns.getD i 0 = b at *
        generalize (0 + (i : Int)) = w at *
        obtain ⟨pk1, pk2⟩ := pk
        obtain ⟨pi1, pi2⟩ := pi
        have hlow : 0 < (if b < a then b else a) := by split <;> omega
        refine ⟨_, [.imm (.lst (ns.map .int)), .imm (.lst (fs.map .int)), .imm (.int k), .imm (.int w), .imm (.int (if b < a then b else a))], rfl, .inl ?_, _, _, rfl⟩
        simp only [mDef, outsOf, sSeq, sIf, sDrop, sRet, sRetN, sRetF, sRetO, sAsg, sAsgF, sAsgR, sPar, sSetIx, sAugIx, sAug, sRaise, sNext, sBrk, sCont, sFor, sSpoilA, sSpoilP, sTry, sHand, Fl.clr, suRet, suRetT, xFld, xC, liftP, liftT, okF, Res.bind, RP.bind, Res.of, RP.of, pVar, pC, p1, p2, pN, pAnd, pOr, pIf, pNil, pCons, pTup, pLst, pCall, qB, qAnd, qOr, qNot, dNot, eVar, Cv.e1, Cv.e2, eAnd, eOr, eIf, tBm, tAndm, tOrm, tNotm, vNil, vCons, aNil, aV, aS, eTup, fLst, eOfF, cOfF, cOfE, cVar, rNil, rE, rF, td_lst, mf_lst, dSub, dAdd, dFdiv, dMod, dNeg, dLt, dLe, dGt, dGe, dIsN, dNotN, dInt, dAbs, dMin2, dMax2, dLen, tyName, dIsi, dIx, eIx, cIx, cS, cL, sLen, sSum, lAll, kVar, kLst, kRep, kCat, kCut, fOfK, fCut, oNo, oI, fListP, itemsD, Sl.mo, Sl.put, ownL, setL, eApp, ePop, ePopAt, gN, gT, gsNil, gsCons, iR1, iR2, iLst, iTupl, eCall, fCall, slotsOf, argSl, putB, wCallT, eOfW, fOfW, unfre, qVar, qIx, freAt, lstOf, fl_non, fl_bl, fl_int, fl_str, fl_lst, fl_tup, fl_rls, tYesm, List.set_cons_succ, List.set_cons_zero, xk, fk, xi, fi, if_pos hlow, dEq_int, decide_eq_false nd, List.getElem?_cons_zero, List.getElem?_cons_succ, List.length_cons, List.length_nil, Nat.reduceAdd, Nat.reduceLT, if_true])
    subst q2
    exact ⟨y', z', (for_ok (src := iR1 (vCons (eVar 2) vNil)) (e1 := [.imm (.lst (ns.map .int)), .imm (.lst (fs.map .int)), .imm (.int k), y, z]) (ds := rng 0 k) (iR1_ok (j := (k : Int)) rfl (by omega) (by omega) (by omega))).trans q1⟩
  obtain ⟨e', q1, x, y, z, q2⟩ := forL_rel (tg := gN 2) (body := sSeq (sIf (liftT (qOr (qNot (qB (pCall m__law_whole (pCons (p2 dIx (pVar 1) (pVar 2)) pNil)))) (qOr (qB (p2 dLt (p2 dIx (pVar 1) (pVar 2)) (pC (.int 0)))) (qB (p2 dGe (p2 dIx (pVar 1) (pVar 2)) (p2 dIx (pVar 0) (pVar 2))))))) (sRet (liftP (pC (.bl false)))) sNext)
      (sFor (iR1 (vCons (eVar 2) vNil)) (gN 3) (sSeq (sAsg (liftP (pN dMin2 (pCons (p2 dIx (pVar 0) (pVar 2)) (pCons (p2 dIx (pVar 0) (pVar 3)) pNil)))) (gN 4)) (sIf (liftT (qB (p2 dEq (p2 dMod (pN dInt (pCons (p2 dSub (p2 dIx (pVar 1) (pVar 2)) (p2 dIx (pVar 1) (pVar 3))) pNil)) (pVar 4)) (pC (.int 0))))) (sRet (liftP (pC (.bl false)))) sNext)))) (ds := rng 0 ns.length)
    (fun i e => ∃ x y z, e = [.imm (.lst (ns.map .int)), .imm (.lst (fs.map .int)), x, y, z]) (e := [.imm (.lst (ns.map .int)), .imm (.lst (fs.map .int)), .none, .none, .none]) ⟨_, _, _, rfl⟩
    (fun i d e hd ⟨x, y, z, he⟩ => by
      subst he
      obtain ⟨hi, rfl⟩ := rng_get hd
      obtain ⟨f, hf, f0, f1⟩ := h1 i hi
      have hn : ns[i]? = some (ns.getD i 0) := by rw [List.getD, List.getElem?_eq_getElem hi]; rfl
      have xk := atI_map (i := (i : Int)) rfl hn
      have fk := atI_map (i := (i : Int)) rfl hf
      obtain ⟨y', z', hin⟩ := inner i y z hi
      have ez : (0 + (i : Int)) = (i : Int) := by omega
      rw [ez]
      refine ⟨_, [.imm (.lst (ns.map .int)), .imm (.lst (fs.map .int)), .imm (.int i), y', z'], rfl, .inl ((seq_next (e1 := [.imm (.lst (ns.map .int)), .imm (.lst (fs.map .int)), .imm (.int i), y, z]) ?_).trans hin), _, _, _, rfl⟩
      have n1 : ¬ f < 0 := by omega
      have n2 : ¬ ns.getD i 0 ≤ f := by omega
      generalize ns.getD i 0 = a at *
      generalize (i : Int) = w at *
      simp only [mDef, outsOf, sSeq, sIf, sDrop, sRet, sRetN, sRetF, sRetO, sAsg, sAsgF, sAsgR, sPar, sSetIx, sAugIx, sAug, sRaise, sNext, sBrk, sCont, sFor, sSpoilA, sSpoilP, sTry, sHand, Fl.clr, suRet, suRetT, xFld, xC, liftP, liftT, okF, Res.bind, RP.bind, Res.of, RP.of, pVar, pC, p1, p2, pN, pAnd, pOr, pIf, pNil, pCons, pTup, pLst, pCall, qB, qAnd, qOr, qNot, dNot, eVar, Cv.e1, Cv.e2, eAnd, eOr, eIf, tBm, tAndm, tOrm, tNotm, vNil, vCons, aNil, aV, aS, eTup, fLst, eOfF, cOfF, cOfE, cVar, rNil, rE, rF, td_lst, mf_lst, dSub, dAdd, dFdiv, dMod, dNeg, dLt, dLe, dGt, dGe, dIsN, dNotN, dInt, dAbs, dMin2, dMax2, dLen, tyName, dIsi, dIx, eIx, cIx, cS, cL, sLen, sSum, lAll, kVar, kLst, kRep, kCat, kCut, fOfK, fCut, oNo, oI, fListP, itemsD, Sl.mo, Sl.put, ownL, setL, eApp, ePop, ePopAt, gN, gT, gsNil, gsCons, iR1, iR2, iLst, iTupl, eCall, fCall, slotsOf, argSl, putB, wCallT, eOfW, fOfW, unfre, qVar, qIx, freAt, lstOf, fl_non, fl_bl, fl_int, fl_str, fl_lst, fl_tup, fl_rls, tYesm, List.set_cons_succ, List.set_cons_zero, xk, fk, r_law_whole, decide_eq_false n1, decide_eq_false n2, List.map, List.getElem?_cons_zero, List.getElem?_cons_succ, Bool.not_true, if_true]
      rfl)
  subst q2
  have st := (seq_next (b := sRet (liftP (pC (.bl true)))) ((for_ok (src := iR1 (vCons (liftP (pN dLen (pCons (pVar 0) pNil))) vNil)) (e := [.imm (.lst (ns.map .int)), .imm (.lst (fs.map .int)), .none, .none, .none]) (e1 := [.imm (.lst (ns.map .int)), .imm (.lst (fs.map .int)), .none, .none, .none]) (ds := rng 0 ns.length)
    (iR1_ok (j := ns.length) (by simp [mDef, outsOf, sSeq, sIf, sDrop, sRet, sRetN, sRetF, sRetO, sAsg, sAsgF, sAsgR, sPar, sSetIx, sAugIx, sAug, sRaise, sNext, sBrk, sCont, sFor, sSpoilA, sSpoilP, sTry, sHand, Fl.clr, suRet, suRetT, xFld, xC, liftP, liftT, okF, Res.bind, RP.bind, Res.of, RP.of, pVar, pC, p1, p2, pN, pAnd, pOr, pIf, pNil, pCons, pTup, pLst, pCall, qB, qAnd, qOr, qNot, dNot, eVar, Cv.e1, Cv.e2, eAnd, eOr, eIf, tBm, tAndm, tOrm, tNotm, vNil, vCons, aNil, aV, aS, eTup, fLst, eOfF, cOfF, cOfE, cVar, rNil, rE, rF, td_lst, mf_lst, dSub, dAdd, dFdiv, dMod, dNeg, dLt, dLe, dGt, dGe, dIsN, dNotN, dInt, dAbs, dMin2, dMax2, dLen, tyName, dIsi, dIx, eIx, cIx, cS, cL, sLen, sSum, lAll, kVar, kLst, kRep, kCat, kCut, fOfK, fCut, oNo, oI, fListP, itemsD, Sl.mo, Sl.put, ownL, setL, eApp, ePop, ePopAt, gN, gT, gsNil, gsCons, iR1, iR2, iLst, iTupl, eCall, fCall, slotsOf, argSl, putB, wCallT, eOfW, fOfW, unfre, qVar, qIx, freAt, lstOf, fl_non, fl_bl, fl_int, fl_str, fl_lst, fl_tup, fl_rls, tYesm]) (by omega) (by omega) (by omega))).trans q1)).trans (show _ = Fl.ret (.imm (.bl true)) [.imm (.lst (ns.map .int)), .imm (.lst (fs.map .int)), x, y, z] from rfl)
  exact mDef_go (np := 2) (n := 5) (b := b__law_apart_always) (as := [.imm (.lst (ns.map .int)), .imm (.lst (fs.map .int))]) (e := [.imm (.lst (ns.map .int)), .imm (.lst (fs.map .int)), .none, .none, .none]) rfl rfl st
end Lw
end

section
set_option Elab.async false
set_option linter.all false
set_option maxRecDepth 100000
set_option maxHeartbeats 4000000
set_option autoImplicit false
open PySem L2 Cv
namespace Lw
/-- periods that the law makes -/
structure Pro (ns : List Int) : Prop where
  ok : ∀ n ∈ ns, intOk n
  ne : ns ≠ []
  len : ns.length ≤ 12
  dv : ∀ x ∈ ns, ∀ y ∈ ns, x ≤ y → x ∣ y
theorem mem_sort {ns : List Int} {x : Int} (h : x ∈ sortI ns) : x ∈ ns := (sortI_perm ns).mem_iff.mp h
theorem Pro.chn {ns : List Int} (p : Pro ns) : Chn (sortI ns) where
  pos := fun a ha => by have := (p.ok a (mem_sort ha)).1; omega
  le := fun a ha => (p.ok a (mem_sort ha)).2
  len := by rw [sortI_len]; exact p.len
  dv := fun i j a b hij ha hb => by
    have ma := mem_sort (List.mem_of_getElem? ha)
    have mb := mem_sort (List.mem_of_getElem? hb)
    by_cases e : i = j
    · subst e; rw [ha] at hb; cases hb; exact Int.dvd_refl a
    · obtain ⟨a1, a2⟩ := List.getElem?_eq_some_iff.mp ha
      obtain ⟨b1, b2⟩ := List.getElem?_eq_some_iff.mp hb
      have := List.pairwise_iff_getElem.mp (sortI_sorted ns) i j a1 b1 (by omega)
      rw [a2, b2] at this
      exact p.dv a ma b mb this
theorem Pro.step {ns : List Int} (p : Pro ns) : ∀ (i : Nat) (a b : Int), (sortI ns)[i]? = some a → (sortI ns)[i + 1]? = some b → b % a = 0 := fun i a b ha hb =>
  Int.emod_eq_zero_of_dvd (p.chn.dv i (i + 1) a b (by omega) ha hb)
/-- the greatest -/
theorem Pro.top {ns : List Int} (p : Pro ns) : ∃ M, 0 < M ∧ M ≤ 1000000 ∧ ∀ q ∈ ns, 0 < q ∧ q ∣ M := by
  have hl : 0 < (sortI ns).length := by rw [sortI_len]; exact List.length_pos_iff.mpr p.ne
  have hM : (sortI ns)[(sortI ns).length - 1]? = some ((sortI ns)[(sortI ns).length - 1]'(by omega)) := List.getElem?_eq_getElem (by omega)
  have c := p.chn
  refine ⟨_, c.pos _ (List.mem_of_getElem? hM), c.le _ (List.mem_of_getElem? hM), fun q hq => ?_⟩
  have hq' := (sortI_perm ns).mem_iff.mpr hq
  obtain ⟨i, hi⟩ := List.getElem?_of_mem hq'
  have := (List.getElem?_eq_some_iff.mp hi).1
  exact ⟨c.pos q hq', c.dv i _ q _ (by omega) hi hM⟩
theorem low_co {p q : Int} (hq : 0 < q) : Int.gcd (low p q).1 (low p q).2 = 1 := by
  unfold low
  exact Int.gcd_ediv_gcd_ediv_gcd (Int.gcd_pos_of_ne_zero_right p (by omega))
theorem sumF_co {M : Int} (hM : 0 < M) {qs : List Int} (h : ∀ q ∈ qs, 0 < q ∧ q ∣ M) : Int.gcd (sumF qs).1 (sumF qs).2 = 1 := by
  revert h
  refine snoc_ind (p := fun qs => (∀ q ∈ qs, 0 < q ∧ q ∣ M) → Int.gcd (sumF qs).1 (sumF qs).2 = 1) ?_ ?_ qs
  · intro _; decide
  · intro l q _ h
    have e : sumF (l ++ [q]) = addF (sumF l) q := by unfold sumF; rw [List.foldl_append]; rfl
    rw [e]
    have := (sumF_spec hM (qs := l) fun x hx => h x (List.mem_append_left _ hx)).2.1
    exact low_co (Int.mul_pos this (h q (by simp)).1)
theorem co_unique {a b c d : Int} (hb : 0 < b) (hd : 0 < d) (h1 : Int.gcd a b = 1) (h2 : Int.gcd c d = 1) (e : a * d = c * b) : a = c ∧ b = d := by
  have k1 : b ∣ a * d := ⟨c, by rw [e, Int.mul_comm]⟩
  have k2 : d ∣ c * b := ⟨a, by rw [← e, Int.mul_comm]⟩
  have dv : ∀ {x y z : Int}, Int.gcd x y = 1 → y ∣ x * z → y ∣ z := fun {x y z} hc h => by
    rw [← Int.natAbs_dvd_natAbs, Int.natAbs_mul] at h
    rw [← Int.natAbs_dvd_natAbs]
    have co : Nat.Coprime y.natAbs x.natAbs := by rw [Nat.coprime_comm]; exact hc
    exact co.dvd_of_dvd_mul_left h
  have b1 := Int.le_of_dvd hd (dv h1 k1)
  have b2 := Int.le_of_dvd hb (dv h2 k2)
  have eb : b = d := by omega
  subst eb
  exact ⟨Int.eq_of_mul_eq_mul_right (by omega) e, rfl⟩
theorem perm_sum {l1 l2 : List Int} (h : l1.Perm l2) : l1.sum = l2.sum := by
  induction h with
  | nil => rfl
  | cons x _ ih => simp [ih]
  | swap x y l => simp; omega
  | trans _ _ h1 h2 => exact h1.trans h2
theorem sumF_perm {ns : List Int} (p : Pro ns) : sumF (sortI ns) = sumF ns := by
  obtain ⟨M, hM, _, hd⟩ := p.top
  have hd' : ∀ q ∈ sortI ns, 0 < q ∧ q ∣ M := fun q hq => hd q (mem_sort hq)
  obtain ⟨a1, a2, a3, a4⟩ := sumF_spec hM hd'
  obtain ⟨b1, b2, b3, b4⟩ := sumF_spec hM hd
  have eu : ups M (sortI ns) = ups M ns := by
    unfold ups
    exact perm_sum ((sortI_perm ns).map _)
  rw [eu] at a3
  have key : (sumF (sortI ns)).1 * (sumF ns).2 = (sumF ns).1 * (sumF (sortI ns)).2 := by
    have h : M * ((sumF (sortI ns)).1 * (sumF ns).2) = M * ((sumF ns).1 * (sumF (sortI ns)).2) := by
      have e1 : M * ((sumF (sortI ns)).1 * (sumF ns).2) = ((sumF (sortI ns)).1 * M) * (sumF ns).2 := by rw [← Int.mul_assoc, Int.mul_comm M]
      have e2 : M * ((sumF ns).1 * (sumF (sortI ns)).2) = ((sumF ns).1 * M) * (sumF (sortI ns)).2 := by rw [← Int.mul_assoc, Int.mul_comm M]
      rw [e1, e2, a3, b3, Int.mul_assoc, Int.mul_assoc, Int.mul_comm (ups M ns) (sumF ns).2, Int.mul_comm (ups M ns) (sumF (sortI ns)).2, ← Int.mul_assoc, ← Int.mul_assoc, Int.mul_comm (sumF (sortI ns)).2]
    exact Int.eq_of_mul_eq_mul_left (by omega) h
  obtain ⟨x, y⟩ := co_unique a2 b2 (sumF_co hM hd') (sumF_co hM hd) key
  exact Prod.ext x y
theorem Pro.good {ns : List Int} (p : Pro ns) : ∀ i, i ≤ ns.length → Good (sumF (ns.take i)) := fun i hi => by
  obtain ⟨M, hM, hM2, hd⟩ := p.top
  exact good_of hM hM2 (by rw [List.length_take]; have := p.len; omega) fun q hq => hd q (List.mem_of_mem_take hq)
theorem r_fraction (t : Int × Int) : m__law_fraction_is [.imm (tupF t), .imm (tupF t)] = .ok (.imm (.bl true)) [.imm (tupF t), .imm (tupF t)] := by
  obtain ⟨a, b⟩ := t
  have i0 : ∀ x y : D, atI [x, y] 0 = some x := fun _ _ => rfl
  have i1 : ∀ x y : D, atI [x, y] 1 = some y := fun _ _ => rfl
  simp [m__law_fraction_is, b__law_fraction_is, mDef, outsOf, sSeq, sIf, sDrop, sRet, sRetN, sRetF, sRetO, sAsg, sAsgF, sAsgR, sPar, sSetIx, sAugIx, sAug, sRaise, sNext, sBrk, sCont, sFor, sSpoilA, sSpoilP, sTry, sHand, Fl.clr, suRet, suRetT, xFld, xC, liftP, liftT, okF, Res.bind, RP.bind, Res.of, RP.of, pVar, pC, p1, p2, pN, pAnd, pOr, pIf, pNil, pCons, pTup, pLst, pCall, qB, qAnd, qOr, qNot, dNot, eVar, Cv.e1, Cv.e2, eAnd, eOr, eIf, tBm, tAndm, tOrm, tNotm, vNil, vCons, aNil, aV, aS, eTup, fLst, eOfF, cOfF, cOfE, cVar, rNil, rE, rF, td_lst, mf_lst, dSub, dAdd, dFdiv, dMod, dNeg, dLt, dLe, dGt, dGe, dIsN, dNotN, dInt, dAbs, dMin2, dMax2, dLen, tyName, dIsi, dIx, eIx, cIx, cS, cL, sLen, sSum, lAll, kVar, kLst, kRep, kCat, kCut, fOfK, fCut, oNo, oI, fListP, itemsD, Sl.mo, Sl.put, ownL, setL, eApp, ePop, ePopAt, gN, gT, gsNil, gsCons, iR1, iR2, iLst, iTupl, eCall, fCall, slotsOf, argSl, putB, wCallT, eOfW, fOfW, unfre, qVar, qIx, freAt, lstOf, fl_non, fl_bl, fl_int, fl_str, fl_lst, fl_tup, fl_rls, tYesm, tupF, i0, i1, kb7, dNe_int, dEq_int, r_law_whole]
theorem n_told : dNe (.str "told") (.str "told") = some (.bl false) := (dNe_str).trans (by simp)
theorem e_told : dEq (.str "told") (.str "told") = some (.bl true) := (dEq_str).trans (by simp)
theorem n_phases : dNe (.str "phases") (.str "phases") = some (.bl false) := (dNe_str).trans (by simp)
theorem e_more : dEq (.str "more than one") (.str "more than one") = some (.bl true) := (dEq_str).trans (by simp)
theorem i0' (x y : D) : atI [x, y] 0 = some x := rfl
theorem i1' (x y : D) : atI [x, y] 1 = some y := rfl
theorem q_call {A B T K : D} {f : En → RD} (ra : f [.imm A, .imm B] = .ok (.imm (.bl true)) [.imm A, .imm B]) :
    sIf (liftT (qNot (qB (pCall f (pCons (pVar 0) (pCons (p2 dIx (p2 dIx (pVar 1) (pC (.int 1))) (pC (.int 1))) pNil)))))) (sRet (liftP (pC (.bl false)))) sNext [.imm A, .fre (.tup [.str "told", .tup [K, B]]), .imm T, .none, .none, .none] = .next [.imm A, .fre (.tup [.str "told", .tup [K, B]]), .imm T, .none, .none, .none] := by
  have q : (pCall f (pCons (pVar 0) (pCons (p2 dIx (p2 dIx (pVar 1) (pC (.int 1))) (pC (.int 1))) pNil))) [.imm A, .fre (.tup [.str "told", .tup [K, B]]), .imm T, .none, .none, .none] = .ok (.bl true) := by
    simp only [mDef, outsOf, sSeq, sIf, sDrop, sRet, sRetN, sRetF, sRetO, sAsg, sAsgF, sAsgR, sPar, sSetIx, sAugIx, sAug, sRaise, sNext, sBrk, sCont, sFor, sSpoilA, sSpoilP, sTry, sHand, Fl.clr, suRet, suRetT, xFld, xC, liftP, liftT, okF, Res.bind, RP.bind, Res.of, RP.of, pVar, pC, p1, p2, pN, pAnd, pOr, pIf, pNil, pCons, pTup, pLst, pCall, qB, qAnd, qOr, qNot, dNot, eVar, Cv.e1, Cv.e2, eAnd, eOr, eIf, tBm, tAndm, tOrm, tNotm, vNil, vCons, aNil, aV, aS, eTup, fLst, eOfF, cOfF, cOfE, cVar, rNil, rE, rF, td_lst, mf_lst, dSub, dAdd, dFdiv, dMod, dNeg, dLt, dLe, dGt, dGe, dIsN, dNotN, dInt, dAbs, dMin2, dMax2, dLen, tyName, dIsi, dIx, eIx, cIx, cS, cL, sLen, sSum, lAll, kVar, kLst, kRep, kCat, kCut, fOfK, fCut, oNo, oI, fListP, itemsD, Sl.mo, Sl.put, ownL, setL, eApp, ePop, ePopAt, gN, gT, gsNil, gsCons, iR1, iR2, iLst, iTupl, eCall, fCall, slotsOf, argSl, putB, wCallT, eOfW, fOfW, unfre, qVar, qIx, freAt, lstOf, fl_non, fl_bl, fl_int, fl_str, fl_lst, fl_tup, fl_rls, tYesm, i0', i1', List.map_cons, List.map_nil, ra, List.getElem?_cons_zero, List.getElem?_cons_succ]
  simp only [sIf, liftT, qNot, qB, q, RP.bind, Bool.not_true, sNext]
theorem q_apart {ns F : List Int} {T K : D} (ra : m__law_apart_always [.imm (.lst (ns.map .int)), .imm (.lst (F.map .int))] = .ok (.imm (.bl true)) [.imm (.lst (ns.map .int)), .imm (.lst (F.map .int))]) :
    sIf (liftT (qNot (qB (pCall m__law_apart_always (pCons (pVar 0) (pCons (p2 dIx (p2 dIx (pVar 1) (pC (.int 1))) (pC (.int 1))) pNil)))))) (sRet (liftP (pC (.bl false)))) sNext [.imm (.lst (ns.map .int)), .fre (toldD (.tup [K, .lst (F.map .int)])), .imm T, .none, .none, .none] = .next [.imm (.lst (ns.map .int)), .fre (toldD (.tup [K, .lst (F.map .int)])), .imm T, .none, .none, .none] :=
  q_call ra
theorem r_right {ns : List Int} (p : Pro ns) : m__law_chain_right [.imm (.lst (ns.map .int))] = .ok (.imm (.bl true)) [.imm (.lst (ns.map .int))] := by
  have rc := r_chain p.ok p.len p.ne p.step p.chn
  have rt := r_told rc
  have rs := r_lsum p.good fun q hq => ⟨by have := (p.ok q hq).1; omega, (p.ok q hq).2⟩
  have hs := sumF_perm p
  have hl := p.len
  have fl := flat_ints ns
  have len0 : ∀ (l : List D), dLen [D.lst l] = some (.int l.length) := fun _ => rfl
  have s1 : sAsgR m__law_chain (rF (cL lAll (cVar 0)) rNil) 1 [.imm (.lst (ns.map .int)), .none, .none, .none, .none, .none] = .next [.imm (.lst (ns.map .int)), .fre (toldD (chainD ns)), .none, .none, .none, .none] := by
    simp only [mDef, outsOf, sSeq, sIf, sDrop, sRet, sRetN, sRetF, sRetO, sAsg, sAsgF, sAsgR, sPar, sSetIx, sAugIx, sAug, sRaise, sNext, sBrk, sCont, sFor, sSpoilA, sSpoilP, sTry, sHand, Fl.clr, suRet, suRetT, xFld, xC, liftP, liftT, okF, Res.bind, RP.bind, Res.of, RP.of, pVar, pC, p1, p2, pN, pAnd, pOr, pIf, pNil, pCons, pTup, pLst, pCall, qB, qAnd, qOr, qNot, dNot, eVar, Cv.e1, Cv.e2, eAnd, eOr, eIf, tBm, tAndm, tOrm, tNotm, vNil, vCons, aNil, aV, aS, eTup, fLst, eOfF, cOfF, cOfE, cVar, rNil, rE, rF, td_lst, mf_lst, dSub, dAdd, dFdiv, dMod, dNeg, dLt, dLe, dGt, dGe, dIsN, dNotN, dInt, dAbs, dMin2, dMax2, dLen, tyName, dIsi, dIx, eIx, cIx, cS, cL, sLen, sSum, lAll, kVar, kLst, kRep, kCat, kCut, fOfK, fCut, oNo, oI, fListP, itemsD, Sl.mo, Sl.put, ownL, setL, eApp, ePop, ePopAt, gN, gT, gsNil, gsCons, iR1, iR2, iLst, iTupl, eCall, fCall, slotsOf, argSl, putB, wCallT, eOfW, fOfW, unfre, qVar, qIx, freAt, lstOf, fl_non, fl_bl, fl_int, fl_str, fl_lst, fl_tup, fl_rls, tYesm, fl, rt, List.map, List.getElem?_cons_zero, List.length_cons, List.length_nil, Nat.reduceAdd, Nat.reduceLT, if_true, List.set_cons_succ, List.set_cons_zero]
  have hc := fLc_map (vs := [5]) (src := iLst (eVar 0)) (tg := gN 5) (test := tYesm) (elt := eTup (vCons (liftP (pC (.int 1))) (vCons (eVar 5) vNil))) (e := [.imm (.lst (ns.map .int)), .fre (toldD (chainD ns)), .none, .none, .none, .none]) (e1 := [.imm (.lst (ns.map .int)), .fre (toldD (chainD ns)), .none, .none, .none, .none]) (ds := ns.map .int)
    (fun d => .tup [.int 1, d]) (by simp [mDef, outsOf, sSeq, sIf, sDrop, sRet, sRetN, sRetF, sRetO, sAsg, sAsgF, sAsgR, sPar, sSetIx, sAugIx, sAug, sRaise, sNext, sBrk, sCont, sFor, sSpoilA, sSpoilP, sTry, sHand, Fl.clr, suRet, suRetT, xFld, xC, liftP, liftT, okF, Res.bind, RP.bind, Res.of, RP.of, pVar, pC, p1, p2, pN, pAnd, pOr, pIf, pNil, pCons, pTup, pLst, pCall, qB, qAnd, qOr, qNot, dNot, eVar, Cv.e1, Cv.e2, eAnd, eOr, eIf, tBm, tAndm, tOrm, tNotm, vNil, vCons, aNil, aV, aS, eTup, fLst, eOfF, cOfF, cOfE, cVar, rNil, rE, rF, td_lst, mf_lst, dSub, dAdd, dFdiv, dMod, dNeg, dLt, dLe, dGt, dGe, dIsN, dNotN, dInt, dAbs, dMin2, dMax2, dLen, tyName, dIsi, dIx, eIx, cIx, cS, cL, sLen, sSum, lAll, kVar, kLst, kRep, kCat, kCut, fOfK, fCut, oNo, oI, fListP, itemsD, Sl.mo, Sl.put, ownL, setL, eApp, ePop, ePopAt, gN, gT, gsNil, gsCons, iR1, iR2, iLst, iTupl, eCall, fCall, slotsOf, argSl, putB, wCallT, eOfW, fOfW, unfre, qVar, qIx, freAt, lstOf, fl_non, fl_bl, fl_int, fl_str, fl_lst, fl_tup, fl_rls, tYesm]) rfl (fun d hd' => by
      obtain ⟨n, _, rfl⟩ := List.mem_map.mp hd'
      exact ⟨[.imm (.lst (ns.map .int)), .fre (toldD (chainD ns)), .none, .none, .none, .imm (.int n)], rfl, rfl, by simp [mDef, outsOf, sSeq, sIf, sDrop, sRet, sRetN, sRetF, sRetO, sAsg, sAsgF, sAsgR, sPar, sSetIx, sAugIx, sAug, sRaise, sNext, sBrk, sCont, sFor, sSpoilA, sSpoilP, sTry, sHand, Fl.clr, suRet, suRetT, xFld, xC, liftP, liftT, okF, Res.bind, RP.bind, Res.of, RP.of, pVar, pC, p1, p2, pN, pAnd, pOr, pIf, pNil, pCons, pTup, pLst, pCall, qB, qAnd, qOr, qNot, dNot, eVar, Cv.e1, Cv.e2, eAnd, eOr, eIf, tBm, tAndm, tOrm, tNotm, vNil, vCons, aNil, aV, aS, eTup, fLst, eOfF, cOfF, cOfE, cVar, rNil, rE, rF, td_lst, mf_lst, dSub, dAdd, dFdiv, dMod, dNeg, dLt, dLe, dGt, dGe, dIsN, dNotN, dInt, dAbs, dMin2, dMax2, dLen, tyName, dIsi, dIx, eIx, cIx, cS, cL, sLen, sSum, lAll, kVar, kLst, kRep, kCat, kCut, fOfK, fCut, oNo, oI, fListP, itemsD, Sl.mo, Sl.put, ownL, setL, eApp, ePop, ePopAt, gN, gT, gsNil, gsCons, iR1, iR2, iLst, iTupl, eCall, fCall, slotsOf, argSl, putB, wCallT, eOfW, fOfW, unfre, qVar, qIx, freAt, lstOf, fl_non, fl_bl, fl_int, fl_str, fl_lst, fl_tup, fl_rls, tYesm, le_line], rfl, rfl⟩) (le_line (by rw [List.length_map]; omega))
  have em : (ns.map D.int).map (fun d => D.tup [.int 1, d]) = ns.map shD := by rw [List.map_map]; rfl
  rw [em] at hc
  have s3 : sAsg (eCall m__law_sum_of (aV (eOfF (fLc (iLst (eVar 0)) [5] (gN 5) tYesm (eTup (vCons (liftP (pC (.int 1))) (vCons (eVar 5) vNil))))) aNil)) (gN 2) [.imm (.lst (ns.map .int)), .fre (toldD (chainD ns)), .none, .none, .none, .none] = .next [.imm (.lst (ns.map .int)), .fre (toldD (chainD ns)), .imm (tupF (sumF ns)), .none, .none, .none] := by
    refine asg_ok (e1 := [.imm (.lst (ns.map .int)), .fre (toldD (chainD ns)), .none, .none, .none, .none]) (d := tupF (sumF ns)) ?_ rfl
    unfold eCall aV eOfF
    rw [hc]
    simp only [Res.bind, aNil, td_lst, slotsOf, argSl, Option.map, List.nodup_nil, if_true, rs, putB]
    rfl
  have rb := r_fraction (sumF ns)
  unfold chainD at s1 s3 rt
  rw [hs] at s1 s3 rt
  by_cases more : (sumF ns).2 < (sumF ns).1
  · rw [if_pos more] at s1 s3 rt
    have st : b__law_chain_right [.imm (.lst (ns.map .int)), .none, .none, .none, .none, .none] = .ret (.imm (.bl true)) [.imm (.lst (ns.map .int)), .fre (toldD (.tup [.str "more than one", tupF (sumF ns)])), .imm (tupF (sumF ns)), .none, .none, .none] := by
      refine (seq_next s1).trans ((seq_next (e1 := [.imm (.lst (ns.map .int)), .fre (toldD (.tup [.str "more than one", tupF (sumF ns)])), .none, .none, .none, .none]) ?_).trans ((seq_next s3).trans (seq_ret ?_)))
      · simp [mDef, outsOf, sSeq, sIf, sDrop, sRet, sRetN, sRetF, sRetO, sAsg, sAsgF, sAsgR, sPar, sSetIx, sAugIx, sAug, sRaise, sNext, sBrk, sCont, sFor, sSpoilA, sSpoilP, sTry, sHand, Fl.clr, suRet, suRetT, xFld, xC, liftP, liftT, okF, Res.bind, RP.bind, Res.of, RP.of, pVar, pC, p1, p2, pN, pAnd, pOr, pIf, pNil, pCons, pTup, pLst, pCall, qB, qAnd, qOr, qNot, dNot, eVar, Cv.e1, Cv.e2, eAnd, eOr, eIf, tBm, tAndm, tOrm, tNotm, vNil, vCons, aNil, aV, aS, eTup, fLst, eOfF, cOfF, cOfE, cVar, rNil, rE, rF, td_lst, mf_lst, dSub, dAdd, dFdiv, dMod, dNeg, dLt, dLe, dGt, dGe, dIsN, dNotN, dInt, dAbs, dMin2, dMax2, dLen, tyName, dIsi, dIx, eIx, cIx, cS, cL, sLen, sSum, lAll, kVar, kLst, kRep, kCat, kCut, fOfK, fCut, oNo, oI, fListP, itemsD, Sl.mo, Sl.put, ownL, setL, eApp, ePop, ePopAt, gN, gT, gsNil, gsCons, iR1, iR2, iLst, iTupl, eCall, fCall, slotsOf, argSl, putB, wCallT, eOfW, fOfW, unfre, qVar, qIx, freAt, lstOf, fl_non, fl_bl, fl_int, fl_str, fl_lst, fl_tup, fl_rls, tYesm, toldD, i0', i1', n_told, dNe_int, kb7, kb5]
      · generalize sumF ns = t at *
        obtain ⟨n, d⟩ := t
        dsimp only at more
        simp [mDef, outsOf, sSeq, sIf, sDrop, sRet, sRetN, sRetF, sRetO, sAsg, sAsgF, sAsgR, sPar, sSetIx, sAugIx, sAug, sRaise, sNext, sBrk, sCont, sFor, sSpoilA, sSpoilP, sTry, sHand, Fl.clr, suRet, suRetT, xFld, xC, liftP, liftT, okF, Res.bind, RP.bind, Res.of, RP.of, pVar, pC, p1, p2, pN, pAnd, pOr, pIf, pNil, pCons, pTup, pLst, pCall, qB, qAnd, qOr, qNot, dNot, eVar, Cv.e1, Cv.e2, eAnd, eOr, eIf, tBm, tAndm, tOrm, tNotm, vNil, vCons, aNil, aV, aS, eTup, fLst, eOfF, cOfF, cOfE, cVar, rNil, rE, rF, td_lst, mf_lst, dSub, dAdd, dFdiv, dMod, dNeg, dLt, dLe, dGt, dGe, dIsN, dNotN, dInt, dAbs, dMin2, dMax2, dLen, tyName, dIsi, dIx, eIx, cIx, cS, cL, sLen, sSum, lAll, kVar, kLst, kRep, kCat, kCut, fOfK, fCut, oNo, oI, fListP, itemsD, Sl.mo, Sl.put, ownL, setL, eApp, ePop, ePopAt, gN, gT, gsNil, gsCons, iR1, iR2, iLst, iTupl, eCall, fCall, slotsOf, argSl, putB, wCallT, eOfW, fOfW, unfre, qVar, qIx, freAt, lstOf, fl_non, fl_bl, fl_int, fl_str, fl_lst, fl_tup, fl_rls, tYesm, toldD, i0', i1', n_told, e_more, tupF, more] 
        simp [tupF] at rb
        simp [rb, fl_bl]
    exact mDef_go (np := 1) (n := 6) (b := b__law_chain_right) (as := [.imm (.lst (ns.map .int))]) (e := [.imm (.lst (ns.map .int)), .none, .none, .none, .none, .none]) rfl rfl st
  · rw [if_neg more] at s1 s3 rt
    have pr := phases_right p.chn (by rw [hs]; omega)
    have ra := r_apart p.len (setP_len ns _) p.ok pr.1 pr.2
    have hF := setP_len ns ns.length
    have f2 := flat_ints (setP ns ns.length)
    have okF2 : okD 64 (.tup [.str "phases", .lst ((setP ns ns.length).map .int)]) = true := by
      have o := okDL_ints 62 (setP ns ns.length)
      simp [okD, okDL, o]
      decide +kernel
    have eqF := dEq_refl okF2
    generalize setP ns ns.length = F at *
    have st : b__law_chain_right [.imm (.lst (ns.map .int)), .none, .none, .none, .none, .none] = .ret (.imm (.bl true)) [.imm (.lst (ns.map .int)), .none, .imm (tupF (sumF ns)), .own (.lst (F.map .int)), .imm (toldD (.tup [.str "phases", .lst (F.map .int)])), .none] := by
      refine (seq_next s1).trans ((seq_next (e1 := [.imm (.lst (ns.map .int)), .fre (toldD (.tup [.str "phases", .lst (F.map .int)])), .none, .none, .none, .none]) ?_).trans ((seq_next s3).trans ((seq_next (e1 := [.imm (.lst (ns.map .int)), .fre (toldD (.tup [.str "phases", .lst (F.map .int)])), .imm (tupF (sumF ns)), .none, .none, .none]) ?_).trans
        ((seq_next (e1 := [.imm (.lst (ns.map .int)), .fre (toldD (.tup [.str "phases", .lst (F.map .int)])), .imm (tupF (sumF ns)), .none, .none, .none]) ?_).trans ((seq_next (e1 := [.imm (.lst (ns.map .int)), .fre (toldD (.tup [.str "phases", .lst (F.map .int)])), .imm (tupF (sumF ns)), .none, .none, .none]) ?_).trans
        ((seq_next (e1 := [.imm (.lst (ns.map .int)), .fre (toldD (.tup [.str "phases", .lst (F.map .int)])), .imm (tupF (sumF ns)), .own (.lst (F.map .int)), .none, .none]) ?_).trans ((seq_next (e1 := [.imm (.lst (ns.map .int)), .none, .imm (tupF (sumF ns)), .own (.lst (F.map .int)), .none, .none]) ?_).trans
        ((seq_next (e1 := [.imm (.lst (ns.map .int)), .none, .imm (tupF (sumF ns)), .own (.lst (F.map .int)), .imm (toldD (.tup [.str "phases", .lst (F.map .int)])), .none]) ?_).trans ?_))))))))
      · simp [mDef, outsOf, sSeq, sIf, sDrop, sRet, sRetN, sRetF, sRetO, sAsg, sAsgF, sAsgR, sPar, sSetIx, sAugIx, sAug, sRaise, sNext, sBrk, sCont, sFor, sSpoilA, sSpoilP, sTry, sHand, Fl.clr, suRet, suRetT, xFld, xC, liftP, liftT, okF, Res.bind, RP.bind, Res.of, RP.of, pVar, pC, p1, p2, pN, pAnd, pOr, pIf, pNil, pCons, pTup, pLst, pCall, qB, qAnd, qOr, qNot, dNot, eVar, Cv.e1, Cv.e2, eAnd, eOr, eIf, tBm, tAndm, tOrm, tNotm, vNil, vCons, aNil, aV, aS, eTup, fLst, eOfF, cOfF, cOfE, cVar, rNil, rE, rF, td_lst, mf_lst, dSub, dAdd, dFdiv, dMod, dNeg, dLt, dLe, dGt, dGe, dIsN, dNotN, dInt, dAbs, dMin2, dMax2, dLen, tyName, dIsi, dIx, eIx, cIx, cS, cL, sLen, sSum, lAll, kVar, kLst, kRep, kCat, kCut, fOfK, fCut, oNo, oI, fListP, itemsD, Sl.mo, Sl.put, ownL, setL, eApp, ePop, ePopAt, gN, gT, gsNil, gsCons, iR1, iR2, iLst, iTupl, eCall, fCall, slotsOf, argSl, putB, wCallT, eOfW, fOfW, unfre, qVar, qIx, freAt, lstOf, fl_non, fl_bl, fl_int, fl_str, fl_lst, fl_tup, fl_rls, tYesm, toldD, i0', i1', n_told, dNe_int, kb7, kb5]
      · generalize sumF ns = t at *
        obtain ⟨n, d⟩ := t
        dsimp only at more
        simp [mDef, outsOf, sSeq, sIf, sDrop, sRet, sRetN, sRetF, sRetO, sAsg, sAsgF, sAsgR, sPar, sSetIx, sAugIx, sAug, sRaise, sNext, sBrk, sCont, sFor, sSpoilA, sSpoilP, sTry, sHand, Fl.clr, suRet, suRetT, xFld, xC, liftP, liftT, okF, Res.bind, RP.bind, Res.of, RP.of, pVar, pC, p1, p2, pN, pAnd, pOr, pIf, pNil, pCons, pTup, pLst, pCall, qB, qAnd, qOr, qNot, dNot, eVar, Cv.e1, Cv.e2, eAnd, eOr, eIf, tBm, tAndm, tOrm, tNotm, vNil, vCons, aNil, aV, aS, eTup, fLst, eOfF, cOfF, cOfE, cVar, rNil, rE, rF, td_lst, mf_lst, dSub, dAdd, dFdiv, dMod, dNeg, dLt, dLe, dGt, dGe, dIsN, dNotN, dInt, dAbs, dMin2, dMax2, dLen, tyName, dIsi, dIx, eIx, cIx, cS, cL, sLen, sSum, lAll, kVar, kLst, kRep, kCat, kCut, fOfK, fCut, oNo, oI, fListP, itemsD, Sl.mo, Sl.put, ownL, setL, eApp, ePop, ePopAt, gN, gT, gsNil, gsCons, iR1, iR2, iLst, iTupl, eCall, fCall, slotsOf, argSl, putB, wCallT, eOfW, fOfW, unfre, qVar, qIx, freAt, lstOf, fl_non, fl_bl, fl_int, fl_str, fl_lst, fl_tup, fl_rls, tYesm, tupF, i0', i1', more]
      · have nl : dNe (.int (F.map D.int).length) (.int (ns.map D.int).length) = some (.bl false) := by rw [List.length_map, List.length_map, hF, dNe_int]; simp
        generalize F.map D.int = FF at *
        generalize ns.map D.int = NN at *
        simp only [mDef, outsOf, sSeq, sIf, sDrop, sRet, sRetN, sRetF, sRetO, sAsg, sAsgF, sAsgR, sPar, sSetIx, sAugIx, sAug, sRaise, sNext, sBrk, sCont, sFor, sSpoilA, sSpoilP, sTry, sHand, Fl.clr, suRet, suRetT, xFld, xC, liftP, liftT, okF, Res.bind, RP.bind, Res.of, RP.of, pVar, pC, p1, p2, pN, pAnd, pOr, pIf, pNil, pCons, pTup, pLst, pCall, qB, qAnd, qOr, qNot, dNot, eVar, Cv.e1, Cv.e2, eAnd, eOr, eIf, tBm, tAndm, tOrm, tNotm, vNil, vCons, aNil, aV, aS, eTup, fLst, eOfF, cOfF, cOfE, cVar, rNil, rE, rF, td_lst, mf_lst, dSub, dAdd, dFdiv, dMod, dNeg, dLt, dLe, dGt, dGe, dIsN, dNotN, dInt, dAbs, dMin2, dMax2, dLen, tyName, dIsi, dIx, eIx, cIx, cS, cL, sLen, sSum, lAll, kVar, kLst, kRep, kCat, kCut, fOfK, fCut, oNo, oI, fListP, itemsD, Sl.mo, Sl.put, ownL, setL, eApp, ePop, ePopAt, gN, gT, gsNil, gsCons, iR1, iR2, iLst, iTupl, eCall, fCall, slotsOf, argSl, putB, wCallT, eOfW, fOfW, unfre, qVar, qIx, freAt, lstOf, fl_non, fl_bl, fl_int, fl_str, fl_lst, fl_tup, fl_rls, tYesm, toldD, i0', i1', n_phases, nl, kb6, Option.bind, Option.map, List.getElem?_cons_zero, List.getElem?_cons_succ, Bool.not_true, Bool.not_false, if_true]
        rfl
      · exact q_apart ra
      · have f3 : (F.map D.int).all flat = true := f2
        simp only [mDef, outsOf, sSeq, sIf, sDrop, sRet, sRetN, sRetF, sRetO, sAsg, sAsgF, sAsgR, sPar, sSetIx, sAugIx, sAug, sRaise, sNext, sBrk, sCont, sFor, sSpoilA, sSpoilP, sTry, sHand, Fl.clr, suRet, suRetT, xFld, xC, liftP, liftT, okF, Res.bind, RP.bind, Res.of, RP.of, pVar, pC, p1, p2, pN, pAnd, pOr, pIf, pNil, pCons, pTup, pLst, pCall, qB, qAnd, qOr, qNot, dNot, eVar, Cv.e1, Cv.e2, eAnd, eOr, eIf, tBm, tAndm, tOrm, tNotm, vNil, vCons, aNil, aV, aS, eTup, fLst, eOfF, cOfF, cOfE, cVar, rNil, rE, rF, td_lst, mf_lst, dSub, dAdd, dFdiv, dMod, dNeg, dLt, dLe, dGt, dGe, dIsN, dNotN, dInt, dAbs, dMin2, dMax2, dLen, tyName, dIsi, dIx, eIx, cIx, cS, cL, sLen, sSum, lAll, kVar, kLst, kRep, kCat, kCut, fOfK, fCut, oNo, oI, fListP, itemsD, Sl.mo, Sl.put, ownL, setL, eApp, ePop, ePopAt, gN, gT, gsNil, gsCons, iR1, iR2, iLst, iTupl, eCall, fCall, slotsOf, argSl, putB, wCallT, eOfW, fOfW, unfre, qVar, qIx, freAt, lstOf, fl_non, fl_bl, fl_int, fl_str, fl_lst, fl_tup, fl_rls, tYesm, toldD, i0', i1', f3, if_true, List.getElem?_cons_zero, List.getElem?_cons_succ, List.length_cons, List.length_nil, Nat.reduceAdd, Nat.reduceLT, List.set_cons_succ, List.set_cons_zero]
      · have : (F.map D.int).length < sizeLine := lt_line (by rw [List.length_map, hF]; omega)
        simp only [mDef, outsOf, sSeq, sIf, sDrop, sRet, sRetN, sRetF, sRetO, sAsg, sAsgF, sAsgR, sPar, sSetIx, sAugIx, sAug, sRaise, sNext, sBrk, sCont, sFor, sSpoilA, sSpoilP, sTry, sHand, Fl.clr, suRet, suRetT, xFld, xC, liftP, liftT, okF, Res.bind, RP.bind, Res.of, RP.of, pVar, pC, p1, p2, pN, pAnd, pOr, pIf, pNil, pCons, pTup, pLst, pCall, qB, qAnd, qOr, qNot, dNot, eVar, Cv.e1, Cv.e2, eAnd, eOr, eIf, tBm, tAndm, tOrm, tNotm, vNil, vCons, aNil, aV, aS, eTup, fLst, eOfF, cOfF, cOfE, cVar, rNil, rE, rF, td_lst, mf_lst, dSub, dAdd, dFdiv, dMod, dNeg, dLt, dLe, dGt, dGe, dIsN, dNotN, dInt, dAbs, dMin2, dMax2, dLen, tyName, dIsi, dIx, eIx, cIx, cS, cL, sLen, sSum, lAll, kVar, kLst, kRep, kCat, kCut, fOfK, fCut, oNo, oI, fListP, itemsD, Sl.mo, Sl.put, ownL, setL, eApp, ePop, ePopAt, gN, gT, gsNil, gsCons, iR1, iR2, iLst, iTupl, eCall, fCall, slotsOf, argSl, putB, wCallT, eOfW, fOfW, unfre, qVar, qIx, freAt, lstOf, fl_non, fl_bl, fl_int, fl_str, fl_lst, fl_tup, fl_rls, tYesm, toldD, i0', i1', dIx, Option.bind, if_pos this, List.map, List.getElem?_cons_zero, List.getElem?_cons_succ]
      · simp [mDef, outsOf, sSeq, sIf, sDrop, sRet, sRetN, sRetF, sRetO, sAsg, sAsgF, sAsgR, sPar, sSetIx, sAugIx, sAug, sRaise, sNext, sBrk, sCont, sFor, sSpoilA, sSpoilP, sTry, sHand, Fl.clr, suRet, suRetT, xFld, xC, liftP, liftT, okF, Res.bind, RP.bind, Res.of, RP.of, pVar, pC, p1, p2, pN, pAnd, pOr, pIf, pNil, pCons, pTup, pLst, pCall, qB, qAnd, qOr, qNot, dNot, eVar, Cv.e1, Cv.e2, eAnd, eOr, eIf, tBm, tAndm, tOrm, tNotm, vNil, vCons, aNil, aV, aS, eTup, fLst, eOfF, cOfF, cOfE, cVar, rNil, rE, rF, td_lst, mf_lst, dSub, dAdd, dFdiv, dMod, dNeg, dLt, dLe, dGt, dGe, dIsN, dNotN, dInt, dAbs, dMin2, dMax2, dLen, tyName, dIsi, dIx, eIx, cIx, cS, cL, sLen, sSum, lAll, kVar, kLst, kRep, kCat, kCut, fOfK, fCut, oNo, oI, fListP, itemsD, Sl.mo, Sl.put, ownL, setL, eApp, ePop, ePopAt, gN, gT, gsNil, gsCons, iR1, iR2, iLst, iTupl, eCall, fCall, slotsOf, argSl, putB, wCallT, eOfW, fOfW, unfre, qVar, qIx, freAt, lstOf, fl_non, fl_bl, fl_int, fl_str, fl_lst, fl_tup, fl_rls, tYesm, rt]
      · simp [mDef, outsOf, sSeq, sIf, sDrop, sRet, sRetN, sRetF, sRetO, sAsg, sAsgF, sAsgR, sPar, sSetIx, sAugIx, sAug, sRaise, sNext, sBrk, sCont, sFor, sSpoilA, sSpoilP, sTry, sHand, Fl.clr, suRet, suRetT, xFld, xC, liftP, liftT, okF, Res.bind, RP.bind, Res.of, RP.of, pVar, pC, p1, p2, pN, pAnd, pOr, pIf, pNil, pCons, pTup, pLst, pCall, qB, qAnd, qOr, qNot, dNot, eVar, Cv.e1, Cv.e2, eAnd, eOr, eIf, tBm, tAndm, tOrm, tNotm, vNil, vCons, aNil, aV, aS, eTup, fLst, eOfF, cOfF, cOfE, cVar, rNil, rE, rF, td_lst, mf_lst, dSub, dAdd, dFdiv, dMod, dNeg, dLt, dLe, dGt, dGe, dIsN, dNotN, dInt, dAbs, dMin2, dMax2, dLen, tyName, dIsi, dIx, eIx, cIx, cS, cL, sLen, sSum, lAll, kVar, kLst, kRep, kCat, kCut, fOfK, fCut, oNo, oI, fListP, itemsD, Sl.mo, Sl.put, ownL, setL, eApp, ePop, ePopAt, gN, gT, gsNil, gsCons, iR1, iR2, iLst, iTupl, eCall, fCall, slotsOf, argSl, putB, wCallT, eOfW, fOfW, unfre, qVar, qIx, freAt, lstOf, fl_non, fl_bl, fl_int, fl_str, fl_lst, fl_tup, fl_rls, tYesm, toldD, i0', i1', e_told, kb7, eqF, le_line]
    exact mDef_go (np := 1) (n := 6) (b := b__law_chain_right) (as := [.imm (.lst (ns.map .int))]) (e := [.imm (.lst (ns.map .int)), .none, .none, .none, .none, .none]) rfl rfl st
end Lw
end

section
set_option Elab.async false
set_option linter.all false
set_option maxRecDepth 100000
set_option maxHeartbeats 4000000
set_option autoImplicit false
open PySem L2 Cv
namespace Lw
/-- what a draw keeps, as a promise over abstract f -/
def Drw (f : En → RD) : Prop := ∀ (a b c many : Int), 0 < many → many < 18446744073709551616 → ∃ r a' b' c', 0 ≤ r ∧ r < many ∧
    f [.par (.lst [.int a, .int b, .int c]), .imm (.int many)] = .ok (.imm (.int r)) [.par (.lst [.int a', .int b', .int c']), .imm (.int many)]
theorem drw : Drw m__law_draw := r_draw
/-- a draw in a def's body: slot 0 holds the purse -/
theorem e_draw {f : En → RD} (hf : Drw f) {m : En → Res D} {a b c many : Int} {rest : En} (h0 : 0 < many) (h1 : many < 18446744073709551616) {s : Sl} (hs : s = .par (.lst [.int a, .int b, .int c]))
    (hm : m (s :: rest) = .ok (.int many) (s :: rest)) : ∃ r a' b' c', 0 ≤ r ∧ r < many ∧ eCall f (aS 0 (aV m aNil)) (s :: rest) = .ok (.int r) (.par (.lst [.int a', .int b', .int c']) :: rest) := by
  subst hs
  obtain ⟨r, a', b', c', k1, k2, k3⟩ := hf a b c many h0 h1
  refine ⟨r, a', b', c', k1, k2, ?_⟩
  unfold eCall aS aV
  simp only [List.getElem?_cons_zero, hm, Res.bind, aNil, slotsOf, argSl, Option.map, List.nodup_cons, List.not_mem_nil, not_false_eq_true, List.nodup_nil, and_self, if_true, k3, putB, Sl.put, List.set_cons_zero]
end Lw
end

section
set_option Elab.async false
set_option linter.all false
set_option maxRecDepth 100000
set_option maxHeartbeats 4000000
set_option autoImplicit false
open PySem L2 Cv
namespace Lw
theorem seqIndex_nat {j n : Nat} (h : j < n) : seqIndex? (j : Int) n = some j := seqIndex_of (by omega) (by omega)
theorem perm_out {α : Type} : ∀ {l : List α} {j : Nat} {x : α}, l[j]? = some x → (x :: l.eraseIdx j).Perm l
  | [], j, x, h => by simp at h
  | a :: r, 0, x, h => by simp at h; subst h; exact List.Perm.refl _
  | a :: r, j + 1, x, h => by
    have ih := perm_out (l := r) (j := j) (x := x) (by simpa using h)
    exact (List.Perm.swap a x _).trans (ih.cons a)
end Lw
end

section
set_option Elab.async false
set_option linter.all false
set_option maxRecDepth 100000
set_option maxHeartbeats 4000000
set_option autoImplicit false
open PySem L2 Cv
namespace Lw
/-- one turn of the mixing, the draw abstract -/
theorem mix_step {f : En → RD} (hf : Drw f) {a b c : Int} {A x : D} {s : Sl} {left mixed : List D} (h0 : 0 < left.length) (h1 : left.length ≤ 1000000) (h2 : mixed.length < 1000000) :
    ∃ (j : Nat) (y : D) (a' b' c' : Int), left[j]? = some y ∧ sDrop (eApp 3 (ePopAt 2 (eCall f (aS 0 (aV (liftP (pN dLen (pCons (pVar 2) pNil))) aNil))))) [.par (.lst [.int a, .int b, .int c]), .imm A, .own (.lst left), .own (.lst mixed), s] =
      .next [.par (.lst [.int a', .int b', .int c']), .imm A, .own (.lst (left.eraseIdx j)), .own (.lst (mixed ++ [y])), s] := by
  obtain ⟨r, a', b', c', r0, r1, he⟩ := e_draw hf (a := a) (b := b) (c := c) (s := .par (.lst [.int a, .int b, .int c])) (m := liftP (pN dLen (pCons (pVar 2) pNil))) (many := left.length) (rest := [.imm A, .own (.lst left), .own (.lst mixed), s]) (by omega) (by omega) rfl (by simp [mDef, outsOf, sSeq, sIf, sDrop, sRet, sRetN, sRetF, sRetO, sAsg, sAsgF, sAsgR, sPar, sSetIx, sAugIx, sAug, sRaise, sNext, sBrk, sCont, sFor, sSpoilA, sSpoilP, sTry, sHand, Fl.clr, suRet, suRetT, xFld, xC, liftP, liftT, okF, Res.bind, RP.bind, Res.of, RP.of, pVar, pC, p1, p2, pN, pAnd, pOr, pIf, pNil, pCons, pTup, pLst, pCall, qB, qAnd, qOr, qNot, dNot, eVar, Cv.e1, Cv.e2, eAnd, eOr, eIf, tBm, tAndm, tOrm, tNotm, vNil, vCons, aNil, aV, aS, eTup, fLst, eOfF, cOfF, cOfE, cVar, rNil, rE, rF, td_lst, mf_lst, dSub, dAdd, dFdiv, dMod, dNeg, dLt, dLe, dGt, dGe, dIsN, dNotN, dInt, dAbs, dMin2, dMax2, dLen, tyName, dIsi, dIx, eIx, cIx, cS, cL, sLen, sSum, lAll, kVar, kLst, kRep, kCat, kCut, fOfK, fCut, oNo, oI, fListP, itemsD, Sl.mo, Sl.put, ownL, setL, eApp, ePop, ePopAt, gN, gT, gsNil, gsCons, iR1, iR2, iLst, iTupl, eCall, fCall, slotsOf, argSl, putB, wCallT, eOfW, fOfW, unfre, qVar, qIx, freAt, lstOf, fl_non, fl_bl, fl_int, fl_str, fl_lst, fl_tup, fl_rls, tYesm])
  obtain ⟨j, rfl⟩ := Int.eq_ofNat_of_zero_le r0
  have hj : j < left.length := by omega
  refine ⟨j, left[j], a', b', c', List.getElem?_eq_getElem hj, ?_⟩
  have cc : -(2 ^ 63) ≤ (j : Int) ∧ (j : Int) < 2 ^ 63 := ⟨Int.le_trans (by decide) r0, Int.lt_of_le_of_lt (show (j : Int) ≤ 1000000 by omega) (by decide)⟩
  have sq : seqIndex? (j : Int) left.length = some j := seqIndex_nat hj
  have hg : left[j]? = some left[j] := List.getElem?_eq_getElem hj
  generalize (j : Int) = w at *
  simp only [sDrop, eApp, ePopAt, ownL, setL, he, Res.bind, List.getElem?_cons_zero, List.getElem?_cons_succ, if_pos cc, sq, hg, Sl.put, List.set_cons_succ, List.set_cons_zero, if_pos (lt_line h2)]
end Lw
end

section
set_option Elab.async false
set_option linter.all false
set_option maxRecDepth 100000
set_option maxHeartbeats 4000000
set_option autoImplicit false
open PySem L2 Cv
namespace Lw
theorem mix_loop {f : En → RD} (hf : Drw f) {a b c : Int} {A : D} {ds : List D} (hl : ds.length ≤ 1000) :
    ∃ (ds' : List D) (a' b' c' : Int) (s : Sl), ds'.Perm ds ∧ forL (gN 4) (sDrop (eApp 3 (ePopAt 2 (eCall f (aS 0 (aV (liftP (pN dLen (pCons (pVar 2) pNil))) aNil)))))) (rng 0 ds.length) [.par (.lst [.int a, .int b, .int c]), .imm A, .own (.lst ds), .own (.lst []), .none] =
      .next [.par (.lst [.int a', .int b', .int c']), .imm A, .own (.lst []), .own (.lst ds'), s] := by
  have hrl : (rng 0 ds.length).length = ds.length := by rw [rng_eq, List.length_map, List.length_range]
  obtain ⟨e', h1, a', b', c', left, mixed, s, h2, h3, h4, h5⟩ := forL_rel (tg := gN 4) (body := sDrop (eApp 3 (ePopAt 2 (eCall f (aS 0 (aV (liftP (pN dLen (pCons (pVar 2) pNil))) aNil)))))) (ds := rng 0 ds.length)
    (fun i e => ∃ (a b c : Int) (left mixed : List D) (s : Sl), e = [.par (.lst [.int a, .int b, .int c]), .imm A, .own (.lst left), .own (.lst mixed), s] ∧ left.length + i = ds.length ∧ mixed.length = i ∧ (mixed ++ left).Perm ds)
    (e := [.par (.lst [.int a, .int b, .int c]), .imm A, .own (.lst ds), .own (.lst []), .none]) ⟨a, b, c, ds, [], .none, rfl, rfl, rfl, List.Perm.refl _⟩
    (fun i d e hd ⟨a, b, c, left, mixed, s, he, k1, k2, k3⟩ => by
      subst he
      obtain ⟨hi, rfl⟩ := rng_get hd
      obtain ⟨j, y, a', b', c', m1, m2⟩ := mix_step hf (a := a) (b := b) (c := c) (A := A) (x := .non) (s := .imm (.int (0 + (i : Int)))) (left := left) (mixed := mixed) (by omega) (by omega) (by omega)
      have hj := (List.getElem?_eq_some_iff.mp m1).1
      refine ⟨_, _, rfl, .inl m2, a', b', c', left.eraseIdx j, mixed ++ [y], .imm (.int (0 + (i : Int))), rfl, ?_, ?_, ?_⟩
      · rw [List.length_eraseIdx, if_pos hj]; omega
      · rw [List.length_append, k2]; rfl
      · refine List.Perm.trans ?_ k3
        rw [List.append_assoc]
        exact List.Perm.append_left mixed (perm_out m1))
  rw [hrl] at h3 h4
  have : left = [] := List.length_eq_zero_iff.mp (by omega)
  subst this
  rw [List.append_nil] at h5
  subst h2
  exact ⟨mixed, a', b', c', s, h5, h1⟩
theorem r_mix {a b c : Int} {ds : List D} (hl : ds.length ≤ 1000) : ∃ (ds' : List D) (a' b' c' : Int), ds'.Perm ds ∧ m__law_mix [.par (.lst [.int a, .int b, .int c]), .imm (.lst ds)] = .ok (.own (.lst ds')) [.par (.lst [.int a', .int b', .int c']), .imm (.lst ds)] := by
  obtain ⟨ds', a', b', c', s, h1, h2⟩ := mix_loop drw (a := a) (b := b) (c := c) (A := .lst ds) hl
  refine ⟨ds', a', b', c', h1, ?_⟩
  have st : b__law_mix [.par (.lst [.int a, .int b, .int c]), .imm (.lst ds), .none, .none, .none] = .ret (.own (.lst ds')) [.par (.lst [.int a', .int b', .int c']), .imm (.lst ds), .own (.lst []), .none, s] := by
    refine (seq_next (e1 := [.par (.lst [.int a, .int b, .int c]), .imm (.lst ds), .own (.lst ds), .none, .none]) ?_).trans ((seq_next (e1 := [.par (.lst [.int a, .int b, .int c]), .imm (.lst ds), .own (.lst ds), .own (.lst []), .none]) ?_).trans ((seq_next ((for_ok (iR1_ok (j := ds.length) ?_ (by omega) (by omega) (by omega))).trans h2)).trans ?_))
    · simp [mDef, outsOf, sSeq, sIf, sDrop, sRet, sRetN, sRetF, sRetO, sAsg, sAsgF, sAsgR, sPar, sSetIx, sAugIx, sAug, sRaise, sNext, sBrk, sCont, sFor, sSpoilA, sSpoilP, sTry, sHand, Fl.clr, suRet, suRetT, xFld, xC, liftP, liftT, okF, Res.bind, RP.bind, Res.of, RP.of, pVar, pC, p1, p2, pN, pAnd, pOr, pIf, pNil, pCons, pTup, pLst, pCall, qB, qAnd, qOr, qNot, dNot, eVar, Cv.e1, Cv.e2, eAnd, eOr, eIf, tBm, tAndm, tOrm, tNotm, vNil, vCons, aNil, aV, aS, eTup, fLst, eOfF, cOfF, cOfE, cVar, rNil, rE, rF, td_lst, mf_lst, dSub, dAdd, dFdiv, dMod, dNeg, dLt, dLe, dGt, dGe, dIsN, dNotN, dInt, dAbs, dMin2, dMax2, dLen, tyName, dIsi, dIx, eIx, cIx, cS, cL, sLen, sSum, lAll, kVar, kLst, kRep, kCat, kCut, fOfK, fCut, oNo, oI, fListP, itemsD, Sl.mo, Sl.put, ownL, setL, eApp, ePop, ePopAt, gN, gT, gsNil, gsCons, iR1, iR2, iLst, iTupl, eCall, fCall, slotsOf, argSl, putB, wCallT, eOfW, fOfW, unfre, qVar, qIx, freAt, lstOf, fl_non, fl_bl, fl_int, fl_str, fl_lst, fl_tup, fl_rls, tYesm, le_line]
    · simp [mDef, outsOf, sSeq, sIf, sDrop, sRet, sRetN, sRetF, sRetO, sAsg, sAsgF, sAsgR, sPar, sSetIx, sAugIx, sAug, sRaise, sNext, sBrk, sCont, sFor, sSpoilA, sSpoilP, sTry, sHand, Fl.clr, suRet, suRetT, xFld, xC, liftP, liftT, okF, Res.bind, RP.bind, Res.of, RP.of, pVar, pC, p1, p2, pN, pAnd, pOr, pIf, pNil, pCons, pTup, pLst, pCall, qB, qAnd, qOr, qNot, dNot, eVar, Cv.e1, Cv.e2, eAnd, eOr, eIf, tBm, tAndm, tOrm, tNotm, vNil, vCons, aNil, aV, aS, eTup, fLst, eOfF, cOfF, cOfE, cVar, rNil, rE, rF, td_lst, mf_lst, dSub, dAdd, dFdiv, dMod, dNeg, dLt, dLe, dGt, dGe, dIsN, dNotN, dInt, dAbs, dMin2, dMax2, dLen, tyName, dIsi, dIx, eIx, cIx, cS, cL, sLen, sSum, lAll, kVar, kLst, kRep, kCat, kCut, fOfK, fCut, oNo, oI, fListP, itemsD, Sl.mo, Sl.put, ownL, setL, eApp, ePop, ePopAt, gN, gT, gsNil, gsCons, iR1, iR2, iLst, iTupl, eCall, fCall, slotsOf, argSl, putB, wCallT, eOfW, fOfW, unfre, qVar, qIx, freAt, lstOf, fl_non, fl_bl, fl_int, fl_str, fl_lst, fl_tup, fl_rls, tYesm, le_line]
    · simp [mDef, outsOf, sSeq, sIf, sDrop, sRet, sRetN, sRetF, sRetO, sAsg, sAsgF, sAsgR, sPar, sSetIx, sAugIx, sAug, sRaise, sNext, sBrk, sCont, sFor, sSpoilA, sSpoilP, sTry, sHand, Fl.clr, suRet, suRetT, xFld, xC, liftP, liftT, okF, Res.bind, RP.bind, Res.of, RP.of, pVar, pC, p1, p2, pN, pAnd, pOr, pIf, pNil, pCons, pTup, pLst, pCall, qB, qAnd, qOr, qNot, dNot, eVar, Cv.e1, Cv.e2, eAnd, eOr, eIf, tBm, tAndm, tOrm, tNotm, vNil, vCons, aNil, aV, aS, eTup, fLst, eOfF, cOfF, cOfE, cVar, rNil, rE, rF, td_lst, mf_lst, dSub, dAdd, dFdiv, dMod, dNeg, dLt, dLe, dGt, dGe, dIsN, dNotN, dInt, dAbs, dMin2, dMax2, dLen, tyName, dIsi, dIx, eIx, cIx, cS, cL, sLen, sSum, lAll, kVar, kLst, kRep, kCat, kCut, fOfK, fCut, oNo, oI, fListP, itemsD, Sl.mo, Sl.put, ownL, setL, eApp, ePop, ePopAt, gN, gT, gsNil, gsCons, iR1, iR2, iLst, iTupl, eCall, fCall, slotsOf, argSl, putB, wCallT, eOfW, fOfW, unfre, qVar, qIx, freAt, lstOf, fl_non, fl_bl, fl_int, fl_str, fl_lst, fl_tup, fl_rls, tYesm]
    · simp [mDef, outsOf, sSeq, sIf, sDrop, sRet, sRetN, sRetF, sRetO, sAsg, sAsgF, sAsgR, sPar, sSetIx, sAugIx, sAug, sRaise, sNext, sBrk, sCont, sFor, sSpoilA, sSpoilP, sTry, sHand, Fl.clr, suRet, suRetT, xFld, xC, liftP, liftT, okF, Res.bind, RP.bind, Res.of, RP.of, pVar, pC, p1, p2, pN, pAnd, pOr, pIf, pNil, pCons, pTup, pLst, pCall, qB, qAnd, qOr, qNot, dNot, eVar, Cv.e1, Cv.e2, eAnd, eOr, eIf, tBm, tAndm, tOrm, tNotm, vNil, vCons, aNil, aV, aS, eTup, fLst, eOfF, cOfF, cOfE, cVar, rNil, rE, rF, td_lst, mf_lst, dSub, dAdd, dFdiv, dMod, dNeg, dLt, dLe, dGt, dGe, dIsN, dNotN, dInt, dAbs, dMin2, dMax2, dLen, tyName, dIsi, dIx, eIx, cIx, cS, cL, sLen, sSum, lAll, kVar, kLst, kRep, kCat, kCut, fOfK, fCut, oNo, oI, fListP, itemsD, Sl.mo, Sl.put, ownL, setL, eApp, ePop, ePopAt, gN, gT, gsNil, gsCons, iR1, iR2, iLst, iTupl, eCall, fCall, slotsOf, argSl, putB, wCallT, eOfW, fOfW, unfre, qVar, qIx, freAt, lstOf, fl_non, fl_bl, fl_int, fl_str, fl_lst, fl_tup, fl_rls, tYesm]
  exact mDef_go (np := 2) (n := 5) (b := b__law_mix) (as := [.par (.lst [.int a, .int b, .int c]), .imm (.lst ds)]) (e := [.par (.lst [.int a, .int b, .int c]), .imm (.lst ds), .none, .none, .none]) rfl rfl st
end Lw
end

section
set_option Elab.async false
set_option linter.all false
set_option maxRecDepth 100000
set_option maxHeartbeats 4000000
set_option autoImplicit false
open PySem L2 Cv
namespace Lw
/-- a chain as it grows -/
structure Lev (lv : List Int) : Prop where
  ok : ∀ x ∈ lv, intOk x
  dv : ∀ (i j : Nat) (a b : Int), i ≤ j → lv[i]? = some a → lv[j]? = some b → a ∣ b
theorem Lev.app {lv : List Int} (h : Lev lv) {i : Nat} {x y : Int} (hl : lv.length = i + 1) (hx : lv[i]? = some x) (hy : intOk y) (hd : x ∣ y) : Lev (lv ++ [y]) where
  ok := fun z hz => by
    rcases List.mem_append.mp hz with q | q
    · exact h.ok z q
    · rw [List.mem_singleton.mp q]; exact hy
  dv := fun k j a b hk ha hb => by
    by_cases cj : j < lv.length
    · rw [List.getElem?_append_left cj] at hb
      rw [List.getElem?_append_left (by omega)] at ha
      exact h.dv k j a b hk ha hb
    · have j2 : j < (lv ++ [y]).length := (List.getElem?_eq_some_iff.mp hb).1
      have ej : j = lv.length := by rw [List.length_append] at j2; simp at j2; omega
      subst ej
      rw [List.getElem?_append_right (Nat.le_refl _)] at hb
      simp at hb
      subst hb
      by_cases ck : k < lv.length
      · rw [List.getElem?_append_left ck] at ha
        exact Int.dvd_trans (h.dv k i a x (by omega) ha hx) hd
      · have ek : k = lv.length := by omega
        subst ek
        rw [List.getElem?_append_right (Nat.le_refl _)] at ha
        simp at ha
        subst ha
        exact Int.dvd_refl _
theorem Lev.mem {lv : List Int} (h : Lev lv) {x y : Int} (hx : x ∈ lv) (hy : y ∈ lv) (hxy : x ≤ y) : x ∣ y := by
  obtain ⟨i, hi⟩ := List.getElem?_of_mem hx
  obtain ⟨j, hj⟩ := List.getElem?_of_mem hy
  by_cases c : i ≤ j
  · exact h.dv i j x y c hi hj
  · have := h.dv j i y x (by omega) hj hi
    have p := (h.ok x hx).1
    have := Int.le_of_dvd (by omega) this
    have e : x = y := by omega
    rw [e]; exact Int.dvd_refl _
theorem d_draw {f : En → RD} (hf : Drw f) (k : Int) (h0 : 0 < k) (h1 : k < 18446744073709551616) (a b c : Int) (tl : En) : ∃ r a' b' c', 0 ≤ r ∧ r < k ∧ eCall f (aS 0 (aV (liftP (pC (.int k))) aNil)) (.par (.lst [.int a, .int b, .int c]) :: tl) = .ok (.int r) (.par (.lst [.int a', .int b', .int c']) :: tl) :=
  e_draw hf h0 h1 rfl rfl
theorem lev_fac {f : En → RD} (hf : Drw f) (a b c : Int) (tl : En) : ∃ r a' b' c', 1 ≤ r ∧ r ≤ 40 ∧ (eIf (tBm (e2 dGt (eCall f (aS 0 (aV (liftP (pC (.int 4))) aNil))) (liftP (pC (.int 0))))) (e2 dAdd (liftP (pC (.int 1))) (eCall f (aS 0 (aV (liftP (pC (.int 3))) aNil)))) (e2 dAdd (liftP (pC (.int 1))) (eCall f (aS 0 (aV (liftP (pC (.int 40))) aNil))))) (.par (.lst [.int a, .int b, .int c]) :: tl) = .ok (.int r) (.par (.lst [.int a', .int b', .int c']) :: tl) := by
  obtain ⟨r1, a1, b1, c1, p1, p2, h1⟩ := d_draw hf 4 (by decide) (by decide) a b c tl
  by_cases g : 0 < r1
  · obtain ⟨r2, a2, b2, c2, q1, q2, h2⟩ := d_draw hf 3 (by decide) (by decide) a1 b1 c1 tl
    refine ⟨1 + r2, a2, b2, c2, by omega, by omega, ?_⟩
    simp only [eIf, tBm, Cv.e2, h1, h2, Res.bind, liftP, pC, okF, fl_int, fl_bl, if_true, dGt, dAdd, decide_eq_true g]
  · obtain ⟨r2, a2, b2, c2, q1, q2, h2⟩ := d_draw hf 40 (by decide) (by decide) a1 b1 c1 tl
    refine ⟨1 + r2, a2, b2, c2, by omega, by omega, ?_⟩
    simp only [eIf, tBm, Cv.e2, h1, h2, Res.bind, liftP, pC, okF, fl_int, fl_bl, if_true, dGt, dAdd, decide_eq_false g, Bool.false_eq_true, if_false]
/-- one level more -/
theorem lev_step {f : En → RD} (hf : Drw f) (a b c : Int) {T : D} {lv : List Int} {i : Nat} {x : Int} {s : Sl} (hx : lv[i]? = some x) (ok : intOk x) (hl : lv.length ≤ 100) :
    ∃ y r a' b' c', intOk y ∧ x ∣ y ∧ (sSeq (sAsg (eIf (tBm (e2 dGt (eCall f (aS 0 (aV (liftP (pC (.int 4))) aNil))) (liftP (pC (.int 0))))) (e2 dAdd (liftP (pC (.int 1))) (eCall f (aS 0 (aV (liftP (pC (.int 3))) aNil)))) (e2 dAdd (liftP (pC (.int 1))) (eCall f (aS 0 (aV (liftP (pC (.int 40))) aNil))))) (gN 4))
  (sIf (liftT (qB (p2 dLe (p2 dMul (p2 dIx (pVar 2) (pVar 3)) (pVar 4)) (p2 dPow (pC (.int 10)) (pC (.int 6)))))) (sDrop (eApp 2 (liftP (p2 dMul (p2 dIx (pVar 2) (pVar 3)) (pVar 4))))) (sDrop (eApp 2 (cIx (cVar 2) (pVar 3)))))) [.par (.lst [.int a, .int b, .int c]), .imm T, .own (.lst (lv.map .int)), .imm (.int i), s, .none, .none, .none] =
    .next [.par (.lst [.int a', .int b', .int c']), .imm T, .own (.lst ((lv ++ [y]).map .int)), .imm (.int i), .imm (.int r), .none, .none, .none] := by
  obtain ⟨r, a', b', c', u1, u2, h1⟩ := lev_fac hf a b c [.imm T, .own (.lst (lv.map .int)), .imm (.int i), s, .none, .none, .none]
  have hix : atI (lv.map D.int) (i : Int) = some (.int x) := atI_map rfl hx
  have ll : (lv.map D.int).length < sizeLine := lt_line (by rw [List.length_map]; omega)
  have em : ∀ y : Int, lv.map D.int ++ [.int y] = (lv ++ [y]).map .int := fun y => by simp
  generalize (i : Int) = w at *
  obtain ⟨o1, o2⟩ := ok
  have hm : dMul (.int x) (.int r) = some (.int (x * r)) := dMul_l (by omega) (by omega)
  by_cases g : x * r ≤ 1000000
  · refine ⟨x * r, r, a', b', c', ⟨?_, g⟩, Int.dvd_mul_right x r, ?_⟩
    · have := Int.mul_le_mul o1 u1 (by omega) (by omega); omega
    · refine Eq.trans (seq_next (asg_ok h1 rfl)) (Eq.trans (if_t (e1 := [.par (.lst [.int a', .int b', .int c']), .imm T, .own (.lst (lv.map .int)), .imm (.int w), .imm (.int r), .none, .none, .none]) ?_) ?_)
      · simp only [mDef, outsOf, sSeq, sIf, sDrop, sRet, sRetN, sRetF, sRetO, sAsg, sAsgF, sAsgR, sPar, sSetIx, sAugIx, sAug, sRaise, sNext, sBrk, sCont, sFor, sSpoilA, sSpoilP, sTry, sHand, Fl.clr, suRet, suRetT, xFld, xC, liftP, liftT, okF, Res.bind, RP.bind, Res.of, RP.of, pVar, pC, p1, p2, pN, pAnd, pOr, pIf, pNil, pCons, pTup, pLst, pCall, qB, qAnd, qOr, qNot, dNot, eVar, Cv.e1, Cv.e2, eAnd, eOr, eIf, tBm, tAndm, tOrm, tNotm, vNil, vCons, aNil, aV, aS, eTup, fLst, eOfF, cOfF, cOfE, cVar, rNil, rE, rF, td_lst, mf_lst, dSub, dAdd, dFdiv, dMod, dNeg, dLt, dLe, dGt, dGe, dIsN, dNotN, dInt, dAbs, dMin2, dMax2, dLen, tyName, dIsi, dIx, eIx, cIx, cS, cL, sLen, sSum, lAll, kVar, kLst, kRep, kCat, kCut, fOfK, fCut, oNo, oI, fListP, itemsD, Sl.mo, Sl.put, ownL, setL, eApp, ePop, ePopAt, gN, gT, gsNil, gsCons, iR1, iR2, iLst, iTupl, eCall, fCall, slotsOf, argSl, putB, wCallT, eOfW, fOfW, unfre, qVar, qIx, freAt, lstOf, fl_non, fl_bl, fl_int, fl_str, fl_lst, fl_tup, fl_rls, tYesm, hix, hm, dPow_10_6, List.getElem?_cons_zero, List.getElem?_cons_succ, decide_eq_true g, List.set_cons_succ, List.set_cons_zero]
      · simp only [mDef, outsOf, sSeq, sIf, sDrop, sRet, sRetN, sRetF, sRetO, sAsg, sAsgF, sAsgR, sPar, sSetIx, sAugIx, sAug, sRaise, sNext, sBrk, sCont, sFor, sSpoilA, sSpoilP, sTry, sHand, Fl.clr, suRet, suRetT, xFld, xC, liftP, liftT, okF, Res.bind, RP.bind, Res.of, RP.of, pVar, pC, p1, p2, pN, pAnd, pOr, pIf, pNil, pCons, pTup, pLst, pCall, qB, qAnd, qOr, qNot, dNot, eVar, Cv.e1, Cv.e2, eAnd, eOr, eIf, tBm, tAndm, tOrm, tNotm, vNil, vCons, aNil, aV, aS, eTup, fLst, eOfF, cOfF, cOfE, cVar, rNil, rE, rF, td_lst, mf_lst, dSub, dAdd, dFdiv, dMod, dNeg, dLt, dLe, dGt, dGe, dIsN, dNotN, dInt, dAbs, dMin2, dMax2, dLen, tyName, dIsi, dIx, eIx, cIx, cS, cL, sLen, sSum, lAll, kVar, kLst, kRep, kCat, kCut, fOfK, fCut, oNo, oI, fListP, itemsD, Sl.mo, Sl.put, ownL, setL, eApp, ePop, ePopAt, gN, gT, gsNil, gsCons, iR1, iR2, iLst, iTupl, eCall, fCall, slotsOf, argSl, putB, wCallT, eOfW, fOfW, unfre, qVar, qIx, freAt, lstOf, fl_non, fl_bl, fl_int, fl_str, fl_lst, fl_tup, fl_rls, tYesm, hix, hm, em, List.getElem?_cons_zero, List.getElem?_cons_succ, List.set_cons_succ, List.set_cons_zero, if_pos ll, if_true]
  · refine ⟨x, r, a', b', c', ⟨o1, o2⟩, Int.dvd_refl x, ?_⟩
    refine Eq.trans (seq_next (asg_ok h1 rfl)) (Eq.trans (if_f (e1 := [.par (.lst [.int a', .int b', .int c']), .imm T, .own (.lst (lv.map .int)), .imm (.int w), .imm (.int r), .none, .none, .none]) ?_) ?_)
    · simp only [mDef, outsOf, sSeq, sIf, sDrop, sRet, sRetN, sRetF, sRetO, sAsg, sAsgF, sAsgR, sPar, sSetIx, sAugIx, sAug, sRaise, sNext, sBrk, sCont, sFor, sSpoilA, sSpoilP, sTry, sHand, Fl.clr, suRet, suRetT, xFld, xC, liftP, liftT, okF, Res.bind, RP.bind, Res.of, RP.of, pVar, pC, p1, p2, pN, pAnd, pOr, pIf, pNil, pCons, pTup, pLst, pCall, qB, qAnd, qOr, qNot, dNot, eVar, Cv.e1, Cv.e2, eAnd, eOr, eIf, tBm, tAndm, tOrm, tNotm, vNil, vCons, aNil, aV, aS, eTup, fLst, eOfF, cOfF, cOfE, cVar, rNil, rE, rF, td_lst, mf_lst, dSub, dAdd, dFdiv, dMod, dNeg, dLt, dLe, dGt, dGe, dIsN, dNotN, dInt, dAbs, dMin2, dMax2, dLen, tyName, dIsi, dIx, eIx, cIx, cS, cL, sLen, sSum, lAll, kVar, kLst, kRep, kCat, kCut, fOfK, fCut, oNo, oI, fListP, itemsD, Sl.mo, Sl.put, ownL, setL, eApp, ePop, ePopAt, gN, gT, gsNil, gsCons, iR1, iR2, iLst, iTupl, eCall, fCall, slotsOf, argSl, putB, wCallT, eOfW, fOfW, unfre, qVar, qIx, freAt, lstOf, fl_non, fl_bl, fl_int, fl_str, fl_lst, fl_tup, fl_rls, tYesm, hix, hm, dPow_10_6, List.getElem?_cons_zero, List.getElem?_cons_succ, decide_eq_false g, List.set_cons_succ, List.set_cons_zero]
    · simp only [mDef, outsOf, sSeq, sIf, sDrop, sRet, sRetN, sRetF, sRetO, sAsg, sAsgF, sAsgR, sPar, sSetIx, sAugIx, sAug, sRaise, sNext, sBrk, sCont, sFor, sSpoilA, sSpoilP, sTry, sHand, Fl.clr, suRet, suRetT, xFld, xC, liftP, liftT, okF, Res.bind, RP.bind, Res.of, RP.of, pVar, pC, p1, p2, pN, pAnd, pOr, pIf, pNil, pCons, pTup, pLst, pCall, qB, qAnd, qOr, qNot, dNot, eVar, Cv.e1, Cv.e2, eAnd, eOr, eIf, tBm, tAndm, tOrm, tNotm, vNil, vCons, aNil, aV, aS, eTup, fLst, eOfF, cOfF, cOfE, cVar, rNil, rE, rF, td_lst, mf_lst, dSub, dAdd, dFdiv, dMod, dNeg, dLt, dLe, dGt, dGe, dIsN, dNotN, dInt, dAbs, dMin2, dMax2, dLen, tyName, dIsi, dIx, eIx, cIx, cS, cL, sLen, sSum, lAll, kVar, kLst, kRep, kCat, kCut, fOfK, fCut, oNo, oI, fListP, itemsD, Sl.mo, Sl.put, ownL, setL, eApp, ePop, ePopAt, gN, gT, gsNil, gsCons, iR1, iR2, iLst, iTupl, eCall, fCall, slotsOf, argSl, putB, wCallT, eOfW, fOfW, unfre, qVar, qIx, freAt, lstOf, fl_non, fl_bl, fl_int, fl_str, fl_lst, fl_tup, fl_rls, tYesm, hix, hm, em, List.getElem?_cons_zero, List.getElem?_cons_succ, List.set_cons_succ, List.set_cons_zero, if_pos ll, if_true]
/-- the levels -/
theorem lev_loop {f : En → RD} (hf : Drw f) (a b c : Int) {T : D} {n : Nat} (hn : n ≤ 50) :
    ∃ (lv : List Int) (a' b' c' : Int) (s3 s4 : Sl), Lev lv ∧ lv.length = n + 1 ∧ forL (gN 3) (sSeq (sAsg (eIf (tBm (e2 dGt (eCall f (aS 0 (aV (liftP (pC (.int 4))) aNil))) (liftP (pC (.int 0))))) (e2 dAdd (liftP (pC (.int 1))) (eCall f (aS 0 (aV (liftP (pC (.int 3))) aNil)))) (e2 dAdd (liftP (pC (.int 1))) (eCall f (aS 0 (aV (liftP (pC (.int 40))) aNil))))) (gN 4))
  (sIf (liftT (qB (p2 dLe (p2 dMul (p2 dIx (pVar 2) (pVar 3)) (pVar 4)) (p2 dPow (pC (.int 10)) (pC (.int 6)))))) (sDrop (eApp 2 (liftP (p2 dMul (p2 dIx (pVar 2) (pVar 3)) (pVar 4))))) (sDrop (eApp 2 (cIx (cVar 2) (pVar 3)))))) (rng 0 n) [.par (.lst [.int a, .int b, .int c]), .imm T, .own (.lst [.int 1]), .none, .none, .none, .none, .none] =
    .next [.par (.lst [.int a', .int b', .int c']), .imm T, .own (.lst (lv.map .int)), s3, s4, .none, .none, .none] := by
  have hrl : (rng 0 n).length = n := by rw [rng_eq, List.length_map, List.length_range]
  obtain ⟨e', h1, a', b', c', lv, s3, s4, h2, h3, h4⟩ := forL_rel (tg := gN 3) (body := (sSeq (sAsg (eIf (tBm (e2 dGt (eCall f (aS 0 (aV (liftP (pC (.int 4))) aNil))) (liftP (pC (.int 0))))) (e2 dAdd (liftP (pC (.int 1))) (eCall f (aS 0 (aV (liftP (pC (.int 3))) aNil)))) (e2 dAdd (liftP (pC (.int 1))) (eCall f (aS 0 (aV (liftP (pC (.int 40))) aNil))))) (gN 4))
  (sIf (liftT (qB (p2 dLe (p2 dMul (p2 dIx (pVar 2) (pVar 3)) (pVar 4)) (p2 dPow (pC (.int 10)) (pC (.int 6)))))) (sDrop (eApp 2 (liftP (p2 dMul (p2 dIx (pVar 2) (pVar 3)) (pVar 4))))) (sDrop (eApp 2 (cIx (cVar 2) (pVar 3))))))) (ds := rng 0 n)
    (fun i e => ∃ (a b c : Int) (lv : List Int) (s3 s4 : Sl), e = [.par (.lst [.int a, .int b, .int c]), .imm T, .own (.lst (lv.map .int)), s3, s4, .none, .none, .none] ∧ lv.length = i + 1 ∧ Lev lv)
    (e := [.par (.lst [.int a, .int b, .int c]), .imm T, .own (.lst [.int 1]), .none, .none, .none, .none, .none]) ⟨a, b, c, [1], .none, .none, rfl, rfl, ⟨fun x hx => by rw [List.mem_singleton.mp hx]; unfold intOk; omega, fun i j a b _ ha hb => by
      have e1 := List.mem_singleton.mp (List.mem_of_getElem? ha)
      subst e1
      exact ⟨b, by omega⟩⟩⟩
    (fun i d e hd ⟨a, b, c, lv, s3, s4, he, k1, k2⟩ => by
      subst he
      obtain ⟨hi, rfl⟩ := rng_get hd
      rw [Int.zero_add]
      have hx : lv[i]? = some (lv[i]'(by omega)) := List.getElem?_eq_getElem (by omega)
      obtain ⟨y, r, a', b', c', m1, m2, m3⟩ := lev_step hf a b c (T := T) (s := s4) hx (k2.ok _ (List.mem_of_getElem? hx)) (by omega)
      exact ⟨_, _, rfl, .inl m3, a', b', c', lv ++ [y], _, _, rfl, by rw [List.length_append, k1]; rfl, k2.app k1 hx m1 m2⟩)
  rw [hrl] at h3
  subst h2
  exact ⟨lv, a', b', c', s3, s4, h4, h3, h1⟩
end Lw
end

section
set_option Elab.async false
set_option linter.all false
set_option maxRecDepth 100000
set_option maxHeartbeats 4000000
set_option autoImplicit false
open PySem L2 Cv
namespace Lw
theorem asg_p {m : En → Res D} {g : D → En → Option En} {e e2 : En} {d : D} (h : m e = .ok d e) (hg : g d e = some e2) : sAsg m g e = .next e2 := asg_ok h hg
theorem if_tp {c : En → Res Bool} {a b : En → Fl} {e : En} (h : c e = .ok true e) : sIf c a b e = a e := if_t h
theorem if_fp {c : En → Res Bool} {a b : En → Fl} {e : En} (h : c e = .ok false e) : sIf c a b e = b e := if_f h
/-- the room left -/
def room (fr : Int) (k : Int) : Int := if 12 - k < fr then 12 - k else fr
theorem room_0 {fr k : Int} (h : 0 ≤ fr) (h2 : k ≤ 12) : 0 ≤ room fr k := by unfold room; split <;> omega
theorem room_1 {fr k : Int} : room fr k ≤ fr := by unfold room; split <;> omega
theorem room_2 {fr k : Int} : room fr k ≤ 12 - k := by unfold room; split <;> omega
theorem m_room {fr k : Int} : dMin2 [.int fr, .int (12 - k)] = some (.int (room fr k)) := rfl
/-- first: what is free -/
theorem per_1 {P : Sl} {T : D} {lv : List Int} (hv : Lev lv) {i : Nat} (hi : i < lv.length) {s4 s6 s7 : Sl} {fr : Int} (h0 : 0 ≤ fr) :
    ∃ fr', 0 ≤ fr' ∧ (sIf (liftT (qB (p2 dGt (pVar 3) (pC (.int 0))))) (sAsg (liftP (p2 dMul (pVar 5) (p2 dFdiv (p2 dIx (pVar 2) (pVar 3)) (p2 dIx (pVar 2) (p2 dSub (pVar 3) (pC (.int 1))))))) (gN 5)) sNext) [P, .imm T, .own (.lst (lv.map .int)), .imm (.int i), s4, .imm (.int fr), s6, s7] =
      .next [P, .imm T, .own (.lst (lv.map .int)), .imm (.int i), s4, .imm (.int fr'), s6, s7] := by
  by_cases c : 0 < i
  · have hb : lv[i]? = some (lv[i]'hi) := List.getElem?_eq_getElem hi
    have ha : lv[i - 1]? = some (lv[i - 1]'(by omega)) := List.getElem?_eq_getElem (by omega)
    have x1 := atI_map (i := (i : Int)) rfl hb
    have x2 := atI_map (i := (i : Int) - 1) (by omega) ha
    have c' : (0 : Int) < (i : Int) := by omega
    obtain ⟨b1, b2⟩ := hv.ok _ (List.mem_of_getElem? hb)
    obtain ⟨a1, a2⟩ := hv.ok _ (List.mem_of_getElem? ha)
    generalize (i : Int) = w at *
    generalize lv[i]'hi = y at *
    generalize lv[i - 1]'(by omega) = x at *
    have q0 : 0 ≤ y / x := Int.ediv_nonneg (by omega) (by omega)
    have q1 : y / x ≤ y := Int.ediv_le_self x (by omega)
    have hd : dFdiv (.int y) (.int x) = some (.int (y / x)) := dFdiv_ok (by omega) (by omega)
    have hm : dMul (.int fr) (.int (y / x)) = some (.int (fr * (y / x))) := dMul_r (by omega) (by omega)
    refine ⟨fr * (y / x), Int.mul_nonneg h0 q0, Eq.trans (if_tp ?_) (asg_p (d := .int (fr * (y / x))) ?_ rfl)⟩
    · simp only [liftT, qB, p2, pVar, pC, RP.bind, RP.of, List.getElem?_cons_zero, List.getElem?_cons_succ, dGt, decide_eq_true c']
    · simp only [liftP, p2, pVar, pC, RP.bind, RP.of, MO.toD, dIx, dSub, x1, x2, hd, hm, okF, fl_int, if_true, List.getElem?_cons_zero, List.getElem?_cons_succ]
  · have : i = 0 := by omega
    subst this
    exact ⟨fr, h0, by simp [mDef, outsOf, sSeq, sIf, sDrop, sRet, sRetN, sRetF, sRetO, sAsg, sAsgF, sAsgR, sPar, sSetIx, sAugIx, sAug, sRaise, sNext, sBrk, sCont, sFor, sSpoilA, sSpoilP, sTry, sHand, Fl.clr, suRet, suRetT, xFld, xC, liftP, liftT, okF, Res.bind, RP.bind, Res.of, RP.of, pVar, pC, p1, p2, pN, pAnd, pOr, pIf, pNil, pCons, pTup, pLst, pCall, qB, qAnd, qOr, qNot, dNot, eVar, Cv.e1, Cv.e2, eAnd, eOr, eIf, tBm, tAndm, tOrm, tNotm, vNil, vCons, aNil, aV, aS, eTup, fLst, eOfF, cOfF, cOfE, cVar, rNil, rE, rF, td_lst, mf_lst, dSub, dAdd, dFdiv, dMod, dNeg, dLt, dLe, dGt, dGe, dIsN, dNotN, dInt, dAbs, dMin2, dMax2, dLen, tyName, dIsi, dIx, eIx, cIx, cS, cL, sLen, sSum, lAll, kVar, kLst, kRep, kCat, kCut, fOfK, fCut, oNo, oI, fListP, itemsD, Sl.mo, Sl.put, ownL, setL, eApp, ePop, ePopAt, gN, gT, gsNil, gsCons, iR1, iR2, iLst, iTupl, eCall, fCall, slotsOf, argSl, putB, wCallT, eOfW, fOfW, unfre, qVar, qIx, freAt, lstOf, fl_non, fl_bl, fl_int, fl_str, fl_lst, fl_tup, fl_rls, tYesm]⟩
theorem len_ints (ns : List Int) : dLen [.lst (ns.map .int)] = some (.int ns.length) := by show some (D.int ((ns.map D.int).length : Int)) = _; rw [List.length_map]
/-- second: how many -/
theorem per_2 {f : En → RD} (hf : Drw f) (a b c : Int) {T L : D} {Lm : MO} {w fr : Int} {ns : List Int} {s4 s7 : Sl} (h0 : 0 ≤ fr) (h1 : (ns.length : Int) ≤ 12) :
    ∃ n a' b' c', 0 ≤ n ∧ n ≤ room fr ns.length ∧ (sAsg (eCall f (aS 0 (aV (liftP (p2 dAdd (pN dMin2 (pCons (pVar 5) (pCons (p2 dSub (pC (.int 12)) (pN dLen (pCons (pVar 6) pNil))) pNil))) (pC (.int 1)))) aNil))) (gN 7)) [.par (.lst [.int a, .int b, .int c]), .imm T, .own Lm, .imm (.int w), s4, .imm (.int fr), .own (.lst (ns.map .int)), s7] =
      .next [.par (.lst [.int a', .int b', .int c']), .imm T, .own Lm, .imm (.int w), s4, .imm (.int fr), .own (.lst (ns.map .int)), .imm (.int n)] := by
  have hlen := len_ints ns
  have k0 : (0 : Int) ≤ (ns.length : Int) := by omega
  generalize (ns.length : Int) = k at *
  have r0 := room_0 h0 h1
  have r2 := room_2 (fr := fr) (k := k)
  have hmr := m_room (fr := fr) (k := k)
  generalize room fr k = R at *
  obtain ⟨n, a', b', c', n0, n1, he⟩ := e_draw hf (a := a) (b := b) (c := c) (s := .par (.lst [.int a, .int b, .int c])) (m := liftP (p2 dAdd (pN dMin2 (pCons (pVar 5) (pCons (p2 dSub (pC (.int 12)) (pN dLen (pCons (pVar 6) pNil))) pNil))) (pC (.int 1)))) (many := R + 1) (rest := [.imm T, .own Lm, .imm (.int w), s4, .imm (.int fr), .own (.lst (ns.map .int)), s7]) (by omega) (by omega) rfl
    (by simp only [liftP, p2, pN, pCons, pNil, pVar, pC, RP.bind, RP.of, MO.toD, dSub, dAdd, hlen, hmr, okF, fl_int, if_true, List.getElem?_cons_zero, List.getElem?_cons_succ])
  exact ⟨n, a', b', c', n0, by omega, asg_ok he rfl⟩
/-- third: at the last level -/
theorem per_3 {P : Sl} {tu : Int} {lv : List Int} {w fr n : Int} {ns : List Int} {s4 : Sl} (h0 : 0 ≤ fr) (h1 : (ns.length : Int) ≤ 12) (n0 : 0 ≤ n) (n1 : n ≤ room fr ns.length) :
    ∃ n', 0 ≤ n' ∧ n' ≤ room fr ns.length ∧ (sIf (liftT (qAnd (qB (p2 dGt (pVar 1) (pC (.int 0)))) (qB (p2 dEq (pVar 3) (p2 dSub (pN dLen (pCons (pVar 2) pNil)) (pC (.int 1))))))) (sAsg (liftP (pN dMin2 (pCons (pVar 5) (pCons (p2 dSub (pC (.int 12)) (pN dLen (pCons (pVar 6) pNil))) pNil)))) (gN 7)) sNext) [P, .imm (.int tu), .own (.lst (lv.map .int)), .imm (.int w), s4, .imm (.int fr), .own (.lst (ns.map .int)), .imm (.int n)] =
      .next [P, .imm (.int tu), .own (.lst (lv.map .int)), .imm (.int w), s4, .imm (.int fr), .own (.lst (ns.map .int)), .imm (.int n')] := by
  have hlen := len_ints ns
  have hlv := len_ints lv
  generalize (ns.length : Int) = k at *
  generalize (lv.length : Int) = m at *
  have r0 := room_0 h0 h1
  have hmr := m_room (fr := fr) (k := k)
  generalize room fr k = R at *
  have hq : ∃ bb, (liftT (qAnd (qB (p2 dGt (pVar 1) (pC (.int 0)))) (qB (p2 dEq (pVar 3) (p2 dSub (pN dLen (pCons (pVar 2) pNil)) (pC (.int 1))))))) [P, .imm (.int tu), .own (.lst (lv.map .int)), .imm (.int w), s4, .imm (.int fr), .own (.lst (ns.map .int)), .imm (.int n)] = .ok bb [P, .imm (.int tu), .own (.lst (lv.map .int)), .imm (.int w), s4, .imm (.int fr), .own (.lst (ns.map .int)), .imm (.int n)] := by
    by_cases g : 0 < tu
    · exact ⟨decide (w = m - 1), by simp only [liftT, qAnd, qB, p2, pN, pCons, pNil, pVar, pC, RP.bind, RP.of, MO.toD, dGt, dSub, hlv, dEq_int, decide_eq_true g, if_true, List.getElem?_cons_zero, List.getElem?_cons_succ]⟩
    · exact ⟨false, by simp only [liftT, qAnd, qB, p2, pN, pCons, pNil, pVar, pC, RP.bind, RP.of, MO.toD, dGt, dSub, hlv, dEq_int, decide_eq_false g, Bool.false_eq_true, if_false, List.getElem?_cons_zero, List.getElem?_cons_succ]⟩
  obtain ⟨bb, hq⟩ := hq
  cases bb with
  | true => exact ⟨R, r0, Int.le_refl _, Eq.trans (if_tp hq) (asg_p (d := .int R) (by simp only [liftP, p2, pN, pCons, pNil, pVar, pC, RP.bind, RP.of, MO.toD, dSub, hlen, hmr, okF, fl_int, if_true, List.getElem?_cons_zero, List.getElem?_cons_succ]) rfl)⟩
  | false => exact ⟨n, n0, n1, (if_f hq).trans rfl⟩
theorem rep_ints (ns : List Int) (n : Nat) (x : Int) : ns.map D.int ++ (List.replicate n [D.int x]).flatten = (ns ++ List.replicate n x).map .int := by
  rw [List.map_append]
  congr 1
  induction n with
  | zero => rfl
  | succ n ih => rw [List.replicate_succ, List.replicate_succ, List.flatten_cons, ih]; rfl
/-- last: the list longer -/
theorem per_5 {P : Sl} {T : D} {lv : List Int} {i : Nat} {x : Int} (hx : lv[i]? = some x) {fr n : Int} {ns : List Int} {s4 : Sl} (n0 : 0 ≤ n) (n1 : n ≤ 12) (h1 : ns.length ≤ 12) :
    (sAsgF (fOfK (kCat (kVar 6) (kRep (kLst (pCons (p2 dIx (pVar 2) (pVar 3)) pNil)) (pVar 7)))) 6) [P, .imm T, .own (.lst (lv.map .int)), .imm (.int i), s4, .imm (.int fr), .own (.lst (ns.map .int)), .imm (.int n)] =
      .next [P, .imm T, .own (.lst (lv.map .int)), .imm (.int i), s4, .imm (.int fr), .own (.lst ((ns ++ List.replicate n.toNat x).map .int)), .imm (.int n)] := by
  have hix := atI_map (i := (i : Int)) rfl hx
  generalize (i : Int) = w at *
  generalize he : [P, .imm T, .own (.lst (lv.map .int)), .imm (.int w), s4, .imm (.int fr), .own (.lst (ns.map .int)), .imm (.int n)] = e
  have k1 : kVar 6 e = .ok (ns.map .int) := by subst he; rfl
  have k2 : (kLst (pCons (p2 dIx (pVar 2) (pVar 3)) pNil)) e = .ok [.int x] := by
    subst he
    have l1 : ([D.int x].all flat = true ∧ [D.int x].length ≤ sizeLine) := ⟨rfl, le_line (by simp)⟩
    simp only [kLst, pCons, p2, pVar, pNil, RP.bind, RP.of, MO.toD, dIx, hix, if_pos l1, List.getElem?_cons_zero, List.getElem?_cons_succ]
  have k3 := kRep_ok k2 (b := pVar 7) (e := e) (k := n) (n := n.toNat) (by subst he; rfl) n0 (by omega) rfl (by simp; omega)
  have hl : (ns.map D.int).length + (List.replicate n.toNat [D.int x]).flatten.length ≤ sizeLine := le_line (by simp; omega)
  refine (asgF_ok (e1 := e) (d := .lst ((ns ++ List.replicate n.toNat x).map .int)) (fOfK_ok ?_) ?_).trans ?_
  · simp only [kCat, k1, k3, RP.bind, if_pos hl, rep_ints]
  · subst he; exact Nat.lt_of_lt_of_le (by decide) (Nat.le_refl 8)
  · subst he; rfl
theorem sub_len {lv : List Int} (hv : Lev lv) {ns : List Int} (hs : ∀ x ∈ ns, x ∈ lv) (hne : ns ≠ []) (hl : ns.length ≤ 12) : Pro ns :=
  ⟨fun n hn => hv.ok n (hs n hn), hne, hl, fun x hx y hy hxy => hv.mem (hs x hx) (hs y hy) hxy⟩
end Lw
end

section
set_option Elab.async false
set_option linter.all false
set_option maxRecDepth 100000
set_option maxHeartbeats 4000000
set_option autoImplicit false
open PySem L2 Cv
namespace Lw
def intOf : D → Int
  | .int i => i
  | _ => 0
theorem perm_ints {ds : List D} {ns : List Int} (h : ds.Perm (ns.map .int)) : ∃ ms : List Int, ms.Perm ns ∧ ds = ms.map .int := by
  refine ⟨ds.map intOf, ?_, ?_⟩
  · have := h.map intOf
    rw [List.map_map] at this
    have e : (intOf ∘ D.int) = id := rfl
    rw [e, List.map_id] at this
    exact this
  · rw [List.map_map]
    have : ∀ d ∈ ds, (D.int ∘ intOf) d = d := fun d hd => by
      obtain ⟨n, _, rfl⟩ := List.mem_map.mp (h.mem_iff.mp hd)
      rfl
    rw [List.map_congr_left this, List.map_id']
theorem Pro.perm {ns ms : List Int} (h : Pro ns) (p : ms.Perm ns) : Pro ms :=
  ⟨fun n hn => h.ok n (p.mem_iff.mp hn), fun z => h.ne (List.Perm.eq_nil (z ▸ p).symm), by rw [p.length_eq]; exact h.len, fun x hx y hy => h.dv x (p.mem_iff.mp hx) y (p.mem_iff.mp hy)⟩
/-- the second loop -/
theorem per_loop {f : En → RD} (hf : Drw f) (a b c : Int) {tu : Int} {lv : List Int} (hv : Lev lv) (hlv : lv.length ≤ 50) {s3 s4 : Sl} :
    ∃ (ns : List Int) (fr a' b' c' : Int) (t3 t4 s7 : Sl), (∀ x ∈ ns, x ∈ lv) ∧ ns.length ≤ 12 ∧ forL (gN 3) (sSeq (sIf (liftT (qB (p2 dGt (pVar 3) (pC (.int 0))))) (sAsg (liftP (p2 dMul (pVar 5) (p2 dFdiv (p2 dIx (pVar 2) (pVar 3)) (p2 dIx (pVar 2) (p2 dSub (pVar 3) (pC (.int 1))))))) (gN 5)) sNext)
  (sSeq (sAsg (eCall f (aS 0 (aV (liftP (p2 dAdd (pN dMin2 (pCons (pVar 5) (pCons (p2 dSub (pC (.int 12)) (pN dLen (pCons (pVar 6) pNil))) pNil))) (pC (.int 1)))) aNil))) (gN 7))
  (sSeq (sIf (liftT (qAnd (qB (p2 dGt (pVar 1) (pC (.int 0)))) (qB (p2 dEq (pVar 3) (p2 dSub (pN dLen (pCons (pVar 2) pNil)) (pC (.int 1))))))) (sAsg (liftP (pN dMin2 (pCons (pVar 5) (pCons (p2 dSub (pC (.int 12)) (pN dLen (pCons (pVar 6) pNil))) pNil)))) (gN 7)) sNext)
  (sSeq (sAug (fun i j => i - j) 5 (eVar 7))
  (sAsgF (fOfK (kCat (kVar 6) (kRep (kLst (pCons (p2 dIx (pVar 2) (pVar 3)) pNil)) (pVar 7)))) 6))))) (rng 0 lv.length) [.par (.lst [.int a, .int b, .int c]), .imm (.int tu), .own (.lst (lv.map .int)), s3, s4, .imm (.int 1), .own (.lst []), .none] =
    .next [.par (.lst [.int a', .int b', .int c']), .imm (.int tu), .own (.lst (lv.map .int)), t3, t4, .imm (.int fr), .own (.lst (ns.map .int)), s7] := by
  have hrl : (rng 0 lv.length).length = lv.length := by rw [rng_eq, List.length_map, List.length_range]
  obtain ⟨e', h1, a', b', c', fr, ns, s3, s4, s7, h2, h3, h4, h5⟩ := forL_rel (tg := gN 3) (body := (sSeq (sIf (liftT (qB (p2 dGt (pVar 3) (pC (.int 0))))) (sAsg (liftP (p2 dMul (pVar 5) (p2 dFdiv (p2 dIx (pVar 2) (pVar 3)) (p2 dIx (pVar 2) (p2 dSub (pVar 3) (pC (.int 1))))))) (gN 5)) sNext)
  (sSeq (sAsg (eCall f (aS 0 (aV (liftP (p2 dAdd (pN dMin2 (pCons (pVar 5) (pCons (p2 dSub (pC (.int 12)) (pN dLen (pCons (pVar 6) pNil))) pNil))) (pC (.int 1)))) aNil))) (gN 7))
  (sSeq (sIf (liftT (qAnd (qB (p2 dGt (pVar 1) (pC (.int 0)))) (qB (p2 dEq (pVar 3) (p2 dSub (pN dLen (pCons (pVar 2) pNil)) (pC (.int 1))))))) (sAsg (liftP (pN dMin2 (pCons (pVar 5) (pCons (p2 dSub (pC (.int 12)) (pN dLen (pCons (pVar 6) pNil))) pNil)))) (gN 7)) sNext)
  (sSeq (sAug (fun i j => i - j) 5 (eVar 7))
  (sAsgF (fOfK (kCat (kVar 6) (kRep (kLst (pCons (p2 dIx (pVar 2) (pVar 3)) pNil)) (pVar 7)))) 6)))))) (ds := rng 0 lv.length)
    (fun _ e => ∃ (a b c fr : Int) (ns : List Int) (s3 s4 s7 : Sl), e = [.par (.lst [.int a, .int b, .int c]), .imm (.int tu), .own (.lst (lv.map .int)), s3, s4, .imm (.int fr), .own (.lst (ns.map .int)), s7] ∧ 0 ≤ fr ∧ (∀ x ∈ ns, x ∈ lv) ∧ ns.length ≤ 12)
    (e := [.par (.lst [.int a, .int b, .int c]), .imm (.int tu), .own (.lst (lv.map .int)), s3, s4, .imm (.int 1), .own (.lst []), .none]) ⟨a, b, c, 1, [], s3, s4, .none, rfl, by decide, by simp, by simp⟩
    (fun i d e hd ⟨a, b, c, fr, ns, s3, s4, s7, he, k1, k2, k3⟩ => by
      subst he
      obtain ⟨hi, rfl⟩ := rng_get hd
      rw [Int.zero_add]
      have hx : lv[i]? = some (lv[i]'hi) := List.getElem?_eq_getElem hi
      have mx := List.mem_of_getElem? hx
      generalize lv[i]'hi = x at hx mx
      have k3' : (ns.length : Int) ≤ 12 := by omega
      obtain ⟨fr1, f1, t1⟩ := per_1 (P := .par (.lst [.int a, .int b, .int c])) (T := .int tu) hv hi (s4 := s4) (s6 := .own (.lst (ns.map .int))) (s7 := s7) k1
      obtain ⟨n, a', b', c', n0, n1, t2⟩ := per_2 hf a b c (T := .int tu) (L := .non) (Lm := .lst (lv.map .int)) (w := (i : Int)) (ns := ns) (s4 := s4) (s7 := s7) f1 k3'
      obtain ⟨m, m0, m1, t3⟩ := per_3 (P := .par (.lst [.int a', .int b', .int c'])) (tu := tu) (lv := lv) (w := (i : Int)) (s4 := s4) f1 k3' n0 n1
      have r1 := room_1 (fr := fr1) (k := ns.length)
      have r2 := room_2 (fr := fr1) (k := ns.length)
      have t5 := per_5 (P := .par (.lst [.int a', .int b', .int c'])) (T := .int tu) hx (fr := fr1 - m) (n := m) (ns := ns) (s4 := s4) m0 (by omega) k3
      refine ⟨_, _, rfl, .inl ((seq_next t1).trans ((seq_next t2).trans ((seq_next t3).trans ((seq_next (e1 := [.par (.lst [.int a', .int b', .int c']), .imm (.int tu), .own (.lst (lv.map .int)), .imm (.int i), s4, .imm (.int (fr1 - m)), .own (.lst (ns.map .int)), .imm (.int m)]) ?_).trans t5)))), a', b', c', fr1 - m, ns ++ List.replicate m.toNat x, _, _, _, rfl, by omega, ?_, ?_⟩
      · generalize (i : Int) = w
        rfl
      · intro y hy
        rcases List.mem_append.mp hy with z | z
        · exact k2 y z
        · rw [List.eq_of_mem_replicate z]; exact mx
      · rw [List.length_append, List.length_replicate]; omega)
  subst h2
  exact ⟨ns, fr, a', b', c', s3, s4, s7, h4, h5, h1⟩
/-- one more at the end -/
theorem per_more {f : En → RD} (hf : Drw f) (a b c : Int) {tu fr : Int} {lv ns : List Int} (hlv : lv.length ≤ 50) (hpos : lv ≠ []) (hns : ns.length ≤ 12) (hs : ∀ x ∈ ns, x ∈ lv) {s3 s4 s7 : Sl} :
    ∃ (ms : List Int) (s2 : Sl) (a' b' c' : Int), (s2 = .own (.lst (lv.map .int)) ∨ s2 = .imm (.lst (lv.map .int))) ∧ (∀ x ∈ ms, x ∈ lv) ∧ ms.length ≤ 12 ∧ (sIf (liftT (qAnd (qB (p2 dEq (pVar 1) (pC (.int 2)))) (qAnd (qB (p2 dEq (pVar 5) (pC (.int 0)))) (qB (p2 dLt (pN dLen (pCons (pVar 6) pNil)) (pC (.int 12))))))) (sDrop (eApp 6 (eIx (eVar 2) (eCall f (aS 0 (aV (liftP (pN dLen (pCons (pVar 2) pNil))) aNil)))))) sNext) [.par (.lst [.int a, .int b, .int c]), .imm (.int tu), .own (.lst (lv.map .int)), s3, s4, .imm (.int fr), .own (.lst (ns.map .int)), s7] =
      .next [.par (.lst [.int a', .int b', .int c']), .imm (.int tu), s2, s3, s4, .imm (.int fr), .own (.lst (ms.map .int)), s7] := by
  have hlen := len_ints ns
  have hll := len_ints lv
  have hq : ∃ bb : Bool, (bb = true → ns.length < 12) ∧ (liftT (qAnd (qB (p2 dEq (pVar 1) (pC (.int 2)))) (qAnd (qB (p2 dEq (pVar 5) (pC (.int 0)))) (qB (p2 dLt (pN dLen (pCons (pVar 6) pNil)) (pC (.int 12))))))) [.par (.lst [.int a, .int b, .int c]), .imm (.int tu), .own (.lst (lv.map .int)), s3, s4, .imm (.int fr), .own (.lst (ns.map .int)), s7] = .ok bb [.par (.lst [.int a, .int b, .int c]), .imm (.int tu), .own (.lst (lv.map .int)), s3, s4, .imm (.int fr), .own (.lst (ns.map .int)), s7] := by
    have k := (show ((ns.length : Int) < 12 → ns.length < 12) from fun h => by omega)
    generalize (ns.length : Int) = z at *
    by_cases g : tu = 2
    · by_cases g2 : fr = 0
      · exact ⟨decide (z < 12), fun h => k (of_decide_eq_true h), by simp only [liftT, qAnd, qB, p2, pN, pCons, pNil, pVar, pC, RP.bind, RP.of, MO.toD, dEq_int, dLt, hlen, decide_eq_true g, decide_eq_true g2, if_true, List.getElem?_cons_zero, List.getElem?_cons_succ]⟩
      · exact ⟨false, (by simp), by simp only [liftT, qAnd, qB, p2, pN, pCons, pNil, pVar, pC, RP.bind, RP.of, MO.toD, dEq_int, dLt, hlen, decide_eq_true g, decide_eq_false g2, Bool.false_eq_true, if_false, if_true, List.getElem?_cons_zero, List.getElem?_cons_succ]⟩
    · exact ⟨false, (by simp), by simp only [liftT, qAnd, qB, p2, pN, pCons, pNil, pVar, pC, RP.bind, RP.of, MO.toD, dEq_int, dLt, hlen, decide_eq_false g, Bool.false_eq_true, if_false, if_true, List.getElem?_cons_zero, List.getElem?_cons_succ]⟩
  obtain ⟨bb, hb, hq⟩ := hq
  cases bb with
  | false => exact ⟨ns, _, a, b, c, .inl rfl, hs, hns, (if_f hq).trans rfl⟩
  | true =>
    have h12 := hb rfl
    have lp : 0 < lv.length := List.length_pos_iff.mpr hpos
    obtain ⟨r, a', b', c', r0, r1, he⟩ := e_draw hf (a := a) (b := b) (c := c) (s := .par (.lst [.int a, .int b, .int c])) (m := liftP (pN dLen (pCons (pVar 2) pNil))) (many := (lv.length : Int)) (rest := [.imm (.int tu), .imm (.lst (lv.map .int)), s3, s4, .imm (.int fr), .own (.lst (ns.map .int)), s7]) (by omega) (by omega) rfl
      (by generalize (lv.length : Int) = z at *; simp only [liftP, pN, pCons, pNil, pVar, RP.bind, RP.of, MO.toD, hll, okF, fl_int, if_true, List.getElem?_cons_zero, List.getElem?_cons_succ])
    obtain ⟨j, rfl⟩ := Int.eq_ofNat_of_zero_le r0
    have hj : j < lv.length := by omega
    have hx : lv[j]? = some (lv[j]'hj) := List.getElem?_eq_getElem hj
    have hix := atI_map (i := (j : Int)) rfl hx
    have mx := List.mem_of_getElem? hx
    generalize lv[j]'hj = x at *
    generalize (j : Int) = w at *
    have ll : (ns.map D.int).length < sizeLine := lt_line (by rw [List.length_map]; omega)
    have em : ns.map D.int ++ [.int x] = (ns ++ [x]).map .int := by simp
    have fl : (lv.map D.int).all flat = true := flat_ints lv
    refine ⟨ns ++ [x], .imm (.lst (lv.map .int)), a', b', c', .inr rfl, ?_, by rw [List.length_append]; simp; omega, (if_t hq).trans ?_⟩
    · intro y hy
      rcases List.mem_append.mp hy with z | z
      · exact hs y z
      · rw [List.mem_singleton.mp z]; exact mx
    · simp only [sDrop, eApp, eIx, ownL, eVar, mf_lst, td_lst, fl, if_true, he, Res.bind, Res.of, dIx, hix, setL, Sl.put, if_pos ll, em, List.getElem?_cons_zero, List.getElem?_cons_succ, List.set_cons_succ, List.set_cons_zero]
end Lw
end

section
set_option Elab.async false
set_option linter.all false
set_option maxRecDepth 100000
set_option maxHeartbeats 4000000
set_option autoImplicit false
open PySem L2 Cv
namespace Lw
/-- what the mixing keeps, over abstract g -/
def Mxr (g : En → RD) : Prop := ∀ (a b c : Int) (ds : List D), ds.length ≤ 1000 → ∃ (ds' : List D) (a' b' c' : Int), ds'.Perm ds ∧ g [.par (.lst [.int a, .int b, .int c]), .imm (.lst ds)] = .ok (.own (.lst ds')) [.par (.lst [.int a', .int b', .int c']), .imm (.lst ds)]
theorem mxr : Mxr m__law_mix := fun a b c ds h => r_mix h
/-- none at all: the last level -/
theorem per_none {P : Sl} {T : D} {lv ns : List Int} (hv : lv ≠ []) (hs : ∀ x ∈ ns, x ∈ lv) (hl : ns.length ≤ 12) {s2 s3 s4 s5 s7 : Sl} (h2 : s2 = .own (.lst (lv.map .int)) ∨ s2 = .imm (.lst (lv.map .int))) :
    ∃ ms : List Int, (∀ x ∈ ms, x ∈ lv) ∧ ms.length ≤ 12 ∧ ms ≠ [] ∧ (sIf (liftT (qB (p2 dEq (pVar 6) (pLst pNil)))) (sAsgF (fLst (vCons (cIx (cVar 2) (p2 dSub (pN dLen (pCons (pVar 2) pNil)) (pC (.int 1)))) vNil)) 6) sNext) [P, .imm T, s2, s3, s4, s5, .own (.lst (ns.map .int)), s7] =
      .next [P, .imm T, s2, s3, s4, s5, .own (.lst (ms.map .int)), s7] := by
  have lp : 0 < lv.length := List.length_pos_iff.mpr hv
  have hx : lv[lv.length - 1]? = some (lv[lv.length - 1]'(by omega)) := List.getElem?_eq_getElem (by omega)
  have hix := atI_map (i := (lv.length : Int) - 1) (by omega) hx
  have mx := List.mem_of_getElem? hx
  have hll := len_ints lv
  generalize (lv.length : Int) = z at *
  generalize lv[lv.length - 1]'(by omega) = x at *
  have he := dEq_nil (okDL_ints 63 ns)
  have l0 : (0 : Nat) ≤ sizeLine := le_line (by decide)
  have l1 : (1 : Nat) ≤ sizeLine := le_line (by decide)
  have hq : (liftT (qB (p2 dEq (pVar 6) (pLst pNil)))) [P, .imm T, s2, s3, s4, s5, .own (.lst (ns.map .int)), s7] = .ok (decide (ns = [])) [P, .imm T, s2, s3, s4, s5, .own (.lst (ns.map .int)), s7] := by
    simp only [List.map_eq_nil_iff] at he
    simp only [liftT, qB, p2, pVar, pLst, pNil, RP.bind, RP.of, MO.toD, List.length_nil, l0, if_true, he, List.getElem?_cons_zero, List.getElem?_cons_succ]
  by_cases g : ns = []
  · rw [decide_eq_true g] at hq
    refine ⟨[x], fun y hy => by rw [List.mem_singleton.mp hy]; exact mx, by simp, by simp, (if_t hq).trans ?_⟩
    rcases h2 with rfl | rfl <;>
      simp only [sAsgF, fLst, vCons, vNil, cIx, cVar, p2, pN, pCons, pNil, pVar, pC, Res.bind, Res.of, RP.bind, RP.of, MO.toD, hll, dSub, dIx, hix, okF, fl_int, if_true, l1, List.length_cons, List.length_nil, Nat.zero_add, Nat.reduceAdd, Nat.reduceLT, List.getElem?_cons_zero, List.getElem?_cons_succ, List.set_cons_succ, List.set_cons_zero, List.map_cons, List.map_nil]
  · rw [decide_eq_false g] at hq
    exact ⟨ns, hs, hl, g, (if_f hq).trans rfl⟩
theorem per_mix {g : En → RD} (hg : Mxr g) (a b c : Int) {T : D} {ns : List Int} (hl : ns.length ≤ 12) {s2 s3 s4 s5 s7 : Sl} : ∃ (ms : List Int) (a' b' c' : Int), ms.Perm ns ∧ (sRetF (fCall g (aS 0 (aV (eVar 6) aNil)))) [.par (.lst [.int a, .int b, .int c]), .imm T, s2, s3, s4, s5, .own (.lst (ns.map .int)), s7] =
    .ret (.own (.lst (ms.map .int))) [.par (.lst [.int a', .int b', .int c']), .imm T, s2, s3, s4, s5, .imm (.lst (ns.map .int)), s7] := by
  obtain ⟨ds, a', b', c', h1, h2⟩ := hg a b c (ns.map .int) (by rw [List.length_map]; omega)
  obtain ⟨ms, h3, rfl⟩ := perm_ints h1
  refine ⟨ms, a', b', c', h3, ?_⟩
  simp only [sRetF, fCall, aS, aV, eVar, aNil, Res.bind, slotsOf, argSl, Option.map, h2, putB, Sl.put, td_lst, List.nodup_cons, List.not_mem_nil, not_false_eq_true, List.nodup_nil, and_self, if_true, List.getElem?_cons_zero, List.getElem?_cons_succ, List.set_cons_succ, List.set_cons_zero]
/-- how many levels -/
theorem per_turns {f : En → RD} (hf : Drw f) (a b c : Int) (tl : En) : ∃ (n : Nat) (a' b' c' : Int), n ≤ 4 ∧ (iR1 (vCons (e2 dAdd (liftP (pC (.int 1))) (eCall f (aS 0 (aV (liftP (pC (.int 4))) aNil)))) vNil)) (.par (.lst [.int a, .int b, .int c]) :: tl) = .ok (rng 0 n) (.par (.lst [.int a', .int b', .int c']) :: tl) := by
  obtain ⟨r, a', b', c', r0, r1, he⟩ := d_draw hf 4 (by decide) (by decide) a b c tl
  refine ⟨(1 + r).toNat, a', b', c', by omega, iR1_ok (j := 1 + r) ?_ (by omega) (by omega) rfl⟩
  simp only [vCons, vNil, Cv.e2, liftP, pC, okF, fl_int, if_true, he, Res.bind, dAdd]
theorem r_periods (a b c tu : Int) : ∃ (ns : List Int) (a' b' c' : Int), Pro ns ∧ m__law_periods [.par (.lst [.int a, .int b, .int c]), .imm (.int tu)] = .ok (.own (.lst (ns.map .int))) [.par (.lst [.int a', .int b', .int c']), .imm (.int tu)] := by
  obtain ⟨n, a1, b1, c1, hn, t1⟩ := per_turns drw a b c [.imm (.int tu), .own (.lst [.int 1]), .none, .none, .none, .none, .none]
  obtain ⟨lv, a2, b2, c2, s3, s4, hv, hlv, t2⟩ := lev_loop drw a1 b1 c1 (T := .int tu) (n := n) (by omega)
  obtain ⟨ns, fr, a3, b3, c3, s3', s4', s7, hs, hl, t3⟩ := per_loop drw a2 b2 c2 (tu := tu) hv (by omega) (s3 := s3) (s4 := s4)
  have hne : lv ≠ [] := fun z => by rw [z] at hlv; simp at hlv
  obtain ⟨ms, s2, a4, b4, c4, h2, hs', hl', t4⟩ := per_more drw a3 b3 c3 (tu := tu) (fr := fr) (lv := lv) (by omega) hne hl hs (s3 := s3') (s4 := s4') (s7 := s7)
  obtain ⟨ks, hs'', hl'', hne', t5⟩ := per_none (P := .par (.lst [.int a4, .int b4, .int c4])) (T := .int tu) hne hs' hl' (s2 := s2) (s3 := s3') (s4 := s4') (s5 := .imm (.int fr)) (s7 := s7) h2
  obtain ⟨os, a5, b5, c5, hp, t6⟩ := per_mix mxr a4 b4 c4 (T := .int tu) (ns := ks) hl'' (s2 := s2) (s3 := s3') (s4 := s4') (s5 := .imm (.int fr)) (s7 := s7)
  refine ⟨os, a5, b5, c5, (sub_len hv hs'' hne' hl'').perm hp, ?_⟩
  have l1 : (1 : Nat) ≤ sizeLine := le_line (by decide)
  have l0 : (0 : Nat) ≤ sizeLine := le_line (by decide)
  have ll := len_ints lv
  have hlv' : (lv.length : Int) ≤ 50 := by omega
  have hlv0 : (0 : Int) ≤ (lv.length : Int) := by omega
  have hln : (lv.length : Int).toNat = lv.length := by omega
  have st : b__law_periods [.par (.lst [.int a, .int b, .int c]), .imm (.int tu), .none, .none, .none, .none, .none, .none] = .ret (.own (.lst (os.map .int))) [.par (.lst [.int a5, .int b5, .int c5]), .imm (.int tu), s2, s3', s4', .imm (.int fr), .imm (.lst (ks.map .int)), s7] := by
    refine (seq_next (e1 := [.par (.lst [.int a, .int b, .int c]), .imm (.int tu), .own (.lst [.int 1]), .none, .none, .none, .none, .none]) ?_).trans ((seq_next ((for_ok t1).trans t2)).trans ((seq_next (e1 := [.par (.lst [.int a2, .int b2, .int c2]), .imm (.int tu), .own (.lst (lv.map .int)), s3, s4, .imm (.int 1), .none, .none]) ?_).trans ((seq_next (e1 := [.par (.lst [.int a2, .int b2, .int c2]), .imm (.int tu), .own (.lst (lv.map .int)), s3, s4, .imm (.int 1), .own (.lst []), .none]) ?_).trans ((seq_next ((for_ok (iR1_ok (j := lv.length) ?_ hlv0 (Int.le_trans hlv' (by decide)) hln)).trans t3)).trans ((seq_next t4).trans ((seq_next t5).trans t6))))))
    · simp only [sAsgF, fLst, vCons, vNil, liftP, pC, okF, fl_int, Res.bind, if_true, l1, List.length_cons, List.length_nil, Nat.zero_add, Nat.reduceAdd, Nat.reduceLT, List.set_cons_succ, List.set_cons_zero]
    · rfl
    · simp only [sAsgF, fLst, vNil, Res.bind, if_true, l0, List.length_cons, List.length_nil, Nat.zero_add, Nat.reduceAdd, Nat.reduceLT, List.set_cons_succ, List.set_cons_zero]
    · generalize (lv.length : Int) = z at *
      simp only [vCons, vNil, liftP, pN, pCons, pNil, pVar, RP.bind, RP.of, MO.toD, ll, okF, fl_int, if_true, Res.bind, List.getElem?_cons_zero, List.getElem?_cons_succ]
  exact mDef_go (np := 2) (n := 8) (b := b__law_periods) (as := [.par (.lst [.int a, .int b, .int c]), .imm (.int tu)]) (e := [.par (.lst [.int a, .int b, .int c]), .imm (.int tu), .none, .none, .none, .none, .none, .none]) rfl rfl st
end Lw
end

section
set_option Elab.async false
set_option linter.all false
set_option maxRecDepth 100000
set_option maxHeartbeats 4000000
set_option autoImplicit false
open PySem L2 Cv
namespace Lw
theorem bad_adj {ns : List Int} {x y : Int} (hx : x ∈ ns) (hy : y ∈ ns) (hxy : x < y) (nd : ¬ x ∣ y) : ∃ (i : Nat) (a b : Int), (sortI ns)[i]? = some a ∧ (sortI ns)[i + 1]? = some b ∧ b % a ≠ 0 := by
  apply Classical.byContradiction
  intro no
  have adj : ∀ (i : Nat) (a b : Int), (sortI ns)[i]? = some a → (sortI ns)[i + 1]? = some b → a ∣ b := fun i a b ha hb => by
    apply Classical.byContradiction
    intro q
    exact no ⟨i, a, b, ha, hb, fun z => q (Int.dvd_of_emod_eq_zero z)⟩
  have all : ∀ (k i : Nat) (a b : Int), (sortI ns)[i]? = some a → (sortI ns)[i + k]? = some b → a ∣ b := by
    intro k
    induction k with
    | zero => intro i a b ha hb; rw [Nat.add_zero, ha] at hb; cases hb; exact Int.dvd_refl _
    | succ k ih =>
      intro i a b ha hb
      have h := (List.getElem?_eq_some_iff.mp hb).1
      have hm : (sortI ns)[i + k]? = some ((sortI ns)[i + k]'(by omega)) := List.getElem?_eq_getElem (by omega)
      exact Int.dvd_trans (ih i a _ ha hm) (adj (i + k) _ b hm hb)
  obtain ⟨i, hi⟩ := List.getElem?_of_mem ((sortI_perm ns).mem_iff.mpr hx)
  obtain ⟨j, hj⟩ := List.getElem?_of_mem ((sortI_perm ns).mem_iff.mpr hy)
  by_cases c : i ≤ j
  · exact nd (all (j - i) i x y hi (by rw [show i + (j - i) = j by omega]; exact hj))
  · obtain ⟨a1, a2⟩ := List.getElem?_eq_some_iff.mp hi
    obtain ⟨b1, b2⟩ := List.getElem?_eq_some_iff.mp hj
    have := List.pairwise_iff_getElem.mp (sortI_sorted ns) j i b1 a1 (by omega)
    rw [a2, b2] at this
    have : y ≤ x := this
    omega
theorem cut_one {d : D} {r : List D} : cutD (d :: r) none (some 1) = [d] := by
  have h0 : HT.sIx (d :: r).length 0 none = 0 := rfl
  have h1 : HT.sIx (d :: r).length (d :: r).length (some 1) = 1 := by
    unfold HT.sIx
    simp
  unfold cutD
  rw [h0, h1]
  rfl
/-- a wrong period -/
theorem ref_v {f : En → RD} (hf : Drw f) (a b c : Int) (tl : En) : ∃ (v : D) (a' b' c' : Int), notP v ∧ okN 1000000 v ∧ flat v = true ∧ (eIx (eOfF (fLst (vCons (liftP (pC (.int 0))) (vCons (liftP (p1 dNeg (pC (.int 1)))) (vCons (liftP (pC (.bl true))) (vCons (liftP (p1 dNeg (pC (.int 5)))) vNil)))))) (eCall f (aS 0 (aV (liftP (pC (.int 4))) aNil)))) (.par (.lst [.int a, .int b, .int c]) :: tl) = .ok v (.par (.lst [.int a', .int b', .int c']) :: tl) := by
  obtain ⟨r, a', b', c', r0, r1, he⟩ := d_draw hf 4 (by decide) (by decide) a b c tl
  have l4 : (4 : Nat) ≤ sizeLine := le_line (by decide)
  have st : ∀ v, atI [D.int 0, .int (-1), .bl true, .int (-5)] r = some v → (eIx (eOfF (fLst (vCons (liftP (pC (.int 0))) (vCons (liftP (p1 dNeg (pC (.int 1)))) (vCons (liftP (pC (.bl true))) (vCons (liftP (p1 dNeg (pC (.int 5)))) vNil)))))) (eCall f (aS 0 (aV (liftP (pC (.int 4))) aNil)))) (.par (.lst [.int a, .int b, .int c]) :: tl) = .ok v (.par (.lst [.int a', .int b', .int c']) :: tl) := fun v hv => by
    simp only [eIx, eOfF, fLst, vCons, vNil, liftP, p1, pC, RP.bind, RP.of, dNeg, okF, fl_int, fl_bl, if_true, Res.bind, Res.of, MO.toD, he, l4, dIx, hv, List.length_cons, List.length_nil, Nat.zero_add, Nat.reduceAdd]
  have hr : r = 0 ∨ r = 1 ∨ r = 2 ∨ r = 3 := by omega
  rcases hr with rfl | rfl | rfl | rfl
  · exact ⟨.int 0, a', b', c', .inl ⟨0, rfl, by decide⟩, .inl ⟨0, rfl, by decide⟩, rfl, st _ rfl⟩
  · exact ⟨.int (-1), a', b', c', .inl ⟨-1, rfl, by decide⟩, .inl ⟨-1, rfl, by decide⟩, rfl, st _ rfl⟩
  · exact ⟨.bl true, a', b', c', .inr ⟨true, rfl⟩, .inr ⟨true, rfl⟩, rfl, st _ rfl⟩
  · exact ⟨.int (-5), a', b', c', .inl ⟨-5, rfl, by decide⟩, .inl ⟨-5, rfl, by decide⟩, rfl, st _ rfl⟩
/-- a word and what is told of it -/
theorem r_exc {ds : List D} {x : Exc} (h : m_check_periods [.imm (.lst ds)] = .exc x [.imm (.lst ds)]) : m_chain_phases [.imm (.lst ds)] = .exc x [.imm (.lst ds)] := r_chain_exc h
/-- a list and the answer due -/
def Due (p : List D × D) : Prop := m__law_chain [.imm (.lst p.1)] = .ok (.imm p.2) [.imm (.lst p.1)] ∧ dNe p.2 p.2 = some (.bl false)
theorem ne_bad (w : Str) (h : PyData.strOk w = true) : dNe (badD w) (badD w) = some (.bl false) := dNe_refl (by
  have e : PyData.strOk "BadShare" = true := by decide +kernel
  simp [badD, okD, okDL, h, e])
theorem ne_many (w : Str) (h : PyData.strOk w = true) : dNe (manyD w) (manyD w) = some (.bl false) := dNe_refl (by
  have e : PyData.strOk "TooMany" = true := by decide +kernel
  simp [manyD, okD, okDL, h, e])
theorem due_none : Due ([], badD "houses") := ⟨r_bad (r_chain_exc cp_none), ne_bad _ (by decide +kernel)⟩
theorem due_notP {ds : List D} (h : ∀ d ∈ ds, okN 1000000 d) (hl : ds.length ≤ 12) (hb : ∃ d ∈ ds, notP d) : Due (ds, badD "periods") := ⟨r_bad (r_chain_exc (cp_notP h hl hb)), ne_bad _ (by decide +kernel)⟩
theorem due_bad {ns : List Int} (h : ∀ n ∈ ns, intOk n) (hl : ns.length ≤ 12) {x y : Int} (hx : x ∈ ns) (hy : y ∈ ns) (hxy : x < y) (nd : ¬ x ∣ y) : Due (ns.map .int, badD "periods") :=
  ⟨r_bad (r_chain_exc (cp_bad h hl (fun z => by rw [z] at hx; simp at hx) (bad_adj hx hy hxy nd))), ne_bad _ (by decide +kernel)⟩
theorem due_frac {ds : List D} (h : ∃ d ∈ ds, ∃ i, d = .int i ∧ 1000000 < i) (ho : ∀ d ∈ ds, (∃ i, d = .int i) ∨ ∃ b, d = .bl b) : Due (ds, manyD "fraction") := ⟨r_many (r_chain_exc (cp_frac h ho)), ne_many _ (by decide +kernel)⟩
theorem due_houses {ds : List D} (h : ∀ d ∈ ds, okN 1000000 d) (hl : 12 < ds.length) : Due (ds, manyD "houses") := ⟨r_many (r_chain_exc (cp_houses h hl)), ne_many _ (by decide +kernel)⟩
/-- one pair asked, the question abstract -/
theorem ask_step {h : En → RD} {s0 s1 s2 s3 s4 s5 s6 : Sl} {x : List D} {r : D} (h1 : h [.imm (.lst x)] = .ok (.imm r) [.imm (.lst x)]) (h2 : dNe r r = some (.bl false)) :
    sIf (liftT (qB (p2 dNe (pCall h (pCons (p2 dIx (pVar 7) (pC (.int 0))) pNil)) (p2 dIx (pVar 7) (pC (.int 1)))))) (sRet (liftP (pC (.bl false)))) sNext [s0, s1, s2, s3, s4, s5, s6, .imm (.lst [.lst x, r])] = .next [s0, s1, s2, s3, s4, s5, s6, .imm (.lst [.lst x, r])] := by
  have i0 : dIx (.lst [.lst x, r]) (.int 0) = some (.lst x) := rfl
  have i1 : dIx (.lst [.lst x, r]) (.int 1) = some r := rfl
  refine (if_f ?_).trans rfl
  simp only [liftT, qB, p2, pCall, pCons, pNil, pVar, pC, RP.bind, RP.of, i0, i1, List.map_cons, List.map_nil, h1, h2, List.getElem?_cons_zero, List.getElem?_cons_succ]
theorem ask_all {s0 s1 s2 s3 s4 s5 s6 : Sl} {ps : List (List D × D)} (hp : ∀ p ∈ ps, Due p) : ∃ s7 : Sl, forL (gN 7) (sIf (liftT (qB (p2 dNe (pCall m__law_chain (pCons (p2 dIx (pVar 7) (pC (.int 0))) pNil)) (p2 dIx (pVar 7) (pC (.int 1)))))) (sRet (liftP (pC (.bl false)))) sNext) (ps.map fun p => .lst [.lst p.1, p.2]) [s0, s1, s2, s3, s4, s5, s6, .none] = .next [s0, s1, s2, s3, s4, s5, s6, s7] := by
  obtain ⟨e', h1, s7, h2⟩ := forL_rel (tg := gN 7) (body := sIf (liftT (qB (p2 dNe (pCall m__law_chain (pCons (p2 dIx (pVar 7) (pC (.int 0))) pNil)) (p2 dIx (pVar 7) (pC (.int 1)))))) (sRet (liftP (pC (.bl false)))) sNext) (ds := ps.map fun p => .lst [.lst p.1, p.2])
    (fun _ e => ∃ s7 : Sl, e = [s0, s1, s2, s3, s4, s5, s6, s7]) (e := [s0, s1, s2, s3, s4, s5, s6, .none]) ⟨.none, rfl⟩ (fun i d e hd ⟨s7, he⟩ => by
      subst he
      obtain ⟨p, hm, rfl⟩ := List.mem_map.mp (List.mem_of_getElem? hd)
      obtain ⟨q1, q2⟩ := hp p hm
      exact ⟨_, _, rfl, .inl (ask_step q1 q2), _, rfl⟩)
  subst h2
  exact ⟨s7, h1⟩
end Lw
end

section
set_option Elab.async false
set_option linter.all false
set_option maxRecDepth 100000
set_option maxHeartbeats 4000000
set_option autoImplicit false
open PySem L2 Cv
namespace Lw
theorem vc_ok {m : En → Res D} {n : En → Res (List D)} {e e1 e2 : En} {x : D} {xs : List D} (h1 : m e = .ok x e1) (h2 : n e1 = .ok xs e2) : vCons m n e = .ok (x :: xs) e2 := by
  simp only [vCons, h1, h2, Res.bind]
theorem fl_ok {m : En → Res (List D)} {e e1 : En} {ds : List D} (h : m e = .ok ds e1) (hl : ds.length ≤ sizeLine) : fLst m e = .ok (.lst ds) e1 := by
  simp only [fLst, h, Res.bind, if_pos hl]
theorem el_ok {A : En → Res D} {e e1 : En} {x : D} {w1 w2 : Str} (h : A e = .ok x e1) : (eOfF (fLst (vCons A (vCons (eTup (vCons (liftP (pC (.str w1))) (vCons (liftP (pC (.str w2))) (vCons (liftP (pC (.bl false))) vNil)))) vNil)))) e = .ok (.lst [x, .tup [.str w1, .str w2, .bl false]]) e1 := by
  have l2 : (2 : Nat) ≤ sizeLine := le_line (by decide)
  have l3 : (3 : Nat) ≤ sizeLine := le_line (by decide)
  simp only [eOfF, fLst, vCons, vNil, eTup, liftP, pC, okF, fl_str, fl_bl, if_true, h, Res.bind, MO.toD, l2, l3, List.length_cons, List.length_nil, Nat.zero_add, Nat.reduceAdd]
theorem ofk_ok {k : En → RP (List D)} {e : En} {ds : List D} (h : k e = .ok ds) : (eOfF (fOfK k)) e = .ok (.lst ds) e := by
  simp only [eOfF, fOfK_ok h, Res.bind, MO.toD]
theorem cat_ok {k l : En → RP (List D)} {e : En} {xs ys : List D} (h1 : k e = .ok xs) (h2 : l e = .ok ys) (hl : xs.length + ys.length ≤ sizeLine) : kCat k l e = .ok (xs ++ ys) := by
  simp only [kCat, h1, h2, RP.bind, if_pos hl]
theorem one_ok {m : En → RP D} {e : En} {i : Int} (h : m e = .ok (.int i)) : kLst (pCons m pNil) e = .ok [.int i] := by
  have l1 : ([D.int i].all flat = true ∧ [D.int i].length ≤ sizeLine) := ⟨rfl, le_line (by simp)⟩
  simp only [kLst, pCons, pNil, h, RP.bind, if_pos l1]
theorem fmix {f g : En → RD} (hg : Mxr g) {a b c a1 b1 c1 : Int} {m : En → Res D} {tl : En} {ns : List Int} (hl : ns.length ≤ 1000) (h : m (.par (.lst [.int a, .int b, .int c]) :: tl) = .ok (.lst (ns.map .int)) (.par (.lst [.int a1, .int b1, .int c1]) :: tl)) :
    ∃ (ms : List Int) (a' b' c' : Int), ms.Perm ns ∧ fCall g (aS 0 (aV m aNil)) (.par (.lst [.int a, .int b, .int c]) :: tl) = .ok (.lst (ms.map .int)) (.par (.lst [.int a', .int b', .int c']) :: tl) := by
  obtain ⟨ds, a', b', c', h1, h2⟩ := hg a1 b1 c1 (ns.map .int) (by rw [List.length_map]; omega)
  obtain ⟨ms, h3, rfl⟩ := perm_ints h1
  refine ⟨ms, a', b', c', h3, ?_⟩
  simp only [fCall, aS, aV, aNil, h, Res.bind, slotsOf, argSl, Option.map, h2, putB, Sl.put, List.nodup_cons, List.not_mem_nil, not_false_eq_true, List.nodup_nil, and_self, if_true, List.getElem?_cons_zero, List.set_cons_zero]
/-- the pair that no chain holds -/
theorem ref_pair {f g : En → RD} (hf : Drw f) (hg : Mxr g) (a b c : Int) {N J S : Sl} : ∃ (ba r : Int) (u v : Int) (a' b' c' : Int), 2 ≤ ba ∧ ba ≤ 9 ∧ 1 ≤ r ∧ r ≤ 5 ∧ [u, v].Perm [ba, ba * r + 1] ∧
    sSeq (sAsg (e2 dAdd (liftP (pC (.int 2))) (eCall f (aS 0 (aV (liftP (pC (.int 8))) aNil)))) (gN 4)) (sAsgF (fCall g (aS 0 (aV (eOfF (fLst (vCons (eVar 4) (vCons (e2 dAdd (e2 dMul (eVar 4) (e2 dAdd (liftP (pC (.int 1))) (eCall f (aS 0 (aV (liftP (pC (.int 5))) aNil))))) (liftP (pC (.int 1)))) vNil)))) aNil))) 5) [.par (.lst [.int a, .int b, .int c]), N, J, S, .none, .none, .none, .none] =
      .next [.par (.lst [.int a', .int b', .int c']), N, J, S, .imm (.int ba), .own (.lst [.int u, .int v]), .none, .none] := by
  obtain ⟨r1, a1, b1, c1, p0, p1, h1⟩ := d_draw hf 8 (by decide) (by decide) a b c [N, J, S, .none, .none, .none, .none]
  obtain ⟨r2, a2, b2, c2, q0, q1, h2⟩ := d_draw hf 5 (by decide) (by decide) a1 b1 c1 [N, J, S, .imm (.int (2 + r1)), .none, .none, .none]
  have hm : dMul (.int (2 + r1)) (.int (1 + r2)) = some (.int ((2 + r1) * (1 + r2))) := dMul_l (by omega) (by omega)
  have l2 : (2 : Nat) ≤ sizeLine := le_line (by decide)
  obtain ⟨ms, a3, b3, c3, hp, h3⟩ := fmix (f := f) hg (a := a1) (b := b1) (c := c1) (a1 := a2) (b1 := b2) (c1 := c2) (m := eOfF (fLst (vCons (eVar 4) (vCons (e2 dAdd (e2 dMul (eVar 4) (e2 dAdd (liftP (pC (.int 1))) (eCall f (aS 0 (aV (liftP (pC (.int 5))) aNil))))) (liftP (pC (.int 1)))) vNil)))) (tl := [N, J, S, .imm (.int (2 + r1)), .none, .none, .none]) (ns := [2 + r1, (2 + r1) * (1 + r2) + 1]) (by simp)
    (by simp only [eOfF, fLst, vCons, vNil, eVar, Cv.e2, liftP, pC, okF, fl_int, if_true, h2, Res.bind, MO.toD, dAdd, hm, l2, List.length_cons, List.length_nil, Nat.zero_add, Nat.reduceAdd, List.map_cons, List.map_nil, List.getElem?_cons_zero, List.getElem?_cons_succ])
  have ml := hp.length_eq
  match ms, ml with
  | [u, v], _ =>
    refine ⟨2 + r1, 1 + r2, u, v, a3, b3, c3, by omega, by omega, by omega, by omega, hp, (seq_next (asg_ok (d := .int (2 + r1)) (e1 := [.par (.lst [.int a1, .int b1, .int c1]), N, J, S, .none, .none, .none, .none]) ?_ rfl)).trans ((asgF_ok h3 (by simp)).trans rfl)⟩
    simp only [Cv.e2, liftP, pC, okF, fl_int, if_true, h1, Res.bind, dAdd]
theorem pair_nd {ba r : Int} (h : 2 ≤ ba) : ¬ ba ∣ ba * r + 1 := fun h2 => by
  have h3 : ba ∣ 1 := (Int.dvd_add_right (Int.dvd_mul_right ba r)).mp h2
  have := Int.le_of_dvd (by decide) h3
  omega
/-- the seven pairs -/
def seven (sp : List D) (d0 : D) (u v : Int) : List (List D × D) := [([], badD "houses"), (sp, badD "periods"), ([.int u, .int v], badD "periods"), ([.int u, .int v] ++ [.int u], badD "periods"), ([.int u, .int v] ++ [.int 1000001], manyD "fraction"), ((List.replicate 13 [D.int 1000001]).flatten, manyD "fraction"), ((List.replicate 13 [d0]).flatten, manyD "houses")]
theorem seven_due {sp r : List D} {d0 : D} (hsp : sp = d0 :: r) (h1 : ∀ d ∈ sp, okN 1000000 d) (h2 : sp.length ≤ 12) (h3 : ∃ d ∈ sp, notP d) {ba q u v : Int} (b0 : 2 ≤ ba) (b1 : ba ≤ 9) (q0 : 1 ≤ q) (q1 : q ≤ 5) (hp : [u, v].Perm [ba, ba * q + 1]) : ∀ p ∈ seven sp d0 u v, Due p := by
  have m0 : ba * 1 ≤ ba * q := Int.mul_le_mul_of_nonneg_left q0 (by omega)
  have m1 : ba * q ≤ 9 * 5 := Int.mul_le_mul b1 q1 (by omega) (by omega)
  have ok : ∀ n ∈ [u, v], intOk n := fun n hn => by
    rcases List.mem_cons.mp (hp.mem_iff.mp hn) with z | z
    · subst z; unfold intOk; omega
    · rw [List.mem_singleton.mp z]; unfold intOk; omega
  have x1 : ba ∈ [u, v] := hp.mem_iff.mpr (by simp)
  have x2 : ba * q + 1 ∈ [u, v] := hp.mem_iff.mpr (by simp)
  have nd := pair_nd (r := q) b0
  have d3 := due_bad ok (by simp) x1 x2 (by omega) nd
  have d4 := due_bad (ns := [u, v] ++ [u]) (fun n hn => by
    rcases List.mem_append.mp hn with z | z
    · exact ok n z
    · rw [List.mem_singleton.mp z]; exact ok u (by simp)) (by simp) (List.mem_append_left _ x1) (List.mem_append_left _ x2) (by omega) nd
  have d5 : Due ([.int u, .int v] ++ [.int 1000001], manyD "fraction") := due_frac ⟨.int 1000001, by simp, 1000001, rfl, by decide⟩ fun d hd => .inl (by
    rcases List.mem_append.mp hd with z | z
    · rcases List.mem_cons.mp z with z | z
      · exact ⟨u, z⟩
      · exact ⟨v, List.mem_singleton.mp z⟩
    · exact ⟨_, List.mem_singleton.mp z⟩)
  have memr : ∀ (x d : D), d ∈ (List.replicate 13 [x]).flatten → d = x := fun x d hd => by
    obtain ⟨l, hl, hd⟩ := List.mem_flatten.mp hd
    rw [List.eq_of_mem_replicate hl] at hd
    exact List.mem_singleton.mp hd
  have d6 : Due ((List.replicate 13 [D.int 1000001]).flatten, manyD "fraction") := due_frac ⟨.int 1000001, List.mem_flatten.mpr ⟨[.int 1000001], by simp, by simp⟩, 1000001, rfl, by decide⟩ fun d hd => .inl ⟨_, memr _ d hd⟩
  have d7 : Due ((List.replicate 13 [d0]).flatten, manyD "houses") := due_houses (fun d hd => by rw [memr _ d hd]; exact h1 d0 (by rw [hsp]; simp)) (by simp)
  intro p hp'
  unfold seven at hp'
  rcases List.mem_cons.mp hp' with rfl | hp'
  · exact due_none
  rcases List.mem_cons.mp hp' with rfl | hp'
  · exact due_notP h1 h2 h3
  rcases List.mem_cons.mp hp' with rfl | hp'
  · exact d3
  rcases List.mem_cons.mp hp' with rfl | hp'
  · exact d4
  rcases List.mem_cons.mp hp' with rfl | hp'
  · exact d5
  rcases List.mem_cons.mp hp' with rfl | hp'
  · exact d6
  rw [List.mem_singleton.mp hp']
  exact d7
theorem add_mil : ∀ e : En, (p2 dAdd (p2 dPow (pC (.int 10)) (pC (.int 6))) (pC (.int 1))) e = .ok (.int 1000001) := fun e => by
  simp only [p2, pC, RP.bind, RP.of, dPow_10_6, dAdd]
  rfl
/-- the seven pairs as they are built -/
theorem ref_list {P N J B : Sl} {sp r : List D} {d0 : D} (hsp : sp = d0 :: r) {u v : Int} :
    (sAsgF (fLst (vCons (eOfF (fLst (vCons (eOfF (fLst vNil)) (vCons (eTup (vCons (liftP (pC (.str "BadShare"))) (vCons (liftP (pC (.str "houses"))) (vCons (liftP (pC (.bl false))) vNil)))) vNil)))) (vCons (eOfF (fLst (vCons (eVar 3) (vCons (eTup (vCons (liftP (pC (.str "BadShare"))) (vCons (liftP (pC (.str "periods"))) (vCons (liftP (pC (.bl false))) vNil)))) vNil)))) (vCons (eOfF (fLst (vCons (eVar 5) (vCons (eTup (vCons (liftP (pC (.str "BadShare"))) (vCons (liftP (pC (.str "periods"))) (vCons (liftP (pC (.bl false))) vNil)))) vNil)))) (vCons (eOfF (fLst (vCons (eOfF (fOfK (kCat (kVar 5) (kLst (pCons (p2 dIx (pVar 5) (pC (.int 0))) pNil))))) (vCons (eTup (vCons (liftP (pC (.str "BadShare"))) (vCons (liftP (pC (.str "periods"))) (vCons (liftP (pC (.bl false))) vNil)))) vNil)))) (vCons (eOfF (fLst (vCons (eOfF (fOfK (kCat (kVar 5) (kLst (pCons (p2 dAdd (p2 dPow (pC (.int 10)) (pC (.int 6))) (pC (.int 1))) pNil))))) (vCons (eTup (vCons (liftP (pC (.str "TooMany"))) (vCons (liftP (pC (.str "fraction"))) (vCons (liftP (pC (.bl false))) vNil)))) vNil)))) (vCons (eOfF (fLst (vCons (eOfF (fOfK (kRep (kLst (pCons (p2 dAdd (p2 dPow (pC (.int 10)) (pC (.int 6))) (pC (.int 1))) pNil)) (pC (.int 13))))) (vCons (eTup (vCons (liftP (pC (.str "TooMany"))) (vCons (liftP (pC (.str "fraction"))) (vCons (liftP (pC (.bl false))) vNil)))) vNil)))) (vCons (eOfF (fLst (vCons (eOfF (fOfK (kRep (kCut (kVar 3) oNo (oI (pC (.int 1)))) (pC (.int 13))))) (vCons (eTup (vCons (liftP (pC (.str "TooMany"))) (vCons (liftP (pC (.str "houses"))) (vCons (liftP (pC (.bl false))) vNil)))) vNil)))) vNil)))))))) 6) [P, N, J, .own (.lst sp), B, .own (.lst [.int u, .int v]), .none, .none] =
      .next [P, N, J, .imm (.lst sp), B, .imm (.lst [.int u, .int v]), .own (.lst ((seven sp d0 u v).map fun p => .lst [.lst p.1, p.2])), .none] := by
  generalize hE : [P, N, J, .imm (.lst sp), B, .imm (.lst [.int u, .int v]), .none, .none] = E
  have k5 : kVar 5 E = .ok [.int u, .int v] := by subst hE; rfl
  have i5 : (p2 dIx (pVar 5) (pC (.int 0))) E = .ok (.int u) := by subst hE; rfl
  have k3 : (kCut (kVar 3) oNo (oI (pC (.int 1)))) E = .ok [d0] := by
    have : kVar 3 E = .ok sp := by subst hE; rfl
    simp only [kCut, this, RP.bind, oNo, oI, pC]
    rw [hsp, cut_one]
  have l4 : ∀ x : D, [D.int u, .int v].length + [x].length ≤ sizeLine := fun x => le_line (by simp)
  have a1 : (eOfF (fLst vNil)) [P, N, J, .own (.lst sp), B, .own (.lst [.int u, .int v]), .none, .none] = .ok (.lst []) [P, N, J, .own (.lst sp), B, .own (.lst [.int u, .int v]), .none, .none] := by
    have l0 : (0 : Nat) ≤ sizeLine := le_line (by decide)
    simp only [eOfF, fLst, vNil, Res.bind, List.length_nil, l0, if_true, MO.toD]
  have a2 : eVar 3 [P, N, J, .own (.lst sp), B, .own (.lst [.int u, .int v]), .none, .none] = .ok (.lst sp) [P, N, J, .imm (.lst sp), B, .own (.lst [.int u, .int v]), .none, .none] := rfl
  have a3 : eVar 5 [P, N, J, .imm (.lst sp), B, .own (.lst [.int u, .int v]), .none, .none] = .ok (.lst [.int u, .int v]) E := by subst hE; rfl
  have a4 := ofk_ok (cat_ok k5 (one_ok i5) (l4 _))
  have a5 := ofk_ok (cat_ok k5 (one_ok (add_mil E)) (l4 _))
  have a6 := ofk_ok (kRep_ok (one_ok (add_mil E)) (b := pC (.int 13)) (k := 13) (n := 13) rfl (by decide) (by decide) rfl (by simp))
  have a7 := ofk_ok (kRep_ok k3 (b := pC (.int 13)) (k := 13) (n := 13) rfl (by decide) (by decide) rfl (by simp))
  have big := fl_ok (vc_ok (el_ok (w1 := "BadShare") (w2 := "houses") a1) (vc_ok (el_ok (w1 := "BadShare") (w2 := "periods") a2) (vc_ok (el_ok (w1 := "BadShare") (w2 := "periods") a3) (vc_ok (el_ok (w1 := "BadShare") (w2 := "periods") a4) (vc_ok (el_ok (w1 := "TooMany") (w2 := "fraction") a5) (vc_ok (el_ok (w1 := "TooMany") (w2 := "fraction") a6) (vc_ok (el_ok (w1 := "TooMany") (w2 := "houses") a7) (show vNil E = .ok [] E from rfl)))))))) (le_line (by simp))
  refine (asgF_ok big ?_).trans ?_
  · subst hE; exact Nat.lt_of_lt_of_le (by decide) (Nat.le_refl 8)
  · subst hE; rfl
end Lw
end

section
set_option Elab.async false
set_option linter.all false
set_option maxRecDepth 100000
set_option maxHeartbeats 4000000
set_option autoImplicit false
open PySem L2 Cv
namespace Lw
theorem seq_two {a b c : En → Fl} {e e1 : En} (h : sSeq a b e = .next e1) : sSeq a (sSeq b c) e = c e1 := by
  unfold sSeq at h ⊢
  cases q : a e with
  | next e2 => rw [q] at h; dsimp only at h ⊢; rw [h]
  | _ => rw [q] at h; cases h
theorem set_mem {ds : List D} {j : Nat} {v d : D} (h : d ∈ ds.set j v) : d = v ∨ d ∈ ds := by
  rcases List.mem_or_eq_of_mem_set h with z | z
  · exact .inr z
  · exact .inl z
theorem r_refused (a b c : Int) {ns : List Int} (p : Pro ns) : ∃ (a' b' c' : Int), m__law_chain_refused [.par (.lst [.int a, .int b, .int c]), .imm (.lst (ns.map .int))] = .ok (.imm (.bl true)) [.par (.lst [.int a', .int b', .int c']), .imm (.lst (ns.map .int))] := by
  have lp : 0 < ns.length := List.length_pos_iff.mpr p.ne
  have hl := p.len
  have ll := len_ints ns
  obtain ⟨w, a1, b1, c1, w0, w1, h1⟩ := e_draw drw (a := a) (b := b) (c := c) (s := .par (.lst [.int a, .int b, .int c])) (m := liftP (pN dLen (pCons (pVar 1) pNil))) (many := (ns.length : Int)) (rest := [.imm (.lst (ns.map .int)), .none, .none, .none, .none, .none, .none]) (by omega) (by omega) rfl
    (by generalize (ns.length : Int) = z at *; simp only [liftP, pN, pCons, pNil, pVar, RP.bind, RP.of, MO.toD, ll, okF, fl_int, if_true, List.getElem?_cons_zero, List.getElem?_cons_succ])
  obtain ⟨j, rfl⟩ := Int.eq_ofNat_of_zero_le w0
  have hj : j < ns.length := by omega
  obtain ⟨v, a2, b2, c2, v1, v2, v3, h2⟩ := ref_v drw a1 b1 c1 [.imm (.lst (ns.map .int)), .imm (.int j), .own (.lst (ns.map .int)), .none, .none, .none, .none]
  obtain ⟨ba, r, x, y, a3, b3, c3, g1, g2, g3, g4, g5, h3⟩ := ref_pair drw mxr a2 b2 c2 (N := .imm (.lst (ns.map .int))) (J := .imm (.int j)) (S := .own (.lst ((ns.map .int).set j v)))
  have spl : ((ns.map D.int).set j v).length = ns.length := by rw [List.length_set, List.length_map]
  have hok : ∀ d ∈ (ns.map D.int).set j v, okN 1000000 d := fun d hd => by
    rcases set_mem hd with z | z
    · rw [z]; exact v2
    · obtain ⟨n, hn, rfl⟩ := List.mem_map.mp z
      exact .inl ⟨n, rfl, (p.ok n hn).2⟩
  have hnp : ∃ d ∈ (ns.map D.int).set j v, notP d := ⟨v, List.mem_of_getElem? (i := j) (by rw [List.getElem?_set_self (by rw [List.length_map]; exact hj)]), v1⟩
  have hix : ixN (ns.map D.int).length (j : Int) = some j := ixN_of rfl (by rw [List.length_map]; exact hj)
  generalize hsp : (ns.map D.int).set j v = sp at *
  match sp, spl, hsp with
  | [], spl, _ => simp at spl; omega
  | d0 :: rs, spl, hsp =>
    have h4 := ref_list (P := .par (.lst [.int a3, .int b3, .int c3])) (N := .imm (.lst (ns.map .int))) (J := .imm (.int j)) (B := .imm (.int ba)) (sp := d0 :: rs) (r := rs) (d0 := d0) rfl (u := x) (v := y)
    have due := seven_due (sp := d0 :: rs) (r := rs) (d0 := d0) rfl hok (by rw [spl]; exact hl) hnp g1 g2 g3 g4 g5
    obtain ⟨s7, h5⟩ := ask_all (s0 := .par (.lst [.int a3, .int b3, .int c3])) (s1 := .imm (.lst (ns.map .int))) (s2 := .imm (.int j)) (s3 := .imm (.lst (d0 :: rs))) (s4 := .imm (.int ba)) (s5 := .imm (.lst [.int x, .int y])) (s6 := .imm (.lst ((seven (d0 :: rs) d0 x y).map fun p => .lst [.lst p.1, p.2]))) due
    generalize (seven (d0 :: rs) d0 x y).map (fun p => D.lst [.lst p.1, p.2]) = L at *
    refine ⟨a3, b3, c3, ?_⟩
    generalize (j : Int) = w at *
    have st : b__law_chain_refused [.par (.lst [.int a, .int b, .int c]), .imm (.lst (ns.map .int)), .none, .none, .none, .none, .none, .none] = .ret (.imm (.bl true)) [.par (.lst [.int a3, .int b3, .int c3]), .imm (.lst (ns.map .int)), .imm (.int w), .imm (.lst (d0 :: rs)), .imm (.int ba), .imm (.lst [.int x, .int y]), .imm (.lst L), s7] := by
      refine (seq_next (asg_ok h1 rfl)).trans ((seq_next (e1 := [.par (.lst [.int a1, .int b1, .int c1]), .imm (.lst (ns.map .int)), .imm (.int w), .own (.lst (ns.map .int)), .none, .none, .none, .none]) ?_).trans ((seq_next (e1 := [.par (.lst [.int a2, .int b2, .int c2]), .imm (.lst (ns.map .int)), .imm (.int w), .own (.lst (d0 :: rs)), .none, .none, .none, .none]) ?_).trans ((seq_two h3).trans ((seq_next h4).trans ((seq_next ((for_ok (e1 := [.par (.lst [.int a3, .int b3, .int c3]), .imm (.lst (ns.map .int)), .imm (.int w), .imm (.lst (d0 :: rs)), .imm (.int ba), .imm (.lst [.int x, .int y]), .imm (.lst L), .none]) (ds := L) rfl).trans h5)).trans ?_)))))
      · have fl : (ns.map D.int).all flat = true := flat_ints ns
        simp [mDef, outsOf, sSeq, sIf, sDrop, sRet, sRetN, sRetF, sRetO, sAsg, sAsgF, sAsgR, sPar, sSetIx, sAugIx, sAug, sRaise, sNext, sBrk, sCont, sFor, sSpoilA, sSpoilP, sTry, sHand, Fl.clr, suRet, suRetT, xFld, xC, liftP, liftT, okF, Res.bind, RP.bind, Res.of, RP.of, pVar, pC, p1, p2, pN, pAnd, pOr, pIf, pNil, pCons, pTup, pLst, pCall, qB, qAnd, qOr, qNot, dNot, eVar, Cv.e1, Cv.e2, eAnd, eOr, eIf, tBm, tAndm, tOrm, tNotm, vNil, vCons, aNil, aV, aS, eTup, fLst, eOfF, cOfF, cOfE, cVar, rNil, rE, rF, td_lst, mf_lst, dSub, dAdd, dFdiv, dMod, dNeg, dLt, dLe, dGt, dGe, dIsN, dNotN, dInt, dAbs, dMin2, dMax2, dLen, tyName, dIsi, dIx, eIx, cIx, cS, cL, sLen, sSum, lAll, kVar, kLst, kRep, kCat, kCut, fOfK, fCut, oNo, oI, fListP, itemsD, Sl.mo, Sl.put, ownL, setL, eApp, ePop, ePopAt, gN, gT, gsNil, gsCons, iR1, iR2, iLst, iTupl, eCall, fCall, slotsOf, argSl, putB, wCallT, eOfW, fOfW, unfre, qVar, qIx, freAt, lstOf, fl_non, fl_bl, fl_int, fl_str, fl_lst, fl_tup, fl_rls, tYesm, fl, le_line]
      · simp only [sSetIx, h2, ownL, setL, pVar, hix, Sl.put, MO.toD, hsp, List.getElem?_cons_zero, List.getElem?_cons_succ, List.set_cons_succ, List.set_cons_zero]
      · rfl
    exact mDef_go (np := 2) (n := 8) (b := b__law_chain_refused) (as := [.par (.lst [.int a, .int b, .int c]), .imm (.lst (ns.map .int))]) (e := [.par (.lst [.int a, .int b, .int c]), .imm (.lst (ns.map .int)), .none, .none, .none, .none, .none, .none]) rfl rfl st
end Lw
end

section
set_option Elab.async false
set_option linter.all false
set_option maxRecDepth 100000
set_option maxHeartbeats 4000000
set_option autoImplicit false
open PySem L2 Cv
namespace Lw
/-- a call on a purse made for it, all abstract -/
theorem w_call {mf mp : En → RD} {R X : D} {a b c a' b' c' t : Int} {r : Ret} {e : En} {mR mT mX : En → Res D} (hR : mR e = .ok R e) (hT : mT e = .ok (.int t) e) (hX : mX e = .ok X e)
    (h1 : mp [.imm R, .imm (.int t)] = .ok (.own (.lst [.int a, .int b, .int c])) [.imm R, .imm (.int t)]) (h2 : mf [.par (.lst [.int a, .int b, .int c]), .imm X] = .ok r [.par (.lst [.int a', .int b', .int c']), .imm X]) :
    wCallT mf (fCall mp (aV mR (aV mT aNil))) (aV mX aNil) e = .ok r e := by
  simp only [wCallT, fCall, aV, aNil, hR, hT, hX, Res.bind, slotsOf, argSl, Option.map, List.nodup_nil, if_true, h1, h2, putB]
theorem el_periods {ns : List Int} (hn : ns.length ≤ 63) (t : Int) (ht : 0 ≤ t) : ∃ qs : List Int, Pro qs ∧ (eOfW (wCallT m__law_periods (fCall m__law_purse (aV (eVar 0) (aV (eVar 3) aNil))) (aV (eVar 3) aNil))) [.imm (.rls (ns.map .int)), .none, .none, .imm (.int t)] = .ok (.lst (qs.map .int)) [.imm (.rls (ns.map .int)), .none, .none, .imm (.int t)] := by
  obtain ⟨a, b, c, h1⟩ := r_purse ns hn t ht
  obtain ⟨qs, a', b', c', hp, h2⟩ := r_periods a b c t
  refine ⟨qs, hp, ?_⟩
  have := w_call (e := [.imm (.rls (ns.map .int)), .none, .none, .imm (.int t)]) (mR := eVar 0) (mT := eVar 3) (mX := eVar 3) rfl rfl rfl h1 h2
  unfold eOfW
  rw [this]
  rfl
def pick (A B C : D) : D → D
  | .int i => if i = 0 then A else if i = 1 then B else C
  | _ => C
theorem pick_all (A B C : D) : (rng 0 3).map (pick A B C) = [A, B, C] := by
  simp [rng, pick, List.range_succ]
theorem ask_right {h : En → RD} {s0 s1 s3 : Sl} {x : D} (h1 : h [.imm x] = .ok (.imm (.bl true)) [.imm x]) : sIf (liftT (qNot (qB (pCall h (pCons (pVar 2) pNil))))) (sRet (liftP (pC (.bl false)))) sNext [s0, s1, .imm x, s3] = .next [s0, s1, .imm x, s3] := by
  refine (if_f ?_).trans rfl
  simp only [liftT, qNot, qB, pCall, pCons, pNil, pVar, RP.bind, List.map_cons, List.map_nil, h1, Bool.not_true, List.getElem?_cons_zero, List.getElem?_cons_succ]
theorem ask_rights {s0 s1 s3 : Sl} {ps : List (List Int)} (hp : ∀ p ∈ ps, Pro p) : ∃ s2 : Sl, forL (gN 2) (sIf (liftT (qNot (qB (pCall m__law_chain_right (pCons (pVar 2) pNil))))) (sRet (liftP (pC (.bl false)))) sNext) (ps.map fun p => .lst (p.map .int)) [s0, s1, .none, s3] = .next [s0, s1, s2, s3] := by
  obtain ⟨e', h1, s2, h2⟩ := forL_rel (tg := gN 2) (body := sIf (liftT (qNot (qB (pCall m__law_chain_right (pCons (pVar 2) pNil))))) (sRet (liftP (pC (.bl false)))) sNext) (ds := ps.map fun p => .lst (p.map .int))
    (fun _ e => ∃ s2 : Sl, e = [s0, s1, s2, s3]) (e := [s0, s1, .none, s3]) ⟨.none, rfl⟩ (fun i d e hd ⟨s2, he⟩ => by
      subst he
      obtain ⟨p, hm, rfl⟩ := List.mem_map.mp (List.mem_of_getElem? hd)
      exact ⟨_, _, rfl, .inl (ask_right (r_right (hp p hm))), _, rfl⟩)
  subst h2
  exact ⟨s2, h1⟩
theorem pro_mil : Pro [1000000] where
  ok := fun n hn => by rw [List.mem_singleton.mp hn]; exact ⟨by decide, by decide⟩
  ne := by simp
  len := by simp
  dv := fun x hx y hy _ => by rw [List.mem_singleton.mp hx, List.mem_singleton.mp hy]; exact Int.dvd_refl _
theorem law_true : ∀ ns : List Int, ns.length ≤ 63 → ∃ o, m_law [.imm (.rls (ns.map .int))] = .ok (.imm (.bl true)) o := by
  intro ns hn
  obtain ⟨q0, p0, h0⟩ := el_periods hn 0 (by decide)
  obtain ⟨q1, p1, h1⟩ := el_periods hn 1 (by decide)
  obtain ⟨q2, p2', h2⟩ := el_periods hn 2 (by decide)
  obtain ⟨a, b, c, h3⟩ := r_purse ns hn 3 (by decide)
  obtain ⟨a', b', c', h4⟩ := r_refused a b c p1
  have hc := fLc_map (vs := [3]) (src := iR1 (vCons (liftP (pC (.int 3))) vNil)) (tg := gN 3) (test := tYesm) (elt := eOfW (wCallT m__law_periods (fCall m__law_purse (aV (eVar 0) (aV (eVar 3) aNil))) (aV (eVar 3) aNil))) (e := [.imm (.rls (ns.map .int)), .none, .none, .none]) (e1 := [.imm (.rls (ns.map .int)), .none, .none, .none]) (ds := rng 0 3)
    (pick (.lst (q0.map .int)) (.lst (q1.map .int)) (.lst (q2.map .int))) (iR1_ok (j := 3) rfl (by decide) (by decide) rfl) rfl (fun d hd => by
      obtain ⟨i, hi⟩ := List.getElem?_of_mem hd
      obtain ⟨hlt, rfl⟩ := rng_get hi
      have : i = 0 ∨ i = 1 ∨ i = 2 := by omega
      rcases this with rfl | rfl | rfl
      · exact ⟨_, rfl, rfl, h0, rfl, rfl⟩
      · exact ⟨_, rfl, rfl, h1, rfl, rfl⟩
      · exact ⟨_, rfl, rfl, h2, rfl, rfl⟩) (le_line (by rw [rng_eq]; simp))
  rw [pick_all] at hc
  have hp : ∀ p ∈ [q0, q1, q2, [1000000]], Pro p := fun p hp => by
    simp only [List.mem_cons, List.not_mem_nil, or_false] at hp
    rcases hp with rfl | rfl | rfl | rfl
    · exact p0
    · exact p1
    · exact p2'
    · exact pro_mil
  obtain ⟨s2, h5⟩ := ask_rights (s0 := .imm (.rls (ns.map .int))) (s1 := .imm (.lst [.lst (q0.map .int), .lst (q1.map .int), .lst (q2.map .int), .lst [.int 1000000]])) (s3 := .none) hp
  have r2 := r_right p2'
  have em : ([q0, q1, q2, [1000000]].map fun p : List Int => D.lst (p.map .int)) = [.lst (q0.map .int), .lst (q1.map .int), .lst (q2.map .int), .lst [.int 1000000]] := rfl
  rw [em] at h5
  clear em
  generalize q0.map D.int = A at *
  generalize q1.map D.int = B at *
  generalize q2.map D.int = C at *
  generalize D.rls (ns.map .int) = R at *
  have l1 : (1 : Nat) ≤ sizeLine := le_line (by decide)
  have l3 : (3 : Nat) < sizeLine := lt_line (by decide)
  have st : b_law [.imm R, .none, .none, .none] = .ret (.imm (.bl true)) [.imm R, .imm (.lst [.lst A, .lst B, .lst C, .lst [.int 1000000]]), s2, .none] := by
    refine (seq_next (e1 := [.imm R, .own (.lst [.lst A, .lst B, .lst C]), .none, .none]) ((asgF_ok hc (by show 1 < 4; decide)).trans rfl)).trans ((seq_next (e1 := [.imm R, .own (.lst [.lst A, .lst B, .lst C, .lst [.int 1000000]]), .none, .none]) ?_).trans ((seq_next ((for_ok (e1 := [.imm R, .imm (.lst [.lst A, .lst B, .lst C, .lst [.int 1000000]]), .none, .none]) (ds := [.lst A, .lst B, .lst C, .lst [.int 1000000]]) rfl).trans h5)).trans ((seq_next (e1 := [.imm R, .imm (.lst [.lst A, .lst B, .lst C, .lst [.int 1000000]]), s2, .none]) (Eq.trans (if_fp ?_) rfl)).trans (ret_ok ?_))))
    · simp only [sDrop, eApp, ownL, setL, eOfF, fLst, vCons, vNil, liftP, p2, pC, RP.bind, RP.of, dPow_10_6, okF, fl_int, if_true, Res.bind, MO.toD, l1, l3, Sl.put, List.length_cons, List.length_nil, Nat.zero_add, Nat.reduceAdd, List.getElem?_cons_zero, List.getElem?_cons_succ, List.set_cons_succ, List.set_cons_zero, List.cons_append, List.nil_append]
    · have w := w_call (e := [.imm R, .imm (.lst [.lst A, .lst B, .lst C, .lst [.int 1000000]]), s2, .none]) (mR := eVar 0) (mT := liftP (pC (.int 3))) (mX := cIx (cVar 1) (pC (.int 1))) rfl rfl rfl h3 h4
      simp only [tNotm, tBm, eOfW, w, Res.bind, Bool.not_true]
    · have i2 : (p2 dIx (pVar 1) (pC (.int 2))) [.imm R, .imm (.lst [.lst A, .lst B, .lst C, .lst [.int 1000000]]), s2, .none] = .ok (.lst C) := rfl
      simp only [liftP, pCall, pCons, pNil, i2, RP.bind, List.map_cons, List.map_nil, r2, okF, fl_bl, if_true]
  exact ⟨_, mDef_go (np := 1) (n := 4) (b := b_law) (as := [.imm R]) (e := [.imm R, .none, .none, .none]) rfl rfl st⟩
end Lw
end

set_option Elab.async false
set_option linter.all false
set_option maxRecDepth 100000
set_option maxHeartbeats 4000000
set_option autoImplicit false
open PySem PySem.W PyProof.Rows in
set_option maxRecDepth 100000 in
set_option maxHeartbeats 0 in
theorem PySem.Challenge.cw_seldomenough_k38_phases_of_chains_holds : PySem.Challenge.rw_seldomenough_k38_phases_of_chains.Holds := by
  w_on; o_law; k_head; (case hw => w_witness2)
  k_fill
  refine Cv.walk_ofX (l := PySem.Challenge.rw_seldomenough_k38_phases_of_chains) (n := 63) (k := 10) (x := "script") (CX := fun w => L2.CX (PySem.Challenge.rw_seldomenough_k38_phases_of_chains).prog w) (sp := fun w K => Cv.spLaw K) rfl (by decide) rfl ⟨rfl, by decide, by decide⟩ (fun w h Y => PySem.W.kIn_of Y) ?F (fun w K H a ns hl _ hS => ⟨a, ns, rfl, hS, hl, fun _ => rfl⟩) (fun w H s e s' z => Cv.cx_no z)
  case F =>
    intro w mg fa h XX KX G hmg
    refine' Lw.all_mk KX G hmg (Cv.loose_int XX.2 (by decide +kernel)) ?a0 ?l0 ?c0 ?k0 ?a1 ?l1 ?c1 ?k1 ?a2 ?l2 ?c2 ?k2 ?a3 ?l3 ?c3 ?k3 ?a4 ?l4 ?c4 ?k4 ?a5 ?l5 ?c5 ?k5 ?a6 ?l6 ?c6 ?k6 ?a7 ?l7 ?c7 ?k7 ?a8 ?l8 ?c8 ?k8 ?a9 ?l9 ?c9 ?k9 ?a10 ?l10 ?c10 ?k10 ?a11 ?l11 ?c11 ?k11 ?a12 ?l12 ?c12 ?k12 ?a13 ?l13 ?c13 ?k13 ?a14 ?l14 ?c14 ?k14 ?a15 ?l15 ?c15 ?k15 ?a16 ?l16 ?c16 ?k16 ?a17 ?l17 ?c17 ?k17 ?a18 ?l18 ?c18 ?k18 ?a19 ?l19 ?c19 ?k19 ?a20 ?l20 ?c20 ?k20 ?a21 ?l21 ?c21 ?k21 ?a22 ?l22 ?c22 ?k22 ?a23 ?l23 ?c23 ?k23 ?a24 ?l24 ?c24 ?k24 ?a25 ?l25 ?c25 ?k25 ?z_abs ?z_bool ?z_int ?z_isinstance ?z_len ?z_list ?z_min ?z_range ?z_sorted ?z_str ?z_sum ?z_tuple ?v_HOUSES ?aS ?b1 ?b2 ?b3 ?cg ?cT ?aCx0 ?lkx0 ?sax0 ?eCx0 ?tCx0 ?kCx0 ?gax0 ?ggx0 ?hdx0 ?cax0 ?mox0 ?nfx0 ?sfx0 ?iCx0 ?tIx0 ?lix0 ?cix0 ?kix0 ?aCx1 ?lkx1 ?sax1 ?eCx1 ?tCx1 ?kCx1 ?gax1 ?ggx1 ?hdx1 ?cax1 ?mox1 ?nfx1 ?sfx1 ?iCx1 ?tIx1 ?lix1 ?cix1 ?kix1 ?sb_x0_x1 ?sb_x1_x0 Lw.law_true
    (case a0 => k_is)
    (case l0 => k_is)
    (case c0 => k_is)
    (case k0 => k_is)
    (case a1 => k_is)
    (case l1 => k_is)
    (case c1 => k_is)
    (case k1 => k_is)
    (case a2 => k_is)
    (case l2 => k_is)
    (case c2 => k_is)
    (case k2 => k_is)
    (case a3 => k_is)
    (case l3 => k_is)
    (case c3 => k_is)
    (case k3 => k_is)
    (case a4 => k_is)
    (case l4 => k_is)
    (case c4 => k_is)
    (case k4 => k_is)
    (case a5 => k_is)
    (case l5 => k_is)
    (case c5 => k_is)
    (case k5 => k_is)
    (case a6 => k_is)
    (case l6 => k_is)
    (case c6 => k_is)
    (case k6 => k_is)
    (case a7 => k_is)
    (case l7 => k_is)
    (case c7 => k_is)
    (case k7 => k_is)
    (case a8 => k_is)
    (case l8 => k_is)
    (case c8 => k_is)
    (case k8 => k_is)
    (case a9 => k_is)
    (case l9 => k_is)
    (case c9 => k_is)
    (case k9 => k_is)
    (case a10 => k_is)
    (case l10 => k_is)
    (case c10 => k_is)
    (case k10 => k_is)
    (case a11 => k_is)
    (case l11 => k_is)
    (case c11 => k_is)
    (case k11 => k_is)
    (case a12 => k_is)
    (case l12 => k_is)
    (case c12 => k_is)
    (case k12 => k_is)
    (case a13 => k_is)
    (case l13 => k_is)
    (case c13 => k_is)
    (case k13 => k_is)
    (case a14 => k_is)
    (case l14 => k_is)
    (case c14 => k_is)
    (case k14 => k_is)
    (case a15 => k_is)
    (case l15 => k_is)
    (case c15 => k_is)
    (case k15 => k_is)
    (case a16 => k_is)
    (case l16 => k_is)
    (case c16 => k_is)
    (case k16 => k_is)
    (case a17 => k_is)
    (case l17 => k_is)
    (case c17 => k_is)
    (case k17 => k_is)
    (case a18 => k_is)
    (case l18 => k_is)
    (case c18 => k_is)
    (case k18 => k_is)
    (case a19 => k_is)
    (case l19 => k_is)
    (case c19 => k_is)
    (case k19 => k_is)
    (case a20 => k_is)
    (case l20 => k_is)
    (case c20 => k_is)
    (case k20 => k_is)
    (case a21 => k_is)
    (case l21 => k_is)
    (case c21 => k_is)
    (case k21 => k_is)
    (case a22 => k_is)
    (case l22 => k_is)
    (case c22 => k_is)
    (case k22 => k_is)
    (case a23 => k_is)
    (case l23 => k_is)
    (case c23 => k_is)
    (case k23 => k_is)
    (case a24 => k_is)
    (case l24 => k_is)
    (case c24 => k_is)
    (case k24 => k_is)
    (case a25 => k_is)
    (case l25 => k_is)
    (case c25 => k_is)
    (case k25 => k_is)
    (case z_abs => k_is)
    (case z_bool => k_is)
    (case z_int => k_is)
    (case z_isinstance => k_is)
    (case z_len => k_is)
    (case z_list => k_is)
    (case z_min => k_is)
    (case z_range => k_is)
    (case z_sorted => k_is)
    (case z_str => k_is)
    (case z_sum => k_is)
    (case z_tuple => k_is)
    (case v_HOUSES => k_is)
    (case aS => k_is)
    (case b1 => k_is)
    (case b2 => k_is)
    (case b3 => k_is)
    (case cg => k_is)
    (case cT => k_is)
    (case aCx0 => k_is)
    (case lkx0 => k_is)
    (case sax0 => k_is)
    (case eCx0 => k_is)
    (case tCx0 => k_is)
    (case kCx0 => k_is)
    (case gax0 => k_is)
    (case ggx0 => k_is)
    (case hdx0 => k_is)
    (case cax0 => k_is)
    (case mox0 => k_is)
    (case nfx0 => k_is)
    (case sfx0 => k_is)
    (case iCx0 => k_is)
    (case tIx0 => k_is)
    (case lix0 => k_is)
    (case cix0 => k_is)
    (case kix0 => k_is)
    (case aCx1 => k_is)
    (case lkx1 => k_is)
    (case sax1 => k_is)
    (case eCx1 => k_is)
    (case tCx1 => k_is)
    (case kCx1 => k_is)
    (case gax1 => k_is)
    (case ggx1 => k_is)
    (case hdx1 => k_is)
    (case cax1 => k_is)
    (case mox1 => k_is)
    (case nfx1 => k_is)
    (case sfx1 => k_is)
    (case iCx1 => k_is)
    (case tIx1 => k_is)
    (case lix1 => k_is)
    (case cix1 => k_is)
    (case kix1 => k_is)
    (case sb_x0_x1 => k_is)
    (case sb_x1_x0 => k_is)
