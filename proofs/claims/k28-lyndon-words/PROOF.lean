import PyProof.Rows.All
import Wide.All
import OpenK.AllK
import Wide.FinOn
import HandS.ForMost
import HandS.Exc
import HandS.TryOnly
import HandS.ExcOwn
import HandS.WordsExc
import HandS.IsInst
import HandS.EndTab
import HandS.Wide
import HandS.SortInts
import HandS.SortRule
import HandS.TupLe
import HandS.ExcInit
import HandS.ExcField
import HandS.ExcIs
import HandS.TryMany
import KE.KExcIs
import Open.SpecLaws
import PyProof.P3Eq
import HandS.HotCalls
import KE.DataCmp
import KE.DataMinMax
import KE.SortData
import HandS.TupAny
import PySem.Challenge.RW_seldomenough_k28_lyndon_words_and_turns
section
set_option Elab.async false
set_option linter.all false
set_option maxRecDepth 100000
set_option maxHeartbeats 4000000
/-! Cv: a def's body read as a computation on plain data. -/
set_option autoImplicit false
namespace Cv
open PySem L2
/-- plain data -/
inductive D where
  | non | bl (b : Bool) | int (i : Int) | str (s : Str) | lst (xs : List D) | tup (xs : List D)
  /-- a list that is read alone (the script) -/
  | rls (xs : List D)
  | obj (c : Addr) (fs : List (Str × D))
  /-- a function (a lambda) that was handed in, and all that stood then -/
  | fn (a : Addr) (R : Hp)
mutual
inductive Rep (K : PySem.W.Frag) (G : Hp) : V → D → Prop
  | non : Rep K G .non .non
  | bl (b : Bool) : Rep K G (.bl b) (.bl b)
  | int (i : Int) : Rep K G (.int i) (.int i)
  | str (x : Str) : Rep K G (.str x) (.str x)
  | lst {a : Addr} {xs : List V} {ds : List D} : G a = some (.lst xs) → RepL K G xs ds → Rep K G (.ref a) (.lst ds)
  | rls {a : Addr} {xs : List V} {ds : List D} : SqL K G a xs → RepL K G xs ds → Rep K G (.ref a) (.rls ds)
  | tup {a : Addr} {xs : List V} {ds : List D} : G a = some (.tup xs) → RepL K G xs ds → Rep K G (.ref a) (.tup ds)
  | obj {a C dx : Addr} {fs : List (Str × V)} {gs : List (Str × D)} : G a = some (.ins C dx fs) → RepF K G fs gs → Rep K G (.ref a) (.obj C gs)
  | fn {a : Addr} {R : Hp} : (∀ b o, R b = some o → G b = some o ∧ ∀ ps, o ≠ .tbl ps) → Rep K G (.ref a) (.fn a R)
inductive RepL (K : PySem.W.Frag) (G : Hp) : List V → List D → Prop
  | nil : RepL K G [] []
  | cons {v : V} {d : D} {xs : List V} {ds : List D} : Rep K G v d → RepL K G xs ds → RepL K G (v :: xs) (d :: ds)
inductive RepF (K : PySem.W.Frag) (G : Hp) : List (Str × V) → List (Str × D) → Prop
  | nil : RepF K G [] []
  | cons {f : Str} {v : V} {d : D} {xs : List (Str × V)} {ds : List (Str × D)} : Rep K G v d → RepF K G xs ds → RepF K G ((f, v) :: xs) ((f, d) :: ds)
end
def notTbl (o : HO) : Prop := ∀ ps, o ≠ .tbl ps
theorem nt_lst {xs : List V} : notTbl (.lst xs) := fun _ h => by cases h
theorem nt_tup {xs : List V} : notTbl (.tup xs) := fun _ h => by cases h
theorem nt_ins {C dx : Addr} {fs : List (Str × V)} : notTbl (.ins C dx fs) := fun _ h => by cases h
theorem nt_frz {o : Obj} {u : HO} : notTbl (.frz o u) := fun _ h => by cases h
/-- all but tables is as it was -/
def Kp (H H' : Hp) : Prop := ∀ a o, H a = some o → notTbl o → H' a = some o
theorem Kp.refl (H : Hp) : Kp H H := fun _ _ h _ => h
theorem Kp.trans {H H1 H2 : Hp} (a : Kp H H1) (b : Kp H1 H2) : Kp H H2 := fun x o h n => b x o (a x o h n) n
theorem Kp.of {H H' : Hp} (e : Same H H') : Kp H H' := fun a o h _ => e a o h
section
variable {K : PySem.W.Frag} {H H' : Hp}
theorem SqL.kp {a : Addr} {xs : List V} (e : Kp H H') (h : SqL K H a xs) : SqL K H' a xs := by
  rcases h with (h | ⟨o, h⟩) | h
  · exact .inl (.inl (e _ _ h nt_lst))
  · exact .inl (.inr ⟨o, e _ _ h nt_frz⟩)
  · exact .inr h
theorem SqT.kp {a : Addr} {xs : List V} (e : Kp H H') (h : SqT K H a xs) : SqT K H' a xs := by
  rcases h with (h | ⟨o, h⟩) | h
  · exact .inl (.inl (e _ _ h nt_tup))
  · exact .inl (.inr ⟨o, e _ _ h nt_frz⟩)
  · exact .inr h
mutual
theorem Rep.mono (e : Kp H H') : ∀ {v : V} {d : D}, Rep K H v d → Rep K H' v d
  | _, _, .non => .non
  | _, _, .bl b => .bl b
  | _, _, .int i => .int i
  | _, _, .str x => .str x
  | _, _, .lst h r => .lst (e _ _ h nt_lst) (RepL.mono e r)
  | _, _, .rls h r => .rls (SqL.kp e h) (RepL.mono e r)
  | _, _, .tup h r => .tup (e _ _ h nt_tup) (RepL.mono e r)
  | _, _, .obj h r => .obj (e _ _ h nt_ins) (RepF.mono e r)
  | _, _, .fn h => .fn fun b o z => ⟨e _ _ (h b o z).1 (h b o z).2, (h b o z).2⟩
theorem RepL.mono (e : Kp H H') : ∀ {xs : List V} {ds : List D}, RepL K H xs ds → RepL K H' xs ds
  | _, _, .nil => .nil
  | _, _, .cons r t => .cons (Rep.mono e r) (RepL.mono e t)
theorem RepF.mono (e : Kp H H') : ∀ {xs : List (Str × V)} {ds : List (Str × D)}, RepF K H xs ds → RepF K H' xs ds
  | _, _, .nil => .nil
  | _, _, .cons r t => .cons (Rep.mono e r) (RepF.mono e t)
end
end
theorem RepL.length {K : PySem.W.Frag} {H : Hp} : ∀ {xs : List V} {ds : List D}, RepL K H xs ds → xs.length = ds.length
  | _, _, .nil => rfl
  | _, _, .cons _ t => congrArg (· + 1) (RepL.length t)
theorem RepL.get {K : PySem.W.Frag} {H : Hp} : ∀ {xs : List V} {ds : List D}, RepL K H xs ds → ∀ {i : Nat} {d : D}, ds[i]? = some d → ∃ v, xs[i]? = some v ∧ Rep K H v d
  | _, _, .nil, i, d, h => by simp at h
  | _, _, .cons r t, 0, d, h => by simp at h; subst h; exact ⟨_, rfl, r⟩
  | _, _, .cons r t, i + 1, d, h => by
    obtain ⟨v, h1, h2⟩ := RepL.get t (i := i) (d := d) (by simpa using h)
    exact ⟨v, by simpa using h1, h2⟩
theorem RepL.getV {K : PySem.W.Frag} {H : Hp} {xs : List V} {ds : List D} (r : RepL K H xs ds) {i : Nat} {v : V} (h : xs[i]? = some v) : ∃ d, ds[i]? = some d ∧ Rep K H v d := by
  have hl := r.length
  have hi : i < xs.length := (List.getElem?_eq_some_iff.mp h).1
  have hd : ds[i]? = some (ds[i]'(by omega)) := List.getElem?_eq_getElem (by omega)
  obtain ⟨v', h1, h2⟩ := r.get hd
  rw [h] at h1; cases h1
  exact ⟨_, hd, h2⟩
theorem RepL.append {K : PySem.W.Frag} {H : Hp} : ∀ {xs ys : List V} {ds es : List D}, RepL K H xs ds → RepL K H ys es → RepL K H (xs ++ ys) (ds ++ es)
  | _, _, _, _, .nil, s => s
  | _, _, _, _, .cons r t, s => .cons r (RepL.append t s)
theorem RepL.take {K : PySem.W.Frag} {H : Hp} : ∀ {xs : List V} {ds : List D} (n : Nat), RepL K H xs ds → RepL K H (xs.take n) (ds.take n)
  | _, _, 0, _ => .nil
  | _, _, _ + 1, .nil => .nil
  | _, _, n + 1, .cons r t => .cons r (RepL.take n t)
theorem RepL.drop {K : PySem.W.Frag} {H : Hp} : ∀ {xs : List V} {ds : List D} (n : Nat), RepL K H xs ds → RepL K H (xs.drop n) (ds.drop n)
  | _, _, 0, r => r
  | _, _, _ + 1, .nil => .nil
  | _, _, n + 1, .cons _ t => RepL.drop n t
theorem RepL.set {K : PySem.W.Frag} {H : Hp} {v : V} {d : D} (r : Rep K H v d) : ∀ {xs : List V} {ds : List D} (i : Nat), RepL K H xs ds → RepL K H (xs.set i v) (ds.set i d)
  | _, _, _, .nil => .nil
  | _, _, 0, .cons _ t => .cons r t
  | _, _, i + 1, .cons q t => .cons q (RepL.set r i t)
theorem RepL.eraseIdx {K : PySem.W.Frag} {H : Hp} : ∀ {xs : List V} {ds : List D} (i : Nat), RepL K H xs ds → RepL K H (xs.eraseIdx i) (ds.eraseIdx i)
  | _, _, _, .nil => .nil
  | _, _, 0, .cons _ t => t
  | _, _, i + 1, .cons q t => .cons q (RepL.eraseIdx i t)
theorem RepL.reverse {K : PySem.W.Frag} {H : Hp} : ∀ {xs : List V} {ds : List D}, RepL K H xs ds → RepL K H xs.reverse ds.reverse
  | _, _, .nil => .nil
  | _, _, .cons r t => by rw [List.reverse_cons, List.reverse_cons]; exact RepL.append (RepL.reverse t) (.cons r .nil)
theorem RepL.rep {K : PySem.W.Frag} {H : Hp} {xs : List V} {ds : List D} (h : RepL K H xs ds) : ∀ k : Nat, RepL K H (List.replicate k xs).flatten (List.replicate k ds).flatten
  | 0 => .nil
  | k + 1 => by
    rw [List.replicate_succ, List.replicate_succ, List.flatten_cons, List.flatten_cons]
    exact RepL.append h (RepL.rep h k)
theorem RepF.lookup {K : PySem.W.Frag} {H : Hp} {f : Str} {d : D} : ∀ {xs : List (Str × V)} {ds : List (Str × D)}, RepF K H xs ds → ds.lookup f = some d → ∃ v, xs.lookup f = some v ∧ Rep K H v d
  | _, _, .nil, h => by simp at h
  | _, _, .cons (f := g) (v := v) (d := d') (xs := xs) (ds := ds) r t, h => by
    by_cases e : f = g
    · subst e
      simp [List.lookup] at h
      subst h
      exact ⟨_, by simp [List.lookup], r⟩
    · have e' : (f == g) = false := by simpa using e
      simp only [List.lookup, e'] at h
      obtain ⟨w, h1, h2⟩ := RepF.lookup t h
      exact ⟨w, by simp only [List.lookup, e']; exact h1, h2⟩
theorem RepF.lookup_none {K : PySem.W.Frag} {H : Hp} {f : Str} : ∀ {xs : List (Str × V)} {ds : List (Str × D)}, RepF K H xs ds → ds.lookup f = none → xs.lookup f = none
  | _, _, .nil, h => by simp
  | _, _, .cons (f := g) r t, h => by
    by_cases e : f = g
    · subst e
      simp [List.lookup] at h
    · have e' : (f == g) = false := by simpa using e
      simp only [List.lookup, e'] at h ⊢
      exact RepF.lookup_none t h
theorem RepF.length {K : PySem.W.Frag} {H : Hp} : ∀ {xs : List (Str × V)} {ds : List (Str × D)}, RepF K H xs ds → xs.length = ds.length
  | _, _, .nil => rfl
  | _, _, .cons _ t => congrArg (· + 1) (RepF.length t)
/-- a field is put (behind the others where it is new) -/
def putD (f : Str) (v : D) : List (Str × D) → List (Str × D)
  | [] => [(f, v)]
  | (g, x) :: r => if g = f then (g, v) :: r else (g, x) :: putD f v r
theorem RepF.put {K : PySem.W.Frag} {H : Hp} {f : Str} {v : V} {d : D} (r : Rep K H v d) : ∀ {xs : List (Str × V)} {ds : List (Str × D)}, RepF K H xs ds → RepF K H (putF f v xs) (putD f d ds)
  | _, _, .nil => .cons r .nil
  | _, _, .cons (f := g) q t => by
    unfold putF putD
    by_cases e : g = f
    · rw [if_pos e, if_pos e]; exact .cons r t
    · rw [if_neg e, if_neg e]; exact .cons q (RepF.put r t)

/-! ### the tables of lambdas: which are known -/
class TbT where
  T : List (Addr × Str)
  /-- where tables stand -/
  W : Addr → Prop
variable [TbT]
/-- the tables stand as they should -/
def TabsOk (H : Hp) : Prop := LamX.Tabs TbT.T H ∧ ∀ a, TbT.W a ↔ ∃ ps, H a = some (.tbl ps)
/-- neither a table nor a piece of code -/
def plainO (o : HO) : Prop := notTbl o ∧ ∀ φ, o ≠ .ext φ
theorem pl_lst {xs : List V} : plainO (.lst xs) := ⟨nt_lst, fun _ h => by cases h⟩
theorem pl_ins {C dx : Addr} {fs : List (Str × V)} : plainO (.ins C dx fs) := ⟨nt_ins, fun _ h => by cases h⟩
theorem pl_xd {fs : List (Str × V)} : plainO (.xd fs) := ⟨(fun _ h => by cases h), (fun _ h => by cases h)⟩
theorem TabsOk.of {H H' : Hp} (t : TabsOk H) (e : ∀ b o, H b = some o → H' b = some o) (n : ∀ b ps, H' b = some (.tbl ps) → ∃ o, H b = some o) : TabsOk H' :=
  ⟨LamX.Tabs.ext t.1 e, fun a => ⟨fun w => let ⟨ps, h⟩ := (t.2 a).mp w; ⟨ps, e _ _ h⟩, fun ⟨ps, h⟩ => (t.2 a).mpr (by
    obtain ⟨o, q⟩ := n a ps h
    rw [e a o q] at h
    cases h
    exact ⟨ps, q⟩)⟩⟩
theorem TabsOk.mut {H : Hp} {p : Addr} {o o' : HO} (t : TabsOk H) (hp : H p = some o) (pl : plainO o) (nt : notTbl o') : TabsOk (upd H p o') := by
  refine ⟨fun q hq => ?_, fun a => ?_⟩
  rotate_left
  · by_cases e : a = p
    · subst e
      rw [upd_same, t.2 a, hp]
      exact ⟨fun ⟨ps, z⟩ => (pl.1 ps (Option.some.inj z)).elim, fun ⟨ps, z⟩ => (nt ps (Option.some.inj z)).elim⟩
    · rw [upd_ne e]; exact t.2 a
  obtain ⟨ps, h1, h2, h3⟩ := t.1 q hq
  have n1 : q.1 ≠ p := fun z => by rw [z, hp] at h1; exact pl.1 ps (Option.some.inj h1)
  refine ⟨ps, by rw [upd_ne n1]; exact h1, h2, fun pos cv hc => ?_⟩
  obtain ⟨c, e1, e2⟩ := h3 pos cv hc
  refine ⟨c, e1, ?_⟩
  have n2 : c ≠ p := fun z => by rw [z, hp] at e2; exact pl.2 _ (Option.some.inj e2)
  rw [upd_ne n2]; exact e2
/-! ### mutable objects, slots -/
inductive MO where
  | lst (ds : List D) | ins (c : Addr) (fs : List (Str × D))
def MO.toD : MO → D
  | .lst ds => .lst ds
  | .ins c fs => .obj c fs
inductive RepM (K : PySem.W.Frag) (G : Hp) : HO → MO → Prop
  | lst {xs : List V} {ds : List D} : RepL K G xs ds → RepM K G (.lst xs) (.lst ds)
  | ins {C dx : Addr} {fs : List (Str × V)} {gs : List (Str × D)} : RepF K G fs gs → RepM K G (.ins C dx fs) (.ins C gs)
theorem RepM.mono {K : PySem.W.Frag} {G G' : Hp} {o : HO} {m : MO} (e : Kp G G') : RepM K G o m → RepM K G' o m
  | .lst r => .lst (r.mono e)
  | .ins r => .ins (r.mono e)
theorem RepM.nt {K : PySem.W.Frag} {G : Hp} {o : HO} {m : MO} : RepM K G o m → notTbl o
  | .lst _ => nt_lst
  | .ins _ => nt_ins
theorem RepM.pl {K : PySem.W.Frag} {G : Hp} {o : HO} {m : MO} : RepM K G o m → plainO o
  | .lst _ => pl_lst
  | .ins _ => pl_ins
theorem RepM.rep {K : PySem.W.Frag} {G : Hp} {o : HO} {m : MO} {p : Addr} (h : RepM K G o m) (hp : G p = some o) : Rep K G (.ref p) m.toD := by
  cases h with
  | lst r => exact .lst hp r
  | ins r => exact .obj hp r
/-- a slot: nothing known, data, an object that is mine, one that is my caller's -/
inductive Sl where
  | none | imm (d : D) | own (m : MO) | par (m : MO)
  /-- data that stands apart: nothing else leans on its objects -/
  | fre (d : D)
abbrev En := List Sl
def Sl.mo : Sl → Option MO
  | .own m => some m
  | .par m => some m
  | _ => Option.none
def SlOk (K : PySem.W.Frag) (G H : Hp) (x : Option V) : Sl → Prop
  | .none => True
  | .imm d => ∃ v, x = some v ∧ Rep K G v d
  | .fre _ => True
  | .own m => ∃ p o, x = some (.ref p) ∧ H p = some o ∧ G p = none ∧ RepM K G o m
  | .par m => ∃ p o, x = some (.ref p) ∧ H p = some o ∧ G p = none ∧ RepM K G o m
/-- at p stands an object of slot i -/
def OwnAt (σ : L2.St) (env : En) (i : Nat) (p : Addr) : Prop := σ[i]? = some (some (.ref p)) ∧ ∃ s m, env[i]? = some s ∧ s.mo = some m
def Own (σ : L2.St) (env : En) (p : Addr) : Prop := ∃ i, OwnAt σ env i p
/-- p is an object of my own making -/
def OwnO (σ : L2.St) (env : En) (p : Addr) : Prop := ∃ (i : Nat) (m : MO), σ[i]? = some (some (.ref p)) ∧ env[i]? = some (.own m)
theorem OwnO.own {σ : L2.St} {env : En} {p : Addr} (h : OwnO σ env p) : Own σ env p := let ⟨i, m, a, b⟩ := h; ⟨i, a, _, m, b, rfl⟩
structure Hold (K : PySem.W.Frag) (Z : Addr → Prop) (G H : Hp) (σ : L2.St) (env : En) : Prop where
  ex : Same G H
  nt : ∀ a o, G a = some o → notTbl o
  len : σ.length = env.length
  sl : ∀ (i : Nat) (s : Sl), env[i]? = some s → SlOk K G H (σ[i]?.join) s
  dis : ∀ (i j : Nat) (p : Addr), OwnAt σ env i p → OwnAt σ env j p → i = j
  fr : ∀ (i : Nat) (d : D), env[i]? = some (.fre d) → ∃ (v : V) (R : Hp), σ[i]? = some (some v) ∧ Same R H ∧ (∀ a o, R a = some o → G a = none ∧ ¬ Own σ env a ∧ ¬ Z a ∧ notTbl o) ∧ Rep K R v d
  zt : ∀ a, Z a → ∃ o, H a = some o
  tb : TabsOk H
structure Step (Z : Addr → Prop) (G H : Hp) (σ : L2.St) (env : En) (G' H' : Hp) (σ' : L2.St) (env' : En) : Prop where
  g : Same G G'
  h : ∀ a o, H a = some o → notTbl o → ¬ Own σ env a → Z a → H' a = some o
  n : ∀ a o, H a = some o → G a = none → ¬ Own σ env a → Z a → G' a = none
  d : ∀ a, H' a = none → H a = none
  par : ∀ (i : Nat) (m' : MO), env'[i]? = some (Sl.par m') → (∃ m, env[i]? = some (Sl.par m)) ∧ σ'[i]? = σ[i]?
  ow : ∀ a, OwnO σ' env' a → OwnO σ env a ∨ H a = none
theorem Step.own {Z : Addr → Prop} {G H : Hp} {σ : L2.St} {env : En} {G' H' : Hp} {σ' : L2.St} {env' : En} (s : Step Z G H σ env G' H' σ' env') : ∀ a, Own σ' env' a → Own σ env a ∨ H a = none := by
  rintro a ⟨i, h, t, m, e, hm⟩
  cases t with
  | none => cases hm
  | imm d => cases hm
  | fre d => cases hm
  | own m' =>
    rcases s.ow a ⟨i, m', h, e⟩ with z | z
    · exact .inl z.own
    · exact .inr z
  | par m' =>
    obtain ⟨⟨m0, h0⟩, hs⟩ := s.par i m' e
    exact .inl ⟨i, by rw [← hs]; exact h, _, m0, h0, rfl⟩
theorem Step.refl {Z : Addr → Prop} {G H : Hp} {σ : L2.St} {env : En} : Step Z G H σ env G H σ env :=
  ⟨Same.refl _, fun _ _ h _ _ _ => h, fun _ _ _ h _ _ => h, fun _ h => h, fun _ _ h => ⟨⟨_, h⟩, rfl⟩, fun _ h => .inl h⟩
theorem Step.trans {Z : Addr → Prop} {G H G1 H1 G2 H2 : Hp} {σ σ1 σ2 : L2.St} {e e1 e2 : En} (a : Step Z G H σ e G1 H1 σ1 e1) (b : Step Z G1 H1 σ1 e1 G2 H2 σ2 e2) : Step Z G H σ e G2 H2 σ2 e2 where
  g := a.g.trans b.g
  h := fun x o hx nt no zx => by
    refine b.h x o (a.h x o hx nt no zx) nt (fun z => ?_) zx
    rcases a.own x z with z | z
    · exact no z
    · rw [hx] at z; cases z
  n := fun x o hx hg no zx => by
    have h1 : ∃ o', H1 x = some o' := by
      cases q : H1 x with
      | none => rw [a.d x q] at hx; cases hx
      | some o' => exact ⟨o', rfl⟩
    obtain ⟨o', h1⟩ := h1
    refine b.n x o' h1 (a.n x o hx hg no zx) (fun z => ?_) zx
    rcases a.own x z with z | z
    · exact no z
    · rw [hx] at z; cases z
  d := fun x h => a.d x (b.d x h)
  par := fun i m' h => by
    obtain ⟨⟨m1, h1⟩, s1⟩ := b.par i m' h
    obtain ⟨⟨m2, h2⟩, s2⟩ := a.par i m1 h1
    exact ⟨⟨m2, h2⟩, s1.trans s2⟩
  ow := fun x z => by
    rcases b.ow x z with z | z
    · exact a.ow x z
    · exact .inr (a.d x z)
theorem Hold.own_get {K : PySem.W.Frag} {Z : Addr → Prop} {G H : Hp} {σ : L2.St} {env : En} (h : Hold K Z G H σ env) {i : Nat} {s : Sl} {m : MO} (e : env[i]? = some s) (hm : s.mo = some m) :
    ∃ p o, σ[i]? = some (some (.ref p)) ∧ H p = some o ∧ G p = none ∧ RepM K G o m := by
  have q := h.sl i s e
  have f : ∀ p, σ[i]?.join = some (V.ref p) → σ[i]? = some (some (.ref p)) := fun p z => by
    cases w : σ[i]? with
    | none => rw [w] at z; cases z
    | some y => rw [w] at z; exact congrArg some z
  cases s with
  | none => cases hm
  | imm d => cases hm
  | fre d => cases hm
  | own m' => cases hm; obtain ⟨p, o, h1, h2, h3, h4⟩ := q; exact ⟨p, o, f p h1, h2, h3, h4⟩
  | par m' => cases hm; obtain ⟨p, o, h1, h2, h3, h4⟩ := q; exact ⟨p, o, f p h1, h2, h3, h4⟩
theorem Hold.imm_get {K : PySem.W.Frag} {Z : Addr → Prop} {G H : Hp} {σ : L2.St} {env : En} (h : Hold K Z G H σ env) {i : Nat} {d : D} (e : env[i]? = some (.imm d)) :
    ∃ v, σ[i]? = some (some v) ∧ Rep K G v d := by
  obtain ⟨v, q, r⟩ := h.sl i _ e
  cases w : σ[i]? with
  | none => rw [w] at q; cases q
  | some y => rw [w] at q; exact ⟨v, congrArg some q, r⟩
theorem Hold.not_in {K : PySem.W.Frag} {Z : Addr → Prop} {G H : Hp} {σ : L2.St} {env : En} (h : Hold K Z G H σ env) {p : Addr} (o : Own σ env p) : G p = none ∧ ∃ x, H p = some x ∧ notTbl x := by
  obtain ⟨i, hs, s, m, e, hm⟩ := o
  obtain ⟨q, x, h1, h2, h3, h4⟩ := h.own_get e hm
  rw [hs] at h1; cases h1
  exact ⟨h3, x, h2, h4.nt⟩
/-! ### nothing that I hold changes: the heap alone grows -/
/-- the heap has grown (nothing tracked has changed, but tables) -/
structure Grow (H H' : Hp) : Prop where
  k : Kp H H'
  d : ∀ a, H' a = none → H a = none
  t : TabsOk H → TabsOk H'
theorem Grow.there {H H' : Hp} (g : Grow H H') {a : Addr} (h : ∃ o, H a = some o) : ∃ o, H' a = some o := by
  cases q : H' a with
  | some o => exact ⟨o, rfl⟩
  | none =>
    obtain ⟨o, e⟩ := h
    rw [g.d a q] at e; cases e
theorem Grow.refl (H : Hp) : Grow H H := ⟨Kp.refl _, fun _ h => h, fun t => t⟩
theorem Grow.trans {H H1 H2 : Hp} (a : Grow H H1) (b : Grow H1 H2) : Grow H H2 := ⟨a.k.trans b.k, fun x h => a.d x (b.d x h), fun t => b.t (a.t t)⟩
theorem upd_d {H : Hp} {p : Addr} {o : HO} (h : H p = none) : ∀ a, upd H p o a = none → H a = none := fun a e => by
  by_cases z : a = p
  · rw [z]; exact h
  · rw [upd_ne z] at e; exact e
theorem Grow.new {H : Hp} {p : Addr} {o : HO} (h : H p = none) (nt : notTbl o := by first | exact Cv.nt_lst | exact Cv.nt_tup | assumption) : Grow H (upd H p o) :=
  ⟨fun a u e _ => by rw [upd_ne (ne_of_none e h)]; exact e, fun a e => by
    by_cases z : a = p
    · rw [z]; exact h
    · rw [upd_ne z] at e; exact e, fun t => t.of (fun b u e => by rw [upd_ne (ne_of_none e h)]; exact e) fun b ps e => by
    by_cases z : b = p
    · rw [z, upd_same] at e; exact (nt ps (Option.some.inj e)).elim
    · rw [upd_ne z] at e; exact ⟨_, e⟩⟩
theorem Hold.grow {K : PySem.W.Frag} {Z : Addr → Prop} {G H H' : Hp} {σ : L2.St} {env : En} (h : Hold K Z G H σ env) (g : Grow H H') : Hold K Z G H' σ env := by
  refine ⟨fun a o e => g.k a o (h.ex a o e) (h.nt a o e), h.nt, h.len, fun i s e => ?_, h.dis, fun i d e => ?_, fun a z => g.there (h.zt a z), g.t h.tb⟩
  rotate_left
  · obtain ⟨v, R, h1, h2, h3, h4⟩ := h.fr i d e
    exact ⟨v, R, h1, fun a o z => g.k a o (h2 a o z) (h3 a o z).2.2.2, h3, h4⟩
  have q := h.sl i s e
  cases s with
  | none => trivial
  | fre d => trivial
  | imm d => exact q
  | own m => obtain ⟨p, o, h1, h2, h3, h4⟩ := q; exact ⟨p, o, h1, g.k p o h2 h4.nt, h3, h4⟩
  | par m => obtain ⟨p, o, h1, h2, h3, h4⟩ := q; exact ⟨p, o, h1, g.k p o h2 h4.nt, h3, h4⟩
theorem Step.grow {Z : Addr → Prop} {G H H' : Hp} {σ : L2.St} {env : En} (g : Grow H H') : Step Z G H σ env G H' σ env :=
  ⟨Same.refl _, fun a o h nt _ _ => g.k a o h nt, fun _ _ _ h _ _ => h, g.d, fun _ _ h => ⟨⟨_, h⟩, rfl⟩, fun _ h => .inl h⟩
/-- .. and a new object joins the data -/
theorem Hold.lay {K : PySem.W.Frag} {Z : Addr → Prop} {G H : Hp} {σ : L2.St} {env : En} (h : Hold K Z G H σ env) {p : Addr} {o : HO} (hp : H p = none) (nt : notTbl o) : Hold K Z (upd G p o) (upd H p o) σ env := by
  have gp : G p = none := by
    cases q : G p with
    | none => rfl
    | some u => rw [h.ex p u q] at hp; cases hp
  have sg : Same G (upd G p o) := fun a u e => by rw [upd_ne (ne_of_none e gp)]; exact e
  refine ⟨fun a u e => ?_, fun a u e => ?_, h.len, fun i s e => ?_, h.dis, fun i d e => ?_, fun a z => (Grow.new hp).there (h.zt a z), (Grow.new hp).t h.tb⟩
  rotate_right
  · obtain ⟨v, R, h1, h2, h3, h4⟩ := h.fr i d e
    have np : ∀ a o, R a = some o → a ≠ p := fun a o z => ne_of_none (h2 a o z) hp
    exact ⟨v, R, h1, fun a o z => by rw [upd_ne (np a o z)]; exact h2 a o z, fun a o z => ⟨by rw [upd_ne (np a o z)]; exact (h3 a o z).1, (h3 a o z).2⟩, h4⟩
  · by_cases z : a = p
    · subst z; rw [upd_same] at e ⊢; exact e
    · rw [upd_ne z] at e ⊢; exact h.ex a u e
  · by_cases z : a = p
    · subst z; rw [upd_same] at e; cases e; exact nt
    · rw [upd_ne z] at e; exact h.nt a u e
  · have q := h.sl i s e
    cases s with
    | none => trivial
    | fre d => trivial
    | imm d => obtain ⟨v, h1, h2⟩ := q; exact ⟨v, h1, h2.mono (Kp.of sg)⟩
    | own m => obtain ⟨q', u, h1, h2, h3, h4⟩ := q; exact ⟨q', u, h1, by rw [upd_ne (ne_of_none h2 hp)]; exact h2, by rw [upd_ne (ne_of_none h2 hp)]; exact h3, h4.mono (Kp.of sg)⟩
    | par m => obtain ⟨q', u, h1, h2, h3, h4⟩ := q; exact ⟨q', u, h1, by rw [upd_ne (ne_of_none h2 hp)]; exact h2, by rw [upd_ne (ne_of_none h2 hp)]; exact h3, h4.mono (Kp.of sg)⟩
theorem Step.lay {Z : Addr → Prop} {G H : Hp} {σ : L2.St} {env : En} {p : Addr} {o : HO} (hp : H p = none) (gp : G p = none) : Step Z G H σ env (upd G p o) (upd H p o) σ env :=
  ⟨fun a u e => by rw [upd_ne (ne_of_none e gp)]; exact e, fun a u h _ _ _ => by rw [upd_ne (ne_of_none h hp)]; exact h, fun a u h hg _ _ => by rw [upd_ne (ne_of_none h hp)]; exact hg,
    upd_d hp, fun _ _ h => ⟨⟨_, h⟩, rfl⟩, fun _ h => .inl h⟩
theorem Hold.gp {K : PySem.W.Frag} {Z : Addr → Prop} {G H : Hp} {σ : L2.St} {env : En} (h : Hold K Z G H σ env) {p : Addr} (hp : H p = none) : G p = none := by
  cases q : G p with
  | none => rfl
  | some u => rw [h.ex p u q] at hp; cases hp

/-! ### the small steps -/
section
variable {K : PySem.W.Frag} {Z : Addr → Prop} {G H : Hp} {σ : L2.St} {env : En}
theorem getElem?_set_cases {α : Type} {l : List α} {i j : Nat} {x y : α} (h : (l.set i x)[j]? = some y) : (i = j ∧ x = y ∧ j < l.length) ∨ (i ≠ j ∧ l[j]? = some y) := by
  by_cases e : i = j
  · subst e
    by_cases hl : i < l.length
    · rw [List.getElem?_set_self hl] at h
      exact .inl ⟨rfl, Option.some.inj h, hl⟩
    · have z : (l.set i x)[i]? = none := List.getElem?_eq_none (by simp; omega)
      rw [z] at h; cases h
  · rw [List.getElem?_set_ne e] at h
    exact .inr ⟨e, h⟩
theorem join_of {σ : L2.St} {i : Nat} {v : V} (h : σ[i]? = some (some v)) : σ[i]?.join = some v := by rw [h]; rfl
/-- what an own object's slot and another data slot say, G grown by p ↦ o -/
theorem SlOk.upG {x : Option V} {s : Sl} {p : Addr} {o : HO} (gp : G p = none) (hp : H p = some o) (q : SlOk K G H x s) (ne : ∀ m, s.mo = some m → x ≠ some (.ref p)) : SlOk K (upd G p o) H x s := by
  have sg : Kp G (upd G p o) := Kp.of fun a u e => by rw [upd_ne (ne_of_none e gp)]; exact e
  cases s with
  | none => trivial
  | fre d => trivial
  | imm d => obtain ⟨v, h1, h2⟩ := q; exact ⟨v, h1, h2.mono sg⟩
  | own m =>
    obtain ⟨q', u, h1, h2, h3, h4⟩ := q
    have n : q' ≠ p := fun z => ne m rfl (by rw [h1, z])
    exact ⟨q', u, h1, h2, by rw [upd_ne n]; exact h3, h4.mono sg⟩
  | par m =>
    obtain ⟨q', u, h1, h2, h3, h4⟩ := q
    have n : q' ≠ p := fun z => ne m rfl (by rw [h1, z])
    exact ⟨q', u, h1, h2, by rw [upd_ne n]; exact h3, h4.mono sg⟩
theorem slot_join {i : Nat} {v : V} (h : σ[i]?.join = some v) : σ[i]? = some (some v) := by
  cases w : σ[i]? with
  | none => rw [w] at h; cases h
  | some y => rw [w] at h; exact congrArg some h
theorem OwnAt.of {i : Nat} {p : Addr} {s : Sl} {m : MO} (h : σ[i]? = some (some (.ref p))) (e : env[i]? = some s) (hm : s.mo = some m) : OwnAt σ env i p := ⟨h, s, m, e, hm⟩
/-- slot i's own object becomes data -/
theorem Hold.freeze (h : Hold K Z G H σ env) {i : Nat} {m : MO} (e : env[i]? = some (.own m)) : ∃ p o, σ[i]? = some (some (.ref p)) ∧ Hold K Z (upd G p o) H σ (env.set i (.imm m.toD)) ∧
    Step Z G H σ env (upd G p o) H σ (env.set i (.imm m.toD)) ∧ Rep K (upd G p o) (.ref p) m.toD := by
  obtain ⟨p, o, h1, h2, h3, h4⟩ := h.own_get e rfl
  have hi : i < env.length := (List.getElem?_eq_some_iff.mp e).1
  have oi : OwnAt σ env i p := .of h1 e rfl
  have sg : Same G (upd G p o) := fun a u e => by rw [upd_ne (ne_of_none e h3)]; exact e
  have rep : Rep K (upd G p o) (.ref p) m.toD := (h4.mono (Kp.of sg)).rep upd_same
  have back : ∀ j a, OwnAt σ (env.set i (.imm m.toD)) j a → j ≠ i ∧ OwnAt σ env j a := fun j a ⟨q1, s, m', q2, q3⟩ => by
    rcases getElem?_set_cases q2 with ⟨_, z, _⟩ | ⟨n, z⟩
    · subst z; cases q3
    · exact ⟨Ne.symm n, q1, s, m', z, q3⟩
  refine ⟨p, o, h1, ⟨fun a u e' => ?_, fun a u e' => ?_, by rw [List.length_set]; exact h.len, fun j s e' => ?_, fun j k a z1 z2 => h.dis j k a (back j a z1).2 (back k a z2).2, fun j d e' => ?_, h.zt, h.tb⟩, ⟨sg, fun a u q _ _ _ => q, fun a u q g no _ => ?_, fun _ q => q, fun j m' e' => ?_, fun a ⟨j, m', z1, z2⟩ => ?_⟩, rep⟩
  · by_cases z : a = p
    · subst z; rw [upd_same] at e'; rw [← e']; exact h2
    · rw [upd_ne z] at e'; exact h.ex a u e'
  · by_cases z : a = p
    · subst z; rw [upd_same] at e'; cases e'; exact h4.nt
    · rw [upd_ne z] at e'; exact h.nt a u e'
  · rcases getElem?_set_cases e' with ⟨z1, z2, _⟩ | ⟨n, z⟩
    · subst z1; subst z2
      exact ⟨_, join_of h1, rep⟩
    · exact SlOk.upG h3 h2 (h.sl j s z) fun m' hm q => n (h.dis i j p oi (.of (slot_join q) z hm))
  · rcases getElem?_set_cases e' with ⟨_, z2, _⟩ | ⟨n, z⟩
    · cases z2
    · obtain ⟨v, R, q1, q2, q3, q4⟩ := h.fr j d z
      have np : ∀ a o, R a = some o → a ≠ p := fun a o z w => (q3 a o z).2.1 (by rw [w]; exact ⟨i, oi⟩)
      exact ⟨v, R, q1, q2, fun a u w => ⟨by rw [upd_ne (np a u w)]; exact (q3 a u w).1, fun ⟨k, z⟩ => (q3 a u w).2.1 ⟨k, (back k a z).2⟩, (q3 a u w).2.2⟩, q4⟩
  · rw [upd_ne (fun z => no (by rw [z]; exact ⟨i, oi⟩))]; exact g
  · rcases getElem?_set_cases e' with ⟨_, z2, _⟩ | ⟨n, z⟩
    · cases z2
    · exact ⟨⟨m', z⟩, rfl⟩
  · rcases getElem?_set_cases z2 with ⟨_, z, _⟩ | ⟨n, z⟩
    · cases z
    · exact .inl ⟨j, m', z1, z⟩
theorem upd_there {H : Hp} {a p : Addr} {o : HO} (h : ∃ u, H a = some u) : ∃ u, upd H p o a = some u := by
  by_cases z : a = p
  · subst z; exact ⟨o, upd_same⟩
  · rw [upd_ne z]; exact h
/-- slot i's object is changed -/
theorem Hold.mut (h : Hold K Z G H σ env) {i : Nat} {s s' : Sl} {m m' : MO} {p : Addr} {o' : HO} (e : env[i]? = some s) (hm : s.mo = some m) (h1 : σ[i]? = some (some (.ref p))) (hs : (s = .own m ∧ s' = .own m') ∨ (s = .par m ∧ s' = .par m'))
    (r : RepM K G o' m') : Hold K Z G (upd H p o') σ (env.set i s') ∧ Step Z G H σ env G (upd H p o') σ (env.set i s') := by
  obtain ⟨p', o, h1', h2, h3, h4⟩ := h.own_get e hm
  rw [h1] at h1'; cases h1'
  have hi : i < env.length := (List.getElem?_eq_some_iff.mp e).1
  have oi : OwnAt σ env i p := .of h1 e hm
  have hm' : s'.mo = some m' := by rcases hs with ⟨_, z⟩ | ⟨_, z⟩ <;> (subst z; rfl)
  have back : ∀ j a, OwnAt σ (env.set i s') j a → OwnAt σ env j a := fun j a ⟨q1, t, m'', q2, q3⟩ => by
    rcases getElem?_set_cases q2 with ⟨z1, z, _⟩ | ⟨n, z⟩
    · subst z1; exact ⟨q1, s, m, e, hm⟩
    · exact ⟨q1, t, m'', z, q3⟩
  have np : ∀ a u, G a = some u → a ≠ p := fun a u z => ne_of_none z h3
  refine ⟨⟨fun a u q => by rw [upd_ne (np a u q)]; exact h.ex a u q, h.nt, by rw [List.length_set]; exact h.len, fun j t q => ?_, fun j k a z1 z2 => h.dis j k a (back j a z1) (back k a z2), fun j d q => ?_, fun a z => upd_there (h.zt a z), h.tb.mut h2 h4.pl r.nt⟩,
    ⟨Same.refl _, fun a u q _ no _ => by rw [upd_ne (fun z => no (by rw [z]; exact ⟨i, oi⟩))]; exact q, fun _ _ _ g _ _ => g, fun a q => ?_, fun j m'' q => ?_, fun a ⟨j, m'', z1, z2⟩ => ?_⟩⟩
  · rcases getElem?_set_cases q with ⟨z1, z, _⟩ | ⟨n, z⟩
    · subst z1
      rcases hs with ⟨_, w⟩ | ⟨_, w⟩ <;> (subst w; subst z; exact ⟨p, o', join_of h1, upd_same, h3, r⟩)
    · have w := h.sl j t z
      have nj : ∀ m, t.mo = some m → σ[j]?.join ≠ some (.ref p) := fun m'' hm'' q' => n (h.dis i j p oi (.of (slot_join q') z hm''))
      cases t with
      | none => trivial
      | fre d => trivial
      | imm d => exact w
      | own m2 => obtain ⟨p2, u, w1, w2, w3, w4⟩ := w; exact ⟨p2, u, w1, by rw [upd_ne (fun z => nj m2 rfl (by rw [w1, z]))]; exact w2, w3, w4⟩
      | par m2 => obtain ⟨p2, u, w1, w2, w3, w4⟩ := w; exact ⟨p2, u, w1, by rw [upd_ne (fun z => nj m2 rfl (by rw [w1, z]))]; exact w2, w3, w4⟩
  · rcases getElem?_set_cases q with ⟨z1, z, _⟩ | ⟨n, z⟩
    · rcases hs with ⟨_, w⟩ | ⟨_, w⟩ <;> (subst w; cases z)
    · obtain ⟨v, R, q1, q2, q3, q4⟩ := h.fr j d z
      have np : ∀ a o, R a = some o → a ≠ p := fun a o z w => (q3 a o z).2.1 (by rw [w]; exact ⟨i, oi⟩)
      exact ⟨v, R, q1, fun a u w => by rw [upd_ne (np a u w)]; exact q2 a u w, fun a u w => ⟨(q3 a u w).1, fun ⟨k, z⟩ => (q3 a u w).2.1 ⟨k, back k a z⟩, (q3 a u w).2.2⟩, q4⟩
  · by_cases z : a = p
    · rw [z, upd_same] at q; cases q
    · rw [upd_ne z] at q; exact q
  · rcases getElem?_set_cases q with ⟨z1, z, _⟩ | ⟨n, z⟩
    · subst z1
      rcases hs with ⟨w1, w⟩ | ⟨w1, w⟩
      · subst w; cases z
      · exact ⟨⟨m, by rw [← w1]; exact e⟩, rfl⟩
    · exact ⟨⟨m'', z⟩, rfl⟩
  · rcases getElem?_set_cases z2 with ⟨w0, z, _⟩ | ⟨n, z⟩
    · subst w0
      rcases hs with ⟨w1, w⟩ | ⟨w1, w⟩
      · exact .inl ⟨i, m, z1, by rw [← w1]; exact e⟩
      · subst w; cases z
    · exact .inl ⟨j, m'', z1, z⟩
/-- slot i gets a value: data, a new object, data apart -/
theorem Hold.put (h : Hold K Z G H σ env) {i : Nat} {s : Sl} {v : V} (hi : i < env.length) (hs : SlOk K G H (some v) s) (hd : ∀ m, s.mo = some m → ∀ p, v = .ref p → ¬ Own σ env p)
    (hz : ∀ m, s.mo = some m → ∀ p, v = .ref p → Z p)
    (hf : ∀ d, s = .fre d → ∃ R : Hp, Same R H ∧ (∀ a o, R a = some o → G a = none ∧ ¬ Own σ env a ∧ ¬ Z a ∧ notTbl o) ∧ Rep K R v d) : Hold K Z G H (σ.set i (some v)) (env.set i s) := by
  have hl := h.len
  have hiσ : i < σ.length := by omega
  have back : ∀ j a, OwnAt (σ.set i (some v)) (env.set i s) j a → (j = i ∧ v = .ref a ∧ ∃ m, s.mo = some m) ∨ (j ≠ i ∧ OwnAt σ env j a) := fun j a ⟨q1, t, m, q2, q3⟩ => by
    rcases getElem?_set_cases q2 with ⟨z1, z, _⟩ | ⟨n, z⟩
    · subst z1; subst z
      rw [List.getElem?_set_self hiσ] at q1
      exact .inl ⟨rfl, Option.some.inj (Option.some.inj q1), m, q3⟩
    · rw [List.getElem?_set_ne n] at q1
      exact .inr ⟨Ne.symm n, q1, t, m, z, q3⟩
  refine ⟨h.ex, h.nt, by rw [List.length_set, List.length_set]; exact h.len, fun j t q => ?_, fun j k a z1 z2 => ?_, fun j d q => ?_, h.zt, h.tb⟩
  · rcases getElem?_set_cases q with ⟨z1, z, _⟩ | ⟨n, z⟩
    · subst z1; subst z
      rw [List.getElem?_set_self hiσ]
      exact hs
    · rw [List.getElem?_set_ne n]
      exact h.sl j t z
  · rcases back j a z1 with ⟨e1, e2, m, e3⟩ | ⟨e1, e2⟩ <;> rcases back k a z2 with ⟨f1, f2, m', f3⟩ | ⟨f1, f2⟩
    · rw [e1, f1]
    · exact absurd ⟨k, f2⟩ (hd m e3 a e2)
    · exact absurd ⟨j, e2⟩ (hd m' f3 a f2)
    · exact h.dis j k a e2 f2
  · rcases getElem?_set_cases q with ⟨z1, z, _⟩ | ⟨n, z⟩
    · subst z1; subst z
      obtain ⟨R, r1, r2, r3⟩ := hf d rfl
      refine ⟨v, R, List.getElem?_set_self hiσ, r1, fun a o w => ⟨(r2 a o w).1, fun ⟨k, z⟩ => ?_, (r2 a o w).2.2⟩, r3⟩
      rcases back k a z with ⟨_, _, m, e3⟩ | ⟨_, e2⟩
      · cases e3
      · exact (r2 a o w).2.1 ⟨k, e2⟩
    · obtain ⟨v', R, r0, r1, r2, r3⟩ := h.fr j d z
      refine ⟨v', R, by rw [List.getElem?_set_ne n]; exact r0, r1, fun a o w => ⟨(r2 a o w).1, fun ⟨k, z'⟩ => ?_, (r2 a o w).2.2⟩, r3⟩
      rcases back k a z' with ⟨_, e2, m, e3⟩ | ⟨_, e2⟩
      · exact (r2 a o w).2.2.1 (hz m e3 a e2)
      · exact (r2 a o w).2.1 ⟨k, e2⟩
theorem Hold.weak {Z' : Addr → Prop} (h : Hold K Z' G H σ env) (hz : ∀ a, Z a → Z' a) : Hold K Z G H σ env :=
  ⟨h.ex, h.nt, h.len, h.sl, h.dis, fun i d e => let ⟨v, R, h1, h2, h3, h4⟩ := h.fr i d e; ⟨v, R, h1, h2, fun a o z => ⟨(h3 a o z).1, (h3 a o z).2.1, fun w => (h3 a o z).2.2.1 (hz a w), (h3 a o z).2.2.2⟩, h4⟩, fun a z => h.zt a (hz a z), h.tb⟩
theorem Step.weak {Z' : Addr → Prop} {G' H' : Hp} {σ' : L2.St} {env' : En} (hz : ∀ a, Z a → Z' a) (s : Step Z' G H σ env G' H' σ' env') : Step Z G H σ env G' H' σ' env' :=
  ⟨s.g, fun a o h nt no z => s.h a o h nt no (hz a z), fun a o h g no z => s.n a o h g no (hz a z), s.d, s.par, s.ow⟩
theorem Step.put {i : Nat} {s : Sl} {v : V} (hl : σ.length = env.length) (hp : ∀ m, s ≠ .par m) {G0 H0 : Hp} {σ0 : L2.St} {env0 : En} (hd : ∀ m, s = .own m → ∀ p, v = .ref p → OwnO σ0 env0 p ∨ H0 p = none) (st : Step Z G0 H0 σ0 env0 G H σ env) : Step Z G0 H0 σ0 env0 G H (σ.set i (some v)) (env.set i s) := by
  refine ⟨st.g, st.h, st.n, st.d, fun j m' q => ?_, fun a ⟨j, m, q1, q2⟩ => ?_⟩
  · rcases getElem?_set_cases q with ⟨_, z, _⟩ | ⟨n, z⟩
    · exact absurd z (hp m')
    · rw [List.getElem?_set_ne n]; exact st.par j m' z
  · rcases getElem?_set_cases q2 with ⟨z1, z, w⟩ | ⟨n, z⟩
    · subst z1; subst z
      rw [List.getElem?_set_self (by omega)] at q1
      exact hd m rfl a (Option.some.inj (Option.some.inj q1))
    · rw [List.getElem?_set_ne n] at q1
      exact st.ow a ⟨j, m, q1, z⟩
end
end Cv
end

section
set_option Elab.async false
set_option linter.all false
set_option maxRecDepth 100000
set_option maxHeartbeats 4000000
set_option autoImplicit false
/-! CvB: results, the judgements, expressions. -/
namespace Cv
open PySem L2
variable [TbT]
structure Exc where
  cls : Str
  fs : List (Str × D)
/-- what a pure reading computes -/
inductive RP (α : Type) where
  | ok (a : α) | exc (x : Exc) | bad
/-- what a reading computes, and what my slots hold behind it -/
inductive Res (α : Type) where
  | ok (a : α) (e : En) | exc (x : Exc) (e : En) | bad
def RP.bind {α β : Type} (r : RP α) (f : α → RP β) : RP β := match r with
  | .ok a => f a
  | .exc x => .exc x
  | .bad => .bad
def Res.bind {α β : Type} (r : Res α) (f : α → En → Res β) : Res β := match r with
  | .ok a e => f a e
  | .exc x e => .exc x e
  | .bad => .bad
def RP.of {α : Type} : Option α → RP α
  | some a => .ok a
  | none => .bad
def Res.of {α : Type} (e : En) : Option α → Res α
  | some a => .ok a e
  | none => .bad
/-- an exception that flies: its class at C, its own dict at a -/
def ExcAt (K : PySem.W.Frag) (mg : Str → Option Value) (H : Hp) (x : Exc) (C a : Addr) : Prop := mg x.cls = some (.ref C) ∧ ∃ fs, H a = some (.xd fs) ∧ RepF K H fs x.fs
section
variable (K : PySem.W.Frag) (mg : Str → Option Value) (W : WX) (Z : Addr → Prop) (G H : Hp) (σ : L2.St) (env : En)
def PoP (r : RP D) (Q : VK) : Prop := match r with
  | .ok d => ∀ H' v, Grow H H' → Rep K H' v d → Q v H'
  | .exc x => ∀ H' C a, Grow H H' → ExcAt K mg H' x C a → W (.ref C) (some a) σ H'
  | .bad => False
def PoTP (r : RP Bool) (Q : Bool → Hp → Prop) : Prop := match r with
  | .ok d => ∀ H', Grow H H' → Q d H'
  | .exc x => ∀ H' C a, Grow H H' → ExcAt K mg H' x C a → W (.ref C) (some a) σ H'
  | .bad => False
def PoAP (r : RP (List D)) (Q : List V → Hp → Prop) : Prop := match r with
  | .ok ds => ∀ H' vs, Grow H H' → RepL K H' vs ds → Q vs H'
  | .exc x => ∀ H' C a, Grow H H' → ExcAt K mg H' x C a → W (.ref C) (some a) σ H'
  | .bad => False
/-- the exception's way out, the slots as they are then -/
def PoX (x : Exc) (e : En) : Prop := ∀ G' H' C a, Step Z G H σ env G' H' σ e → Hold K Z G' H' σ e → ExcAt K mg H' x C a → W (.ref C) (some a) σ H'
def PoE (r : Res D) (Q : VK) : Prop := match r with
  | .ok d e => ∀ G' H' v, Step Z G H σ env G' H' σ e → Hold K Z G' H' σ e → Rep K G' v d → Q v H'
  | .exc x e => PoX K mg W Z G H σ env x e
  | .bad => False
def PoF (r : Res MO) (Q : VK) : Prop := match r with
  | .ok m e => ∀ G' H' p o, Step Z G H σ env G' H' σ e → Hold K (fun a => Z a ∨ a = p) G' H' σ e → H' p = some o → H p = none → G' p = none → ¬ Own σ e p → RepM K G' o m → Q (.ref p) H'
  | .exc x e => PoX K mg W Z G H σ env x e
  | .bad => False
def SeqAt (K : PySem.W.Frag) (H : Hp) (p : Addr) (b : Bool) (xs : List V) : Prop := if b = true then SqL K H p xs else SqT K H p xs
/-- a list (true) or a tuple whose items are data; it may be one of mine -/
def PoC (r : Res (Bool × List D)) (Q : VK) : Prop := match r with
  | .ok (b, ds) e => ∀ G' H' p xs, Step Z G H σ env G' H' σ e → Hold K Z G' H' σ e → SeqAt K H' p b xs → RepL K G' xs ds → Q (.ref p) H'
  | .exc x e => PoX K mg W Z G H σ env x e
  | .bad => False
def PoT (r : Res Bool) (Q : Bool → Hp → Prop) : Prop := match r with
  | .ok d e => ∀ G' H', Step Z G H σ env G' H' σ e → Hold K Z G' H' σ e → Q d H'
  | .exc x e => PoX K mg W Z G H σ env x e
  | .bad => False
/-- an argument: data, or my slot's object -/
inductive Ar where
  | v (d : D) | s (i : Nat)
def ArOk (K : PySem.W.Frag) (G : Hp) (σ : L2.St) : V → Ar → Prop
  | v, .v d => Rep K G v d
  | v, .s i => σ[i]? = some (some v)
def PoA (r : Res (List Ar)) (Q : List V → Hp → Prop) : Prop := match r with
  | .ok as e => ∀ G' H' vs, Step Z G H σ env G' H' σ e → Hold K Z G' H' σ e → Paired (ArOk K G' σ) vs as → Q vs H'
  | .exc x e => PoX K mg W Z G H σ env x e
  | .bad => False
end
section
variable (K : PySem.W.Frag) (mg : Str → Option Value) (W : WX)
def EvP (t : TE) (m : En → RP D) : Prop := ∀ Z G H σ env Q, Hold K Z G H σ env → PoP K mg W H σ (m env) Q → t σ H Q
def EvTP (t : TT) (m : En → RP Bool) : Prop := ∀ Z G H σ env Q, Hold K Z G H σ env → PoTP K mg W H σ (m env) Q → t σ H Q
def EvAP (t : TA) (m : En → RP (List D)) : Prop := ∀ Z G H σ env Q, Hold K Z G H σ env → PoAP K mg W H σ (m env) Q → t σ H Q
def EvE (t : TE) (m : En → Res D) : Prop := ∀ Z G H σ env Q, Hold K Z G H σ env → PoE K mg W Z G H σ env (m env) Q → t σ H Q
def EvF (t : TE) (m : En → Res MO) : Prop := ∀ Z G H σ env Q, Hold K Z G H σ env → PoF K mg W Z G H σ env (m env) Q → t σ H Q
def EvC (t : TE) (m : En → Res (Bool × List D)) : Prop := ∀ Z G H σ env Q, Hold K Z G H σ env → PoC K mg W Z G H σ env (m env) Q → t σ H Q
def EvT (t : TT) (m : En → Res Bool) : Prop := ∀ Z G H σ env Q, Hold K Z G H σ env → PoT K mg W Z G H σ env (m env) Q → t σ H Q
def EvA (t : TA) (m : En → Res (List Ar)) : Prop := ∀ Z G H σ env Q, Hold K Z G H σ env → PoA K mg W Z G H σ env (m env) Q → t σ H Q
end
/-! ### composing -/
section
variable {K : PySem.W.Frag} {mg : Str → Option Value} {W : WX} {Z : Addr → Prop} {G H G1 H1 : Hp} {σ : L2.St} {env e1 : En}
theorem ExcAt.mono {H' : Hp} {x : Exc} {C a : Addr} (g : Grow H H') (h : ExcAt K mg H x C a) : ExcAt K mg H' x C a := by
  obtain ⟨h1, fs, h2, h3⟩ := h
  exact ⟨h1, fs, g.k a _ h2 (fun _ z => by cases z), h3.mono g.k⟩
theorem PoX.back {x : Exc} {e : En} (st : Step Z G H σ env G1 H1 σ e1) (h : PoX K mg W Z G H σ env x e) : PoX K mg W Z G1 H1 σ e1 x e :=
  fun G' H' C a s hd ex => h G' H' C a (st.trans s) hd ex
theorem PoE.back {r : Res D} {Q : VK} (st : Step Z G H σ env G1 H1 σ e1) (h : PoE K mg W Z G H σ env r Q) : PoE K mg W Z G1 H1 σ e1 r Q := by
  cases r with
  | ok d e => exact fun G' H' v s hd rp => h G' H' v (st.trans s) hd rp
  | exc x e => exact PoX.back st h
  | bad => exact h
theorem PoC.back {r : Res (Bool × List D)} {Q : VK} (st : Step Z G H σ env G1 H1 σ e1) (h : PoC K mg W Z G H σ env r Q) : PoC K mg W Z G1 H1 σ e1 r Q := by
  cases r with
  | ok d e => exact fun G' H' p xs s hd rp r => h G' H' p xs (st.trans s) hd rp r
  | exc x e => exact PoX.back st h
  | bad => exact h
theorem PoF.back {r : Res MO} {Q : VK} (st : Step Z G H σ env G1 H1 σ e1) (h : PoF K mg W Z G H σ env r Q) : PoF K mg W Z G1 H1 σ e1 r Q := by
  cases r with
  | ok d e => exact fun G' H' p o s hd a b c d r => h G' H' p o (st.trans s) hd a (st.d p b) c d r
  | exc x e => exact PoX.back st h
  | bad => exact h
theorem PoT.back {r : Res Bool} {Q : Bool → Hp → Prop} (st : Step Z G H σ env G1 H1 σ e1) (h : PoT K mg W Z G H σ env r Q) : PoT K mg W Z G1 H1 σ e1 r Q := by
  cases r with
  | ok d e => exact fun G' H' s hd => h G' H' (st.trans s) hd
  | exc x e => exact PoX.back st h
  | bad => exact h
theorem PoA.back {r : Res (List Ar)} {Q : List V → Hp → Prop} (st : Step Z G H σ env G1 H1 σ e1) (h : PoA K mg W Z G H σ env r Q) : PoA K mg W Z G1 H1 σ e1 r Q := by
  cases r with
  | ok d e => exact fun G' H' vs s hd rp => h G' H' vs (st.trans s) hd rp
  | exc x e => exact PoX.back st h
  | bad => exact h
/-- a part, then the rest -/
theorem PoP.then {H1 : Hp} {r : RP D} {Q : VK} (g : Grow H H1) (h : PoP K mg W H σ r Q) : PoP K mg W H1 σ r Q := by
  cases r with
  | ok d => exact fun H' v s rp => h H' v (g.trans s) rp
  | exc x => exact fun H' C a s ex => h H' C a (g.trans s) ex
  | bad => exact h
theorem PoTP.then {H1 : Hp} {r : RP Bool} {Q : Bool → Hp → Prop} (g : Grow H H1) (h : PoTP K mg W H σ r Q) : PoTP K mg W H1 σ r Q := by
  cases r with
  | ok d => exact fun H' s => h H' (g.trans s)
  | exc x => exact fun H' C a s ex => h H' C a (g.trans s) ex
  | bad => exact h
theorem PoAP.then {H1 : Hp} {r : RP (List D)} {Q : List V → Hp → Prop} (g : Grow H H1) (h : PoAP K mg W H σ r Q) : PoAP K mg W H1 σ r Q := by
  cases r with
  | ok d => exact fun H' v s rp => h H' v (g.trans s) rp
  | exc x => exact fun H' C a s ex => h H' C a (g.trans s) ex
  | bad => exact h
end
/-! ### pure readings -/
def pVar (i : Nat) (env : En) : RP D := match env[i]? with
  | some (.imm d) => .ok d
  | some (.fre d) => .ok d
  | some (.own m) => .ok m.toD
  | some (.par m) => .ok m.toD
  | _ => .bad
def pC (d : D) (_ : En) : RP D := .ok d
def p1 (f : D → Option D) (a : En → RP D) (e : En) : RP D := (a e).bind fun x => .of (f x)
def p2 (f : D → D → Option D) (a b : En → RP D) (e : En) : RP D := (a e).bind fun x => (b e).bind fun y => .of (f x y)
def pAnd (a b : En → RP D) (e : En) : RP D := (a e).bind fun x => match x with
  | .bl true => b e
  | .bl false => .ok (.bl false)
  | _ => .bad
def pOr (a b : En → RP D) (e : En) : RP D := (a e).bind fun x => match x with
  | .bl true => .ok (.bl true)
  | .bl false => b e
  | _ => .bad
def dNot : D → Option D
  | .bl b => some (.bl (!b))
  | _ => none
def qB (a : En → RP D) (e : En) : RP Bool := (a e).bind fun x => match x with
  | .bl b => .ok b
  | _ => .bad
def qAnd (a b : En → RP Bool) (e : En) : RP Bool := (a e).bind fun x => if x = true then b e else .ok false
def qOr (a b : En → RP Bool) (e : En) : RP Bool := (a e).bind fun x => if x = true then .ok true else b e
def qNot (a : En → RP Bool) (e : En) : RP Bool := (a e).bind fun x => .ok (!x)
def pIf (c : En → RP Bool) (a b : En → RP D) (e : En) : RP D := (c e).bind fun x => if x = true then a e else b e
def pNil (_ : En) : RP (List D) := .ok []
def pCons (a : En → RP D) (b : En → RP (List D)) (e : En) : RP (List D) := (a e).bind fun x => (b e).bind fun xs => .ok (x :: xs)
section
variable {K : PySem.W.Frag} {mg : Str → Option Value} {W : WX}
theorem evp_var {i : Nat} : EvP K mg W (tVar i) (pVar i) := by
  intro Z G H σ env Q hd h
  unfold pVar at h
  cases e : env[i]? with
  | none => rw [e] at h; exact h.elim
  | some s =>
    rw [e] at h
    cases s with
    | none => exact h.elim
    | imm d =>
      obtain ⟨v, h1, h2⟩ := hd.imm_get e
      exact ⟨v, h1, h H v (Grow.refl H) (h2.mono (Kp.of hd.ex))⟩
    | fre d =>
      obtain ⟨v, R, h1, h2, h3, h4⟩ := hd.fr i d e
      exact ⟨v, h1, h H v (Grow.refl H) (h4.mono (Kp.of h2))⟩
    | own m =>
      obtain ⟨p, o, h1, h2, h3, h4⟩ := hd.own_get e rfl
      exact ⟨_, h1, h H _ (Grow.refl H) ((h4.mono (Kp.of hd.ex)).rep h2)⟩
    | par m =>
      obtain ⟨p, o, h1, h2, h3, h4⟩ := hd.own_get e rfl
      exact ⟨_, h1, h H _ (Grow.refl H) ((h4.mono (Kp.of hd.ex)).rep h2)⟩
theorem evp_c {v : V} {d : D} (r : ∀ H, Rep K H v d) : EvP K mg W (tC v) (pC d) := fun Z G H σ env Q hd h => h H v (Grow.refl H) (r H)
theorem EvP.after {t : TE} {m : En → RP D} (h : EvP K mg W t m) {β : Type} {Z : Addr → Prop} {G H : Hp} {σ : L2.St} {env : En} (hd : Hold K Z G H σ env) {f : D → RP β} {Q : VK} {Bad : RP β → Prop}
    (hb : Bad ((m env).bind f)) (h0 : ¬ Bad .bad) (hx : ∀ x, Bad (.exc x) → ∀ H' C a, Grow H H' → ExcAt K mg H' x C a → W (.ref C) (some a) σ H')
    (hk : ∀ d H1 v, Bad (f d) → Grow H H1 → Hold K Z G H1 σ env → Rep K H1 v d → Q v H1) : t σ H Q := by
  refine h Z G H σ env Q hd ?_
  cases e : m env with
  | ok d => rw [e] at hb; exact fun H' v g r => hk d H' v hb g (hd.grow g) r
  | exc x => rw [e] at hb; exact hx x hb
  | bad => rw [e] at hb; exact (h0 hb).elim
/-- a two-place operation on data -/
def Op2 (K : PySem.W.Frag) (r : R2) (f : D → D → Option D) : Prop := ∀ H x y d1 d2 z Q, Rep K H x d1 → Rep K H y d2 → f d1 d2 = some z → (∀ H' v, Grow H H' → Rep K H' v z → Q v H') → r x y H Q
def Op1 (K : PySem.W.Frag) (r : V → Hp → VK → Prop) (f : D → Option D) : Prop := ∀ H x d z Q, Rep K H x d → f d = some z → (∀ H' v, Grow H H' → Rep K H' v z → Q v H') → r x H Q
variable {ta tb : TE} {ma mb : En → RP D}
theorem evp_un {r : V → Hp → VK → Prop} {f : D → Option D} (o : Op1 K r f) (ha : EvP K mg W ta ma) : EvP K mg W (tUn r ta) (p1 f ma) := by
  intro Z G H σ env Q hd h
  refine ha.after hd (Bad := fun r => PoP K mg W H σ r Q) h (fun z => z) (fun x z => z) fun d H1 v hb g hd1 rv => ?_
  cases e : f d with
  | none => rw [e] at hb; exact False.elim hb
  | some z => rw [e] at hb; exact o H1 v d z Q rv e fun H' w g' rw' => hb H' w (g.trans g') rw'
theorem evp_op {r : R2} {f : D → D → Option D} (o : Op2 K r f) (ha : EvP K mg W ta ma) (hb : EvP K mg W tb mb) : EvP K mg W (tOp r ta tb) (p2 f ma mb) := by
  intro Z G H σ env Q hd h
  refine ha.after hd (Bad := fun r => PoP K mg W H σ r Q) h (fun z => z) (fun x z => z) fun d H1 v hb1 g hd1 rv => ?_
  refine hb.after hd1 (Bad := fun r => PoP K mg W H σ r Q) hb1 (fun z => z) (fun x z H' C a g' => z H' C a (g.trans g')) fun d2 H2 v2 hb2 g2 hd2 rv2 => ?_
  cases e : f d d2 with
  | none => rw [e] at hb2; exact False.elim hb2
  | some z => rw [e] at hb2; exact o H2 v v2 d d2 z Q (rv.mono g2.k) rv2 e fun H' w g' rw' => hb2 H' w ((g.trans g2).trans g') rw'
theorem evp_and (ha : EvP K mg W ta ma) (hb : EvP K mg W tb mb) : EvP K mg W (tAndV ta tb) (pAnd ma mb) := by
  intro Z G H σ env Q hd h
  refine ha.after hd (Bad := fun r => PoP K mg W H σ r Q) h (fun z => z) (fun x z => z) fun d H1 v hb1 g hd1 rv => ?_
  cases d with
  | bl b =>
    cases rv
    refine ⟨b, rfl, ?_⟩
    cases b with
    | true => exact hb Z G H1 σ env Q hd1 (PoP.then g hb1)
    | false => exact hb1 H1 _ g (.bl false)
  | _ => exact False.elim hb1
theorem evp_or (ha : EvP K mg W ta ma) (hb : EvP K mg W tb mb) : EvP K mg W (tOrV ta tb) (pOr ma mb) := by
  intro Z G H σ env Q hd h
  refine ha.after hd (Bad := fun r => PoP K mg W H σ r Q) h (fun z => z) (fun x z => z) fun d H1 v hb1 g hd1 rv => ?_
  cases d with
  | bl b =>
    cases rv
    refine ⟨b, rfl, ?_⟩
    cases b with
    | true => exact hb1 H1 _ g (.bl true)
    | false => exact hb Z G H1 σ env Q hd1 (PoP.then g hb1)
  | _ => exact False.elim hb1
theorem evp_not (ha : EvP K mg W ta ma) : EvP K mg W (tNotV ta) (p1 dNot ma) := by
  intro Z G H σ env Q hd h
  refine ha.after hd (Bad := fun r => PoP K mg W H σ r Q) h (fun z => z) (fun x z => z) fun d H1 v hb1 g hd1 rv => ?_
  cases d with
  | bl b => cases rv; exact ⟨b, rfl, hb1 H1 _ g (.bl _)⟩
  | _ => exact False.elim hb1
theorem evtp_B (ha : EvP K mg W ta ma) : EvTP K mg W (tB ta) (qB ma) := by
  intro Z G H σ env Q hd h
  refine ha.after hd (Bad := fun r => PoTP K mg W H σ r Q) h (fun z => z) (fun x z => z) fun d H1 v hb1 g hd1 rv => ?_
  cases d with
  | bl b => cases rv; exact ⟨b, rfl, hb1 H1 g⟩
  | _ => exact False.elim hb1
theorem evtp_test (ha : EvP K mg W ta ma) : EvTP K mg W (tTest ta) (qB ma) := evtp_B ha
variable {ua ub : TT} {na nb : En → RP Bool}
theorem EvTP.after {t : TT} {m : En → RP Bool} (h : EvTP K mg W t m) {β : Type} {Z : Addr → Prop} {G H : Hp} {σ : L2.St} {env : En} (hd : Hold K Z G H σ env) {f : Bool → RP β} {Q : Bool → Hp → Prop} {Bad : RP β → Prop}
    (hb : Bad ((m env).bind f)) (h0 : ¬ Bad .bad) (hx : ∀ x, Bad (.exc x) → ∀ H' C a, Grow H H' → ExcAt K mg H' x C a → W (.ref C) (some a) σ H')
    (hk : ∀ d H1, Bad (f d) → Grow H H1 → Hold K Z G H1 σ env → Q d H1) : t σ H Q := by
  refine h Z G H σ env Q hd ?_
  cases e : m env with
  | ok d => rw [e] at hb; exact fun H' g => hk d H' hb g (hd.grow g)
  | exc x => rw [e] at hb; exact hx x hb
  | bad => rw [e] at hb; exact (h0 hb).elim
theorem evtp_and (ha : EvTP K mg W ua na) (hb : EvTP K mg W ub nb) : EvTP K mg W (tAnd ua ub) (qAnd na nb) := by
  intro Z G H σ env Q hd h
  refine ha.after hd (Bad := fun r => PoTP K mg W H σ r Q) h (fun z => z) (fun x z => z) fun d H1 hb1 g hd1 => ?_
  cases d with
  | true => exact hb Z G H1 σ env Q hd1 (PoTP.then g hb1)
  | false => exact hb1 H1 g
theorem evtp_or (ha : EvTP K mg W ua na) (hb : EvTP K mg W ub nb) : EvTP K mg W (tOr ua ub) (qOr na nb) := by
  intro Z G H σ env Q hd h
  refine ha.after hd (Bad := fun r => PoTP K mg W H σ r Q) h (fun z => z) (fun x z => z) fun d H1 hb1 g hd1 => ?_
  cases d with
  | true => exact hb1 H1 g
  | false => exact hb Z G H1 σ env Q hd1 (PoTP.then g hb1)
theorem evtp_not (ha : EvTP K mg W ua na) : EvTP K mg W (tNot ua) (qNot na) := by
  intro Z G H σ env Q hd h
  exact ha.after hd (Bad := fun r => PoTP K mg W H σ r Q) h (fun z => z) (fun x z => z) fun d H1 hb1 g hd1 => hb1 H1 g
theorem evp_if (hc : EvTP K mg W ua na) (ha : EvP K mg W ta ma) (hb : EvP K mg W tb mb) : EvP K mg W (tIf ua ta tb) (pIf na ma mb) := by
  intro Z G H σ env Q hd h
  refine hc.after hd (Bad := fun r => PoP K mg W H σ r Q) h (fun z => z) (fun x z => z) fun d H1 hb1 g hd1 => ?_
  cases d with
  | true => exact ha Z G H1 σ env Q hd1 (PoP.then g hb1)
  | false => exact hb Z G H1 σ env Q hd1 (PoP.then g hb1)
theorem evap_nil : EvAP K mg W tNil pNil := fun Z G H σ env Q hd h => h H [] (Grow.refl H) .nil
theorem evap_cons {tr : TA} {mr : En → RP (List D)} (ha : EvP K mg W ta ma) (hr : EvAP K mg W tr mr) : EvAP K mg W (tCons ta tr) (pCons ma mr) := by
  intro Z G H σ env Q hd h
  refine ha.after hd (Bad := fun r => PoAP K mg W H σ r Q) h (fun z => z) (fun x z => z) fun d H1 v hb1 g hd1 rv => ?_
  refine hr Z G H1 σ env _ hd1 ?_
  cases e : mr env with
  | ok ds => rw [e] at hb1; exact fun H' vs g' rs => hb1 H' _ (g.trans g') (.cons (rv.mono g'.k) rs)
  | exc x => rw [e] at hb1; exact fun H' C a g' ex => hb1 H' C a (g.trans g') ex
  | bad => rw [e] at hb1; exact False.elim hb1
/-- a built-in's call -/
def OpN (K : PySem.W.Frag) (r : List V → Hp → VK → Prop) (f : List D → Option D) : Prop := ∀ H xs ds z Q, RepL K H xs ds → f ds = some z → (∀ H' v, Grow H H' → Rep K H' v z → Q v H') → r xs H Q
def pN (f : List D → Option D) (a : En → RP (List D)) (e : En) : RP D := (a e).bind fun x => .of (f x)
theorem evp_CB {r : List V → Hp → VK → Prop} {f : List D → Option D} {t : TA} {m : En → RP (List D)} (o : OpN K r f) (ha : EvAP K mg W t m) : EvP K mg W (tCB r t) (pN f m) := by
  intro Z G H σ env Q hd h
  refine ha Z G H σ env _ hd ?_
  unfold pN at h
  cases e : m env with
  | ok ds =>
    rw [e] at h
    intro H' vs g rs
    have h' : PoP K mg W H σ (.of (f ds)) Q := h
    cases e2 : f ds with
    | none => rw [e2] at h'; exact False.elim h'
    | some z => rw [e2] at h'; exact o H' vs ds z Q rs e2 fun H2 v g2 rv => h' H2 v (g.trans g2) rv
  | exc x => rw [e] at h; exact h
  | bad => rw [e] at h; exact h
end
end Cv
end

section
set_option Elab.async false
set_option linter.all false
set_option maxRecDepth 100000
set_option maxHeartbeats 4000000
set_option autoImplicit false
/-! CvC: readings that may change what is mine; containers. -/
namespace Cv
open PySem L2
variable [TbT]
def flat : D → Bool
  | .non => true
  | .bl _ => true
  | .int _ => true
  | .str _ => true
  | _ => false
theorem Rep.flat {K : PySem.W.Frag} {H G : Hp} {v : V} {d : D} (r : Rep K H v d) (f : flat d = true) : Rep K G v d := by
  cases r with
  | non => exact .non
  | bl b => exact .bl b
  | int i => exact .int i
  | str x => exact .str x
  | lst _ _ => cases f
  | rls _ _ => cases f
  | tup _ _ => cases f
  | obj _ _ => cases f
  | fn _ => cases f
theorem RepL.flat {K : PySem.W.Frag} {H G : Hp} : ∀ {xs : List V} {ds : List D}, RepL K H xs ds → ds.all flat = true → RepL K G xs ds
  | _, _, .nil, _ => .nil
  | _, _, .cons r t, f => by
    rw [List.all_cons, Bool.and_eq_true] at f
    exact .cons (r.flat f.1) (RepL.flat t f.2)
def okF (d : D) (e : En) : Res D := if flat d = true then .ok d e else .bad
def liftP (m : En → RP D) (e : En) : Res D := match m e with
  | .ok d => okF d e
  | .exc x => .exc x e
  | .bad => .bad
def liftT (m : En → RP Bool) (e : En) : Res Bool := match m e with
  | .ok d => .ok d e
  | .exc x => .exc x e
  | .bad => .bad
section
variable {K : PySem.W.Frag} {mg : Str → Option Value} {W : WX} {Z : Addr → Prop} {G H : Hp} {σ : L2.St} {env : En}
theorem PoX.pure {x : Exc} (h : PoX K mg W Z G H σ env x env) (hd : Hold K Z G H σ env) : ∀ H' C a, Grow H H' → ExcAt K mg H' x C a → W (.ref C) (some a) σ H' :=
  fun H' C a g ex => h G H' C a (Step.grow g) (hd.grow g) ex
theorem eve_p {t : TE} {m : En → RP D} (h : EvP K mg W t m) : EvE K mg W t (liftP m) := by
  intro Z G H σ env Q hd q
  refine h Z G H σ env Q hd ?_
  unfold liftP at q
  cases e : m env with
  | ok d =>
    rw [e] at q
    have q' : PoE K mg W Z G H σ env (okF d env) Q := q
    unfold okF at q'
    cases f : flat d with
    | false => rw [f] at q'; exact False.elim q'
    | true => rw [f] at q'; exact fun H' v g r => q' G H' v (Step.grow g) (hd.grow g) (r.flat f)
  | exc x => rw [e] at q; exact PoX.pure q hd
  | bad => rw [e] at q; exact q
theorem evt_p {t : TT} {m : En → RP Bool} (h : EvTP K mg W t m) : EvT K mg W t (liftT m) := by
  intro Z G H σ env Q hd q
  refine h Z G H σ env Q hd ?_
  unfold liftT at q
  cases e : m env with
  | ok d => rw [e] at q; exact fun H' g => q G H' (Step.grow g) (hd.grow g)
  | exc x => rw [e] at q; exact PoX.pure q hd
  | bad => rw [e] at q; exact q
/-- a name read as data that stays: one of mine becomes data -/
def eVar (i : Nat) (env : En) : Res D := match env[i]? with
  | some (.imm d) => .ok d env
  | some (.own m) => .ok m.toD (env.set i (.imm m.toD))
  | _ => .bad
theorem eve_var {i : Nat} : EvE K mg W (tVar i) (eVar i) := by
  intro Z G H σ env Q hd h
  unfold eVar at h
  cases e : env[i]? with
  | none => rw [e] at h; exact h.elim
  | some s =>
    rw [e] at h
    cases s with
    | none => exact h.elim
    | imm d =>
      obtain ⟨v, h1, h2⟩ := hd.imm_get e
      exact ⟨v, h1, h G H v Step.refl hd h2⟩
    | fre d => exact h.elim
    | own m =>
      obtain ⟨p, o, h1, h2, h3, h4⟩ := hd.freeze e
      exact ⟨_, h1, h _ _ _ h3 h2 h4⟩
    | par m => exact h.elim
/-- one reading behind the other -/
theorem EvE.after {t : TE} {m : En → Res D} (h : EvE K mg W t m) {β : Type} (hd : Hold K Z G H σ env) {f : D → En → Res β} {Q : VK} {Bad : Res β → Prop}
    (hb : Bad ((m env).bind f)) (h0 : ¬ Bad .bad) (hx : ∀ x e, Bad (.exc x e) → PoX K mg W Z G H σ env x e)
    (hk : ∀ d e G1 H1 v, Bad (f d e) → Step Z G H σ env G1 H1 σ e → Hold K Z G1 H1 σ e → Rep K G1 v d → Q v H1) : t σ H Q := by
  refine h Z G H σ env Q hd ?_
  cases e : m env with
  | ok d e' => rw [e] at hb; exact fun G' H' v s hd' r => hk d e' G' H' v hb s hd' r
  | exc x e' => rw [e] at hb; exact hx x e' hb
  | bad => rw [e] at hb; exact (h0 hb).elim
theorem EvT.after {t : TT} {m : En → Res Bool} (h : EvT K mg W t m) {β : Type} (hd : Hold K Z G H σ env) {f : Bool → En → Res β} {Q : Bool → Hp → Prop} {Bad : Res β → Prop}
    (hb : Bad ((m env).bind f)) (h0 : ¬ Bad .bad) (hx : ∀ x e, Bad (.exc x e) → PoX K mg W Z G H σ env x e)
    (hk : ∀ d e G1 H1, Bad (f d e) → Step Z G H σ env G1 H1 σ e → Hold K Z G1 H1 σ e → Q d H1) : t σ H Q := by
  refine h Z G H σ env Q hd ?_
  cases e : m env with
  | ok d e' => rw [e] at hb; exact fun G' H' s hd' => hk d e' G' H' hb s hd'
  | exc x e' => rw [e] at hb; exact hx x e' hb
  | bad => rw [e] at hb; exact (h0 hb).elim
theorem EvC.after {t : TE} {m : En → Res (Bool × List D)} (h : EvC K mg W t m) {β : Type} (hd : Hold K Z G H σ env) {f : Bool × List D → En → Res β} {Q : VK} {Bad : Res β → Prop}
    (hb : Bad ((m env).bind f)) (h0 : ¬ Bad .bad) (hx : ∀ x e, Bad (.exc x e) → PoX K mg W Z G H σ env x e)
    (hk : ∀ b ds e G1 H1 p xs, Bad (f (b, ds) e) → Step Z G H σ env G1 H1 σ e → Hold K Z G1 H1 σ e → SeqAt K H1 p b xs → RepL K G1 xs ds → Q (.ref p) H1) : t σ H Q := by
  refine h Z G H σ env Q hd ?_
  cases e : m env with
  | ok d e' => rw [e] at hb; obtain ⟨b, ds⟩ := d; exact fun G' H' p xs s hd' r1 r2 => hk b ds e' G' H' p xs hb s hd' r1 r2
  | exc x e' => rw [e] at hb; exact hx x e' hb
  | bad => rw [e] at hb; exact (h0 hb).elim
def e1 (f : D → Option D) (a : En → Res D) (e : En) : Res D := (a e).bind fun x e1 => match f x with
  | some z => okF z e1
  | none => .bad
def e2 (f : D → D → Option D) (a b : En → Res D) (e : En) : Res D := (a e).bind fun x e1 => (b e1).bind fun y e2 => match f x y with
  | some z => okF z e2
  | none => .bad
variable {ta tb : TE} {ma mb : En → Res D}
theorem okF_elim {z : D} {e : En} {Q : VK} (h : PoE K mg W Z G H σ env (okF z e) Q) : flat z = true ∧ PoE K mg W Z G H σ env (.ok z e) Q := by
  unfold okF at h
  cases f : flat z with
  | false => rw [f] at h; exact False.elim h
  | true => rw [f] at h; exact ⟨rfl, h⟩
theorem eve_un {r : V → Hp → VK → Prop} {f : D → Option D} (o : Op1 K r f) (ha : EvE K mg W ta ma) : EvE K mg W (tUn r ta) (e1 f ma) := by
  intro Z G H σ env Q hd h
  refine ha.after hd (Bad := fun r => PoE K mg W Z G H σ env r Q) h (fun z => z) (fun x e z => z) fun d e G1 H1 v hb s hd1 rv => ?_
  cases q : f d with
  | none => rw [q] at hb; exact False.elim hb
  | some z =>
    rw [q] at hb
    obtain ⟨fl, hb⟩ := okF_elim hb
    exact o H1 v d z Q (rv.mono (Kp.of hd1.ex)) q fun H' w g r => hb G1 H' w (s.trans (Step.grow g)) (hd1.grow g) (r.flat fl)
theorem eve_op {r : R2} {f : D → D → Option D} (o : Op2 K r f) (ha : EvE K mg W ta ma) (hb : EvE K mg W tb mb) : EvE K mg W (tOp r ta tb) (e2 f ma mb) := by
  intro Z G H σ env Q hd h
  refine ha.after hd (Bad := fun r => PoE K mg W Z G H σ env r Q) h (fun z => z) (fun x e z => z) fun d e G1 H1 v h1 s hd1 rv => ?_
  refine hb.after hd1 (Bad := fun r => PoE K mg W Z G H σ env r Q) h1 (fun z => z) (fun x e z => PoX.back s z) fun d2 e2 G2 H2 v2 h2 s2 hd2 rv2 => ?_
  cases q : f d d2 with
  | none => rw [q] at h2; exact False.elim h2
  | some z =>
    rw [q] at h2
    obtain ⟨fl, h2⟩ := okF_elim h2
    exact o H2 v v2 d d2 z Q ((rv.mono (Kp.of s2.g)).mono (Kp.of hd2.ex)) (rv2.mono (Kp.of hd2.ex)) q fun H' w g r => h2 G2 H' w ((s.trans s2).trans (Step.grow g)) (hd2.grow g) (r.flat fl)
def eAnd (a b : En → Res D) (e : En) : Res D := (a e).bind fun x e1 => match x with
  | .bl true => b e1
  | .bl false => .ok (.bl false) e1
  | _ => .bad
def eOr (a b : En → Res D) (e : En) : Res D := (a e).bind fun x e1 => match x with
  | .bl true => .ok (.bl true) e1
  | .bl false => b e1
  | _ => .bad
theorem eve_and (ha : EvE K mg W ta ma) (hb : EvE K mg W tb mb) : EvE K mg W (tAndV ta tb) (eAnd ma mb) := by
  intro Z G H σ env Q hd h
  refine ha.after hd (Bad := fun r => PoE K mg W Z G H σ env r Q) h (fun z => z) (fun x e z => z) fun d e G1 H1 v h1 s hd1 rv => ?_
  cases d with
  | bl b =>
    cases rv
    refine ⟨b, rfl, ?_⟩
    cases b with
    | true => exact hb Z G1 H1 σ e Q hd1 (PoE.back s h1)
    | false => exact h1 G1 H1 _ s hd1 (.bl false)
  | _ => exact False.elim h1
theorem eve_or (ha : EvE K mg W ta ma) (hb : EvE K mg W tb mb) : EvE K mg W (tOrV ta tb) (eOr ma mb) := by
  intro Z G H σ env Q hd h
  refine ha.after hd (Bad := fun r => PoE K mg W Z G H σ env r Q) h (fun z => z) (fun x e z => z) fun d e G1 H1 v h1 s hd1 rv => ?_
  cases d with
  | bl b =>
    cases rv
    refine ⟨b, rfl, ?_⟩
    cases b with
    | true => exact h1 G1 H1 _ s hd1 (.bl true)
    | false => exact hb Z G1 H1 σ e Q hd1 (PoE.back s h1)
  | _ => exact False.elim h1
theorem eve_not (ha : EvE K mg W ta ma) : EvE K mg W (tNotV ta) (e1 dNot ma) := by
  intro Z G H σ env Q hd h
  refine ha.after hd (Bad := fun r => PoE K mg W Z G H σ env r Q) h (fun z => z) (fun x e z => z) fun d e G1 H1 v h1 s hd1 rv => ?_
  cases d with
  | bl b => cases rv; exact ⟨b, rfl, h1 G1 H1 _ s hd1 (.bl _)⟩
  | _ => exact False.elim h1
def tBm (a : En → Res D) (e : En) : Res Bool := (a e).bind fun x e1 => match x with
  | .bl b => .ok b e1
  | _ => .bad
theorem evt_B (ha : EvE K mg W ta ma) : EvT K mg W (tB ta) (tBm ma) := by
  intro Z G H σ env Q hd h
  refine ha.after hd (Bad := fun r => PoT K mg W Z G H σ env r Q) h (fun z => z) (fun x e z => z) fun d e G1 H1 v h1 s hd1 rv => ?_
  cases d with
  | bl b => cases rv; exact ⟨b, rfl, h1 G1 H1 s hd1⟩
  | _ => exact False.elim h1
def tAndm (a b : En → Res Bool) (e : En) : Res Bool := (a e).bind fun x e1 => if x = true then b e1 else .ok false e1
def tOrm (a b : En → Res Bool) (e : En) : Res Bool := (a e).bind fun x e1 => if x = true then .ok true e1 else b e1
def tNotm (a : En → Res Bool) (e : En) : Res Bool := (a e).bind fun x e1 => .ok (!x) e1
def eIf (c : En → Res Bool) (a b : En → Res D) (e : En) : Res D := (c e).bind fun x e1 => if x = true then a e1 else b e1
variable {ua ub : TT} {na nb : En → Res Bool}
theorem evt_and (ha : EvT K mg W ua na) (hb : EvT K mg W ub nb) : EvT K mg W (tAnd ua ub) (tAndm na nb) := by
  intro Z G H σ env Q hd h
  refine ha.after hd (Bad := fun r => PoT K mg W Z G H σ env r Q) h (fun z => z) (fun x e z => z) fun d e G1 H1 h1 s hd1 => ?_
  cases d with
  | true => exact hb Z G1 H1 σ e Q hd1 (PoT.back s h1)
  | false => exact h1 G1 H1 s hd1
theorem evt_or (ha : EvT K mg W ua na) (hb : EvT K mg W ub nb) : EvT K mg W (tOr ua ub) (tOrm na nb) := by
  intro Z G H σ env Q hd h
  refine ha.after hd (Bad := fun r => PoT K mg W Z G H σ env r Q) h (fun z => z) (fun x e z => z) fun d e G1 H1 h1 s hd1 => ?_
  cases d with
  | true => exact h1 G1 H1 s hd1
  | false => exact hb Z G1 H1 σ e Q hd1 (PoT.back s h1)
theorem evt_not (ha : EvT K mg W ua na) : EvT K mg W (tNot ua) (tNotm na) := by
  intro Z G H σ env Q hd h
  exact ha.after hd (Bad := fun r => PoT K mg W Z G H σ env r Q) h (fun z => z) (fun x e z => z) fun d e G1 H1 h1 s hd1 => h1 G1 H1 s hd1
theorem eve_if (hc : EvT K mg W ua na) (ha : EvE K mg W ta ma) (hb : EvE K mg W tb mb) : EvE K mg W (tIf ua ta tb) (eIf na ma mb) := by
  intro Z G H σ env Q hd h
  refine hc.after hd (Bad := fun r => PoE K mg W Z G H σ env r Q) h (fun z => z) (fun x e z => z) fun d e G1 H1 h1 s hd1 => ?_
  cases d with
  | true => exact ha Z G1 H1 σ e Q hd1 (PoE.back s h1)
  | false => exact hb Z G1 H1 σ e Q hd1 (PoE.back s h1)
end
/-! ### items and arguments -/
section
variable (K : PySem.W.Frag) (mg : Str → Option Value) (W : WX)
def PoV (Z : Addr → Prop) (G H : Hp) (σ : L2.St) (env : En) (r : Res (List D)) (Q : List V → Hp → Prop) : Prop := match r with
  | .ok ds e => ∀ G' H' vs, Step Z G H σ env G' H' σ e → Hold K Z G' H' σ e → RepL K G' vs ds → Q vs H'
  | .exc x e => PoX K mg W Z G H σ env x e
  | .bad => False
/-- several values that stay -/
def EvV (t : TA) (m : En → Res (List D)) : Prop := ∀ Z G H σ env Q, Hold K Z G H σ env → PoV K mg W Z G H σ env (m env) Q → t σ H Q
end
def vNil (e : En) : Res (List D) := .ok [] e
def vCons (a : En → Res D) (b : En → Res (List D)) (e : En) : Res (List D) := (a e).bind fun x e1 => (b e1).bind fun xs e2 => .ok (x :: xs) e2
def aNil (e : En) : Res (List Ar) := .ok [] e
def aV (a : En → Res D) (b : En → Res (List Ar)) (e : En) : Res (List Ar) := (a e).bind fun x e1 => (b e1).bind fun xs e2 => .ok (.v x :: xs) e2
/-- slot i's own object is handed on -/
def aS (i : Nat) (b : En → Res (List Ar)) (e : En) : Res (List Ar) := match e[i]? with
  | some (.own _) => (b e).bind fun xs e2 => .ok (.s i :: xs) e2
  | some (.par _) => (b e).bind fun xs e2 => .ok (.s i :: xs) e2
  | _ => .bad
section
variable {K : PySem.W.Frag} {mg : Str → Option Value} {W : WX} {Z : Addr → Prop} {G H : Hp} {σ : L2.St} {env : En}
theorem evv_nil : EvV K mg W tNil vNil := fun Z G H σ env Q hd h => h G H [] Step.refl hd .nil
theorem evv_cons {ta : TE} {ma : En → Res D} {t : TA} {m : En → Res (List D)} (ha : EvE K mg W ta ma) (hr : EvV K mg W t m) : EvV K mg W (tCons ta t) (vCons ma m) := by
  intro Z G H σ env Q hd h
  refine ha.after hd (Bad := fun r => PoV K mg W Z G H σ env r Q) h (fun z => z) (fun x e z => z) fun d e G1 H1 v h1 s hd1 rv => ?_
  refine hr Z G1 H1 σ e _ hd1 ?_
  cases q : m e with
  | ok ds e2 => rw [q] at h1; exact fun G' H' vs s' hd' rs => h1 G' H' _ (s.trans s') hd' (.cons (rv.mono (Kp.of s'.g)) rs)
  | exc x e2 => rw [q] at h1; exact PoX.back s h1
  | bad => rw [q] at h1; exact False.elim h1
theorem eva_nil : EvA K mg W tNil aNil := fun Z G H σ env Q hd h => h G H [] Step.refl hd .nil
theorem ArOk.mono {G' : Hp} (e : Kp G G') {v : V} {a : Ar} (h : ArOk K G σ v a) : ArOk K G' σ v a := by
  cases a with
  | v d => exact Rep.mono e (show Rep K G v d from h)
  | s i => exact h
theorem eva_v {ta : TE} {ma : En → Res D} {t : TA} {m : En → Res (List Ar)} (ha : EvE K mg W ta ma) (hr : EvA K mg W t m) : EvA K mg W (tCons ta t) (aV ma m) := by
  intro Z G H σ env Q hd h
  refine ha.after hd (Bad := fun r => PoA K mg W Z G H σ env r Q) h (fun z => z) (fun x e z => z) fun d e G1 H1 v h1 s hd1 rv => ?_
  refine hr Z G1 H1 σ e _ hd1 ?_
  cases q : m e with
  | ok ds e2 => rw [q] at h1; exact fun G' H' vs s' hd' rs => h1 G' H' _ (s.trans s') hd' (.cons (show Rep K G' v d from rv.mono (Kp.of s'.g)) rs)
  | exc x e2 => rw [q] at h1; exact PoX.back s h1
  | bad => rw [q] at h1; exact False.elim h1
theorem eva_s {i : Nat} {t : TA} {m : En → Res (List Ar)} (hr : EvA K mg W t m) : EvA K mg W (tCons (tVar i) t) (aS i m) := by
  intro Z G H σ env Q hd h
  have key : ∀ s mo, env[i]? = some s → s.mo = some mo → PoA K mg W Z G H σ env ((m env).bind fun xs e2 => .ok (.s i :: xs) e2) Q → tCons (tVar i) t σ H Q := fun s mo e hm h => by
    obtain ⟨p, o, h1, h2, h3, h4⟩ := hd.own_get e hm
    refine ⟨_, h1, ?_⟩
    refine hr Z G H σ env _ hd ?_
    cases q : m env with
    | ok ds e2 => rw [q] at h; exact fun G' H' vs s' hd' rs => h G' H' _ s' hd' (.cons (show σ[i]? = some (some (.ref p)) from h1) rs)
    | exc x e2 => rw [q] at h; exact h
    | bad => rw [q] at h; exact False.elim h
  unfold aS at h
  cases e : env[i]? with
  | none => rw [e] at h; exact False.elim h
  | some s =>
    rw [e] at h
    cases s with
    | own mo => exact key _ mo e rfl h
    | par mo => exact key _ mo e rfl h
    | none => exact False.elim h
    | imm d => exact False.elim h
    | fre d => exact False.elim h
/-- a new tuple -/
def eTup (a : En → Res (List D)) (e : En) : Res D := (a e).bind fun ds e1 => if ds.length ≤ sizeLine then .ok (.tup ds) e1 else .bad
def fLst (a : En → Res (List D)) (e : En) : Res MO := (a e).bind fun ds e1 => if ds.length ≤ sizeLine then .ok (.lst ds) e1 else .bad
theorem EvV.after {t : TA} {m : En → Res (List D)} (h : EvV K mg W t m) {β : Type} (hd : Hold K Z G H σ env) {f : List D → En → Res β} {Q : List V → Hp → Prop} {Bad : Res β → Prop}
    (hb : Bad ((m env).bind f)) (h0 : ¬ Bad .bad) (hx : ∀ x e, Bad (.exc x e) → PoX K mg W Z G H σ env x e)
    (hk : ∀ ds e G1 H1 vs, Bad (f ds e) → Step Z G H σ env G1 H1 σ e → Hold K Z G1 H1 σ e → RepL K G1 vs ds → Q vs H1) : t σ H Q := by
  refine h Z G H σ env Q hd ?_
  cases e : m env with
  | ok d e' => rw [e] at hb; exact fun G' H' v s hd' r => hk d e' G' H' v hb s hd' r
  | exc x e' => rw [e] at hb; exact hx x e' hb
  | bad => rw [e] at hb; exact (h0 hb).elim
theorem eve_tup {t : TA} {m : En → Res (List D)} (ha : EvV K mg W t m) : EvE K mg W (tTup t) (eTup m) := by
  intro Z G H σ env Q hd h
  refine ha.after hd (Bad := fun r => PoE K mg W Z G H σ env r Q) h (fun z => z) (fun x e z => z) fun ds e G1 H1 vs h1 s hd1 rv => ?_
  by_cases l : ds.length ≤ sizeLine
  · rw [if_pos l] at h1
    refine ⟨by rw [rv.length]; exact l, fun p hp => ?_⟩
    have gp := hd1.gp hp
    refine h1 _ _ _ (s.trans (Step.lay hp gp)) (hd1.lay hp nt_tup) (.tup upd_same (rv.mono (Kp.of fun a u e => by rw [upd_ne (ne_of_none e gp)]; exact e)))
  · rw [if_neg l] at h1; exact False.elim h1
/-- Hold with a further address kept out of all that stands apart -/
theorem Hold.growZ {H' : Hp} (h : Hold K Z G H σ env) (g : Grow H H') {p : Addr} (hp : H p = none) (hp' : ∃ o, H' p = some o) : Hold K (fun a => Z a ∨ a = p) G H' σ env := by
  have q := h.grow g
  refine ⟨q.ex, q.nt, q.len, q.sl, q.dis, fun i d e => ?_, fun a z => by
    rcases z with z | z
    · exact g.there (h.zt a z)
    · rw [z]; exact hp', q.tb⟩
  obtain ⟨v, R, h1, h2, h3, h4⟩ := h.fr i d e
  refine ⟨v, R, h1, fun a o z => g.k a o (h2 a o z) (h3 a o z).2.2.2, fun a o z => ⟨(h3 a o z).1, (h3 a o z).2.1, fun w => ?_, (h3 a o z).2.2.2⟩, h4⟩
  rcases w with w | w
  · exact (h3 a o z).2.2.1 w
  · rw [w] at z; rw [h2 p o z] at hp; cases hp
theorem not_own_new (h : Hold K Z G H σ env) {p : Addr} (hp : H p = none) : ¬ Own σ env p := fun o => by
  obtain ⟨_, x, e, _⟩ := h.not_in o
  rw [e] at hp; cases hp
/-- a new list of items that stay -/
theorem new_own {Q : VK} {m : MO} {e : En} {G1 H1 : Hp} {o : HO} (hd : Hold K Z G H σ env) (s : Step Z G H σ env G1 H1 σ e) (hd1 : Hold K Z G1 H1 σ e) (r : RepM K G1 o m) (h : PoF K mg W Z G H σ env (.ok m e) Q) : ∀ p, H1 p = none → Q (.ref p) (upd H1 p o) := fun p hp =>
  h G1 (upd H1 p o) p o (s.trans (Step.grow (Grow.new hp r.nt))) (hd1.growZ (Grow.new hp r.nt) hp ⟨_, upd_same⟩) upd_same (s.d p hp) (hd1.gp hp) (not_own_new hd1 hp) r
theorem evf_lst {t : TA} {m : En → Res (List D)} (ha : EvV K mg W t m) : EvF K mg W (tLst t) (fLst m) := by
  intro Z G H σ env Q hd h
  refine ha.after hd (Bad := fun r => PoF K mg W Z G H σ env r Q) h (fun z => z) (fun x e z => z) fun ds e G1 H1 vs h1 s hd1 rv => ?_
  by_cases l : ds.length ≤ sizeLine
  · rw [if_pos l] at h1
    exact ⟨by rw [rv.length]; exact l, new_own hd s hd1 (.lst rv) h1⟩
  · rw [if_neg l] at h1; exact False.elim h1
/-! ### from one kind to another -/
def eOfF (a : En → Res MO) (e : En) : Res D := (a e).bind fun m e1 => .ok m.toD e1
theorem EvF.after {t : TE} {m : En → Res MO} (h : EvF K mg W t m) {β : Type} (hd : Hold K Z G H σ env) {f : MO → En → Res β} {Q : VK} {Bad : Res β → Prop}
    (hb : Bad ((m env).bind f)) (h0 : ¬ Bad .bad) (hx : ∀ x e, Bad (.exc x e) → PoX K mg W Z G H σ env x e)
    (hk : ∀ mo e G1 H1 p o, Bad (f mo e) → Step Z G H σ env G1 H1 σ e → Hold K (fun a => Z a ∨ a = p) G1 H1 σ e → H1 p = some o → H p = none → G1 p = none → ¬ Own σ e p → RepM K G1 o mo → Q (.ref p) H1) : t σ H Q := by
  refine h Z G H σ env Q hd ?_
  cases e : m env with
  | ok d e' => rw [e] at hb; exact fun G' H' p o s hd' a b c d r => hk _ e' G' H' p o hb s hd' a b c d r
  | exc x e' => rw [e] at hb; exact hx x e' hb
  | bad => rw [e] at hb; exact (h0 hb).elim
/-- an object of nobody's joins the data -/
theorem Hold.join {p : Addr} {o : HO} (h : Hold K (fun a => Z a ∨ a = p) G H σ env) (hp : H p = some o) (gp : G p = none) (no : ¬ Own σ env p) (nt : notTbl o) : Hold K Z (upd G p o) H σ env ∧ ∀ Z' G0 H0 σ0 e0, H0 p = none → Step Z' G0 H0 σ0 e0 G H σ env → Step Z' G0 H0 σ0 e0 (upd G p o) H σ env := by
  have sg : Same G (upd G p o) := fun a u e => by rw [upd_ne (ne_of_none e gp)]; exact e
  refine ⟨⟨fun a u e => ?_, fun a u e => ?_, h.len, fun i s e => ?_, h.dis, fun i d e => ?_, fun a z => h.zt a (.inl z), h.tb⟩, fun Z' G0 H0 σ0 e0 h0 st => ⟨st.g.trans sg, st.h, fun a u hx hg no' zx => ?_, st.d, st.par, st.ow⟩⟩
  · by_cases z : a = p
    · subst z; rw [upd_same] at e; rw [← e]; exact hp
    · rw [upd_ne z] at e; exact h.ex a u e
  · by_cases z : a = p
    · subst z; rw [upd_same] at e; cases e; exact nt
    · rw [upd_ne z] at e; exact h.nt a u e
  · exact SlOk.upG gp hp (h.sl i s e) fun m hm q => no ⟨i, .of (slot_join q) e hm⟩
  · obtain ⟨v, R, q1, q2, q3, q4⟩ := h.fr i d e
    refine ⟨v, R, q1, q2, fun a u w => ⟨?_, (q3 a u w).2.1, fun z => (q3 a u w).2.2.1 (.inl z), (q3 a u w).2.2.2⟩, q4⟩
    rw [upd_ne fun z => (q3 a u w).2.2.1 (.inr z)]
    exact (q3 a u w).1
  · have ne : a ≠ p := ne_of_none hx h0
    rw [upd_ne ne]; exact st.n a u hx hg no' zx
theorem eve_f {t : TE} {m : En → Res MO} (ha : EvF K mg W t m) : EvE K mg W t (eOfF m) := by
  intro Z G H σ env Q hd h
  refine ha.after hd (Bad := fun r => PoE K mg W Z G H σ env r Q) h (fun z => z) (fun x e z => z) fun mo e G1 H1 p o h1 s hd1 hp h0 gp no r => ?_
  obtain ⟨j1, j2⟩ := hd1.join hp gp no r.nt
  exact h1 _ _ _ (j2 Z G H σ env h0 s) j1 ((r.mono (Kp.of fun a u e => by rw [upd_ne (ne_of_none e gp)]; exact e)).rep upd_same)
def cOfF (a : En → Res MO) (e : En) : Res (Bool × List D) := (a e).bind fun m e1 => match m with
  | .lst ds => .ok (true, ds) e1
  | _ => .bad
def cOfE (a : En → Res D) (e : En) : Res (Bool × List D) := (a e).bind fun m e1 => match m with
  | .lst ds => .ok (true, ds) e1
  | .rls ds => .ok (true, ds) e1
  | .tup ds => .ok (false, ds) e1
  | _ => .bad
theorem evc_f {t : TE} {m : En → Res MO} (ha : EvF K mg W t m) : EvC K mg W t (cOfF m) := by
  intro Z G H σ env Q hd h
  refine ha.after hd (Bad := fun r => PoC K mg W Z G H σ env r Q) h (fun z => z) (fun x e z => z) fun mo e G1 H1 p o h1 s hd1 hp h0 gp no r => ?_
  cases mo with
  | lst ds => cases r with | lst r => exact h1 G1 H1 p _ s (hd1.weak fun a z => .inl z) (SqL.of hp) r
  | ins c fs => exact False.elim h1
theorem seq_of {G1 H1 : Hp} {v : V} {d : D} (ex : Same G1 H1) (r : Rep K G1 v d) : (∀ ds, d = .lst ds → ∃ p xs, v = .ref p ∧ SeqAt K H1 p true xs ∧ RepL K G1 xs ds) ∧
    (∀ ds, d = .rls ds → ∃ p xs, v = .ref p ∧ SeqAt K H1 p true xs ∧ RepL K G1 xs ds) ∧ (∀ ds, d = .tup ds → ∃ p xs, v = .ref p ∧ SeqAt K H1 p false xs ∧ RepL K G1 xs ds) := by
  refine ⟨fun ds e => ?_, fun ds e => ?_, fun ds e => ?_⟩
  · subst e; cases r with | lst h r => exact ⟨_, _, rfl, SqL.of (ex _ _ h), r⟩
  · subst e; cases r with | rls h r => exact ⟨_, _, rfl, SqL.kp (Kp.of ex) h, r⟩
  · subst e; cases r with | tup h r => exact ⟨_, _, rfl, SqT.of (ex _ _ h), r⟩
theorem evc_e {t : TE} {m : En → Res D} (ha : EvE K mg W t m) : EvC K mg W t (cOfE m) := by
  intro Z G H σ env Q hd h
  refine ha.after hd (Bad := fun r => PoC K mg W Z G H σ env r Q) h (fun z => z) (fun x e z => z) fun d e G1 H1 v h1 s hd1 rv => ?_
  obtain ⟨q1, q2, q3⟩ := seq_of hd1.ex rv
  cases d with
  | lst ds => obtain ⟨p, xs, rfl, a, b⟩ := q1 ds rfl; exact h1 G1 H1 p xs s hd1 a b
  | rls ds => obtain ⟨p, xs, rfl, a, b⟩ := q2 ds rfl; exact h1 G1 H1 p xs s hd1 a b
  | tup ds => obtain ⟨p, xs, rfl, a, b⟩ := q3 ds rfl; exact h1 G1 H1 p xs s hd1 a b
  | _ => exact False.elim h1
/-- a name's list or tuple, lent -/
def cVar (i : Nat) (env : En) : Res (Bool × List D) := match env[i]? with
  | some (.imm (.lst ds)) => .ok (true, ds) env
  | some (.imm (.rls ds)) => .ok (true, ds) env
  | some (.imm (.tup ds)) => .ok (false, ds) env
  | some (.own (.lst ds)) => .ok (true, ds) env
  | some (.par (.lst ds)) => .ok (true, ds) env
  | _ => .bad
theorem evc_var {i : Nat} : EvC K mg W (tVar i) (cVar i) := by
  intro Z G H σ env Q hd h
  have key : ∀ s ds, env[i]? = some s → s.mo = some (.lst ds) → PoC K mg W Z G H σ env (.ok (true, ds) env) Q → tVar i σ H Q := fun s ds e hm h => by
    obtain ⟨p, o, h1, h2, h3, h4⟩ := hd.own_get e hm
    cases h4 with
    | lst r => exact ⟨_, h1, h G H p _ Step.refl hd (SqL.of h2) r⟩
  have key2 : ∀ d, env[i]? = some (.imm d) → (∀ v, Rep K G v d → Q v H) → tVar i σ H Q := fun d e k => by
    obtain ⟨v, h1, h2⟩ := hd.imm_get e
    exact ⟨v, h1, k v h2⟩
  unfold cVar at h
  cases e : env[i]? with
  | none => rw [e] at h; exact False.elim h
  | some s =>
    rw [e] at h
    cases s with
    | none => exact False.elim h
    | fre d => exact False.elim h
    | own m =>
      cases m with
      | lst ds => exact key _ ds e rfl h
      | ins c fs => exact False.elim h
    | par m =>
      cases m with
      | lst ds => exact key _ ds e rfl h
      | ins c fs => exact False.elim h
    | imm d =>
      refine key2 d e fun v rv => ?_
      obtain ⟨q1, q2, q3⟩ := seq_of hd.ex rv
      cases d with
      | lst ds => obtain ⟨p, xs, rfl, a, b⟩ := q1 ds rfl; exact h G H p xs Step.refl hd a b
      | rls ds => obtain ⟨p, xs, rfl, a, b⟩ := q2 ds rfl; exact h G H p xs Step.refl hd a b
      | tup ds => obtain ⟨p, xs, rfl, a, b⟩ := q3 ds rfl; exact h G H p xs Step.refl hd a b
      | _ => exact False.elim h
end
end Cv
end

section
set_option Elab.async false
set_option linter.all false
set_option maxRecDepth 100000
set_option maxHeartbeats 4000000
set_option autoImplicit false
/-! CvD: what operators and built-ins compute on data. -/
namespace Cv
open PySem L2
variable [TbT]
/-! ### whole numbers -/
def dSub : D → D → Option D
  | .int i, .int j => some (.int (i - j))
  | _, _ => none
def dAdd : D → D → Option D
  | .int i, .int j => some (.int (i + j))
  | .str a, .str b => if a.length + b.length ≤ sizeLine then some (.str (a ++ b)) else none
  | _, _ => none
instance (i j : Int) : Decidable (CMul i j) := by unfold CMul; infer_instance
instance (i j : Int) : Decidable (CMulW i j) := by unfold CMulW; infer_instance
instance (i j : Int) : Decidable (CDivW i j) := by unfold CDivW; infer_instance
instance (i j : Int) : Decidable (CPow i j) := by unfold CPow; infer_instance
def dMul : D → D → Option D
  | .int i, .int j => if CMul i j ∨ CMulW i j then some (.int (i * j)) else none
  | _, _ => none
def dFdiv : D → D → Option D
  | .int i, .int j => if CDivW i j then some (.int (i / j)) else none
  | _, _ => none
def dMod : D → D → Option D
  | .int i, .int j => if 0 < j then some (.int (i % j)) else none
  | _, _ => none
def dPow : D → D → Option D
  | .int i, .int j => if CPow i j then some (.int (i ^ j.toNat)) else none
  | _, _ => none
def dNeg : D → Option D
  | .int i => some (.int (-i))
  | _ => none
def dLt : D → D → Option D
  | .int i, .int j => some (.bl (decide (i < j)))
  | _, _ => none
def dLe : D → D → Option D
  | .int i, .int j => some (.bl (decide (i ≤ j)))
  | _, _ => none
def dGt : D → D → Option D
  | .int i, .int j => some (.bl (decide (j < i)))
  | _, _ => none
def dGe : D → D → Option D
  | .int i, .int j => some (.bl (decide (j ≤ i)))
  | _, _ => none
section
variable {K : PySem.W.Frag}
theorem rep_int {H : Hp} {v : V} {i : Int} (r : Rep K H v (.int i)) : v = .int i := by cases r; rfl
theorem op2_I0 {g : Int → Int → V} {h : Int → Int → D} {f : D → D → Option D} (hr : ∀ H i j, Rep K H (g i j) (h i j)) (hf : ∀ x y z, f x y = some z → ∃ i j, x = .int i ∧ y = .int j ∧ z = h i j) : Op2 K (rI0 g) f := by
  intro H x y d1 d2 z Q r1 r2 e q
  obtain ⟨i, j, rfl, rfl, rfl⟩ := hf _ _ _ e
  exact ⟨i, j, rep_int r1, rep_int r2, q H _ (Grow.refl H) (hr H i j)⟩
theorem op2_I {C : Int → Int → Prop} {g : Int → Int → V} {h : Int → Int → D} {f : D → D → Option D} (hr : ∀ H i j, Rep K H (g i j) (h i j)) (hf : ∀ x y z, f x y = some z → ∃ i j, x = .int i ∧ y = .int j ∧ z = h i j ∧ C i j) : Op2 K (rI C g) f := by
  intro H x y d1 d2 z Q r1 r2 e q
  obtain ⟨i, j, rfl, rfl, rfl, c⟩ := hf _ _ _ e
  exact ⟨i, j, rep_int r1, rep_int r2, c, q H _ (Grow.refl H) (hr H i j)⟩
theorem o_sub : Op2 K (rI0 fun i j => .int (i - j)) dSub := op2_I0 (h := fun i j => .int (i - j)) (fun _ _ _ => .int _) fun x y z e => by
  unfold dSub at e; split at e <;> first | (cases e; exact ⟨_, _, rfl, rfl, rfl⟩) | cases e
theorem o_lt : Op2 K (rI0 fun i j => .bl (decide (i < j))) dLt := op2_I0 (h := fun i j => .bl (decide (i < j))) (fun _ _ _ => .bl _) fun x y z e => by
  unfold dLt at e; split at e <;> first | (cases e; exact ⟨_, _, rfl, rfl, rfl⟩) | cases e
theorem o_le : Op2 K (rI0 fun i j => .bl (decide (i ≤ j))) dLe := op2_I0 (h := fun i j => .bl (decide (i ≤ j))) (fun _ _ _ => .bl _) fun x y z e => by
  unfold dLe at e; split at e <;> first | (cases e; exact ⟨_, _, rfl, rfl, rfl⟩) | cases e
theorem o_gt : Op2 K (rI0 fun i j => .bl (decide (j < i))) dGt := op2_I0 (h := fun i j => .bl (decide (j < i))) (fun _ _ _ => .bl _) fun x y z e => by
  unfold dGt at e; split at e <;> first | (cases e; exact ⟨_, _, rfl, rfl, rfl⟩) | cases e
theorem o_ge : Op2 K (rI0 fun i j => .bl (decide (j ≤ i))) dGe := op2_I0 (h := fun i j => .bl (decide (j ≤ i))) (fun _ _ _ => .bl _) fun x y z e => by
  unfold dGe at e; split at e <;> first | (cases e; exact ⟨_, _, rfl, rfl, rfl⟩) | cases e
theorem o_fdiv : Op2 K (rI CDivW fun i j => .int (i / j)) dFdiv := op2_I (h := fun i j => .int (i / j)) (fun _ _ _ => .int _) fun x y z e => by
  unfold dFdiv at e; split at e
  · split at e
    · cases e; exact ⟨_, _, rfl, rfl, rfl, by assumption⟩
    · cases e
  · cases e
theorem o_mod : Op2 K (rI (fun _ j => 0 < j) fun i j => .int (i % j)) dMod := op2_I (h := fun i j => .int (i % j)) (fun _ _ _ => .int _) fun x y z e => by
  unfold dMod at e; split at e
  · split at e
    · cases e; exact ⟨_, _, rfl, rfl, rfl, by assumption⟩
    · cases e
  · cases e
theorem o_pow : Op2 K (rI CPow fun i j => .int (i ^ j.toNat)) dPow := op2_I (h := fun i j => .int (i ^ j.toNat)) (fun _ _ _ => .int _) fun x y z e => by
  unfold dPow at e; split at e
  · split at e
    · cases e; exact ⟨_, _, rfl, rfl, rfl, by assumption⟩
    · cases e
  · cases e
/-- a product: one factor small, or both of a bounded size -/
def rMulU : R2 := fun x y H Q => rI CMul (fun i j => .int (i * j)) x y H Q ∨ rI CMulW (fun i j => .int (i * j)) x y H Q
theorem op_mulU {X : Cx} : OpR X (binaryOp .Mult) rMulU := OpR.or op_mul op_mulW
theorem o_mul : Op2 K rMulU dMul := by
  intro H x y d1 d2 z Q r1 r2 e q
  unfold dMul at e; split at e
  · split at e
    · rename_i h
      cases e
      rcases h with h | h
      · exact .inl ⟨_, _, rep_int r1, rep_int r2, h, q H _ (Grow.refl H) (.int _)⟩
      · exact .inr ⟨_, _, rep_int r1, rep_int r2, h, q H _ (Grow.refl H) (.int _)⟩
    · cases e
  · cases e
def rStrCat : R2 := fun x y H Q => ∃ i j, x = .str i ∧ y = .str j ∧ i.length + j.length ≤ sizeLine ∧ Q (.str (i ++ j)) H
def rAddU : R2 := fun x y H Q => rI0 (fun i j => .int (i + j)) x y H Q ∨ rStrCat x y H Q
theorem op_addU {X : Cx} : OpR X (binaryOp .Add) rAddU := OpR.or op_add op_add_str
theorem o_add : Op2 K rAddU dAdd := by
  intro H x y d1 d2 z Q r1 r2 e q
  unfold dAdd at e; split at e
  · cases e
    exact .inl ⟨_, _, rep_int r1, rep_int r2, q H _ (Grow.refl H) (.int _)⟩
  · split at e
    · cases e; cases r1; cases r2
      exact .inr ⟨_, _, rfl, rfl, by assumption, q H _ (Grow.refl H) (.str _)⟩
    · cases e
  · cases e
theorem o_neg : Op1 K (rU fun i => .int (-i)) dNeg := by
  intro H x d z Q r e q
  unfold dNeg at e; split at e
  · cases e; exact ⟨_, rep_int r, q H _ (Grow.refl H) (.int _)⟩
  · cases e
/-! ### equality -/
mutual
def toPy : D → Option PyData
  | .non => some .none
  | .bl b => some (.bool b)
  | .int i => some (.int i)
  | .str s => some (.str s)
  | .lst xs => (toPyL xs).map .list
  | .tup xs => (toPyL xs).map .tuple
  | .rls _ => none
  | .obj _ _ => none
  | .fn _ _ => none
def toPyL : List D → Option (List PyData)
  | [] => some []
  | x :: xs => (toPy x).bind fun p => (toPyL xs).map (p :: ·)
end
mutual
theorem dp_of {H : Hp} : ∀ {d : D} {v : V} {p : PyData}, Rep K H v d → toPy d = some p → Dp K H v p
  | .non, _, _, .non, e => by cases e; exact .non
  | .bl b, _, _, .bl _, e => by cases e; exact .bl b
  | .int i, _, _, .int _, e => by cases e; exact .int i
  | .str s, _, _, .str _, e => by cases e; exact .str s
  | .lst xs, _, p, .lst h r, e => by
    unfold toPy at e
    cases q : toPyL xs with
    | none => rw [q] at e; cases e
    | some ps => rw [q] at e; cases e; exact .lst (SqL.of h) (dpl_of r q)
  | .tup xs, _, p, .tup h r, e => by
    unfold toPy at e
    cases q : toPyL xs with
    | none => rw [q] at e; cases e
    | some ps => rw [q] at e; cases e; exact .tup (SqT.of h) (dpl_of r q)
  | .rls _, _, _, _, e => by cases e
  | .obj _ _, _, _, _, e => by cases e
  | .fn _ _, _, _, _, e => by cases e
theorem dpl_of {H : Hp} : ∀ {ds : List D} {vs : List V} {ps : List PyData}, RepL K H vs ds → toPyL ds = some ps → DpAll K H vs ps
  | [], _, _, .nil, e => by cases e; exact .nil
  | x :: xs, _, _, .cons r t, e => by
    unfold toPyL at e
    cases q : toPy x with
    | none => rw [q] at e; cases e
    | some p =>
      rw [q] at e
      cases q2 : toPyL xs with
      | none => rw [q2] at e; cases e
      | some ps => rw [q2] at e; cases e; exact .cons (dp_of r q) (dpl_of t q2)
end
def dEqv (x y : D) : Option Bool := (toPy x).bind fun p => (toPy y).bind fun q => if PySem.SeqAt.shaped p = true ∧ PySem.SeqAt.shaped q = true then some (PyData.eqv p q) else none
def dEq (x y : D) : Option D := (dEqv x y).map .bl
def dNe (x y : D) : Option D := (dEqv x y).map fun b => .bl (!b)
theorem dEqv_some {x y : D} {b : Bool} (h : dEqv x y = some b) : ∃ p q, toPy x = some p ∧ toPy y = some q ∧ PySem.SeqAt.shaped p = true ∧ PySem.SeqAt.shaped q = true ∧ b = PyData.eqv p q := by
  unfold dEqv at h
  cases e : toPy x with
  | none => rw [e] at h; cases h
  | some p =>
    rw [e] at h
    cases e2 : toPy y with
    | none => rw [e2] at h; cases h
    | some q =>
      rw [e2] at h
      simp only [Option.bind_some] at h
      split at h
      · rename_i c; cases h; exact ⟨p, q, rfl, rfl, c.1, c.2, rfl⟩
      · cases h
theorem o_eq : Op2 K (rEqD K) dEq := by
  intro H x y d1 d2 z Q r1 r2 e q
  unfold dEq at e
  cases h : dEqv d1 d2 with
  | none => rw [h] at e; cases e
  | some b =>
    rw [h] at e; cases e
    obtain ⟨p, q', h1, h2, h3, h4, rfl⟩ := dEqv_some h
    exact ⟨p, q', dp_of r1 h1, dp_of r2 h2, h3, h4, q H _ (Grow.refl H) (.bl _)⟩
theorem o_ne : Op2 K (rNeD K) dNe := by
  intro H x y d1 d2 z Q r1 r2 e q
  unfold dNe at e
  cases h : dEqv d1 d2 with
  | none => rw [h] at e; cases e
  | some b =>
    rw [h] at e; cases e
    obtain ⟨p, q', h1, h2, h3, h4, rfl⟩ := dEqv_some h
    exact ⟨p, q', dp_of r1 h1, dp_of r2 h2, h3, h4, q H _ (Grow.refl H) (.bl _)⟩
/-- == of two scalars of one kind (in an except suite) -/
def dEqS : D → D → Option D
  | .int i, .int j => some (.bl (decide (i = j)))
  | .str i, .str j => some (.bl (decide (i = j)))
  | _, _ => none
theorem o_eqS : Op2 K rEq dEqS := by
  intro H x y d1 d2 z Q r1 r2 e q
  unfold dEqS at e; split at e
  · cases e; cases r1; cases r2
    refine ⟨rfl, q H _ (Grow.refl H) ?_⟩
    rename_i i j
    have : decide (V.int i = V.int j) = decide (i = j) := by
      by_cases c : i = j
      · subst c; simp
      · rw [decide_eq_false c, decide_eq_false fun z => c (V.int.inj z)]
    rw [this]; exact .bl _
  · cases e; cases r1; cases r2
    refine ⟨rfl, q H _ (Grow.refl H) ?_⟩
    rename_i i j
    have : decide (V.str i = V.str j) = decide (i = j) := by
      by_cases c : i = j
      · subst c; simp
      · rw [decide_eq_false c, decide_eq_false fun z => c (V.str.inj z)]
    rw [this]; exact .bl _
  · cases e
def dIsN : D → D → Option D
  | .non, .non => some (.bl true)
  | .bl _, .non => some (.bl false)
  | .int _, .non => some (.bl false)
  | .str _, .non => some (.bl false)
  | .lst _, .non => some (.bl false)
  | .tup _, .non => some (.bl false)
  | .rls _, .non => some (.bl false)
  | .obj _ _, .non => some (.bl false)
  | _, _ => none
theorem o_isN : Op2 K (fun x y H Q => y = .non ∧ Q (.bl (decide (x = .non))) H) dIsN := by
  intro H x y d1 d2 z Q r1 r2 e q
  unfold dIsN at e
  split at e <;> first
    | (cases e; cases r1; cases r2; exact ⟨rfl, q H _ (Grow.refl H) (.bl _)⟩)
    | cases e
def dNotN (x y : D) : Option D := (dIsN x y).bind dNot
theorem o_notN : Op2 K (fun x y H Q => y = .non ∧ Q (.bl (!decide (x = .non))) H) dNotN := by
  intro H x y d1 d2 z Q r1 r2 e q
  unfold dNotN dIsN at e
  split at e <;> first
    | (cases e; cases r1; cases r2; exact ⟨rfl, q H _ (Grow.refl H) (.bl _)⟩)
    | cases e
/-! ### built-ins of one value -/
def dInt : List D → Option D
  | [.int i] => some (.int i)
  | [.bl k] => some (.int (if k then 1 else 0))
  | _ => none
def dAbs : List D → Option D
  | [.int i] => some (.int (if i < 0 then -i else i))
  | _ => none
def dMin2 : List D → Option D
  | [.int i, .int j] => some (.int (if j < i then j else i))
  | _ => none
def dMax2 : List D → Option D
  | [.int i, .int j] => some (.int (if j > i then j else i))
  | _ => none
def rInt1 : List V → Hp → VK → Prop := fun xs H Q => (∃ i, xs = [.int i] ∧ Q (.int i) H) ∨ ∃ k, xs = [.bl k] ∧ Q (.int (if k then 1 else 0)) H
theorem n_int : OpN K rInt1 dInt := by
  intro H xs ds z Q r e q
  unfold dInt at e; split at e
  · cases e; cases r with | cons a b => cases b; cases a; exact .inl ⟨_, rfl, q H _ (Grow.refl H) (.int _)⟩
  · cases e; cases r with | cons a b => cases b; cases a; exact .inr ⟨_, rfl, q H _ (Grow.refl H) (.int _)⟩
  · cases e
def rAbs : List V → Hp → VK → Prop := fun xs H Q => ∃ i, xs = [.int i] ∧ Q (.int (if i < 0 then -i else i)) H
theorem n_abs : OpN K rAbs dAbs := by
  intro H xs ds z Q r e q
  unfold dAbs at e; split at e
  · cases e; cases r with | cons a b => cases b; cases a; exact ⟨_, rfl, q H _ (Grow.refl H) (.int _)⟩
  · cases e
def rMin2 : List V → Hp → VK → Prop := fun xs H Q => ∃ i j, xs = [.int i, .int j] ∧ Q (.int (if j < i then j else i)) H
def rMax2 : List V → Hp → VK → Prop := fun xs H Q => ∃ i j, xs = [.int i, .int j] ∧ Q (.int (if j > i then j else i)) H
theorem n_min2 : OpN K rMin2 dMin2 := by
  intro H xs ds z Q r e q
  unfold dMin2 at e; split at e
  · cases e; cases r with | cons a b => cases b with | cons b c => cases c; cases a; cases b; exact ⟨_, _, rfl, q H _ (Grow.refl H) (.int _)⟩
  · cases e
theorem n_max2 : OpN K rMax2 dMax2 := by
  intro H xs ds z Q r e q
  unfold dMax2 at e; split at e
  · cases e; cases r with | cons a b => cases b with | cons b c => cases c; cases a; cases b; exact ⟨_, _, rfl, q H _ (Grow.refl H) (.int _)⟩
  · cases e
def dLen : List D → Option D
  | [.lst ds] => some (.int ds.length)
  | [.rls ds] => some (.int ds.length)
  | [.tup ds] => some (.int ds.length)
  | [.str s] => if s.length ≤ sizeLine then some (.int s.length) else none
  | _ => none
def rLenU (K : PySem.W.Frag) : List V → Hp → VK → Prop := fun xs H Q => (∃ p ys, xs = [.ref p] ∧ (SqL K H p ys ∨ SqT K H p ys) ∧ Q (.int ys.length) H) ∨ ∃ z, xs = [.str z] ∧ z.length ≤ sizeLine ∧ Q (.int z.length) H
theorem call_lenU {X : Cx} : CallR X (.builtin "len") (rLenU X.K) := CallR.or call_len_seq call_len_str
theorem n_len : OpN K (rLenU K) dLen := by
  intro H xs ds z Q r e q
  unfold dLen at e; split at e
  · cases e; cases r with | cons a b => cases b; cases a with | lst h r => exact .inl ⟨_, _, rfl, .inl (SqL.of h), q H _ (Grow.refl H) (by rw [r.length]; exact .int _)⟩
  · cases e; cases r with | cons a b => cases b; cases a with | rls h r => exact .inl ⟨_, _, rfl, .inl h, q H _ (Grow.refl H) (by rw [r.length]; exact .int _)⟩
  · cases e; cases r with | cons a b => cases b; cases a with | tup h r => exact .inl ⟨_, _, rfl, .inr (SqT.of h), q H _ (Grow.refl H) (by rw [r.length]; exact .int _)⟩
  · split at e
    · cases e; cases r with | cons a b => cases b; cases a; exact .inr ⟨_, rfl, by assumption, q H _ (Grow.refl H) (.int _)⟩
    · cases e
  · cases e
/-- the name of a value's built-in type -/
def tyName : D → Option String
  | .non => some "NoneType"
  | .bl _ => some "bool"
  | .int _ => some "int"
  | .str _ => some "str"
  | .lst _ => some "list"
  | .rls _ => some "list"
  | .tup _ => some "tuple"
  | .obj _ _ => none
  | .fn _ _ => none
theorem tyx_of {H : Hp} {v : V} {d : D} {n : String} (r : Rep K H v d) (e : tyName d = some n) : TyX K H v (.type n) := by
  cases r with
  | non => cases e; exact .base .non
  | bl b => cases e; exact .base (.bl b)
  | int i => cases e; exact .base (.int i)
  | str x => cases e; exact .base (.str x)
  | lst h _ => cases e; exact .base (.lst h)
  | tup h _ => cases e; exact .base (.tup h)
  | rls h _ =>
    cases e
    rcases h with (h | ⟨o, h⟩) | ⟨o, its, n, h, hc, _⟩
    · exact .base (.lst h)
    · exact .base (.frz h)
    · exact .kList h hc
  | obj _ _ => cases e
  | fn _ => cases e
/-- the answer of isinstance, its class a written built-in -/
def dIsi (T : String) (d : D) : Option D := (tyName d).bind fun n => (kitB n T).map .bl
/-- isinstance(x, T), T the name of a built-in type -/
def rIsB (K : PySem.W.Frag) (T : String) : List V → Hp → VK → Prop := fun xs H Q => ∃ x n b, xs = [x, .ty T] ∧ TyX K H x (.type n) ∧ kitB n T = some b ∧ Q (.bl b) H
theorem call_isB {X : Cx} (T : String) : CallR X (.builtin "isinstance") (rIsB X.K T) := by
  intro pins s σ H xs us Q I rv h
  obtain ⟨x, n, b, rfl, ty, k, q⟩ := h
  exact call_isi pins s σ H [x, .ty T] us Q I rv ⟨x, .ty T, _, _, b, rfl, .ty T, ty, kit_ty k, q⟩
def dIsL (T : String) : List D → Option D
  | [x, .non] => dIsi T x
  | _ => none
/-- isinstance(x, T) as a reading of x alone -/
theorem evp_isi {mg : Str → Option Value} {W : WX} {T : String} {ta : TE} {ma : En → RP D} (ha : EvP K mg W ta ma) : EvP K mg W (tCB (rIsB K T) (tCons ta (tCons (tC (.ty T)) tNil))) (p1 (dIsi T) ma) := by
  intro Z G H σ env Q hd h
  refine ha.after hd (Bad := fun r => PoP K mg W H σ r Q) h (fun z => z) (fun x z => z) fun d H1 v hb g hd1 rv => ?_
  unfold dIsi at hb
  cases e : tyName d with
  | none => rw [e] at hb; exact False.elim hb
  | some n =>
    rw [e] at hb
    simp only [Option.bind_some] at hb
    cases k : kitB n T with
    | none => rw [k] at hb; exact False.elim hb
    | some b => rw [k] at hb; exact ⟨v, n, b, rfl, tyx_of rv e, k, hb H1 _ g (.bl b)⟩
/-! ### an item by its place -/
def dIx : D → D → Option D
  | .lst ds, .int i => atI ds i
  | .rls ds, .int i => atI ds i
  | .tup ds, .int i => atI ds i
  | _, _ => none
theorem atI_rep {H : Hp} {xs : List V} {ds : List D} {i : Int} {d : D} (r : RepL K H xs ds) (h : atI ds i = some d) : ∃ v, atI xs i = some v ∧ Rep K H v d := by
  unfold atI at h ⊢
  rw [r.length]
  cases e : ixN ds.length i with
  | none => rw [e] at h; cases h
  | some j => rw [e] at h; exact r.get h
theorem o_ix : Op2 K (rIx K) dIx := by
  intro H x y d1 d2 z Q r1 r2 e q
  unfold dIx at e; split at e
  · cases r1 with | lst h r => obtain ⟨v, h1, h2⟩ := atI_rep r e; exact .inl ⟨_, _, _, v, rfl, rep_int r2, SqL.of h, h1, q H v (Grow.refl H) h2⟩
  · cases r1 with | rls h r => obtain ⟨v, h1, h2⟩ := atI_rep r e; exact .inl ⟨_, _, _, v, rfl, rep_int r2, h, h1, q H v (Grow.refl H) h2⟩
  · cases r1 with | tup h r => obtain ⟨v, h1, h2⟩ := atI_rep r e; exact .inr (.inl ⟨_, _, _, v, rfl, rep_int r2, SqT.of h, h1, q H v (Grow.refl H) h2⟩)
  · cases e
variable {mg : Str → Option Value} {W : WX}
/-- xs[i] that stays: the items are data -/
def eIx (a b : En → Res D) (e : En) : Res D := (a e).bind fun x e1 => (b e1).bind fun y e2 => .of e2 (dIx x y)
theorem eve_ix {ta tb : TE} {ma mb : En → Res D} (ha : EvE K mg W ta ma) (hb : EvE K mg W tb mb) : EvE K mg W (tOp (rIx K) ta tb) (eIx ma mb) := by
  intro Z G H σ env Q hd h
  refine ha.after hd (Bad := fun r => PoE K mg W Z G H σ env r Q) h (fun z => z) (fun x e z => z) fun d e G1 H1 v h1 s hd1 rv => ?_
  refine hb.after hd1 (Bad := fun r => PoE K mg W Z G H σ env r Q) h1 (fun z => z) (fun x e z => PoX.back s z) fun d2 e2 G2 H2 v2 h2 s2 hd2 rv2 => ?_
  cases q : dIx d d2 with
  | none => rw [q] at h2; exact False.elim h2
  | some z =>
    rw [q] at h2
    have rv' := rv.mono (Kp.of s2.g)
    have ex := Kp.of hd2.ex
    unfold dIx at q; split at q
    · cases rv' with | lst h r => obtain ⟨w, a, b⟩ := atI_rep r q; exact .inl ⟨_, _, _, w, rfl, rep_int rv2, SqL.of (hd2.ex _ _ h), a, h2 G2 H2 w (s.trans s2) hd2 b⟩
    · cases rv' with | rls h r => obtain ⟨w, a, b⟩ := atI_rep r q; exact .inl ⟨_, _, _, w, rfl, rep_int rv2, SqL.kp ex h, a, h2 G2 H2 w (s.trans s2) hd2 b⟩
    · cases rv' with | tup h r => obtain ⟨w, a, b⟩ := atI_rep r q; exact .inr (.inl ⟨_, _, _, w, rfl, rep_int rv2, SqT.of (hd2.ex _ _ h), a, h2 G2 H2 w (s.trans s2) hd2 b⟩)
    · cases q
/-- .. of a container that may be mine; the place is read purely -/
def cIx (a : En → Res (Bool × List D)) (b : En → RP D) (e : En) : Res D := (a e).bind fun x e1 => match b e1 with
  | .ok (.int i) => .of e1 (atI x.2 i)
  | .ok _ => .bad
  | .exc y => .exc y e1
  | .bad => .bad
theorem SeqAt.grow {H H' : Hp} {p : Addr} {b : Bool} {xs : List V} (g : Grow H H') (h : SeqAt K H p b xs) : SeqAt K H' p b xs := by
  cases b with
  | true => exact SqL.kp g.k h
  | false => exact SqT.kp g.k h
theorem eve_ixC {ta tb : TE} {ma : En → Res (Bool × List D)} {mb : En → RP D} (ha : EvC K mg W ta ma) (hb : EvP K mg W tb mb) : EvE K mg W (tOp (rIx K) ta tb) (cIx ma mb) := by
  intro Z G H σ env Q hd h
  refine ha.after hd (Bad := fun r => PoE K mg W Z G H σ env r Q) h (fun z => z) (fun x e z => z) fun b ds e G1 H1 p xs h1 s hd1 sq rs => ?_
  refine hb Z G1 H1 σ e _ hd1 ?_
  dsimp only at h1
  cases q : mb e with
  | ok d =>
    rw [q] at h1
    cases d with
    | int i =>
      dsimp only at h1
      cases q2 : atI ds i with
      | none => rw [q2] at h1; exact False.elim h1
      | some z =>
        rw [q2] at h1
        intro H' v g rv
        obtain ⟨w, a, b'⟩ := atI_rep rs q2
        have fin := h1 G1 H' w (s.trans (Step.grow g)) (hd1.grow g) b'
        have sq' := sq.grow g
        cases b with
        | true => exact .inl ⟨_, _, _, w, rfl, rep_int rv, sq', a, fin⟩
        | false => exact .inr (.inl ⟨_, _, _, w, rfl, rep_int rv, sq', a, fin⟩)
    | _ => exact False.elim h1
  | exc x => rw [q] at h1; exact fun H' C a g ex => h1 G1 H' C a (s.trans (Step.grow g)) (hd1.grow g) ex
  | bad => rw [q] at h1; exact False.elim h1
end
end Cv
end

section
set_option Elab.async false
set_option linter.all false
set_option maxRecDepth 100000
set_option maxHeartbeats 4000000
set_option autoImplicit false
/-! CvE: containers made and walked; comprehensions. -/
namespace Cv
open PySem L2
variable [TbT]
section
variable {K : PySem.W.Frag} {mg : Str → Option Value} {W : WX} {Z : Addr → Prop} {G H : Hp} {σ : L2.St} {env : En}
/-! ### a built-in of one container -/
/-- it gives a scalar -/
def OpCs (K : PySem.W.Frag) (r : List V → Hp → VK → Prop) (f : Bool → List D → Option D) : Prop := ∀ H p b xs ds z Q, SeqAt K H p b xs → RepL K H xs ds → f b ds = some z → (∀ v, Rep K H v z → Q v H) → r [.ref p] H Q
/-- it gives a new list of its items (some arrangement) or of scalars -/
def OpCl (K : PySem.W.Frag) (r : List V → Hp → VK → Prop) (f : Bool → List D → Option (List D)) : Prop := ∀ H G p b xs ds zs Q, SeqAt K H p b xs → RepL K H xs ds → RepL K G xs ds → f b ds = some zs → (∀ q ys, H q = none → RepL K G ys zs → Q (.ref q) (upd H q (.lst ys))) → r [.ref p] H Q
def cS (f : Bool → List D → Option D) (a : En → Res (Bool × List D)) (e : En) : Res D := (a e).bind fun x e1 => match f x.1 x.2 with
  | some z => okF z e1
  | none => .bad
def cL (f : Bool → List D → Option (List D)) (a : En → Res (Bool × List D)) (e : En) : Res MO := (a e).bind fun x e1 => match f x.1 x.2 with
  | some z => .ok (.lst z) e1
  | none => .bad
theorem eve_cs {r : List V → Hp → VK → Prop} {f : Bool → List D → Option D} (o : OpCs K r f) {ta : TE} {ma : En → Res (Bool × List D)} (ha : EvC K mg W ta ma) : EvE K mg W (tCB r (tCons ta tNil)) (cS f ma) := by
  intro Z G H σ env Q hd h
  refine ha.after hd (Bad := fun r => PoE K mg W Z G H σ env r Q) h (fun z => z) (fun x e z => z) fun b ds e G1 H1 p xs h1 s hd1 sq rs => ?_
  dsimp only at h1
  cases q : f b ds with
  | none => rw [q] at h1; exact False.elim h1
  | some z =>
    rw [q] at h1
    obtain ⟨fl, h1⟩ := okF_elim h1
    exact o H1 p b xs ds z Q sq (rs.mono (Kp.of hd1.ex)) q fun v rv => h1 G1 H1 v s hd1 (rv.flat fl)
theorem evf_cl {r : List V → Hp → VK → Prop} {f : Bool → List D → Option (List D)} (o : OpCl K r f) {ta : TE} {ma : En → Res (Bool × List D)} (ha : EvC K mg W ta ma) : EvF K mg W (tCB r (tCons ta tNil)) (cL f ma) := by
  intro Z G H σ env Q hd h
  refine ha.after hd (Bad := fun r => PoF K mg W Z G H σ env r Q) h (fun z => z) (fun x e z => z) fun b ds e G1 H1 p xs h1 s hd1 sq rs => ?_
  dsimp only at h1
  cases q : f b ds with
  | none => rw [q] at h1; exact False.elim h1
  | some zs =>
    rw [q] at h1
    exact o H1 G1 p b xs ds zs Q sq (rs.mono (Kp.of hd1.ex)) rs q fun l ys hl ry => new_own hd s hd1 (.lst ry) h1 l hl
def intsD : List D → Option (List Int)
  | [] => some []
  | .int i :: r => (intsD r).map (i :: ·)
  | _ :: _ => none
theorem repl_ints {H : Hp} : ∀ {ds : List D} {xs : List V} {ns : List Int}, RepL K H xs ds → intsD ds = some ns → xs = ns.map V.int
  | [], _, _, .nil, e => by cases e; rfl
  | .int i :: r, _, ns, .cons a t, e => by
    unfold intsD at e
    cases q : intsD r with
    | none => rw [q] at e; cases e
    | some m => rw [q] at e; cases e; cases a; rw [repl_ints t q]; rfl
  | .non :: _, _, _, _, e => by cases e
  | .bl _ :: _, _, _, _, e => by cases e
  | .str _ :: _, _, _, _, e => by cases e
  | .lst _ :: _, _, _, _, e => by cases e
  | .tup _ :: _, _, _, _, e => by cases e
  | .rls _ :: _, _, _, _, e => by cases e
  | .obj _ _ :: _, _, _, _, e => by cases e
  | .fn _ _ :: _, _, _, _, e => by cases e
theorem repl_of_ints {G : Hp} : ∀ ns : List Int, RepL K G (ns.map V.int) (ns.map D.int)
  | [] => .nil
  | n :: r => .cons (.int n) (repl_of_ints r)
def sLen (_ : Bool) (ds : List D) : Option D := some (.int ds.length)
def sSum (b : Bool) (ds : List D) : Option D := if b = true then (intsD ds).map fun ns => .int ns.sum else none
theorem cs_len : OpCs K (rLenU K) sLen := by
  intro H p b xs ds z Q sq r e q
  cases e
  refine .inl ⟨p, xs, rfl, ?_, q _ (by rw [r.length]; exact .int _)⟩
  cases b with
  | true => exact .inl sq
  | false => exact .inr sq
theorem cs_sum : OpCs K (rSum K) sSum := by
  intro H p b xs ds z Q sq r e q
  unfold sSum at e
  cases b with
  | false => cases e
  | true =>
    rw [if_pos rfl] at e
    cases h : intsD ds with
    | none => rw [h] at e; cases e
    | some ns => rw [h] at e; cases e; rw [repl_ints r h] at sq; exact ⟨p, ns, rfl, sq, q _ (.int _)⟩
/-- the greatest, the least of a list of ints -/
def maxI : List Int → Int
  | [] => 0
  | [a] => a
  | a :: r => if maxI r > a then maxI r else a
def minI : List Int → Int
  | [] => 0
  | [a] => a
  | a :: r => if minI r < a then minI r else a
theorem maxI_spec : ∀ ns : List Int, ns ≠ [] → maxI ns ∈ ns ∧ ∀ y ∈ ns, y ≤ maxI ns
  | [], h => absurd rfl h
  | [a], _ => ⟨by simp [maxI], fun y hy => by simp at hy; subst hy; simp [maxI]⟩
  | a :: b :: r, _ => by
    obtain ⟨h1, h2⟩ := maxI_spec (b :: r) (by simp)
    have e : maxI (a :: b :: r) = if maxI (b :: r) > a then maxI (b :: r) else a := rfl
    rw [e]
    by_cases c : maxI (b :: r) > a
    · rw [if_pos c]
      refine ⟨List.mem_cons_of_mem _ h1, fun y hy => ?_⟩
      rcases List.mem_cons.mp hy with q | q
      · omega
      · exact h2 y q
    · rw [if_neg c]
      refine ⟨List.mem_cons_self, fun y hy => ?_⟩
      rcases List.mem_cons.mp hy with q | q
      · omega
      · have := h2 y q; omega
theorem minI_spec : ∀ ns : List Int, ns ≠ [] → minI ns ∈ ns ∧ ∀ y ∈ ns, minI ns ≤ y
  | [], h => absurd rfl h
  | [a], _ => ⟨by simp [minI], fun y hy => by simp at hy; subst hy; simp [minI]⟩
  | a :: b :: r, _ => by
    obtain ⟨h1, h2⟩ := minI_spec (b :: r) (by simp)
    have e : minI (a :: b :: r) = if minI (b :: r) < a then minI (b :: r) else a := rfl
    rw [e]
    by_cases c : minI (b :: r) < a
    · rw [if_pos c]
      refine ⟨List.mem_cons_of_mem _ h1, fun y hy => ?_⟩
      rcases List.mem_cons.mp hy with q | q
      · omega
      · exact h2 y q
    · rw [if_neg c]
      refine ⟨List.mem_cons_self, fun y hy => ?_⟩
      rcases List.mem_cons.mp hy with q | q
      · omega
      · have := h2 y q; omega
def sMax (b : Bool) (ds : List D) : Option D := if b = true then (intsD ds).bind fun ns => if ns = [] then none else some (.int (maxI ns)) else none
def sMin (b : Bool) (ds : List D) : Option D := if b = true then (intsD ds).bind fun ns => if ns = [] then none else some (.int (minI ns)) else none
theorem cs_max : OpCs K (rMax K) sMax := by
  intro H p b xs ds z Q sq r e q
  unfold sMax at e
  cases b with
  | false => cases e
  | true =>
    rw [if_pos rfl] at e
    cases h : intsD ds with
    | none => rw [h] at e; cases e
    | some ns =>
      rw [h] at e
      simp only [Option.bind_some] at e
      by_cases c : ns = []
      · rw [if_pos c] at e; cases e
      · rw [if_neg c] at e; cases e
        rw [repl_ints r h] at sq
        refine ⟨p, ns, rfl, sq, by cases ns with | nil => exact absurd rfl c | cons _ _ => simp, fun m h1 h2 => ?_⟩
        obtain ⟨k1, k2⟩ := maxI_spec ns c
        have : m = maxI ns := Int.le_antisymm (k2 m h1) (h2 _ k1)
        subst this; exact q _ (.int _)
theorem cs_min : OpCs K (rMin K) sMin := by
  intro H p b xs ds z Q sq r e q
  unfold sMin at e
  cases b with
  | false => cases e
  | true =>
    rw [if_pos rfl] at e
    cases h : intsD ds with
    | none => rw [h] at e; cases e
    | some ns =>
      rw [h] at e
      simp only [Option.bind_some] at e
      by_cases c : ns = []
      · rw [if_pos c] at e; cases e
      · rw [if_neg c] at e; cases e
        rw [repl_ints r h] at sq
        refine ⟨p, ns, rfl, sq, by cases ns with | nil => exact absurd rfl c | cons _ _ => simp, fun m h1 h2 => ?_⟩
        obtain ⟨k1, k2⟩ := minI_spec ns c
        have : m = minI ns := Int.le_antisymm (h2 _ k1) (k2 m h1)
        subst this; exact q _ (.int _)
def lAll (_ : Bool) (ds : List D) : Option (List D) := some ds
def rListU (K : PySem.W.Frag) : List V → Hp → VK → Prop := fun xs H Q => ∃ p ys, xs = [.ref p] ∧ (SqL K H p ys ∨ SqT K H p ys) ∧ ∀ l, H l = none → Q (.ref l) (upd H l (.lst ys))
theorem cl_list : OpCl K (rListU K) lAll := by
  intro H G p b xs ds zs Q sq r rg e q
  cases e
  refine ⟨p, xs, rfl, ?_, fun l hl => q l xs hl rg⟩
  cases b with
  | true => exact .inl sq
  | false => exact .inr sq
/-- the sorted list of ints -/
def sortI (ns : List Int) : List Int := ns.mergeSort (fun a b => decide (a ≤ b))
theorem sortI_perm (ns : List Int) : (sortI ns).Perm ns := List.mergeSort_perm ns _
theorem sortI_sorted (ns : List Int) : (sortI ns).Pairwise (· ≤ ·) := by
  have h := List.pairwise_mergeSort (le := fun a b : Int => decide (a ≤ b)) (fun a b c h1 h2 => by simp at *; omega) (fun a b => by simp; omega) ns
  exact h.imp fun h => by simpa using h
theorem sortI_unique {ns l : List Int} (p : l.Perm ns) (s : l.Pairwise (· ≤ ·)) : l = sortI ns :=
  List.Perm.eq_of_pairwise (le := (· ≤ ·)) (fun a b _ _ h1 h2 => Int.le_antisymm h1 h2) s (sortI_sorted ns) (p.trans (sortI_perm ns).symm)
def lSortI (b : Bool) (ds : List D) : Option (List D) := if b = true then (intsD ds).map fun ns => (sortI ns).map .int else none
theorem cl_sortI : OpCl K (rSortedI K) lSortI := by
  intro H G p b xs ds zs Q sq r rg e q
  unfold lSortI at e
  cases b with
  | false => cases e
  | true =>
    rw [if_pos rfl] at e
    cases h : intsD ds with
    | none => rw [h] at e; cases e
    | some ns =>
      rw [h] at e; cases e
      rw [repl_ints r h] at sq
      refine ⟨p, ns, rfl, sq, fun ns' l pm st hl => ?_⟩
      rw [sortI_unique pm st]
      exact q l _ hl (repl_of_ints _)
/-! ### slices of lists -/
/-- a slice's part, read purely -/
def PoO (r : RP (Option Int)) (K : PySem.W.Frag) (mg : Str → Option Value) (W : WX) (H : Hp) (σ : L2.St) (Q : Option Int → Hp → Prop) : Prop := match r with
  | .ok o => ∀ H', Grow H H' → Q o H'
  | .exc x => ∀ H' C a, Grow H H' → ExcAt K mg H' x C a → W (.ref C) (some a) σ H'
  | .bad => False
def EvO (K : PySem.W.Frag) (mg : Str → Option Value) (W : WX) (t : TO) (m : En → RP (Option Int)) : Prop := ∀ Z G H σ env Q, Hold K Z G H σ env → PoO (m env) K mg W H σ Q → t σ H Q
def oNo (_ : En) : RP (Option Int) := .ok none
def oI (a : En → RP D) (e : En) : RP (Option Int) := (a e).bind fun x => match x with
  | .int i => .ok (some i)
  | _ => .bad
theorem evo_no : EvO K mg W tNoPart oNo := fun Z G H σ env Q hd h => h H (Grow.refl H)
theorem evo_i {ta : TE} {ma : En → RP D} (ha : EvP K mg W ta ma) : EvO K mg W (tPart ta) (oI ma) := by
  intro Z G H σ env Q hd h
  refine ha.after hd (Bad := fun r => PoO r K mg W H σ Q) h (fun z => z) (fun x z => z) fun d H1 v hb g hd1 rv => ?_
  cases d with
  | int i => cases rv; exact ⟨i, rfl, hb H1 g⟩
  | _ => exact False.elim hb
def cutD (ds : List D) (lo hi : Option Int) : List D := (ds.drop (HT.sIx ds.length 0 lo)).take (HT.sIx ds.length ds.length hi - HT.sIx ds.length 0 lo)
theorem RepL.cut {H : Hp} {xs : List V} {ds : List D} (r : RepL K H xs ds) (lo hi : Option Int) : RepL K H (cutV xs lo hi) (cutD ds lo hi) := by
  unfold cutV cutD; rw [r.length]; exact (r.drop _).take _
def fCut (a : En → Res (Bool × List D)) (l h : En → RP (Option Int)) (e : En) : Res MO := (a e).bind fun x e1 => match l e1 with
  | .ok lo => (match h e1 with
    | .ok hi => if x.1 = true then .ok (.lst (cutD x.2 lo hi)) e1 else .bad
    | .exc y => .exc y e1
    | .bad => .bad)
  | .exc y => .exc y e1
  | .bad => .bad
theorem evf_cut {ta : TE} {ma : En → Res (Bool × List D)} {tl th : TO} {ml mh : En → RP (Option Int)} (ha : EvC K mg W ta ma) (hl : EvO K mg W tl ml) (hh : EvO K mg W th mh) : EvF K mg W (tSl (rSlL K) ta tl th) (fCut ma ml mh) := by
  intro Z G H σ env Q hd h
  refine ha.after hd (Bad := fun r => PoF K mg W Z G H σ env r Q) h (fun z => z) (fun x e z => z) fun b ds e G1 H1 p xs h1 s hd1 sq rs => ?_
  dsimp only at h1
  refine hl Z G1 H1 σ e _ hd1 ?_
  cases q : ml e with
  | exc y => rw [q] at h1; exact fun H' C a g ex => h1 G1 H' C a (s.trans (Step.grow g)) (hd1.grow g) ex
  | bad => rw [q] at h1; exact False.elim h1
  | ok lo =>
    rw [q] at h1
    intro H2 g2
    have hd2 := hd1.grow g2
    refine hh Z G1 H2 σ e _ hd2 ?_
    dsimp only at h1
    cases q2 : mh e with
    | exc y => rw [q2] at h1; exact fun H' C a g ex => h1 G1 H' C a (s.trans (Step.grow (g2.trans g))) (hd2.grow g) ex
    | bad => rw [q2] at h1; exact False.elim h1
    | ok hi =>
      rw [q2] at h1
      intro H3 g3
      have hd3 := hd2.grow g3
      have s3 := s.trans (Step.grow (g2.trans g3))
      cases b with
      | false => exact False.elim h1
      | true => exact ⟨p, xs, rfl, SeqAt.grow (b := true) (g2.trans g3) sq, new_own hd s3 hd3 (.lst (rs.cut lo hi)) h1⟩
/-! ### list + list, list * int -/
/-- a list as it stands (tracked), purely read: its items are data -/
def PoK (K : PySem.W.Frag) (mg : Str → Option Value) (W : WX) (G H : Hp) (σ : L2.St) (r : RP (List D)) (Q : VK) : Prop := match r with
  | .ok ds => ∀ H' p xs, Grow H H' → H' p = some (.lst xs) → RepL K G xs ds → Q (.ref p) H'
  | .exc x => ∀ H' C a, Grow H H' → ExcAt K mg H' x C a → W (.ref C) (some a) σ H'
  | .bad => False
def EvK (K : PySem.W.Frag) (mg : Str → Option Value) (W : WX) (t : TE) (m : En → RP (List D)) : Prop := ∀ Z G H σ env Q, Hold K Z G H σ env → PoK K mg W G H σ (m env) Q → t σ H Q
def kVar (i : Nat) (env : En) : RP (List D) := match env[i]? with
  | some (.imm (.lst ds)) => .ok ds
  | some (.own (.lst ds)) => .ok ds
  | some (.par (.lst ds)) => .ok ds
  | _ => .bad
theorem evk_var {i : Nat} : EvK K mg W (tVar i) (kVar i) := by
  intro Z G H σ env Q hd h
  have key : ∀ s ds, env[i]? = some s → s.mo = some (.lst ds) → PoK K mg W G H σ (.ok ds) Q → tVar i σ H Q := fun s ds e hm h => by
    obtain ⟨p, o, h1, h2, h3, h4⟩ := hd.own_get e hm
    cases h4 with
    | lst r => exact ⟨_, h1, h H p _ (Grow.refl H) h2 r⟩
  unfold kVar at h
  cases e : env[i]? with
  | none => rw [e] at h; exact False.elim h
  | some s =>
    rw [e] at h
    cases s with
    | none => exact False.elim h
    | fre d => exact False.elim h
    | own m =>
      cases m with
      | lst ds => exact key _ ds e rfl h
      | ins c fs => exact False.elim h
    | par m =>
      cases m with
      | lst ds => exact key _ ds e rfl h
      | ins c fs => exact False.elim h
    | imm d =>
      obtain ⟨v, h1, h2⟩ := hd.imm_get e
      cases d with
      | lst ds => cases h2 with | lst a r => exact ⟨_, h1, h H _ _ (Grow.refl H) (hd.ex _ _ a) r⟩
      | _ => exact False.elim h
/-- a display of scalars -/
def kLst (m : En → RP (List D)) (e : En) : RP (List D) := (m e).bind fun ds => if ds.all flat = true ∧ ds.length ≤ sizeLine then .ok ds else .bad
theorem evk_lst {t : TA} {m : En → RP (List D)} (ha : EvAP K mg W t m) : EvK K mg W (tLst t) (kLst m) := by
  intro Z G H σ env Q hd h
  unfold kLst at h
  refine ha Z G H σ env _ hd ?_
  cases q : m env with
  | ok ds =>
    rw [q] at h
    have h : PoK K mg W G H σ (if ds.all flat = true ∧ ds.length ≤ sizeLine then .ok ds else .bad) Q := h
    by_cases c : ds.all flat = true ∧ ds.length ≤ sizeLine
    · rw [if_pos c] at h
      exact fun H' vs g rs => ⟨by rw [rs.length]; exact c.2, fun p hp => h _ p vs (g.trans (Grow.new hp)) upd_same (rs.flat c.1)⟩
    · rw [if_neg c] at h; exact False.elim h
  | exc x => rw [q] at h; exact h
  | bad => rw [q] at h; exact h
def kRep (a : En → RP (List D)) (b : En → RP D) (e : En) : RP (List D) := (a e).bind fun ds => (b e).bind fun x => match x with
  | .int k => if -(2 ^ 63) ≤ k ∧ k < 2 ^ 63 ∧ ds.length * k.toNat ≤ sizeLine then .ok (List.replicate k.toNat ds).flatten else .bad
  | _ => .bad
theorem EvK.after {t : TE} {m : En → RP (List D)} (h : EvK K mg W t m) {β : Type} (hd : Hold K Z G H σ env) {f : List D → RP β} {Q : VK} {Bad : RP β → Prop}
    (hb : Bad ((m env).bind f)) (h0 : ¬ Bad .bad) (hx : ∀ x, Bad (.exc x) → ∀ H' C a, Grow H H' → ExcAt K mg H' x C a → W (.ref C) (some a) σ H')
    (hk : ∀ ds H1 p xs, Bad (f ds) → Grow H H1 → Hold K Z G H1 σ env → H1 p = some (.lst xs) → RepL K G xs ds → Q (.ref p) H1) : t σ H Q := by
  refine h Z G H σ env Q hd ?_
  cases e : m env with
  | ok d => rw [e] at hb; exact fun H' p xs g a r => hk d H' p xs hb g (hd.grow g) a r
  | exc x => rw [e] at hb; exact hx x hb
  | bad => rw [e] at hb; exact (h0 hb).elim
theorem evk_rep {ta tb : TE} {ma : En → RP (List D)} {mb : En → RP D} (ha : EvK K mg W ta ma) (hb : EvP K mg W tb mb) : EvK K mg W (tOp rRep ta tb) (kRep ma mb) := by
  intro Z G H σ env Q hd h
  refine ha.after hd (Bad := fun r => PoK K mg W G H σ r Q) h (fun z => z) (fun x z => z) fun ds H1 p xs h1 g hd1 hp rs => ?_
  refine hb.after hd1 (Bad := fun r => PoK K mg W G H σ r Q) h1 (fun z => z) (fun x z H' C a g' => z H' C a (g.trans g')) fun d H2 v h2 g2 hd2 rv => ?_
  cases d with
  | int k =>
    cases rv
    dsimp only at h2
    by_cases c : -(2 ^ 63) ≤ k ∧ k < 2 ^ 63 ∧ ds.length * k.toNat ≤ sizeLine
    · rw [if_pos c] at h2
      exact ⟨p, k, xs, rfl, rfl, g2.k p _ hp nt_lst, c.1, c.2.1, by rw [rs.length]; exact c.2.2, fun l hl => h2 _ l _ ((g.trans g2).trans (Grow.new hl)) upd_same (rs.rep _)⟩
    · rw [if_neg c] at h2; exact False.elim h2
  | _ => exact False.elim h2
def kCat (a b : En → RP (List D)) (e : En) : RP (List D) := (a e).bind fun xs => (b e).bind fun ys => if xs.length + ys.length ≤ sizeLine then .ok (xs ++ ys) else .bad
theorem evk_cat {ta tb : TE} {ma mb : En → RP (List D)} (ha : EvK K mg W ta ma) (hb : EvK K mg W tb mb) : EvK K mg W (tOp rCat ta tb) (kCat ma mb) := by
  intro Z G H σ env Q hd h
  refine ha.after hd (Bad := fun r => PoK K mg W G H σ r Q) h (fun z => z) (fun x z => z) fun ds H1 p xs h1 g hd1 hp rs => ?_
  refine hb.after hd1 (Bad := fun r => PoK K mg W G H σ r Q) h1 (fun z => z) (fun x z H' C a g' => z H' C a (g.trans g')) fun es H2 q ys h2 g2 hd2 hq rq => ?_
  by_cases c : ds.length + es.length ≤ sizeLine
  · rw [if_pos c] at h2
    exact ⟨p, q, xs, ys, rfl, rfl, g2.k p _ hp nt_lst, hq, by rw [rs.length, rq.length]; exact c, fun l hl => h2 _ l _ ((g.trans g2).trans (Grow.new hl)) upd_same (rs.append rq)⟩
  · rw [if_neg c] at h2; exact False.elim h2
/-- a slice of a list, purely read -/
def kCut (a : En → RP (List D)) (l h : En → RP (Option Int)) (e : En) : RP (List D) := (a e).bind fun x => (l e).bind fun lo => (h e).bind fun hi => .ok (cutD x lo hi)
theorem evk_cut {ta : TE} {ma : En → RP (List D)} {tl th : TO} {ml mh : En → RP (Option Int)} (ha : EvK K mg W ta ma) (hl : EvO K mg W tl ml) (hh : EvO K mg W th mh) : EvK K mg W (tSl (rSlL K) ta tl th) (kCut ma ml mh) := by
  intro Z G H σ env Q hd h
  refine ha.after hd (Bad := fun r => PoK K mg W G H σ r Q) h (fun z => z) (fun x z => z) fun ds H1 p xs h1 g hd1 hp rs => ?_
  refine hl Z G H1 σ env _ hd1 ?_
  cases q : ml env with
  | exc y => rw [q] at h1; exact fun H' C a g' ex => h1 H' C a (g.trans g') ex
  | bad => rw [q] at h1; exact False.elim h1
  | ok lo =>
    rw [q] at h1
    intro H2 g2
    have hd2 := hd1.grow g2
    refine hh Z G H2 σ env _ hd2 ?_
    have h1 : PoK K mg W G H σ ((mh env).bind fun hi => .ok (cutD ds lo hi)) Q := h1
    cases q2 : mh env with
    | exc y => rw [q2] at h1; exact fun H' C a g' ex => h1 H' C a ((g.trans g2).trans g') ex
    | bad => rw [q2] at h1; exact False.elim h1
    | ok hi =>
      rw [q2] at h1
      intro H3 g3
      exact ⟨p, xs, rfl, SqL.of ((g2.trans g3).k p _ hp nt_lst), fun l hl => h1 _ l _ (((g.trans g2).trans g3).trans (Grow.new hl)) upd_same (rs.cut lo hi)⟩
/-- a new list of the same (list(x), x a list or tuple lent) -/
def fOfK (a : En → RP (List D)) (e : En) : Res MO := match a e with
  | .ok ds => .ok (.lst ds) e
  | .exc y => .exc y e
  | .bad => .bad
/-- the last + or * of such a reading gives a list of my own -/
theorem evf_cat {ta tb : TE} {ma mb : En → RP (List D)} (ha : EvK K mg W ta ma) (hb : EvK K mg W tb mb) : EvF K mg W (tOp rCat ta tb) (fOfK (kCat ma mb)) := by
  intro Z G H σ env Q hd h
  unfold fOfK at h
  have key : ∀ r : RP (List D), (kCat ma mb env = r) → PoF K mg W Z G H σ env (match r with | .ok ds => .ok (.lst ds) env | .exc y => .exc y env | .bad => .bad) Q → tOp rCat ta tb σ H Q := fun r e h => by
    unfold kCat at e
    refine ha.after hd (Bad := fun r' => r' = r) e (fun z => ?_) (fun x z => ?_) fun ds H1 p xs h1 g hd1 hp rs => ?_
    · subst z; exact h
    · subst z; exact PoX.pure h hd
    · refine hb.after hd1 (Bad := fun r' => r' = r) h1 (fun z => ?_) (fun x z => ?_) fun es H2 q ys h2 g2 hd2 hq rq => ?_
      · subst z; exact h
      · subst z; exact fun H' C a g' ex => PoX.pure h hd H' C a (g.trans g') ex
      · by_cases c : ds.length + es.length ≤ sizeLine
        · rw [if_pos c] at h2
          subst h2
          exact ⟨p, q, xs, ys, rfl, rfl, g2.k p _ hp nt_lst, hq, by rw [rs.length, rq.length]; exact c, new_own hd (Step.grow (g.trans g2)) hd2 (.lst (rs.append rq)) h⟩
        · rw [if_neg c] at h2; subst h2; exact False.elim h
  exact key _ rfl h
theorem evf_rep {ta tb : TE} {ma : En → RP (List D)} {mb : En → RP D} (ha : EvK K mg W ta ma) (hb : EvP K mg W tb mb) : EvF K mg W (tOp rRep ta tb) (fOfK (kRep ma mb)) := by
  intro Z G H σ env Q hd h
  unfold fOfK at h
  have key : ∀ r : RP (List D), (kRep ma mb env = r) → PoF K mg W Z G H σ env (match r with | .ok ds => .ok (.lst ds) env | .exc y => .exc y env | .bad => .bad) Q → tOp rRep ta tb σ H Q := fun r e h => by
    unfold kRep at e
    refine ha.after hd (Bad := fun r' => r' = r) e (fun z => ?_) (fun x z => ?_) fun ds H1 p xs h1 g hd1 hp rs => ?_
    · subst z; exact h
    · subst z; exact PoX.pure h hd
    · refine hb.after hd1 (Bad := fun r' => r' = r) h1 (fun z => ?_) (fun x z => ?_) fun d H2 v h2 g2 hd2 rv => ?_
      · subst z; exact h
      · subst z; exact fun H' C a g' ex => PoX.pure h hd H' C a (g.trans g') ex
      · cases d with
        | int k =>
          cases rv
          dsimp only at h2
          by_cases c : -(2 ^ 63) ≤ k ∧ k < 2 ^ 63 ∧ ds.length * k.toNat ≤ sizeLine
          · rw [if_pos c] at h2
            subst h2
            exact ⟨p, k, xs, rfl, rfl, g2.k p _ hp nt_lst, c.1, c.2.1, by rw [rs.length]; exact c.2.2, new_own hd (Step.grow (g.trans g2)) hd2 (.lst (rs.rep _)) h⟩
          · rw [if_neg c] at h2; subst h2; exact False.elim h
        | _ => subst h2; exact False.elim h
  exact key _ rfl h
end
end Cv
end

section
set_option Elab.async false
set_option linter.all false
set_option maxRecDepth 100000
set_option maxHeartbeats 4000000
set_option autoImplicit false
/-! CvF: what is walked; targets; statements; comprehensions. -/
namespace Cv
open PySem L2
variable [TbT]
inductive Ret where
  | imm (d : D) | own (m : MO)
inductive Fl where
  | next (e : En) | brk (e : En) | cont (e : En) | ret (r : Ret) (e : En) | exc (x : Exc) (e : En) | bad
section
variable (K : PySem.W.Frag) (mg : Str → Option Value) (W : WX) (Z : Addr → Prop) (G H : Hp) (σ : L2.St) (env : En)
def PoN (e : En) (P : L2.St → Hp → Prop) : Prop := ∀ G' H' σ', Step Z G H σ env G' H' σ' e → Hold K Z G' H' σ' e → P σ' H'
def PoR (r : Ret) (e : En) (P : VK) : Prop := match r with
  | .imm d => ∀ G' H' σ' v, Step Z G H σ env G' H' σ' e → Hold K Z G' H' σ' e → Rep K G' v d → P v H'
  | .own m => ∀ G' H' σ' p o, Step Z G H σ env G' H' σ' e → Hold K (fun a => Z a ∨ a = p) G' H' σ' e → H' p = some o → (OwnO σ env p ∨ H p = none) → G' p = none → ¬ Own σ' e p → RepM K G' o m → P (.ref p) H'
def PoXS (x : Exc) (e : En) : Prop := ∀ G' H' σ' C a, Step Z G H σ env G' H' σ' e → Hold K Z G' H' σ' e → ExcAt K mg H' x C a → W (.ref C) (some a) σ' H'
def PoS (r : Fl) (D : Ends) : Prop := match r with
  | .next e => PoN K Z G H σ env e D.nx
  | .brk e => PoN K Z G H σ env e D.bk
  | .cont e => PoN K Z G H σ env e D.ct
  | .ret r e => PoR K Z G H σ env r e D.rt
  | .exc x e => PoXS K mg W Z G H σ env x e
  | .bad => False
end
def EvS (K : PySem.W.Frag) (mg : Str → Option Value) (W : WX) (t : TS) (m : En → Fl) : Prop := ∀ Z G H σ env D, Hold K Z G H σ env → PoS K mg W Z G H σ env (m env) D → t D σ H
section
variable {K : PySem.W.Frag} {mg : Str → Option Value} {W : WX} {Z : Addr → Prop} {G H G1 H1 : Hp} {σ σ1 : L2.St} {env e1 : En}
theorem PoN.back {e : En} {P : L2.St → Hp → Prop} (st : Step Z G H σ env G1 H1 σ1 e1) (h : PoN K Z G H σ env e P) : PoN K Z G1 H1 σ1 e1 e P := fun G' H' σ' s hd => h G' H' σ' (st.trans s) hd
theorem PoR.back {r : Ret} {e : En} {P : VK} (st : Step Z G H σ env G1 H1 σ1 e1) (h : PoR K Z G H σ env r e P) : PoR K Z G1 H1 σ1 e1 r e P := by
  cases r with
  | imm d => exact fun G' H' σ' v s hd rp => h G' H' σ' v (st.trans s) hd rp
  | own m =>
    refine fun G' H' σ' p o s hd a b c d r => h G' H' σ' p o (st.trans s) hd a ?_ c d r
    rcases b with b | b
    · exact st.ow p b
    · exact .inr (st.d p b)
theorem PoS.back {r : Fl} {D : Ends} (st : Step Z G H σ env G1 H1 σ1 e1) (h : PoS K mg W Z G H σ env r D) : PoS K mg W Z G1 H1 σ1 e1 r D := by
  cases r with
  | next e => exact PoN.back st h
  | brk e => exact PoN.back st h
  | cont e => exact PoN.back st h
  | ret r e => exact PoR.back st h
  | exc x e => exact fun G' H' σ' C a s hd ex => h G' H' σ' C a (st.trans s) hd ex
  | bad => exact h
theorem PoX.toS {x : Exc} {e : En} (h : PoXS K mg W Z G H σ env x e) : PoX K mg W Z G H σ env x e := fun G' H' C a s hd ex => h G' H' σ C a s hd ex
/-! ### simple statements -/
def sNext (e : En) : Fl := .next e
def sBrk (e : En) : Fl := .brk e
def sCont (e : En) : Fl := .cont e
def sSeq (a b : En → Fl) (e : En) : Fl := match a e with
  | .next e1 => b e1
  | r => r
theorem evs_next : EvS K mg W tNext sNext := fun Z G H σ env D hd h => h G H σ Step.refl hd
theorem evs_brk : EvS K mg W tBreak sBrk := fun Z G H σ env D hd h => h G H σ Step.refl hd
theorem evs_cont : EvS K mg W tCont sCont := fun Z G H σ env D hd h => h G H σ Step.refl hd
theorem evs_seq {t u : TS} {a b : En → Fl} (ha : EvS K mg W t a) (hb : EvS K mg W u b) : EvS K mg W (tSeq t u) (sSeq a b) := by
  intro Z G H σ env D hd h
  refine ha Z G H σ env _ hd ?_
  unfold sSeq at h
  cases e : a env with
  | next e1 => rw [e] at h; exact fun G' H' σ' s hd' => hb Z G' H' σ' e1 D hd' (PoS.back s h)
  | brk e1 => rw [e] at h; exact h
  | cont e1 => rw [e] at h; exact h
  | ret r e1 => rw [e] at h; exact h
  | exc x e1 => rw [e] at h; exact h
  | bad => rw [e] at h; exact h
def sIf (c : En → Res Bool) (a b : En → Fl) (e : En) : Fl := match c e with
  | .ok true e1 => a e1
  | .ok false e1 => b e1
  | .exc x e1 => .exc x e1
  | .bad => .bad
theorem evs_if {c : TT} {t u : TS} {mc : En → Res Bool} {a b : En → Fl} (hc : EvT K mg W c mc) (ha : EvS K mg W t a) (hb : EvS K mg W u b) : EvS K mg W (tIfS c t u) (sIf mc a b) := by
  intro Z G H σ env D hd h
  refine hc Z G H σ env _ hd ?_
  unfold sIf at h
  cases e : mc env with
  | ok d e1 =>
    rw [e] at h
    cases d with
    | true => exact fun G' H' s hd' => ha Z G' H' σ e1 D hd' (PoS.back s h)
    | false => exact fun G' H' s hd' => hb Z G' H' σ e1 D hd' (PoS.back s h)
  | exc x e1 => rw [e] at h; exact PoX.toS h
  | bad => rw [e] at h; exact h
def sDrop (m : En → Res D) (e : En) : Fl := match m e with
  | .ok _ e1 => .next e1
  | .exc x e1 => .exc x e1
  | .bad => .bad
theorem evs_drop {t : TE} {m : En → Res D} (h : EvE K mg W t m) : EvS K mg W (tDrop t) (sDrop m) := by
  intro Z G H σ env D hd q
  refine h Z G H σ env _ hd ?_
  unfold sDrop at q
  cases e : m env with
  | ok d e1 => rw [e] at q; exact fun G' H' v s hd' _ => q G' H' σ s hd'
  | exc x e1 => rw [e] at q; exact PoX.toS q
  | bad => rw [e] at q; exact q
def sRet (m : En → Res D) (e : En) : Fl := match m e with
  | .ok d e1 => .ret (.imm d) e1
  | .exc x e1 => .exc x e1
  | .bad => .bad
theorem evs_ret {t : TE} {m : En → Res D} (h : EvE K mg W t m) : EvS K mg W (tRet t) (sRet m) := by
  intro Z G H σ env D hd q
  refine h Z G H σ env _ hd ?_
  unfold sRet at q
  cases e : m env with
  | ok d e1 => rw [e] at q; exact fun G' H' v s hd' r => q G' H' σ v s hd' r
  | exc x e1 => rw [e] at q; exact PoX.toS q
  | bad => rw [e] at q; exact q
def sRetN (e : En) : Fl := .ret (.imm .non) e
theorem evs_retN : EvS K mg W tRetN sRetN := fun Z G H σ env D hd q => q G H σ _ Step.refl hd .non
/-- what is handed back is the caller's own -/
def sRetF (m : En → Res MO) (e : En) : Fl := match m e with
  | .ok d e1 => .ret (.own d) e1
  | .exc x e1 => .exc x e1
  | .bad => .bad
theorem evs_retF {t : TE} {m : En → Res MO} (h : EvF K mg W t m) : EvS K mg W (tRet t) (sRetF m) := by
  intro Z G H σ env D hd q
  refine h Z G H σ env _ hd ?_
  unfold sRetF at q
  cases e : m env with
  | ok d e1 => rw [e] at q; exact fun G' H' p o s hd' a b c d r => q G' H' σ p o s hd' a (.inr b) c d r
  | exc x e1 => rw [e] at q; exact PoX.toS q
  | bad => rw [e] at q; exact q
/-- slot i forgotten -/
theorem Hold.drop (h : Hold K Z G H σ env) (i : Nat) : Hold K Z G H σ (env.set i .none) ∧ Step Z G H σ env G H σ (env.set i .none) := by
  have back : ∀ j a, OwnAt σ (env.set i .none) j a → j ≠ i ∧ OwnAt σ env j a := fun j a ⟨q1, s, m', q2, q3⟩ => by
    rcases getElem?_set_cases q2 with ⟨_, z, _⟩ | ⟨n, z⟩
    · subst z; cases q3
    · exact ⟨Ne.symm n, q1, s, m', z, q3⟩
  refine ⟨⟨h.ex, h.nt, by rw [List.length_set]; exact h.len, fun j s e => ?_, fun j k a z1 z2 => h.dis j k a (back j a z1).2 (back k a z2).2, fun j d e => ?_, h.zt, h.tb⟩,
    ⟨Same.refl _, fun _ _ q _ _ _ => q, fun _ _ _ g _ _ => g, fun _ q => q, fun j m' e => ?_, fun a ⟨j, m', z1, z2⟩ => ?_⟩⟩
  · rcases getElem?_set_cases e with ⟨_, z, _⟩ | ⟨n, z⟩
    · subst z; trivial
    · exact h.sl j s z
  · rcases getElem?_set_cases e with ⟨_, z, _⟩ | ⟨n, z⟩
    · cases z
    · obtain ⟨v, R, q1, q2, q3, q4⟩ := h.fr j d z
      exact ⟨v, R, q1, q2, fun a u w => ⟨(q3 a u w).1, fun ⟨k, z⟩ => (q3 a u w).2.1 ⟨k, (back k a z).2⟩, (q3 a u w).2.2⟩, q4⟩
  · rcases getElem?_set_cases e with ⟨_, z, _⟩ | ⟨n, z⟩
    · cases z
    · exact ⟨⟨m', z⟩, rfl⟩
  · rcases getElem?_set_cases z2 with ⟨_, z, _⟩ | ⟨n, z⟩
    · cases z
    · exact .inl ⟨j, m', z1, z⟩
def sRetO (i : Nat) (e : En) : Fl := match e[i]? with
  | some (.own m) => .ret (.own m) (e.set i .none)
  | _ => .bad
theorem evs_retO {i : Nat} : EvS K mg W (tRet (tVar i)) (sRetO i) := by
  intro Z G H σ env D hd q
  unfold sRetO at q
  cases e : env[i]? with
  | none => rw [e] at q; exact False.elim q
  | some s =>
    rw [e] at q
    cases s with
    | own m =>
      obtain ⟨p, o, h1, h2, h3, h4⟩ := hd.own_get e rfl
      obtain ⟨d1, d2⟩ := hd.drop i
      have oi : OwnAt σ env i p := .of h1 e rfl
      refine ⟨_, h1, q G H σ p o d2 ⟨d1.ex, d1.nt, d1.len, d1.sl, d1.dis, fun j d z => ?_, fun a z => by
        rcases z with z | z
        · exact hd.zt a z
        · exact ⟨o, by rw [z]; exact h2⟩, d1.tb⟩ h2 (.inl ⟨i, m, h1, e⟩) h3 (fun ⟨j, z⟩ => ?_) h4⟩
      · rcases getElem?_set_cases z with ⟨_, z, _⟩ | ⟨n, z⟩
        · cases z
        · obtain ⟨v, R, q1, q2, q3, q4⟩ := hd.fr j d z
          refine ⟨v, R, q1, q2, fun a u w => ⟨(q3 a u w).1, fun z => ?_, fun z => ?_, (q3 a u w).2.2.2⟩, q4⟩
          · rcases d2.own a z with z | z
            · exact (q3 a u w).2.1 z
            · rw [q2 a u w] at z; cases z
          · rcases z with z | z
            · exact (q3 a u w).2.2.1 z
            · exact (q3 a u w).2.1 (by rw [z]; exact ⟨i, oi⟩)
      · obtain ⟨w1, s, m', w2, w3⟩ := z
        rcases getElem?_set_cases w2 with ⟨_, z, _⟩ | ⟨n, z⟩
        · subst z; cases w3
        · exact n (hd.dis i j p oi (.of w1 z w3))
    | none => exact False.elim q
    | imm d => exact False.elim q
    | fre d => exact False.elim q
    | par m => exact False.elim q
/-! ### targets -/
/-- data is stored -/
def EvG (K : PySem.W.Frag) (g : TG) (m : D → En → Option En) : Prop := ∀ Z G H σ env v d e Q, Hold K Z G H σ env → Rep K G v d → m d env = some e → (∀ σ', Step Z G H σ env G H σ' e → Hold K Z G H σ' e → Q σ' H) → g v σ H Q
def EvGs (K : PySem.W.Frag) (g : TGs) (m : List D → En → Option En) : Prop := ∀ Z G H σ env vs ds e Q, Hold K Z G H σ env → RepL K G vs ds → m ds env = some e → (∀ σ', Step Z G H σ env G H σ' e → Hold K Z G H σ' e → Q σ' H) → g vs σ H Q
def gN (i : Nat) (d : D) (e : En) : Option En := if i < e.length then some (e.set i (.imm d)) else none
def gsNil (ds : List D) (e : En) : Option En := match ds with
  | [] => some e
  | _ => none
def gsCons (a : D → En → Option En) (b : List D → En → Option En) (ds : List D) (e : En) : Option En := match ds with
  | d :: r => (a d e).bind fun e1 => b r e1
  | [] => none
def gT (n : Nat) (b : List D → En → Option En) (d : D) (e : En) : Option En := match d with
  | .tup ds => if ds.length = n then b ds e else none
  | _ => none
theorem evg_name {i : Nat} : EvG K (gName i) (gN i) := by
  intro Z G H σ env v d e Q hd r hm h
  unfold gN at hm
  by_cases c : i < env.length
  · rw [if_pos c] at hm; cases hm
    refine h _ (Step.put hd.len (fun m z => by cases z) (fun m z => by cases z) Step.refl) (hd.put c ⟨v, rfl, r⟩ (fun m z => by cases z) (fun m z => by cases z) (fun d z => by cases z))
  · rw [if_neg c] at hm; cases hm
theorem evgs_nil : EvGs K gNil gsNil := by
  intro Z G H σ env vs ds e Q hd r hm h
  cases r with
  | nil => cases hm; exact ⟨rfl, h σ Step.refl hd⟩
  | cons _ _ => cases hm
theorem evgs_cons {t : TG} {u : TGs} {a : D → En → Option En} {b : List D → En → Option En} (ha : EvG K t a) (hb : EvGs K u b) : EvGs K (gCons t u) (gsCons a b) := by
  intro Z G H σ env vs ds e Q hd r hm h
  cases r with
  | nil => cases hm
  | cons r1 rr =>
    rename_i v d vr dr
    have hm : ((a d env).bind fun e1 => b dr e1) = some e := hm
    cases q : a d env with
    | none => rw [q] at hm; cases hm
    | some e1 =>
      rw [q] at hm
      refine ⟨v, vr, rfl, ha Z G H σ env v d e1 _ hd r1 q fun σ1 s1 hd1 => ?_⟩
      exact hb Z G H σ1 e1 vr dr e Q hd1 rr hm fun σ2 s2 hd2 => h σ2 (s1.trans s2) hd2
theorem evg_tup {n : Nat} {t : TGs} {b : List D → En → Option En} (hb : EvGs K t b) : EvG K (gTup K n t) (gT n b) := by
  intro Z G H σ env v d e Q hd r hm h
  unfold gT at hm
  cases d with
  | tup ds =>
    cases r with
    | tup a rs =>
      dsimp only at hm
      by_cases c : ds.length = n
      · rw [if_pos c] at hm
        exact ⟨_, _, rfl, SqT.of (hd.ex _ _ a), by rw [rs.length]; exact c, hb Z G H σ env _ ds e Q hd rs hm h⟩
      · rw [if_neg c] at hm; cases hm
  | _ => cases hm
/-- target = value -/
def sAsg (m : En → Res D) (g : D → En → Option En) (e : En) : Fl := match m e with
  | .ok d e1 => (match g d e1 with
    | some e2 => .next e2
    | none => .bad)
  | .exc x e1 => .exc x e1
  | .bad => .bad
theorem evs_asg {t : TE} {m : En → Res D} {g : TG} {mg' : D → En → Option En} (h : EvE K mg W t m) (hg : EvG K g mg') : EvS K mg W (tAsg t g) (sAsg m mg') := by
  intro Z G H σ env D hd q
  refine h Z G H σ env _ hd ?_
  unfold sAsg at q
  cases e : m env with
  | ok d e1 =>
    rw [e] at q
    dsimp only at q
    cases e2 : mg' d e1 with
    | none => rw [e2] at q; exact False.elim q
    | some e3 => rw [e2] at q; exact fun G' H' v s hd' r => hg Z G' H' σ e1 v d e3 _ hd' r e2 fun σ' s2 hd2 => q G' H' σ' (s.trans s2) hd2
  | exc x e1 => rw [e] at q; exact PoX.toS q
  | bad => rw [e] at q; exact q
/-- name = a new object of my own -/
def sAsgF (m : En → Res MO) (i : Nat) (e : En) : Fl := match m e with
  | .ok d e1 => if i < e1.length then .next (e1.set i (.own d)) else .bad
  | .exc x e1 => .exc x e1
  | .bad => .bad
theorem evs_asgF {t : TE} {m : En → Res MO} {i : Nat} (h : EvF K mg W t m) : EvS K mg W (tAsg t (gName i)) (sAsgF m i) := by
  intro Z G H σ env D hd q
  refine h Z G H σ env _ hd ?_
  unfold sAsgF at q
  cases e : m env with
  | ok d e1 =>
    rw [e] at q
    dsimp only at q
    by_cases c : i < e1.length
    · rw [if_pos c] at q
      intro G' H' p o s hd' a b c' d' r
      refine q G' H' _ (Step.put hd'.len (fun m z => by cases z) (fun m z p' z' => ?_) s) ((hd'.put (s := .own d) (v := .ref p) c ⟨p, o, rfl, a, c', r⟩ (fun m z p' z' => ?_) (fun m z p' z' => ?_) (fun d z => by cases z)).weak fun a z => .inl z)
      · cases z'; exact .inr b
      · cases z'; exact d'
      · cases z'; exact .inr rfl
    · rw [if_neg c] at q; exact False.elim q
  | exc x e1 => rw [e] at q; exact PoX.toS q
  | bad => rw [e] at q; exact q
/-- a, b = e1, e2 -/
def sPar (i j : Nat) (m : En → Res (List D)) (e : En) : Fl := match m e with
  | .ok [x, y] e1 => (match (gN i x e1).bind fun e2 => gN j y e2 with
    | some e2 => .next e2
    | none => .bad)
  | .ok _ _ => .bad
  | .exc x e1 => .exc x e1
  | .bad => .bad
theorem evs_par {i j : Nat} {t : TA} {m : En → Res (List D)} (h : EvV K mg W t m) : EvS K mg W (tPar i j t) (sPar i j m) := by
  intro Z G H σ env D hd q
  refine h Z G H σ env _ hd ?_
  unfold sPar at q
  cases e : m env with
  | ok ds e1 =>
    rw [e] at q
    match ds, q with
    | [x, y], q =>
      dsimp only at q
      intro G' H' vs s hd' rs
      cases e2 : gN i x e1 with
      | none => rw [e2] at q; exact False.elim q
      | some e3 =>
        rw [e2] at q
        simp only [Option.bind_some] at q
        cases e4 : gN j y e3 with
        | none => rw [e4] at q; exact False.elim q
        | some e5 =>
          rw [e4] at q
          cases rs with
          | cons r1 rr =>
            cases rr with
            | cons r2 rr =>
              cases rr
              refine ⟨_, _, rfl, ?_⟩
              refine evg_name (K := K) (i := i) Z G' H' σ e1 _ x e3 (fun σ1 H1 => D.nx (σ1.set j (some _)) H1) hd' r1 e2 fun σ1 s1 hd1 => ?_
              exact evg_name (K := K) (i := j) Z G' H' σ1 e3 _ y e5 D.nx hd1 r2 e4 fun σ2 s2 hd2 => q G' H' σ2 ((s.trans s1).trans s2) hd2
    | [], q => exact False.elim q
    | [_], q => exact False.elim q
    | _ :: _ :: _ :: _, q => exact False.elim q
  | exc x e1 => rw [e] at q; exact PoX.toS q
  | bad => rw [e] at q; exact q
/-! ### my objects changed -/
/-- the slot's object, replaced -/
def Sl.put (s : Sl) (m : MO) : Sl := match s with
  | .own _ => .own m
  | .par _ => .par m
  | s => s
theorem put_ok {s : Sl} {m m' : MO} (h : s.mo = some m) : (s = .own m ∧ s.put m' = .own m') ∨ (s = .par m ∧ s.put m' = .par m') := by
  cases s with
  | own x => cases h; exact .inl ⟨rfl, rfl⟩
  | par x => cases h; exact .inr ⟨rfl, rfl⟩
  | none => cases h
  | imm d => cases h
  | fre d => cases h
def ownL (e : En) (i : Nat) : Option (List D) := match e[i]? with
  | some (.own (.lst ds)) => some ds
  | some (.par (.lst ds)) => some ds
  | _ => none
def setL (e : En) (i : Nat) (ds : List D) : En := match e[i]? with
  | some s => e.set i (s.put (.lst ds))
  | none => e
theorem ownL_get (hd : Hold K Z G H σ env) {i : Nat} {ds : List D} (h : ownL env i = some ds) : ∃ p xs, σ[i]? = some (some (.ref p)) ∧ H p = some (.lst xs) ∧ RepL K G xs ds ∧
    ∀ ys es, RepL K G ys es → Hold K Z G (upd H p (.lst ys)) σ (setL env i es) ∧ Step Z G H σ env G (upd H p (.lst ys)) σ (setL env i es) := by
  unfold ownL at h
  unfold setL
  cases e : env[i]? with
  | none => rw [e] at h; cases h
  | some s =>
    rw [e] at h
    have key : s.mo = some (.lst ds) → ∃ p xs, σ[i]? = some (some (.ref p)) ∧ H p = some (.lst xs) ∧ RepL K G xs ds ∧
        ∀ ys es, RepL K G ys es → Hold K Z G (upd H p (.lst ys)) σ (env.set i (s.put (.lst es))) ∧ Step Z G H σ env G (upd H p (.lst ys)) σ (env.set i (s.put (.lst es))) := fun hm => by
      obtain ⟨p, o, h1, h2, h3, h4⟩ := hd.own_get e hm
      cases h4 with
      | lst r => exact ⟨p, _, h1, h2, r, fun ys es r' => hd.mut e hm h1 (put_ok hm) (.lst r')⟩
    cases s with
    | own m =>
      cases m with
      | lst ds' => cases h; exact key rfl
      | ins c fs => cases h
    | par m =>
      cases m with
      | lst ds' => cases h; exact key rfl
      | ins c fs => cases h
    | none => cases h
    | imm d => cases h
    | fre d => cases h
/-- xs.append(e) -/
def eApp (i : Nat) (m : En → Res D) (e : En) : Res D := match ownL e i with
  | none => .bad
  | some _ => (m e).bind fun d e1 => match ownL e1 i with
    | some ds => if ds.length < sizeLine then .ok .non (setL e1 i (ds ++ [d])) else .bad
    | none => .bad
theorem eve_app {i : Nat} {t : TE} {m : En → Res D} (h : EvE K mg W t m) : EvE K mg W (tBM K "list" rAppend (tVar i) (tCons t tNil)) (eApp i m) := by
  intro Z G H σ env Q hd q
  unfold eApp at q
  cases e0 : ownL env i with
  | none => rw [e0] at q; exact False.elim q
  | some ds0 =>
    rw [e0] at q
    obtain ⟨p0, xs0, h1, h2, _, _⟩ := ownL_get hd e0
    refine ⟨_, h1, .inl ⟨rfl, _, SqL.of h2⟩, ?_⟩
    refine h.after hd (Bad := fun r => PoE K mg W Z G H σ env r Q) q (fun z => z) (fun x e z => z) fun d e G1 H1 v q1 s hd1 rv => ?_
    cases e1 : ownL e i with
    | none => rw [e1] at q1; exact False.elim q1
    | some ds =>
      rw [e1] at q1
      dsimp only at q1
      obtain ⟨p, xs, k1, k2, k3, k4⟩ := ownL_get hd1 e1
      by_cases c : ds.length < sizeLine
      · rw [if_pos c] at q1
        obtain ⟨w1, w2⟩ := k4 _ _ (k3.append (.cons rv .nil))
        have ep : p0 = p := by rw [h1] at k1; cases k1; rfl
        exact ⟨p, xs, v, by rw [ep], rfl, k2, by rw [k3.length]; exact c, q1 G1 _ _ (s.trans w2) w1 .non⟩
      · rw [if_neg c] at q1; exact False.elim q1
/-- xs.pop() -/
def ePop (i : Nat) (e : En) : Res D := match ownL e i with
  | none => .bad
  | some ds => match ds[ds.length - 1]? with
    | some d => .ok d (setL e i ds.dropLast)
    | none => .bad
theorem RepL.dropLast {H : Hp} {xs : List V} {ds : List D} (r : RepL K H xs ds) : RepL K H xs.dropLast ds.dropLast := by
  rw [List.dropLast_eq_take, List.dropLast_eq_take, r.length]
  exact r.take _
theorem eve_pop {i : Nat} : EvE K mg W (tBM0 K "list" rPop (tVar i)) (ePop i) := by
  intro Z G H σ env Q hd q
  unfold ePop at q
  cases e0 : ownL env i with
  | none => rw [e0] at q; exact False.elim q
  | some ds =>
    rw [e0] at q
    dsimp only at q
    obtain ⟨p, xs, h1, h2, h3, h4⟩ := ownL_get hd e0
    cases e1 : ds[ds.length - 1]? with
    | none => rw [e1] at q; exact False.elim q
    | some d =>
      rw [e1] at q
      obtain ⟨w1, w2⟩ := h4 _ _ h3.dropLast
      obtain ⟨v, a, b⟩ := h3.get e1
      exact ⟨_, h1, .inl ⟨rfl, _, SqL.of h2⟩, p, xs, v, rfl, rfl, h2, by rw [h3.length]; exact a, q G _ v w2 w1 b⟩
/-- xs.pop(k) -/
def ePopAt (i : Nat) (m : En → Res D) (e : En) : Res D := match ownL e i with
  | none => .bad
  | some _ => (m e).bind fun d e1 => match d, ownL e1 i with
    | .int k, some ds => if -(2 ^ 63) ≤ k ∧ k < 2 ^ 63 then (match seqIndex? k ds.length with
      | some j => (match ds[j]? with
        | some x => .ok x (setL e1 i (ds.eraseIdx j))
        | none => .bad)
      | none => .bad) else .bad
    | _, _ => .bad
theorem eve_popAt {i : Nat} {t : TE} {m : En → Res D} (h : EvE K mg W t m) : EvE K mg W (tBM K "list" rPopAt (tVar i) (tCons t tNil)) (ePopAt i m) := by
  intro Z G H σ env Q hd q
  unfold ePopAt at q
  cases e0 : ownL env i with
  | none => rw [e0] at q; exact False.elim q
  | some ds0 =>
    rw [e0] at q
    obtain ⟨p0, xs0, h1, h2, _, _⟩ := ownL_get hd e0
    refine ⟨_, h1, .inl ⟨rfl, _, SqL.of h2⟩, ?_⟩
    refine h.after hd (Bad := fun r => PoE K mg W Z G H σ env r Q) q (fun z => z) (fun x e z => z) fun d e G1 H1 v q1 s hd1 rv => ?_
    cases d with
    | int k =>
      cases e1 : ownL e i with
      | none => rw [e1] at q1; exact False.elim q1
      | some ds =>
        rw [e1] at q1
        dsimp only at q1
        obtain ⟨p, xs, k1, k2, k3, k4⟩ := ownL_get hd1 e1
        by_cases c : -(2 ^ 63) ≤ k ∧ k < 2 ^ 63
        · rw [if_pos c] at q1
          cases e2 : seqIndex? k ds.length with
          | none => rw [e2] at q1; exact False.elim q1
          | some j =>
            rw [e2] at q1
            dsimp only at q1
            cases e3 : ds[j]? with
            | none => rw [e3] at q1; exact False.elim q1
            | some x =>
              rw [e3] at q1
              obtain ⟨w, a, b⟩ := k3.get e3
              obtain ⟨w1, w2⟩ := k4 _ _ (k3.eraseIdx j)
              have ep : p0 = p := by rw [h1] at k1; cases k1; rfl
              cases rv
              exact ⟨p, xs, k, j, w, by rw [ep], rfl, k2, c.1, c.2, by rw [k3.length]; exact e2, a, q1 G1 _ w (s.trans w2) w1 b⟩
        · rw [if_neg c] at q1; exact False.elim q1
    | _ => exact False.elim q1
/-- xs[i] = value -/
def sSetIx (i : Nat) (mi : En → RP D) (m : En → Res D) (e : En) : Fl := match m e with
  | .ok d e1 => (match ownL e1 i with
    | none => .bad
    | some ds => (match mi e1 with
      | .ok (.int k) => (match ixN ds.length k with
        | some j => .next (setL e1 i (ds.set j d))
        | none => .bad)
      | _ => .bad))
  | .exc x e1 => .exc x e1
  | .bad => .bad
theorem evs_setIx {i : Nat} {t ti : TE} {m : En → Res D} {mi : En → RP D} (h : EvE K mg W t m) (hi : EvP K mg W ti mi) : EvS K mg W (tAsg t (gSub (tVar i) ti rSetL)) (sSetIx i mi m) := by
  intro Z G H σ env D hd q
  refine h Z G H σ env _ hd ?_
  unfold sSetIx at q
  cases e : m env with
  | exc x e1 => rw [e] at q; exact PoX.toS q
  | bad => rw [e] at q; exact q
  | ok d e1 =>
    rw [e] at q
    dsimp only at q
    intro G1 H1 v s hd1 rv
    cases e0 : ownL e1 i with
    | none => rw [e0] at q; exact False.elim q
    | some ds =>
      rw [e0] at q
      dsimp only at q
      obtain ⟨p, xs, h1, h2, _, _⟩ := ownL_get hd1 e0
      refine ⟨_, h1, ?_⟩
      refine hi Z G1 H1 σ e1 _ hd1 ?_
      cases e2 : mi e1 with
      | bad => rw [e2] at q; exact False.elim q
      | exc x => rw [e2] at q; exact False.elim q
      | ok k =>
        rw [e2] at q
        cases k with
        | int k =>
          dsimp only at q
          cases e3 : ixN ds.length k with
          | none => rw [e3] at q; exact False.elim q
          | some j =>
            rw [e3] at q
            intro H2 w g rw'
            have hd2 := hd1.grow g
            obtain ⟨p', xs', k1, k2, k3, k4⟩ := ownL_get hd2 e0
            rw [h1] at k1; cases k1
            obtain ⟨w1, w2⟩ := k4 _ _ (RepL.set rv j k3)
            exact ⟨p, xs', k, j, rfl, rep_int rw', k2, by rw [k3.length]; exact e3, q G1 _ σ ((s.trans (Step.grow g)).trans w2) w1⟩
        | _ => exact False.elim q
/-- xs[i] += value, whole numbers -/
def rAugI (f : Int → Int → Int) (x y : D) : Option D := match x, y with
  | .int a, .int b => some (.int (f a b))
  | _, _ => none
def sAugIx (f : Int → Int → Int) (i : Nat) (mi : En → RP D) (m : En → RP D) (e : En) : Fl := match ownL e i with
  | none => .bad
  | some ds => (match mi e with
    | .ok (.int k) => (match ixN ds.length k with
      | some j => (match ds[j]? with
        | some (.int a) => (match m e with
          | .ok (.int b) => .next (setL e i (ds.set j (.int (f a b))))
          | _ => .bad)
        | _ => .bad)
      | none => .bad)
    | _ => .bad)
theorem evs_augIx {f : Int → Int → Int} {i : Nat} {t ti : TE} {m mi : En → RP D} (h : EvP K mg W t m) (hi : EvP K mg W ti mi) : EvS K mg W (tAugS (tVar i) ti t (rIxL K) (ipI f) rSetL) (sAugIx f i mi m) := by
  intro Z G H σ env D hd q
  unfold sAugIx at q
  cases e0 : ownL env i with
  | none => rw [e0] at q; exact False.elim q
  | some ds =>
    rw [e0] at q
    dsimp only at q
    obtain ⟨p, xs, h1, h2, _, _⟩ := ownL_get hd e0
    refine ⟨_, h1, ?_⟩
    refine hi Z G H σ env _ hd ?_
    cases e2 : mi env with
    | bad => rw [e2] at q; exact False.elim q
    | exc x => rw [e2] at q; exact False.elim q
    | ok k =>
      rw [e2] at q
      cases k with
      | int k =>
        dsimp only at q
        cases e3 : ixN ds.length k with
        | none => rw [e3] at q; exact False.elim q
        | some j =>
          rw [e3] at q
          dsimp only at q
          cases e4 : ds[j]? with
          | none => rw [e4] at q; exact False.elim q
          | some x =>
            rw [e4] at q
            cases x with
            | int a =>
              dsimp only at q
              intro H2 w g rw'
              have hd2 := hd.grow g
              obtain ⟨p', xs', k1, k2, k3, k4⟩ := ownL_get hd2 e0
              rw [h1] at k1; cases k1
              obtain ⟨va, a1, a2⟩ := k3.get e4
              refine ⟨p, xs', k, va, rfl, rep_int rw', SqL.of k2, by unfold atI; rw [k3.length, e3]; exact a1, ?_⟩
              refine h Z G H2 σ env _ hd2 ?_
              cases e5 : m env with
              | bad => rw [e5] at q; exact False.elim q
              | exc x => rw [e5] at q; exact False.elim q
              | ok b =>
                rw [e5] at q
                cases b with
                | int b =>
                  dsimp only at q
                  intro H3 w3 g3 r3
                  have hd3 := hd2.grow g3
                  obtain ⟨p', xs3, k1, j2, j3, j4⟩ := ownL_get hd3 e0
                  rw [h1] at k1; cases k1
                  obtain ⟨w1, w2⟩ := j4 _ _ (RepL.set (.int (f a b)) j j3)
                  exact ⟨a, b, rep_int a2, rep_int r3, p, xs3, k, j, rfl, rep_int rw', j2, by rw [j3.length]; exact e3, q G _ σ ((Step.grow (g.trans g3)).trans w2) w1⟩
                | _ => exact False.elim q
            | _ => exact False.elim q
      | _ => exact False.elim q
/-- name += value, whole numbers -/
def sAug (f : Int → Int → Int) (i : Nat) (m : En → Res D) (e : En) : Fl := match e[i]? with
  | some (.imm (.int a)) => (match m e with
    | .ok (.int b) e1 => if i < e1.length then .next (e1.set i (.imm (.int (f a b)))) else .bad
    | .ok _ _ => .bad
    | .exc x e1 => .exc x e1
    | .bad => .bad)
  | _ => .bad
theorem evs_aug {f : Int → Int → Int} {i : Nat} {t : TE} {m : En → Res D} (h : EvE K mg W t m) : EvS K mg W (tAug i t (ipI f)) (sAug f i m) := by
  intro Z G H σ env D hd q
  unfold sAug at q
  cases e : env[i]? with
  | none => rw [e] at q; exact False.elim q
  | some s =>
    rw [e] at q
    cases s with
    | imm d =>
      cases d with
      | int a =>
        dsimp only at q
        obtain ⟨v, h1, h2⟩ := hd.imm_get e
        refine ⟨v, h1, ?_⟩
        refine h Z G H σ env _ hd ?_
        cases e2 : m env with
        | bad => rw [e2] at q; exact q
        | exc x e1 => rw [e2] at q; exact PoX.toS q
        | ok b e1 =>
          rw [e2] at q
          cases b with
          | int b =>
            dsimp only at q
            intro G1 H1 w s hd1 r
            by_cases c : i < e1.length
            · rw [if_pos c] at q
              exact ⟨a, b, rep_int h2, rep_int r, evg_name (K := K) (i := i) Z G1 H1 σ e1 _ (.int (f a b)) _ D.nx hd1 (.int _) (by unfold gN; rw [if_pos c]) fun σ' s2 hd2 => q G1 H1 σ' (s.trans s2) hd2⟩
            · rw [if_neg c] at q; exact False.elim q
          | _ => exact False.elim q
      | _ => exact False.elim q
    | none => exact False.elim q
    | own m => exact False.elim q
    | par m => exact False.elim q
    | fre d => exact False.elim q
end
end Cv
end

section
set_option Elab.async false
set_option linter.all false
set_option maxRecDepth 100000
set_option maxHeartbeats 4000000
set_option autoImplicit false
/-! CvG: loops, comprehensions. -/
namespace Cv
open PySem L2
variable [TbT]
/-- what J walks: the data ds, as long as the data G stands -/
structure Src (K : PySem.W.Frag) (J : It) (G : Hp) (ds : List D) : Prop where
  item : ∀ (i : Nat) (d : D) (H : Hp), ds[i]? = some d → Same G H → J.go i H ∧ ∀ x H', J.yld i H x H' → (H' = H ∧ Rep K G x d) ∨ ∃ t xs es, H t = none ∧ H' = upd H t (.tup xs) ∧ x = .ref t ∧ d = .tup es ∧ RepL K G xs es
  done : ∀ (H : Hp), Same G H → J.stop ds.length H
def PoI (K : PySem.W.Frag) (mg : Str → Option Value) (W : WX) (Z : Addr → Prop) (G H : Hp) (σ : L2.St) (env : En) (r : Res (List D)) (R : It → Hp → Prop) : Prop := match r with
  | .ok ds e => ∀ G' H' J, Step Z G H σ env G' H' σ e → Hold K Z G' H' σ e → Src K J G' ds → R J H'
  | .exc x e => PoX K mg W Z G H σ env x e
  | .bad => False
def EvI (K : PySem.W.Frag) (mg : Str → Option Value) (W : WX) (t : TI) (m : En → Res (List D)) : Prop := ∀ Z G H σ env R, Hold K Z G H σ env → PoI K mg W Z G H σ env (m env) R → t σ H R
section
variable {K : PySem.W.Frag} {mg : Str → Option Value} {W : WX} {Z : Addr → Prop} {G H : Hp} {σ : L2.St} {env : En}
/-! ### sources -/
def rng (lo : Int) (n : Nat) : List D := (List.range n).map fun (i : Nat) => D.int (lo + i)
theorem rng_get {lo : Int} {n i : Nat} {d : D} (h : (rng lo n)[i]? = some d) : i < n ∧ d = .int (lo + i) := by
  unfold rng at h
  rw [List.getElem?_map] at h
  cases e : (List.range n)[i]? with
  | none => rw [e] at h; cases h
  | some j =>
    rw [e] at h
    have hi : i < n := by
      have := (List.getElem?_eq_some_iff.mp e).1
      rwa [List.length_range] at this
    rw [List.getElem?_range hi] at e
    cases e; cases h
    exact ⟨hi, rfl⟩
theorem rng_len (lo : Int) (n : Nat) : (rng lo n).length = n := by unfold rng; rw [List.length_map, List.length_range]
theorem src_range (lo : Int) (n : Nat) : Src K (Itr lo n) G (rng lo n) where
  item := fun i d H h _ => by
    obtain ⟨hi, rfl⟩ := rng_get h
    exact ⟨hi, fun x H' y => .inl ⟨y.1, by rw [y.2]; exact .int _⟩⟩
  done := fun H _ => by
    show n ≤ (rng lo n).length
    rw [rng_len]
    exact Nat.le_refl n
def iR1 (m : En → Res (List D)) (e : En) : Res (List D) := (m e).bind fun ds e1 => match ds with
  | [.int j] => if -(2 ^ 62) ≤ j ∧ j < 2 ^ 62 then .ok (rng 0 j.toNat) e1 else .bad
  | _ => .bad
def iR2 (m : En → Res (List D)) (e : En) : Res (List D) := (m e).bind fun ds e1 => match ds with
  | [.int i, .int j] => if -(2 ^ 62) ≤ i ∧ i < 2 ^ 62 ∧ -(2 ^ 62) ≤ j ∧ j < 2 ^ 62 then .ok (rng i (j - i).toNat) e1 else .bad
  | _ => .bad
theorem evi_r1 {t : TA} {m : En → Res (List D)} (h : EvV K mg W t m) : EvI K mg W (iRng1 t) (iR1 m) := by
  intro Z G H σ env R hd q
  refine h.after hd (Bad := fun r => PoI K mg W Z G H σ env r R) q (fun z => z) (fun x e z => z) fun ds e G1 H1 vs q1 s hd1 rs => ?_
  match ds, rs, q1 with
  | [.int j], .cons r .nil, q1 =>
    cases r
    dsimp only at q1
    by_cases c : -(2 ^ 62) ≤ j ∧ j < 2 ^ 62
    · rw [if_pos c] at q1
      exact ⟨j, rfl, c.1, c.2, q1 G1 H1 _ s hd1 (src_range 0 j.toNat)⟩
    · rw [if_neg c] at q1; exact False.elim q1
  | [], _, q1 => exact False.elim q1
  | _ :: _ :: _, _, q1 => simp at q1; exact False.elim q1
  | [.non], _, q1 => exact False.elim q1
  | [.bl _], _, q1 => exact False.elim q1
  | [.str _], _, q1 => exact False.elim q1
  | [.lst _], _, q1 => exact False.elim q1
  | [.rls _], _, q1 => exact False.elim q1
  | [.tup _], _, q1 => exact False.elim q1
  | [.obj _ _], _, q1 => exact False.elim q1
theorem evi_r2 {t : TA} {m : En → Res (List D)} (h : EvV K mg W t m) : EvI K mg W (iRng2 t) (iR2 m) := by
  intro Z G H σ env R hd q
  refine h.after hd (Bad := fun r => PoI K mg W Z G H σ env r R) q (fun z => z) (fun x e z => z) fun ds e G1 H1 vs q1 s hd1 rs => ?_
  have key : ∀ i j, ds = [.int i, .int j] → iRng2 (fun _ H Q => Q vs H) σ H1 R := fun i j e => by
    subst e
    dsimp only at q1
    by_cases c : -(2 ^ 62) ≤ i ∧ i < 2 ^ 62 ∧ -(2 ^ 62) ≤ j ∧ j < 2 ^ 62
    · rw [if_pos c] at q1
      match rs with
      | .cons r1 (.cons r2 .nil) =>
        cases r1; cases r2
        exact ⟨i, j, rfl, c, q1 G1 H1 _ s hd1 (src_range i (j - i).toNat)⟩
    · rw [if_neg c] at q1; exact False.elim q1
  split at q1
  · rename_i i j; exact key i j rfl
  · exact False.elim q1
/-- the list at p, as data -/
theorem src_list {p : Addr} {xs : List V} {ds : List D} (sq : SqL K G p xs) (r : RepL K G xs ds) : Src K (Itl K p) G ds where
  item := fun i d H h ex => by
    obtain ⟨v, h1, h2⟩ := r.get h
    have sq := SqL.kp (Kp.of ex) sq
    exact ⟨⟨xs, v, sq, h1⟩, fun x H' y => .inl ⟨y.1, by have := y.2 xs sq; rw [h1] at this; cases this; exact h2⟩⟩
  done := fun H ex => ⟨xs, SqL.kp (Kp.of ex) sq, by rw [r.length]; exact Nat.le_refl _⟩
theorem src_tup {p : Addr} {xs : List V} {ds : List D} (sq : SqT K G p xs) (r : RepL K G xs ds) : Src K (Itt K p) G ds where
  item := fun i d H h ex => by
    obtain ⟨v, h1, h2⟩ := r.get h
    have sq := SqT.kp (Kp.of ex) sq
    exact ⟨⟨xs, v, sq, h1⟩, fun x H' y => .inl ⟨y.1, by have := y.2 xs sq; rw [h1] at this; cases this; exact h2⟩⟩
  done := fun H ex => ⟨xs, SqT.kp (Kp.of ex) sq, by rw [r.length]; exact Nat.le_refl _⟩
theorem not_own_G (h : Hold K Z G H σ env) {p : Addr} {o : HO} (hp : G p = some o) : ¬ Own σ env p := fun z => by
  have := (h.not_in z).1
  rw [hp] at this; cases this
def iLst (m : En → Res D) (e : En) : Res (List D) := (m e).bind fun d e1 => match d with
  | .lst ds => .ok ds e1
  | .rls ds => .ok ds e1
  | _ => .bad
def iTupl (m : En → Res D) (e : En) : Res (List D) := (m e).bind fun d e1 => match d with
  | .tup ds => .ok ds e1
  | _ => .bad
theorem evi_lst {t : TE} {m : En → Res D} (h : EvE K mg W t m) : EvI K mg W (iList K t) (iLst m) := by
  intro Z G H σ env R hd q
  refine h.after hd (Bad := fun r => PoI K mg W Z G H σ env r R) q (fun z => z) (fun x e z => z) fun d e G1 H1 v q1 s hd1 rv => ?_
  cases d with
  | lst ds =>
    cases rv with
    | lst a r => exact ⟨_, rfl, ⟨_, SqL.of (hd1.ex _ _ a)⟩, q1 G1 H1 _ s hd1 (src_list (SqL.of a) r)⟩
  | rls ds =>
    cases rv with
    | rls a r => exact ⟨_, rfl, ⟨_, SqL.kp (Kp.of hd1.ex) a⟩, q1 G1 H1 _ s hd1 (src_list a r)⟩
  | _ => exact False.elim q1
theorem evi_tup {t : TE} {m : En → Res D} (h : EvE K mg W t m) : EvI K mg W (iTup K t) (iTupl m) := by
  intro Z G H σ env R hd q
  refine h.after hd (Bad := fun r => PoI K mg W Z G H σ env r R) q (fun z => z) (fun x e z => z) fun d e G1 H1 v q1 s hd1 rv => ?_
  cases d with
  | tup ds =>
    cases rv with
    | tup a r => exact ⟨_, rfl, ⟨_, SqT.of (hd1.ex _ _ a)⟩, q1 G1 H1 _ s hd1 (src_tup (SqT.of a) r)⟩
  | _ => exact False.elim q1
theorem evi_lstF {t : TE} {m : En → Res MO} (h : EvF K mg W t m) : EvI K mg W (iList K t) (iLst (eOfF m)) := evi_lst (eve_f h)
/-! ### for -/
def forL (tg : D → En → Option En) (body : En → Fl) : List D → En → Fl
  | [], e => .next e
  | d :: r, e => match tg d e with
    | none => .bad
    | some e1 => match body e1 with
      | .next e2 => forL tg body r e2
      | .cont e2 => forL tg body r e2
      | .brk e2 => .next e2
      | f => f
def sFor (src : En → Res (List D)) (tg : D → En → Option En) (body : En → Fl) (e : En) : Fl := match src e with
  | .ok ds e1 => forL tg body ds e1
  | .exc x e1 => .exc x e1
  | .bad => .bad
theorem evs_for {wi : TI} {g : TG} {tb : TS} {src : En → Res (List D)} {tg : D → En → Option En} {body : En → Fl} (hi : EvI K mg W wi src) (hg : EvG K g tg) (hb : EvS K mg W tb body) : EvS K mg W (tFor wi g tb) (sFor src tg body) := by
  intro Z G H σ env D hd q
  refine hi Z G H σ env _ hd ?_
  unfold sFor at q
  cases e : src env with
  | bad => rw [e] at q; exact q
  | exc x e1 => rw [e] at q; exact PoX.toS q
  | ok ds e1 =>
    rw [e] at q
    intro G1 H1 J s hd1 sr
    refine ⟨fun i m σ' H' => i ≤ ds.length ∧ m = ds.length - i ∧ ∃ G' e', Step Z G H σ env G' H' σ' e' ∧ Hold K Z G' H' σ' e' ∧ Same G1 G' ∧ PoS K mg W Z G' H' σ' e' (forL tg body (ds.drop i) e') D,
      ⟨ds.length, Nat.zero_le _, rfl, G1, e1, s, hd1, Same.refl _, PoS.back s q⟩, ?_⟩
    rintro i m σ' H' ⟨hi, rfl, G', e', s', hd', sg, q'⟩
    cases h : ds[i]? with
    | none =>
      have hi' : ds.length ≤ i := List.getElem?_eq_none_iff.mp h
      have ei : i = ds.length := Nat.le_antisymm hi hi'
      subst ei
      rw [List.drop_eq_nil_of_le (Nat.le_refl _)] at q'
      exact .inl ⟨sr.done H' (sg.trans hd'.ex), q' G' H' σ' Step.refl hd'⟩
    | some d =>
      obtain ⟨hlt, hget⟩ := List.getElem?_eq_some_iff.mp h
      have hdrop : ds.drop i = d :: ds.drop (i + 1) := by rw [List.drop_eq_getElem_cons hlt, hget]
      rw [hdrop] at q'
      obtain ⟨go, yl⟩ := sr.item i d H' h (sg.trans hd'.ex)
      obtain ⟨NN, hNN⟩ : ∃ NN : L2.St → Hp → Prop, NN = fun σ'' H'' => (i + 1) ≤ ds.length ∧ ∃ G'' e'', Step Z G H σ env G'' H'' σ'' e'' ∧ Hold K Z G'' H'' σ'' e'' ∧ Same G1 G'' ∧ PoS K mg W Z G'' H'' σ'' e'' (forL tg body (ds.drop (i + 1)) e'') D := ⟨_, rfl⟩
      refine .inr ⟨go, NN, fun σ'' H'' w => by rw [hNN] at w; exact ⟨ds.length - (i + 1), by omega, w.1, rfl, w.2⟩, fun x H2 y => ?_⟩
      unfold forL at q'
      cases t : tg d e' with
      | none => rw [t] at q'; exact False.elim q'
      | some e2 =>
        rw [t] at q'
        dsimp only at q'
        have core : ∀ G2 H2, Step Z G' H' σ' e' G2 H2 σ' e' → Hold K Z G2 H2 σ' e' → Rep K G2 x d → g x σ' H2 fun σ2 H3 => tb { D with nx := NN, ct := NN, bk := D.nx } σ2 H3 := fun G2 H2 sa ha ra => by
          refine hg Z G2 H2 σ' e' x d e2 _ ha ra t fun σ2 s2 hd2 => ?_
          have sb := sa.trans s2
          refine hb Z G2 H2 σ2 e2 _ hd2 ?_
          have again : ∀ e3, PoS K mg W Z G' H' σ' e' (forL tg body (ds.drop (i + 1)) e3) D → PoN K Z G2 H2 σ2 e2 e3 NN := fun e3 q3 G3 H3 σ3 s3 hd3 => by
            have sc := sb.trans s3
            rw [hNN]
            exact ⟨hlt, G3, e3, s'.trans sc, hd3, sg.trans sc.g, PoS.back sc q3⟩
          cases r : body e2 with
          | next e3 => rw [r] at q'; exact again e3 q'
          | cont e3 => rw [r] at q'; exact again e3 q'
          | brk e3 => rw [r] at q'; exact PoN.back sb q'
          | ret r e3 => rw [r] at q'; exact PoR.back sb q'
          | exc x e3 => rw [r] at q'; exact PoS.back (r := .exc x e3) sb q'
          | bad => rw [r] at q'; exact q'
        rcases yl x H2 y with ⟨rfl, rv⟩ | ⟨tt, xs, es, ht, rfl, rfl, rfl, rs⟩
        · exact core G' _ Step.refl hd' (rv.mono (Kp.of sg))
        · have gt := hd'.gp ht
          refine core _ _ (Step.lay ht gt) (hd'.lay ht nt_tup) (.tup upd_same ((rs.mono (Kp.of sg)).mono (Kp.of fun a u e => by rw [upd_ne (ne_of_none e gt)]; exact e)))
/-! ### while -/
def whileN (c : En → Res Bool) (body : En → Fl) : Nat → En → Fl
  | 0, _ => .bad
  | n + 1, e => match c e with
    | .ok true e1 => (match body e1 with
      | .next e2 => whileN c body n e2
      | .cont e2 => whileN c body n e2
      | .brk e2 => .next e2
      | f => f)
    | .ok false e1 => .next e1
    | .exc x e1 => .exc x e1
    | .bad => .bad
open Classical in
noncomputable def sWhile (c : En → Res Bool) (body : En → Fl) (e : En) : Fl := if h : ∃ n, whileN c body n e ≠ .bad then whileN c body (Classical.choose h) e else .bad
theorem whileN_more {c : En → Res Bool} {body : En → Fl} : ∀ {n : Nat} {e : En}, whileN c body n e ≠ .bad → whileN c body (n + 1) e = whileN c body n e
  | 0, e, h => absurd rfl h
  | n + 1, e, h => by
    unfold whileN at h
    rw [whileN]
    conv => rhs; rw [whileN]
    cases q : c e with
    | ok b e1 =>
      rw [q] at h
      cases b with
      | true =>
        dsimp only at h ⊢
        cases r : body e1 with
        | next e2 => rw [r] at h; exact whileN_more h
        | cont e2 => rw [r] at h; exact whileN_more h
        | brk e2 => rfl
        | ret r e2 => rfl
        | exc x e2 => rfl
        | bad => rfl
      | false => rfl
    | exc x e1 => rfl
    | bad => rfl
theorem whileN_le {c : En → Res Bool} {body : En → Fl} {n m : Nat} {e : En} (h : whileN c body n e ≠ .bad) (l : n ≤ m) : whileN c body m e = whileN c body n e := by
  induction l with
  | refl => rfl
  | step l ih => rw [← ih]; exact whileN_more (by rw [ih]; exact h)
theorem sWhile_of {c : En → Res Bool} {body : En → Fl} {n : Nat} {e : En} {r : Fl} (h : whileN c body n e = r) (hr : r ≠ .bad) : sWhile c body e = r := by
  have ex : ∃ n, whileN c body n e ≠ .bad := ⟨n, by rw [h]; exact hr⟩
  unfold sWhile
  rw [dif_pos ex]
  have h2 := Classical.choose_spec ex
  rcases Nat.le_total n (Classical.choose ex) with l | l
  · rw [whileN_le (by rw [h]; exact hr) l, h]
  · rw [← h, whileN_le h2 l]
theorem evs_while {tc : TT} {tb : TS} {c : En → Res Bool} {body : En → Fl} (hc : EvT K mg W tc c) (hb : EvS K mg W tb body) : EvS K mg W (tWhile tc tb) (sWhile c body) := by
  intro Z G H σ env D hd q
  unfold sWhile at q
  by_cases ex : ∃ n, whileN c body n env ≠ .bad
  · rw [dif_pos ex] at q
    refine ⟨fun m σ' H' => ∃ G' e', Hold K Z G' H' σ' e' ∧ PoS K mg W Z G' H' σ' e' (whileN c body m e') D, ⟨_, G, env, hd, q⟩, ?_⟩
    rintro m σ' H' ⟨G', e', hd', q'⟩
    cases m with
    | zero => exact False.elim q'
    | succ n =>
      unfold whileN at q'
      refine hc Z G' H' σ' e' _ hd' ?_
      cases h : c e' with
      | bad => rw [h] at q'; exact q'
      | exc x e1 => rw [h] at q'; exact PoX.toS q'
      | ok b e1 =>
        rw [h] at q'
        intro G1 H1 s1 hd1
        cases b with
        | false => exact q' G1 H1 σ' s1 hd1
        | true =>
          refine ⟨fun σ'' H'' => ∃ G'' e'', Hold K Z G'' H'' σ'' e'' ∧ PoS K mg W Z G'' H'' σ'' e'' (whileN c body n e'') D, fun σ'' H'' w => ⟨n, Nat.lt_succ_self n, w⟩, ?_⟩
          refine hb Z G1 H1 σ' e1 _ hd1 ?_
          dsimp only at q'
          have again : ∀ e3, PoS K mg W Z G' H' σ' e' (whileN c body n e3) D → PoN K Z G1 H1 σ' e1 e3 (fun σ'' H'' => ∃ G'' e'', Hold K Z G'' H'' σ'' e'' ∧ PoS K mg W Z G'' H'' σ'' e'' (whileN c body n e'') D) := fun e3 q3 G3 H3 σ3 s3 hd3 =>
            ⟨G3, e3, hd3, PoS.back (s1.trans s3) q3⟩
          cases r : body e1 with
          | next e3 => rw [r] at q'; exact again e3 q'
          | cont e3 => rw [r] at q'; exact again e3 q'
          | brk e3 => rw [r] at q'; exact PoN.back s1 q'
          | ret r e3 => rw [r] at q'; exact PoR.back s1 q'
          | exc x e3 => rw [r] at q'; exact PoS.back (r := .exc x e3) s1 q'
          | bad => rw [r] at q'; exact q'
  · rw [dif_neg ex] at q; exact False.elim q
/-! ### comprehensions -/
def wipeE (e : En) : List Nat → En
  | [] => e
  | v :: vs => (wipeE e vs).set v .none
/-- nothing of mine stands in these slots -/
def freeOf (e : En) (vs : List Nat) : Bool := vs.all fun v => match e[v]? with
  | some .none => true
  | some (.imm _) => true
  | _ => false
def rest (e0 : En) : List Nat → En → En
  | [], e => e
  | v :: vs, e => match e0[v]? with
    | some s => (rest e0 vs e).set v s
    | none => rest e0 vs e
def lcL (vs : List Nat) (tg : D → En → Option En) (test : En → Res Bool) (elt : En → Res D) : List D → List D → En → Res (List D)
  | [], acc, e => .ok acc e
  | d :: r, acc, e => match tg d e with
    | none => .bad
    | some e1 => match test e1 with
      | .ok true e2 => (match elt e2 with
        | .ok y e3 => if acc.length < sizeLine ∧ freeOf e3 vs = true then lcL vs tg test elt r (acc ++ [y]) (wipeE e3 vs) else .bad
        | _ => .bad)
      | .ok false e2 => if freeOf e2 vs = true then lcL vs tg test elt r acc (wipeE e2 vs) else .bad
      | _ => .bad
def fLc (src : En → Res (List D)) (vs : List Nat) (tg : D → En → Option En) (test : En → Res Bool) (elt : En → Res D) (e : En) : Res MO := match src e with
  | .ok ds e1 => if freeOf e1 vs = true then (match lcL vs tg test elt ds [] (wipeE e1 vs) with
    | .ok ys e2 => .ok (.lst ys) (rest e1 vs e2)
    | _ => .bad) else .bad
  | .exc x e1 => .exc x e1
  | .bad => .bad
def tYesm (e : En) : Res Bool := .ok true e
theorem evt_yes : EvT K mg W tYes tYesm := fun Z G H σ env Q hd h => h G H Step.refl hd
theorem wipeE_len (e : En) : ∀ vs : List Nat, (wipeE e vs).length = e.length
  | [] => rfl
  | v :: vs => by unfold wipeE; rw [List.length_set, wipeE_len e vs]
theorem wipeE_get {e : En} {i : Nat} {s : Sl} : ∀ {vs : List Nat}, (wipeE e vs)[i]? = some s → (i ∈ vs ∧ s = .none) ∨ (i ∉ vs ∧ e[i]? = some s)
  | [], h => .inr ⟨by simp, h⟩
  | v :: vs, h => by
    unfold wipeE at h
    rcases getElem?_set_cases h with ⟨a, b, _⟩ | ⟨a, b⟩
    · exact .inl ⟨by rw [a]; exact List.mem_cons_self, b.symm⟩
    · rcases wipeE_get b with ⟨c, d⟩ | ⟨c, d⟩
      · exact .inl ⟨List.mem_cons_of_mem _ c, d⟩
      · exact .inr ⟨fun z => by rcases List.mem_cons.mp z with z | z; exact a z.symm; exact c z, d⟩
theorem wipe_out' {σ : L2.St} {i : Nat} {vs : List Nat} (h : i ∉ vs) : (wipe σ vs)[i]? = σ[i]? := wipe_out h
/-- the block's own names forgotten -/
theorem Hold.wipe (h : Hold K Z G H σ env) (vs : List Nat) : Hold K Z G H (L2.wipe σ vs) (wipeE env vs) := by
  have back : ∀ j a, OwnAt (L2.wipe σ vs) (wipeE env vs) j a → j ∉ vs ∧ OwnAt σ env j a := fun j a ⟨q1, s, m, q2, q3⟩ => by
    rcases wipeE_get q2 with ⟨_, z⟩ | ⟨n, z⟩
    · subst z; cases q3
    · rw [wipe_out' n] at q1; exact ⟨n, q1, s, m, z, q3⟩
  refine ⟨h.ex, h.nt, by rw [L2.wipe_length, wipeE_len]; exact h.len, fun i s e => ?_, fun i j p a b => h.dis i j p (back i p a).2 (back j p b).2, fun i d e => ?_, h.zt, h.tb⟩
  · rcases wipeE_get e with ⟨_, z⟩ | ⟨n, z⟩
    · subst z; trivial
    · rw [wipe_out' n]; exact h.sl i s z
  · rcases wipeE_get e with ⟨_, z⟩ | ⟨n, z⟩
    · cases z
    · obtain ⟨v, R, q1, q2, q3, q4⟩ := h.fr i d z
      exact ⟨v, R, by rw [wipe_out' n]; exact q1, q2, fun a u w => ⟨(q3 a u w).1, fun ⟨k, z⟩ => (q3 a u w).2.1 ⟨k, (back k a z).2⟩, (q3 a u w).2.2⟩, q4⟩
theorem own_wipe {vs : List Nat} {a : Addr} (h : Own (L2.wipe σ vs) (wipeE env vs) a) : Own σ env a := by
  obtain ⟨j, q1, s, m, q2, q3⟩ := h
  rcases wipeE_get q2 with ⟨_, z⟩ | ⟨n, z⟩
  · subst z; cases q3
  · rw [wipe_out' n] at q1; exact ⟨j, q1, s, m, z, q3⟩
theorem freeOf_get {vs : List Nat} (f : freeOf env vs = true) {i : Nat} (hi : i ∈ vs) : env[i]? = some .none ∨ ∃ d, env[i]? = some (.imm d) := by
  unfold freeOf at f
  have := List.all_eq_true.mp f i hi
  cases e : env[i]? with
  | none => rw [e] at this; cases this
  | some s =>
    rw [e] at this
    cases s with
    | none => exact .inl rfl
    | imm d => exact .inr ⟨d, rfl⟩
    | own m => cases this
    | par m => cases this
    | fre d => cases this
theorem own_wipe' {vs : List Nat} {a : Addr} (f : freeOf env vs = true) (h : Own σ env a) : Own (L2.wipe σ vs) (wipeE env vs) a := by
  obtain ⟨j, q1, s, m, q2, q3⟩ := h
  have nj : j ∉ vs := fun z => by
    rcases freeOf_get f z with w | ⟨d, w⟩ <;> (rw [q2] at w; cases w; cases q3)
  refine ⟨j, by rw [wipe_out' nj]; exact q1, s, m, ?_, q3⟩
  have : ∀ vs : List Nat, j ∉ vs → (wipeE env vs)[j]? = env[j]? := by
    intro vs
    induction vs with
    | nil => intro _; rfl
    | cons v vs ih =>
      intro hn
      unfold wipeE
      rw [List.getElem?_set_ne (fun z => hn (by rw [z]; exact List.mem_cons_self))]
      exact ih fun z => hn (List.mem_cons_of_mem _ z)
  rw [this vs nj]; exact q2
theorem Step.wipe {vs : List Nat} : Step Z G H σ env G H (L2.wipe σ vs) (wipeE env vs) :=
  ⟨Same.refl _, fun _ _ h _ _ _ => h, fun _ _ _ h _ _ => h, fun _ h => h, fun i m' e => by
    rcases wipeE_get e with ⟨_, z⟩ | ⟨n, z⟩
    · cases z
    · exact ⟨⟨m', z⟩, wipe_out' n⟩, fun a ⟨j, m, q1, q2⟩ => by
    rcases wipeE_get q2 with ⟨_, z⟩ | ⟨n, z⟩
    · cases z
    · rw [wipe_out' n] at q1; exact .inl ⟨j, m, q1, z⟩⟩
theorem rest_len (e0 : En) : ∀ (vs : List Nat) (e : En), (rest e0 vs e).length = e.length
  | [], e => rfl
  | v :: vs, e => by
    unfold rest
    cases e0[v]? with
    | none => exact rest_len e0 vs e
    | some s => rw [List.length_set]; exact rest_len e0 vs e
theorem rest_get {e0 : En} {i : Nat} {s : Sl} : ∀ {vs : List Nat} {e : En}, (rest e0 vs e)[i]? = some s → (i ∈ vs ∧ e0[i]? = some s) ∨ e[i]? = some s
  | [], e, h => .inr h
  | v :: vs, e, h => by
    unfold rest at h
    cases q : e0[v]? with
    | none =>
      rw [q] at h
      rcases rest_get h with ⟨a, b⟩ | b
      · exact .inl ⟨List.mem_cons_of_mem _ a, b⟩
      · exact .inr b
    | some s' =>
      rw [q] at h
      rcases getElem?_set_cases h with ⟨a, b, _⟩ | ⟨a, b⟩
      · subst a; subst b; exact .inl ⟨List.mem_cons_self, q⟩
      · rcases rest_get b with ⟨c, d⟩ | d
        · exact .inl ⟨List.mem_cons_of_mem _ c, d⟩
        · exact .inr d
theorem wipe_in {i : Nat} : ∀ {vs : List Nat}, i ∈ vs → i < σ.length → (L2.wipe σ vs)[i]? = some none
  | [], h, _ => by simp at h
  | v :: vs, h, hl => by
    unfold L2.wipe
    by_cases e : v = i
    · subst e; rw [List.getElem?_set_self (by rw [L2.wipe_length]; exact hl)]
    · rw [List.getElem?_set_ne e]
      rcases List.mem_cons.mp h with z | z
      · exact absurd z.symm e
      · exact wipe_in z hl
theorem wipe_ext {σ' : L2.St} {vs : List Nat} (hl : σ'.length = σ.length) (h : ∀ j, j ∉ vs → σ'[j]? = σ[j]?) : L2.wipe σ' vs = L2.wipe σ vs := by
  apply List.ext_getElem?
  intro j
  by_cases hj : j ∈ vs
  · by_cases l : j < σ.length
    · rw [wipe_in hj l, wipe_in hj (by omega)]
    · rw [List.getElem?_eq_none (by rw [L2.wipe_length]; omega), List.getElem?_eq_none (by rw [L2.wipe_length]; omega)]
  · rw [wipe_out hj, wipe_out hj]; exact h j hj
/-- a target that stores in the slots vs alone -/
def EvGV (K : PySem.W.Frag) (vs : List Nat) (g : TG) (m : D → En → Option En) : Prop := ∀ Z G H σ env v d e Q, Hold K Z G H σ env → Rep K G v d → m d env = some e →
  (∀ σ', Step Z G H σ env G H σ' e → Hold K Z G H σ' e → σ'.length = σ.length → (∀ j, j ∉ vs → σ'[j]? = σ[j]?) → Q σ' H) → g v σ H Q
def EvGsV (K : PySem.W.Frag) (vs : List Nat) (g : TGs) (m : List D → En → Option En) : Prop := ∀ Z G H σ env us ds e Q, Hold K Z G H σ env → RepL K G us ds → m ds env = some e →
  (∀ σ', Step Z G H σ env G H σ' e → Hold K Z G H σ' e → σ'.length = σ.length → (∀ j, j ∉ vs → σ'[j]? = σ[j]?) → Q σ' H) → g us σ H Q
theorem evgv_name {vs : List Nat} {i : Nat} (hi : i ∈ vs) : EvGV K vs (gName i) (gN i) := by
  intro Z G H σ env v d e Q hd r hm h
  unfold gN at hm
  by_cases c : i < env.length
  · rw [if_pos c] at hm; cases hm
    refine h _ (Step.put hd.len (fun m z => by cases z) (fun m z => by cases z) Step.refl) (hd.put c ⟨v, rfl, r⟩ (fun m z => by cases z) (fun m z => by cases z) (fun d z => by cases z)) (List.length_set ..) fun j hj => ?_
    exact List.getElem?_set_ne fun z => hj (by rw [← z]; exact hi)
  · rw [if_neg c] at hm; cases hm
theorem evgsv_nil {vs : List Nat} : EvGsV K vs gNil gsNil := by
  intro Z G H σ env us ds e Q hd r hm h
  cases r with
  | nil => cases hm; exact ⟨rfl, h σ Step.refl hd rfl fun _ _ => rfl⟩
  | cons _ _ => cases hm
theorem evgsv_cons {vs : List Nat} {t : TG} {u : TGs} {a : D → En → Option En} {b : List D → En → Option En} (ha : EvGV K vs t a) (hb : EvGsV K vs u b) : EvGsV K vs (gCons t u) (gsCons a b) := by
  intro Z G H σ env us ds e Q hd r hm h
  cases r with
  | nil => cases hm
  | cons r1 rr =>
    rename_i v d vr dr
    have hm : ((a d env).bind fun e1 => b dr e1) = some e := hm
    cases q : a d env with
    | none => rw [q] at hm; cases hm
    | some e1 =>
      rw [q] at hm
      refine ⟨v, vr, rfl, ha Z G H σ env v d e1 _ hd r1 q fun σ1 s1 hd1 l1 k1 => ?_⟩
      exact hb Z G H σ1 e1 vr dr e Q hd1 rr hm fun σ2 s2 hd2 l2 k2 => h σ2 (s1.trans s2) hd2 (l2.trans l1) fun j hj => (k2 j hj).trans (k1 j hj)
theorem evgv_tup {vs : List Nat} {n : Nat} {t : TGs} {b : List D → En → Option En} (hb : EvGsV K vs t b) : EvGV K vs (gTup K n t) (gT n b) := by
  intro Z G H σ env v d e Q hd r hm h
  unfold gT at hm
  cases d with
  | tup ds =>
    cases r with
    | tup a rs =>
      dsimp only at hm
      by_cases c : ds.length = n
      · rw [if_pos c] at hm
        exact ⟨_, _, rfl, SqT.of (hd.ex _ _ a), by rw [rs.length]; exact c, hb Z G H σ env _ ds e Q hd rs hm h⟩
      · rw [if_neg c] at hm; cases hm
  | _ => cases hm
/-- an object beside: tracked, nobody's, not data -/
theorem Hold.side {p : Addr} {o : HO} (h : Hold K (fun a => Z a ∨ a = p) G H σ env) (gp : G p = none) (no : ¬ Own σ env p) {u0 : HO} (hu0 : H p = some u0) (pl0 : plainO u0) (nto : notTbl o) : Hold K (fun a => Z a ∨ a = p) G (upd H p o) σ env := by
  refine ⟨fun a u e => by rw [upd_ne (ne_of_none e gp)]; exact h.ex a u e, h.nt, h.len, fun i s e => ?_, h.dis, fun i d e => ?_, fun a z => upd_there (h.zt a z), h.tb.mut hu0 pl0 nto⟩
  · have w := h.sl i s e
    have nj : ∀ m, s.mo = some m → σ[i]?.join ≠ some (.ref p) := fun m hm q => no ⟨i, .of (slot_join q) e hm⟩
    cases s with
    | none => trivial
    | fre d => trivial
    | imm d => exact w
    | own m2 => obtain ⟨p2, u, w1, w2, w3, w4⟩ := w; exact ⟨p2, u, w1, by rw [upd_ne (fun z => nj m2 rfl (by rw [w1, z]))]; exact w2, w3, w4⟩
    | par m2 => obtain ⟨p2, u, w1, w2, w3, w4⟩ := w; exact ⟨p2, u, w1, by rw [upd_ne (fun z => nj m2 rfl (by rw [w1, z]))]; exact w2, w3, w4⟩
  · obtain ⟨v, R, q1, q2, q3, q4⟩ := h.fr i d e
    exact ⟨v, R, q1, fun a u w => by rw [upd_ne fun z => (q3 a u w).2.2.1 (.inr z)]; exact q2 a u w, q3, q4⟩
theorem Step.side {G' H' : Hp} {σ' : L2.St} {e' : En} {p : Addr} {o : HO} (hp : H p = none) (s : Step Z G H σ env G' H' σ' e') : Step Z G H σ env G' (upd H' p o) σ' e' :=
  ⟨s.g, fun a u h nt no z => by rw [upd_ne (ne_of_none h hp)]; exact s.h a u h nt no z, s.n, fun a e => by
    by_cases z : a = p
    · rw [z]; exact hp
    · rw [upd_ne z] at e; exact s.d a e, s.par, s.ow⟩
/-- from the block's slots back to the frame's -/
theorem Hold.back {G1 H1 G' H' : Hp} {e1 e' : En} {vs : List Nat} (h0 : Hold K Z G1 H1 σ e1) (f1 : freeOf e1 vs = true) {Z' : Addr → Prop} (s' : Step Z' G1 H1 (L2.wipe σ vs) (wipeE e1 vs) G' H' (L2.wipe σ vs) e') (hd' : Hold K Z' G' H' (L2.wipe σ vs) e') :
    Hold K Z' G' H' σ (rest e1 vs e') ∧ Step Z' G1 H1 σ e1 G' H' σ (rest e1 vs e') ∧ ∀ a, Own σ (rest e1 vs e') a → Own (L2.wipe σ vs) e' a := by
  have sAll : Step Z' G1 H1 σ e1 G' H' (L2.wipe σ vs) e' := Step.wipe.trans s'
  have immAt : ∀ (i : Nat), i ∈ vs → ∀ s : Sl, e1[i]? = some s → SlOk K G' H' (σ[i]?.join) s ∧ s.mo = none ∧ ∀ d, s ≠ Sl.fre d := fun i hi s hs => by
    rcases freeOf_get f1 hi with w | ⟨d, w⟩
    · rw [hs] at w; cases w; exact ⟨trivial, rfl, fun d z => by cases z⟩
    · rw [hs] at w; cases w
      obtain ⟨v, a, b⟩ := h0.sl i _ hs
      exact ⟨⟨v, a, b.mono (Kp.of s'.g)⟩, rfl, fun d z => by cases z⟩
  have some_eq : ∀ (i : Nat) (x : V), (L2.wipe σ vs)[i]? = some (some x) → σ[i]? = some (some x) := fun i x hx => (L2.wipe_some hx).1
  have backO : ∀ j a, OwnAt σ (rest e1 vs e') j a → OwnAt (L2.wipe σ vs) e' j a := fun j a ⟨q1, s, m, q2, q3⟩ => by
    rcases rest_get q2 with ⟨w, z⟩ | z
    · have := (immAt j w s z).2.1; rw [this] at q3; cases q3
    · obtain ⟨p, o, a', _⟩ := hd'.own_get z q3
      have := some_eq j _ a'
      rw [q1] at this; cases this
      exact ⟨a', s, m, z, q3⟩
  refine ⟨⟨hd'.ex, hd'.nt, ?_, fun i s hs => ?_, fun i j p a b => hd'.dis i j p (backO i p a) (backO j p b), fun i d hs => ?_, hd'.zt, hd'.tb⟩, ⟨sAll.g, sAll.h, sAll.n, sAll.d, fun i m' hs => ?_, fun a ⟨j, m, q1, q2⟩ => ?_⟩, fun a ⟨k, z⟩ => ⟨k, backO k a z⟩⟩
  · rw [rest_len, ← hd'.len, L2.wipe_length]
  · rcases rest_get hs with ⟨w, z⟩ | z
    · exact (immAt i w s z).1
    · have sl := hd'.sl i s z
      have up : ∀ x, ((L2.wipe σ vs)[i]?).join = some x → (σ[i]?).join = some x := fun x hx => by
        rw [some_eq i x (slot_join hx)]; rfl
      cases s with
      | none => trivial
      | fre d => trivial
      | imm d => obtain ⟨v, a, b⟩ := sl; exact ⟨v, up v a, b⟩
      | own m => obtain ⟨p, o, a, b⟩ := sl; exact ⟨p, o, up _ a, b⟩
      | par m => obtain ⟨p, o, a, b⟩ := sl; exact ⟨p, o, up _ a, b⟩
  · rcases rest_get hs with ⟨w, z⟩ | z
    · exact absurd rfl ((immAt i w _ z).2.2 d)
    · obtain ⟨v, R, a, b, c, dd⟩ := hd'.fr i d z
      exact ⟨v, R, some_eq i v a, b, fun x u w => ⟨(c x u w).1, fun ⟨k, z⟩ => (c x u w).2.1 ⟨k, backO k x z⟩, (c x u w).2.2⟩, dd⟩
  · rcases rest_get hs with ⟨w, z⟩ | z
    · exact ⟨⟨m', z⟩, rfl⟩
    · exact ⟨(sAll.par i m' z).1, rfl⟩
  · rcases rest_get q2 with ⟨w, z⟩ | z
    · exact .inl ⟨j, m, q1, z⟩
    · obtain ⟨p, o, a', _⟩ := hd'.own_get z rfl
      have := some_eq j _ a'
      rw [q1] at this; cases this
      exact sAll.ow a ⟨j, m, a', z⟩
theorem evf_lc {wi : TI} {g : TG} {tt : TT} {te : TE} {vs : List Nat} {src : En → Res (List D)} {tg : D → En → Option En} {test : En → Res Bool} {elt : En → Res D}
    (hi : EvI K mg W wi src) (hg : EvGV K vs g tg) (ht : EvT K mg (fun _ _ _ _ => False) tt test) (he : EvE K mg (fun _ _ _ _ => False) te elt) : EvF K mg W (tLc wi g tt te vs) (fLc src vs tg test elt) := by
  intro Z G H σ env Q hd q
  refine hi Z G H σ env _ hd ?_
  unfold fLc at q
  cases e : src env with
  | bad => rw [e] at q; exact q
  | exc x e1 => rw [e] at q; exact q
  | ok ds e1 =>
    rw [e] at q
    dsimp only at q
    intro G1 H1 J s hd1 sr D hD
    by_cases f1 : freeOf e1 vs = true
    case neg => rw [if_neg f1] at q; exact False.elim q
    rw [if_pos f1] at q
    cases ql : lcL vs tg test elt ds [] (wipeE e1 vs) with
    | exc x e2 => rw [ql] at q; exact False.elim q
    | bad => rw [ql] at q; exact False.elim q
    | ok ys e2 =>
      rw [ql] at q
      dsimp only at q
      have gD : G1 D = none := hd1.gp hD
      have nD : ¬ Own σ e1 D := not_own_new hd1 hD
      obtain ⟨NN, hNN⟩ : ∃ NN : Nat → Hp → Prop, NN = fun i H' => i ≤ ds.length ∧ ∃ G' e' acc xs, Step (fun a => Z a ∨ a = D) G1 H1 (L2.wipe σ vs) (wipeE e1 vs) G' H' (L2.wipe σ vs) e' ∧ Hold K (fun a => Z a ∨ a = D) G' H' (L2.wipe σ vs) e' ∧
          H' D = some (.lst xs) ∧ G' D = none ∧ ¬ Own (L2.wipe σ vs) e' D ∧ RepL K G' xs acc ∧ lcL vs tg test elt (ds.drop i) acc e' = .ok ys e2 := ⟨_, rfl⟩
      refine ⟨fun i m H' => m = ds.length - i ∧ NN i H', ⟨ds.length, rfl, ?_⟩, ?_⟩
      · rw [hNN]
        exact ⟨Nat.zero_le _, G1, _, [], [], Step.grow (Grow.new hD), (hd1.growZ (Grow.new hD) hD ⟨_, upd_same⟩).wipe vs, upd_same, gD, fun z => nD (own_wipe z), .nil, by rw [List.drop_zero]; exact ql⟩
      rintro i m H' ⟨rfl, n0⟩
      rw [hNN] at n0
      obtain ⟨hi', G', e', acc, xs, s', hd', hD', gD', nD', rs, ql'⟩ := n0
      have sgx : Same G1 H' := s'.g.trans hd'.ex
      cases h : ds[i]? with
      | none =>
        have ei : i = ds.length := Nat.le_antisymm hi' (List.getElem?_eq_none_iff.mp h)
        subst ei
        rw [List.drop_eq_nil_of_le (Nat.le_refl _)] at ql'
        unfold lcL at ql'
        cases ql'
        obtain ⟨b1, b2, b3⟩ := hd1.back f1 s' hd'
        exact .inl ⟨sr.done H' sgx, q G' H' D _ (s.trans (b2.weak fun a z => .inl z)) b1 hD' (s.d D hD) gD' (fun z => nD' (b3 D z)) (.lst rs)⟩
      | some d =>
        obtain ⟨hlt, hget⟩ := List.getElem?_eq_some_iff.mp h
        have hdrop : ds.drop i = d :: ds.drop (i + 1) := by rw [List.drop_eq_getElem_cons hlt, hget]
        rw [hdrop] at ql'
        obtain ⟨go, yl⟩ := sr.item i d H' h sgx
        refine .inr ⟨go, NN (i + 1), fun H'' w => ⟨ds.length - (i + 1), by omega, rfl, w⟩, fun x H2 y => ?_⟩
        unfold lcL at ql'
        cases t : tg d e' with
        | none => rw [t] at ql'; cases ql'
        | some e3 =>
          rw [t] at ql'
          dsimp only at ql'
          have core : ∀ G2 H2, Step (fun a => Z a ∨ a = D) G' H' (L2.wipe σ vs) e' G2 H2 (L2.wipe σ vs) e' → Hold K (fun a => Z a ∨ a = D) G2 H2 (L2.wipe σ vs) e' → Rep K G2 x d → g x (L2.wipe σ vs) H2 fun σ2 H3 => L2.wipe σ2 vs = L2.wipe σ vs ∧ tt σ2 H3 fun b H4 =>
              if b = true then te σ2 H4 fun y H5 => ∃ acc, H5 D = some (.lst acc) ∧ acc.length < sizeLine ∧ NN (i + 1) (upd H5 D (.lst (acc ++ [y]))) else NN (i + 1) H4 := fun G2 H2 sa ha ra => by
            refine hg _ G2 H2 _ e' x d e3 _ ha ra t fun σ2 s2 hd2 l2 k2 => ?_
            have wq : L2.wipe σ2 vs = L2.wipe σ vs := by
              refine wipe_ext (by rw [l2, L2.wipe_length]) fun j hj => ?_
              rw [k2 j hj, wipe_out hj]
            refine ⟨wq, ?_⟩
            have sb := sa.trans s2
            refine ht _ G2 H2 σ2 e3 _ hd2 ?_
            -- what the turn's end needs
            have fin : ∀ G4 H4 e4, Step (fun a => Z a ∨ a = D) G2 H2 σ2 e3 G4 H4 σ2 e4 → Hold K (fun a => Z a ∨ a = D) G4 H4 σ2 e4 → Step (fun a => Z a ∨ a = D) G1 H1 (L2.wipe σ vs) (wipeE e1 vs) G4 H4 (L2.wipe σ vs) (wipeE e4 vs) ∧ Hold K (fun a => Z a ∨ a = D) G4 H4 (L2.wipe σ vs) (wipeE e4 vs) ∧
                H4 D = some (.lst xs) ∧ G4 D = none ∧ ¬ Own (L2.wipe σ vs) (wipeE e4 vs) D ∧ RepL K G4 xs acc := fun G4 H4 e4 s4 hd4 => by
              have sc := sb.trans s4
              have sw : Step (fun a => Z a ∨ a = D) G4 H4 σ2 e4 G4 H4 (L2.wipe σ vs) (wipeE e4 vs) := by rw [← wq]; exact Step.wipe
              have hw : Hold K (fun a => Z a ∨ a = D) G4 H4 (L2.wipe σ vs) (wipeE e4 vs) := by rw [← wq]; exact hd4.wipe vs
              refine ⟨(s'.trans sc).trans sw, hw, sc.h _ _ hD' nt_lst nD' (.inr rfl), sc.n _ _ hD' gD' nD' (.inr rfl), fun z => ?_, rs.mono (Kp.of sc.g)⟩
              rcases (sc.trans sw).own D z with z | z
              · exact nD' z
              · rw [hD'] at z; cases z
            cases qt : test e3 with
            | bad => rw [qt] at ql'; cases ql'
            | exc x e4 => rw [qt] at ql'; cases ql'
            | ok b e4 =>
              rw [qt] at ql'
              intro G4 H4 s4 hd4
              cases b with
              | false =>
                dsimp only at ql'
                by_cases f : freeOf e4 vs = true
                · rw [if_pos f] at ql'
                  obtain ⟨w1, w2, w3, w4, w5, w6⟩ := fin G4 H4 e4 s4 hd4
                  show NN (i + 1) H4
                  rw [hNN]
                  exact ⟨hlt, G4, _, acc, xs, w1, w2, w3, w4, w5, w6, ql'⟩
                · rw [if_neg f] at ql'; cases ql'
              | true =>
                dsimp only at ql'
                refine he _ G4 H4 σ2 e4 _ hd4 ?_
                cases qe : elt e4 with
                | bad => rw [qe] at ql'; cases ql'
                | exc x e5 => rw [qe] at ql'; cases ql'
                | ok y e5 =>
                  rw [qe] at ql'
                  dsimp only at ql'
                  intro G5 H5 v s5 hd5 rv
                  by_cases f : acc.length < sizeLine ∧ freeOf e5 vs = true
                  · rw [if_pos f] at ql'
                    obtain ⟨w1, w2, w3, w4, w5, w6⟩ := fin G5 H5 e5 (s4.trans s5) hd5
                    refine ⟨xs, w3, by rw [rs.length]; exact f.1, ?_⟩
                    rw [hNN]
                    exact ⟨hlt, G5, _, acc ++ [y], xs ++ [v], w1.side hD, w2.side w4 w5 w3 pl_lst nt_lst, upd_same, w4, w5, w6.append (.cons rv .nil), ql'⟩
                  · rw [if_neg f] at ql'; cases ql'
          rcases yl x H2 y with ⟨rfl, rv⟩ | ⟨tt', xs', es, ht', rfl, rfl, rfl, rs'⟩
          · exact core G' _ Step.refl hd' (rv.mono (Kp.of s'.g))
          · have gt := hd'.gp ht'
            refine core _ _ (Step.lay ht' gt) (hd'.lay ht' nt_tup) (.tup upd_same ((rs'.mono (Kp.of s'.g)).mono (Kp.of fun a u e => by rw [upd_ne (ne_of_none e gt)]; exact e)))
end
end Cv
end

section
set_option Elab.async false
set_option linter.all false
set_option maxRecDepth 100000
set_option maxHeartbeats 4000000
set_option autoImplicit false
/-! CvH: defs and their calls. -/
namespace Cv
open PySem L2 PyProof.Rows
variable [TbT]
inductive RD where
  | ok (r : Ret) (outs : En) | exc (x : Exc) (outs : En) | bad
/-- all that is tracked -/
def trk (H : Hp) : Addr → Prop := fun a => ∃ o, H a = some o
def PoD (K : PySem.W.Frag) (mg : Str → Option Value) (G H : Hp) (σ : L2.St) (as : En) (r : RD) (Q : VK) (E : XK) : Prop := match r with
  | .ok (.imm d) outs => ∀ G' H' v, Step (trk H) G H σ as G' H' σ outs → Hold K (trk H) G' H' σ outs → Rep K G' v d → Q v H'
  | .ok (.own m) outs => ∀ G' H' p o, Step (trk H) G H σ as G' H' σ outs → Hold K (trk H) G' H' σ outs → H' p = some o → H p = none → G' p = none → ¬ Own σ outs p → RepM K G' o m → Q (.ref p) H'
  | .exc x outs => ∀ G' H' C a, Step (trk H) G H σ as G' H' σ outs → Hold K (trk H) G' H' σ outs → ExcAt K mg H' x C a → E (.ref C) (some a) H'
  | .bad => False
/-- what a def keeps: it computes mf -/
def SpM (K : PySem.W.Frag) (mg : Str → Option Value) (mf : En → RD) : Sp := fun vs H Q E => ∃ (G : Hp) (as : En), Hold K (trk H) G H (vs.map some) as ∧ (∀ s ∈ as, (∃ d, s = .imm d) ∨ ∃ m, s = .par m) ∧ PoD K mg G H (vs.map some) as (mf as) Q E
/-- my caller's objects as they stand at the end -/
def outsOf : En → En → Option En
  | [], _ => some []
  | .par _ :: as, .par m :: e => (outsOf as e).map (.par m :: ·)
  | .imm d :: as, _ :: e => (outsOf as e).map (.imm d :: ·)
  | _, _ => none
/-- a def of np parameters and n names in all, by its body -/
def mDef (np n : Nat) (body : En → Fl) (as : En) : RD := if as.length = np then (match body (as ++ List.replicate (n - as.length) .none) with
  | .next e => (match outsOf as e with
    | some o => .ok (.imm .non) o
    | none => .bad)
  | .ret r e => (match outsOf as e with
    | some o => .ok r o
    | none => .bad)
  | .exc x e => (match outsOf as e with
    | some o => .exc x o
    | none => .bad)
  | _ => .bad) else .bad
theorem outsOf_get : ∀ {as e os : En}, outsOf as e = some os → os.length = as.length ∧ as.length ≤ e.length ∧ ∀ (i : Nat) (s : Sl), as[i]? = some s → (∃ m m', s = .par m ∧ e[i]? = some (.par m') ∧ os[i]? = some (.par m')) ∨ ∃ d, s = .imm d ∧ os[i]? = some (.imm d)
  | [], e, os, h => by cases h; exact ⟨rfl, Nat.zero_le _, fun i s h => by simp at h⟩
  | .par m :: as, .par m' :: e, os, h => by
    unfold outsOf at h
    cases q : outsOf as e with
    | none => rw [q] at h; cases h
    | some o =>
      rw [q] at h; cases h
      obtain ⟨h1, h2, h3⟩ := outsOf_get q
      refine ⟨by simp [h1], by simp; omega, fun i s hs => ?_⟩
      cases i with
      | zero => simp at hs; subst hs; exact .inl ⟨m, m', rfl, rfl, rfl⟩
      | succ i => simpa using h3 i s (by simpa using hs)
  | .imm d :: as, x :: e, os, h => by
    have h : (outsOf as e).map (.imm d :: ·) = some os := by
      cases x <;> exact h
    cases q : outsOf as e with
    | none => rw [q] at h; cases h
    | some o =>
      rw [q] at h; cases h
      obtain ⟨h1, h2, h3⟩ := outsOf_get q
      refine ⟨by simp [h1], by simp; omega, fun i s hs => ?_⟩
      cases i with
      | zero => simp at hs; subst hs; exact .inr ⟨d, rfl, rfl⟩
      | succ i => simpa using h3 i s (by simpa using hs)
  | .par m :: as, [], os, h => by cases h
  | .par m :: as, .none :: e, os, h => by cases h
  | .par m :: as, .imm _ :: e, os, h => by cases h
  | .par m :: as, .own _ :: e, os, h => by cases h
  | .par m :: as, .fre _ :: e, os, h => by cases h
  | .imm d :: as, [], os, h => by cases h
  | .none :: as, e, os, h => by cases e <;> cases h
  | .own m :: as, e, os, h => by cases e <;> cases h
  | .fre d :: as, e, os, h => by cases e <;> cases h
section
variable {K : PySem.W.Frag} {mg : Str → Option Value} {Z : Addr → Prop} {G H : Hp} {σ : L2.St} {env : En}
/-- a def is entered -/
theorem Hold.enter {vs : List V} {as : En} (h : Hold K Z G H (vs.map some) as) {N : List Str} {n : Nat} (hn : n = N.length) : Hold K Z G H (L2.start N vs) (as ++ List.replicate (n - as.length) .none) := by
  have hl : vs.length = as.length := by have := h.len; simpa using this
  have e1 : ∀ (i : Nat) (s : Sl), (as ++ List.replicate (n - as.length) Sl.none)[i]? = some s → (as[i]? = some s ∧ (L2.start N vs)[i]? = (vs.map some)[i]?) ∨ s = Sl.none := fun i s e => by
    by_cases c : i < as.length
    · rw [List.getElem?_append_left c] at e
      refine .inl ⟨e, ?_⟩
      unfold L2.start
      rw [List.getElem?_append_left (by simpa [hl] using c)]
    · rw [List.getElem?_append_right (by omega)] at e
      exact .inr (List.eq_of_mem_replicate (List.mem_of_getElem? e))
  have back : ∀ j a, OwnAt (L2.start N vs) (as ++ List.replicate (n - as.length) Sl.none) j a → OwnAt (vs.map some) as j a := fun j a ⟨q1, s, m, q2, q3⟩ => by
    rcases e1 j s q2 with ⟨z1, z2⟩ | z
    · rw [z2] at q1; exact ⟨q1, s, m, z1, q3⟩
    · subst z; cases q3
  refine ⟨h.ex, h.nt, ?_, fun i s e => ?_, fun i j p a b => h.dis i j p (back i p a) (back j p b), fun i d e => ?_, h.zt, h.tb⟩
  · unfold L2.start; simp [hl, hn]
  · rcases e1 i s e with ⟨z1, z2⟩ | z
    · rw [z2]; exact h.sl i s z1
    · subst z; trivial
  · rcases e1 i _ e with ⟨z1, z2⟩ | z
    · obtain ⟨v, R, q1, q2, q3, q4⟩ := h.fr i d z1
      exact ⟨v, R, by rw [z2]; exact q1, q2, fun a u w => ⟨(q3 a u w).1, fun ⟨k, z⟩ => (q3 a u w).2.1 ⟨k, back k a z⟩, (q3 a u w).2.2⟩, q4⟩
    · cases z
theorem own_enter {vs : List V} {as : En} (hl : vs.length = as.length) {N : List Str} {n : Nat} {a : Addr} (h : Own (vs.map some) as a) : Own (L2.start N vs) (as ++ List.replicate (n - as.length) .none) a := by
  obtain ⟨j, q1, s, m, q2, q3⟩ := h
  have c : j < as.length := (List.getElem?_eq_some_iff.mp q2).1
  refine ⟨j, ?_, s, m, by rw [List.getElem?_append_left c]; exact q2, q3⟩
  unfold L2.start
  rw [List.getElem?_append_left (by simpa [hl] using c)]
  exact q1
/-- a def is left -/
theorem Hold.leave {vs : List V} {as e os : En} {G' H' : Hp} {σ' : L2.St} {Z' Z1 : Addr → Prop} (h : Hold K Z G H (vs.map some) as) (imp : ∀ s ∈ as, (∃ d, s = .imm d) ∨ ∃ m, s = .par m) {N : List Str} {n : Nat} (hn : n = N.length)
    (s : Step Z1 G H (L2.start N vs) (as ++ List.replicate (n - as.length) .none) G' H' σ' e) (hd : Hold K Z' G' H' σ' e) (ho : outsOf as e = some os) :
    Hold K Z' G' H' (vs.map some) os ∧ Step Z1 G H (vs.map some) as G' H' (vs.map some) os ∧ ∀ a, Own (vs.map some) os a → Own σ' e a := by
  have hl : vs.length = as.length := by have := h.len; simpa using this
  obtain ⟨o1, o2, o3⟩ := outsOf_get ho
  have asAt : ∀ (i : Nat) (t : Sl), os[i]? = some t → ∃ s, as[i]? = some s := fun i t ht => by
    have : i < os.length := (List.getElem?_eq_some_iff.mp ht).1
    exact ⟨_, List.getElem?_eq_getElem (by omega)⟩
  have start_eq : ∀ (i : Nat), i < as.length → (L2.start N vs)[i]? = (vs.map some)[i]? := fun i hi => by
    unfold L2.start; rw [List.getElem?_append_left (by simpa [hl] using hi)]
  -- the slots at the end
  have out : ∀ (i : Nat) (t : Sl), os[i]? = some t → (∃ m m', as[i]? = some (Sl.par m) ∧ t = Sl.par m' ∧ e[i]? = some (Sl.par m') ∧ σ'[i]? = (vs.map some)[i]?) ∨ ∃ d, as[i]? = some (Sl.imm d) ∧ t = Sl.imm d := fun i t ht => by
    obtain ⟨sa, hs⟩ := asAt i t ht
    rcases o3 i sa hs with ⟨m, m', rfl, h2, h3⟩ | ⟨d, rfl, h3⟩
    · rw [ht] at h3; cases h3
      have hi : i < as.length := (List.getElem?_eq_some_iff.mp hs).1
      exact .inl ⟨m, m', hs, rfl, h2, ((s.par i m' h2).2).trans (start_eq i hi)⟩
    · rw [ht] at h3; cases h3
      exact .inr ⟨d, hs, rfl⟩
  have backO : ∀ j a, OwnAt (vs.map some) os j a → OwnAt σ' e j a ∧ OwnAt (vs.map some) as j a := fun j a ⟨q1, t, m, q2, q3⟩ => by
    rcases out j t q2 with ⟨m0, m', h1, h2, h3, h4⟩ | ⟨d, h1, h2⟩
    · exact ⟨⟨by rw [h4]; exact q1, _, m', h3, rfl⟩, ⟨q1, _, m0, h1, rfl⟩⟩
    · subst h2; cases q3
  have ownBack : ∀ a, Own (L2.start N vs) (as ++ List.replicate (n - as.length) Sl.none) a → Own (vs.map some) as a := fun a ⟨j, q1, t, m, q2, q3⟩ => by
    by_cases c : j < as.length
    · rw [List.getElem?_append_left c] at q2
      rw [start_eq j c] at q1
      exact ⟨j, q1, t, m, q2, q3⟩
    · rw [List.getElem?_append_right (by omega)] at q2
      have := List.eq_of_mem_replicate (List.mem_of_getElem? q2)
      subst this; cases q3
  refine ⟨⟨hd.ex, hd.nt, by rw [o1]; exact h.len, fun i t ht => ?_, fun i j p a b => h.dis i j p (backO i p a).2 (backO j p b).2, fun i d ht => ?_, hd.zt, hd.tb⟩, ⟨s.g, fun a o x nt no zx => s.h a o x nt (fun z => no (ownBack a z)) zx, fun a o x g no zx => s.n a o x g (fun z => no (ownBack a z)) zx, s.d, fun i m' ht => ?_, fun a ⟨j, m, q1, q2⟩ => ?_⟩, fun a ⟨k, z⟩ => ⟨k, (backO k a z).1⟩⟩
  · rcases out i t ht with ⟨m, m', h1, h2, h3, h4⟩ | ⟨d, h1, h2⟩
    · subst h2
      have := hd.sl i _ h3
      rw [h4] at this
      exact this
    · subst h2
      obtain ⟨v, a, b⟩ := h.sl i _ h1
      exact ⟨v, a, b.mono (Kp.of s.g)⟩
  · rcases out i _ ht with ⟨m, m', h1, h2, h3, h4⟩ | ⟨d, h1, h2⟩
    · cases h2
    · cases h2
  · rcases out i _ ht with ⟨m, m'', h1, h2, h3, h4⟩ | ⟨d, h1, h2⟩
    · exact ⟨⟨m, h1⟩, rfl⟩
    · cases h2
  · rcases out j _ q2 with ⟨m0, m'', h1, h2, h3, h4⟩ | ⟨d, h1, h2⟩
    · cases h2
    · cases h2
end
section
variable {P : Program} {w : World} {K : PySem.W.Frag} {mg : Str → Option Value} {base : Heap}
/-- THE RULE for a def: its body's derivation, and what the body computes -/
theorem spM_run {N : List Str} {mb : En → Fl} {np n : Nat} {t : TS} {E : XK} {Q : VK} {vs : List V} {as : En} {G H : Hp} (hd : Hold K (trk H) G H (vs.map some) as) (imp : ∀ s ∈ as, (∃ d, s = .imm d) ∨ ∃ m, s = .par m) (hn : n = N.length)
    (h2 : EvS K mg (fun cls d _ H => E cls d H) t mb) (po : PoD K mg G H (vs.map some) as (mDef np n mb as) Q E) : t { nx := fun _ H' => Q .non H', rt := Q } (L2.start N vs) H := by
  have hl : vs.length = as.length := by have := hd.len; simpa using this
  unfold mDef at po
  by_cases c : as.length = np
  case neg => rw [if_neg c] at po; exact False.elim po
  rw [if_pos c] at po
  have hd0 := hd.enter (N := N) hn
  refine h2 (trk H) G H _ _ _ hd0 ?_
  cases q : mb (as ++ List.replicate (n - as.length) .none) with
  | bad => rw [q] at po; exact po
  | brk e => rw [q] at po; exact False.elim po
  | cont e => rw [q] at po; exact False.elim po
  | next e =>
    rw [q] at po
    dsimp only at po
    cases o : outsOf as e with
    | none => rw [o] at po; exact False.elim po
    | some os =>
      rw [o] at po
      intro G' H' σ' s' hd'
      obtain ⟨a, b, _⟩ := hd.leave imp hn s' hd' o
      exact po G' H' .non b a .non
  | exc x e =>
    rw [q] at po
    dsimp only at po
    cases o : outsOf as e with
    | none => rw [o] at po; exact False.elim po
    | some os =>
      rw [o] at po
      intro G' H' σ' C a s' hd' ex
      obtain ⟨a', b, _⟩ := hd.leave imp hn s' hd' o
      exact po G' H' C a b a' ex
  | ret r e =>
    rw [q] at po
    dsimp only at po
    cases o : outsOf as e with
    | none => rw [o] at po; exact False.elim po
    | some os =>
      rw [o] at po
      cases r with
      | imm d =>
        intro G' H' σ' v s' hd' rv
        obtain ⟨a, b, _⟩ := hd.leave imp hn s' hd' o
        exact po G' H' v b a rv
      | own m =>
        intro G' H' σ' p ob s' hd' hp fr gp no r
        obtain ⟨a, b, c'⟩ := hd.leave imp hn s' hd' o
        refine po G' H' p ob b (a.weak fun a z => .inl z) hp ?_ gp (fun z => no (c' p z)) r
        rcases fr with ⟨j, m', q1, q2⟩ | fr
        · exfalso
          by_cases cj : j < as.length
          · rw [List.getElem?_append_left cj] at q2
            rcases imp _ (List.mem_of_getElem? q2) with ⟨d, z⟩ | ⟨d, z⟩ <;> cases z
          · rw [List.getElem?_append_right (by omega)] at q2
            have := List.eq_of_mem_replicate (List.mem_of_getElem? q2)
            cases this
        · exact fr
theorem fn_okM {x qual : Str} {st : Stmt} {f : Addr} {fd : FuncData} {N ps : List Str} {k : Nat} {mb : En → Fl} {np n : Nat} (F : Fun K x qual st f fd) (S : FnScope N ps (defScope st)) (hnp : np = ps.length) (hn : n = N.length)
    (hbody : ∀ (cdv : Value) (A : Around) (outer : List Env) (s : Shared) (H : Hp) (E : XK), Room k (A.deeper (envOfC qual (defScope st) s.heap.objs.size f cdv)) →
      ∃ t, PSs (cxOf (L2.CX P w) P w K mg base N qual (defScope st) f cdv A outer s H E) (defBody st) t ∧ EvS K mg (fun cls d _ H => E cls d H) t mb) :
    FnOk P w K mg base (L2.CX P w) (k + 1) f fd ps (SpM K mg (mDef np n mb)) := by
  refine F.okX S (fun vs H Q E h => ?_) (fun cdv A outer s H vs Q E hr h => ?_)
  · obtain ⟨G, as, hd, imp, po⟩ := h
    have hl : vs.length = as.length := by have := hd.len; simpa using this
    unfold mDef at po
    by_cases c : as.length = np
    · rw [hl, c, hnp]
    · rw [if_neg c] at po; exact False.elim po
  · obtain ⟨G, as, hd, imp, po⟩ := h
    obtain ⟨t, h1, h2⟩ := hbody cdv A outer s H E hr
    refine ⟨t, h1, ?_⟩
    exact spM_run hd imp hn h2 po
end
/-! ### calls -/
def slotsOf : List Ar → List Nat
  | [] => []
  | .v _ :: r => slotsOf r
  | .s i :: r => i :: slotsOf r
def argSl (e : En) : List Ar → Option En
  | [] => some []
  | .v d :: r => (argSl e r).map (.imm d :: ·)
  | .s i :: r => match e[i]? with
    | some (.own m) => (argSl e r).map (.par m :: ·)
    | some (.par m) => (argSl e r).map (.par m :: ·)
    | _ => none
def putB (e : En) : List Ar → En → Option En
  | [], [] => some e
  | .v _ :: r, .imm _ :: o => putB e r o
  | .s i :: r, .par m :: o => match e[i]? with
    | some s => putB (e.set i (s.put m)) r o
    | none => none
  | _, _ => none
def eCall (mf : En → RD) (ma : En → Res (List Ar)) (e : En) : Res D := (ma e).bind fun ars e1 => if (slotsOf ars).Nodup then (match argSl e1 ars with
  | some as => (match mf as with
    | .ok (.imm d) o => (match putB e1 ars o with
      | some e2 => .ok d e2
      | none => .bad)
    | .ok (.own m) o => (match putB e1 ars o with
      | some e2 => .ok m.toD e2
      | none => .bad)
    | .exc x o => (match putB e1 ars o with
      | some e2 => .exc x e2
      | none => .bad)
    | .bad => .bad)
  | none => .bad) else .bad
def fCall (mf : En → RD) (ma : En → Res (List Ar)) (e : En) : Res MO := (ma e).bind fun ars e1 => if (slotsOf ars).Nodup then (match argSl e1 ars with
  | some as => (match mf as with
    | .ok (.own m) o => (match putB e1 ars o with
      | some e2 => .ok m e2
      | none => .bad)
    | .exc x o => (match putB e1 ars o with
      | some e2 => .exc x e2
      | none => .bad)
    | _ => .bad)
  | none => .bad) else .bad
def pCall (mf : En → RD) (ma : En → RP (List D)) (e : En) : RP D := (ma e).bind fun ds => match mf (ds.map .imm) with
  | .ok (.imm d) _ => .ok d
  | .ok (.own m) _ => .ok m.toD
  | .exc x _ => .exc x
  | .bad => .bad
section
variable {K : PySem.W.Frag} {mg : Str → Option Value} {W : WX} {Z : Addr → Prop} {G H : Hp} {σ : L2.St} {env : En}
theorem argSl_get (hd : Hold K Z G H σ env) : ∀ {vs : List V} {ars : List Ar} {as : En}, Paired (ArOk K G σ) vs ars → argSl env ars = some as → as.length = vs.length ∧ (∀ s ∈ as, (∃ d, s = .imm d) ∨ ∃ m, s = .par m) ∧
    ∀ (j : Nat) (s : Sl), as[j]? = some s → (∃ d v, s = .imm d ∧ ars[j]? = some (.v d) ∧ vs[j]? = some v ∧ Rep K G v d) ∨ ∃ m i p o, s = .par m ∧ ars[j]? = some (.s i) ∧ vs[j]? = some (.ref p) ∧ σ[i]? = some (some (.ref p)) ∧ (env[i]? = some (.own m) ∨ env[i]? = some (.par m)) ∧ H p = some o ∧ G p = none ∧ RepM K G o m
  | _, _, as, .nil, h => by cases h; exact ⟨rfl, fun s h => by simp at h, fun j s h => by simp at h⟩
  | v :: vs, .v d :: ars, as, .cons r t, h => by
    unfold argSl at h
    cases q : argSl env ars with
    | none => rw [q] at h; cases h
    | some a =>
      rw [q] at h; cases h
      obtain ⟨h1, h2, h3⟩ := argSl_get hd t q
      refine ⟨by simp [h1], fun s hs => ?_, fun j s hs => ?_⟩
      · rcases List.mem_cons.mp hs with rfl | hs
        · exact .inl ⟨d, rfl⟩
        · exact h2 s hs
      · cases j with
        | zero => simp at hs; subst hs; exact .inl ⟨d, v, rfl, rfl, rfl, r⟩
        | succ j => simpa using h3 j s (by simpa using hs)
  | v :: vs, .s i :: ars, as, .cons r t, h => by
    unfold argSl at h
    have key : ∀ (sl : Sl) (m : MO), env[i]? = some sl → sl.mo = some m → (sl = .own m ∨ sl = .par m) → (argSl env ars).map (.par m :: ·) = some as → as.length = (v :: vs).length ∧ (∀ s ∈ as, (∃ d, s = Sl.imm d) ∨ ∃ m, s = Sl.par m) ∧
        ∀ (j : Nat) (s : Sl), as[j]? = some s → (∃ d w, s = .imm d ∧ (Ar.s i :: ars)[j]? = some (.v d) ∧ (v :: vs)[j]? = some w ∧ Rep K G w d) ∨ ∃ m i' p o, s = .par m ∧ (Ar.s i :: ars)[j]? = some (.s i') ∧ (v :: vs)[j]? = some (.ref p) ∧ σ[i']? = some (some (.ref p)) ∧ (env[i']? = some (.own m) ∨ env[i']? = some (.par m)) ∧ H p = some o ∧ G p = none ∧ RepM K G o m := fun sl m e hm hk h => by
      cases q : argSl env ars with
      | none => rw [q] at h; cases h
      | some a =>
        rw [q] at h; cases h
        obtain ⟨h1, h2, h3⟩ := argSl_get hd t q
        refine ⟨by simp [h1], fun s hs => ?_, fun j s hs => ?_⟩
        · rcases List.mem_cons.mp hs with rfl | hs
          · exact .inr ⟨m, rfl⟩
          · exact h2 s hs
        · cases j with
          | zero =>
            simp at hs; subst hs
            obtain ⟨p, o, k1, k2, k3, k4⟩ := hd.own_get e hm
            have r' : σ[i]? = some (some v) := r
            rw [k1] at r'; cases r'
            exact .inr ⟨m, i, p, o, rfl, rfl, rfl, k1, by rcases hk with z | z <;> (subst z; first | exact .inl e | exact .inr e), k2, k3, k4⟩
          | succ j => simpa using h3 j s (by simpa using hs)
    cases e : env[i]? with
    | none => rw [e] at h; cases h
    | some sl =>
      rw [e] at h
      cases sl with
      | own m => exact key _ m e rfl (.inl rfl) h
      | par m => exact key _ m e rfl (.inr rfl) h
      | none => cases h
      | imm d => cases h
      | fre d => cases h
theorem slots_at : ∀ {ars : List Ar} {j k i : Nat}, (slotsOf ars).Nodup → ars[j]? = some (.s i) → ars[k]? = some (.s i) → j = k := by
  have mem : ∀ {ars : List Ar} {j i : Nat}, ars[j]? = some (Ar.s i) → i ∈ slotsOf ars := by
    intro ars
    induction ars with
    | nil => intro j i h; simp at h
    | cons a r ih =>
      intro j i h
      cases j with
      | zero => simp at h; subst h; exact List.mem_cons_self
      | succ j =>
        have := ih (j := j) (i := i) (by simpa using h)
        cases a with
        | v d => exact this
        | s x => exact List.mem_cons_of_mem _ this
  intro ars
  induction ars with
  | nil => intro j k i _ h; simp at h
  | cons a r ih =>
    intro j k i nd h1 h2
    cases a with
    | v d =>
      cases j with
      | zero => simp at h1
      | succ j =>
        cases k with
        | zero => simp at h2
        | succ k => exact congrArg (· + 1) (ih nd (by simpa using h1) (by simpa using h2))
    | s x =>
      obtain ⟨n1, n2⟩ := List.nodup_cons.mp nd
      cases j with
      | zero =>
        cases k with
        | zero => rfl
        | succ k => simp at h1; subst h1; exact absurd (mem (by simpa using h2)) n1
      | succ j =>
        cases k with
        | zero => simp at h2; subst h2; exact absurd (mem (by simpa using h1)) n1
        | succ k => exact congrArg (· + 1) (ih n2 (by simpa using h1) (by simpa using h2))
theorem putB_get : ∀ {ars : List Ar} {o e e2 : En}, (slotsOf ars).Nodup → putB e ars o = some e2 → e2.length = e.length ∧ (∀ (k : Nat), k ∉ slotsOf ars → e2[k]? = e[k]?) ∧
    ∀ (j i : Nat), ars[j]? = some (.s i) → ∃ m s, o[j]? = some (.par m) ∧ e[i]? = some s ∧ e2[i]? = some (s.put m)
  | [], [], e, e2, _, h => by cases h; exact ⟨rfl, fun _ _ => rfl, fun j i h => by simp at h⟩
  | .v _ :: r, .imm _ :: o, e, e2, nd, h => by
    obtain ⟨h1, h2, h3⟩ := putB_get (ars := r) nd (show putB e r o = some e2 from h)
    refine ⟨h1, h2, fun j i hj => ?_⟩
    cases j with
    | zero => simp at hj
    | succ j => simpa using h3 j i (by simpa using hj)
  | .s x :: r, .par m :: o, e, e2, nd, h => by
    obtain ⟨n1, n2⟩ := List.nodup_cons.mp nd
    unfold putB at h
    cases q : e[x]? with
    | none => rw [q] at h; cases h
    | some s =>
      rw [q] at h
      have hx : x < e.length := (List.getElem?_eq_some_iff.mp q).1
      obtain ⟨h1, h2, h3⟩ := putB_get n2 h
      refine ⟨by rw [h1, List.length_set], fun k hk => ?_, fun j i hj => ?_⟩
      · rw [h2 k fun z => hk (List.mem_cons_of_mem _ z), List.getElem?_set_ne fun z => hk (by rw [← z]; exact List.mem_cons_self)]
      · cases j with
        | zero =>
          simp at hj; subst hj
          refine ⟨m, s, rfl, q, ?_⟩
          rw [h2 x n1, List.getElem?_set_self hx]
        | succ j =>
          obtain ⟨m', s', k1, k2, k3⟩ := h3 j i (by simpa using hj)
          have ne : x ≠ i := fun z => by
            subst z
            have : ∀ {ars : List Ar} {j i : Nat}, ars[j]? = some (Ar.s i) → i ∈ slotsOf ars := by
              intro ars
              induction ars with
              | nil => intro j i h; simp at h
              | cons a r ih =>
                intro j i h
                cases j with
                | zero => simp at h; subst h; exact List.mem_cons_self
                | succ j =>
                  have := ih (j := j) (i := i) (by simpa using h)
                  cases a with
                  | v d => exact this
                  | s x => exact List.mem_cons_of_mem _ this
            exact n1 (this (by simpa using hj))
          rw [List.getElem?_set_ne ne] at k2
          exact ⟨m', s', by simpa using k1, k2, k3⟩
  | [], _ :: _, e, e2, _, h => by cases h
  | .v _ :: _, [], e, e2, _, h => by cases h
  | .s _ :: _, [], e, e2, _, h => by cases h
  | .v _ :: _, .none :: _, e, e2, _, h => by cases h
  | .v _ :: _, .own _ :: _, e, e2, _, h => by cases h
  | .v _ :: _, .par _ :: _, e, e2, _, h => by cases h
  | .v _ :: _, .fre _ :: _, e, e2, _, h => by cases h
  | .s _ :: _, .none :: _, e, e2, _, h => by cases h
  | .s _ :: _, .own _ :: _, e, e2, _, h => by cases h
  | .s _ :: _, .imm _ :: _, e, e2, _, h => by cases h
  | .s _ :: _, .fre _ :: _, e, e2, _, h => by cases h
/-- the arguments, as the callee holds them -/
theorem Hold.args (hd : Hold K Z G H σ env) {vs : List V} {ars : List Ar} {as : En} (nd : (slotsOf ars).Nodup) (r : Paired (ArOk K G σ) vs ars) (h : argSl env ars = some as) : Hold K (trk H) G H (vs.map some) as := by
  obtain ⟨h1, h2, h3⟩ := argSl_get hd r h
  have hv : ∀ (j : Nat) (v : V), vs[j]? = some v → (vs.map some)[j]? = some (some v) := fun j v e => by rw [List.getElem?_map, e]; rfl
  refine ⟨hd.ex, hd.nt, by simp [h1], fun j s e => ?_, fun j k p a b => ?_, fun j d e => ?_, fun a z => z, hd.tb⟩
  · rcases h3 j s e with ⟨d, v, rfl, _, e2, rv⟩ | ⟨m, i, p, o, rfl, _, e2, _, _, hp, gp, rm⟩
    · exact ⟨v, join_of (hv j v e2), rv⟩
    · exact ⟨p, o, join_of (hv j _ e2), hp, gp, rm⟩
  · obtain ⟨q1, s, m, q2, q3⟩ := a
    obtain ⟨w1, t, m', w2, w3⟩ := b
    rcases h3 j s q2 with ⟨d, v, rfl, _⟩ | ⟨m1, i, p1, o, rfl, a1, e2, a2, a3, _⟩
    · cases q3
    · rcases h3 k t w2 with ⟨d, v, rfl, _⟩ | ⟨m2, i2, p2, o2, rfl, b1, f2, b2, b3, _⟩
      · cases w3
      · rw [hv j _ e2] at q1; rw [hv k _ f2] at w1
        cases q1; cases w1
        have ij : i = i2 := by
          refine hd.dis i i2 p ?_ ?_
          · rcases a3 with a3 | a3 <;> exact ⟨a2, _, m1, a3, rfl⟩
          · rcases b3 with b3 | b3 <;> exact ⟨b2, _, m2, b3, rfl⟩
        subst ij
        exact slots_at nd a1 b1
  · rcases h3 j _ e with ⟨d', v, q, _⟩ | ⟨m1, i, p1, o, q, _⟩ <;> cases q
/-- behind the call -/
theorem Hold.called (hd : Hold K Z G H σ env) {vs : List V} {ars : List Ar} {as o e2 : En} {G' H' : Hp} (nd : (slotsOf ars).Nodup) (r : Paired (ArOk K G σ) vs ars) (h : argSl env ars = some as)
    (s : Step (trk H) G H (vs.map some) as G' H' (vs.map some) o) (hc : Hold K (trk H) G' H' (vs.map some) o) (hp : putB env ars o = some e2) :
    Hold K Z G' H' σ e2 ∧ Step (trk H) G H σ env G' H' σ e2 ∧ ∀ a, Own σ e2 a → Own σ env a := by
  obtain ⟨h1, h2, h3⟩ := argSl_get hd r h
  obtain ⟨p1, p2, p3⟩ := putB_get nd hp
  have hv : ∀ (j : Nat) (v : V), vs[j]? = some v → (vs.map some)[j]? = some (some v) := fun j v e => by rw [List.getElem?_map, e]; rfl
  have slotIn : ∀ {ars : List Ar} {i : Nat}, i ∈ slotsOf ars → ∃ j : Nat, ars[j]? = some (Ar.s i) := by
    intro ars
    induction ars with
    | nil => intro i h; simp [slotsOf] at h
    | cons a r ih =>
      intro i h
      cases a with
      | v d => obtain ⟨j, hj⟩ := ih (i := i) h; exact ⟨j + 1, by simpa using hj⟩
      | s x =>
        rcases List.mem_cons.mp h with rfl | h
        · exact ⟨0, rfl⟩
        · obtain ⟨j, hj⟩ := ih h; exact ⟨j + 1, by simpa using hj⟩
  -- own slots of the callee are handed ones of mine
  have ownArg : ∀ a, Own (vs.map some) as a → ∃ (j i : Nat), ars[j]? = some (Ar.s i) ∧ OwnAt σ env i a ∧ vs[j]? = some (.ref a) := fun a ⟨j, q1, t, m, q2, q3⟩ => by
    rcases h3 j t q2 with ⟨d, v, rfl, _⟩ | ⟨m1, i, p1, o, rfl, a1, e2, a2, a3, _⟩
    · cases q3
    · rw [hv j _ e2] at q1; cases q1
      exact ⟨j, i, a1, by rcases a3 with a3 | a3 <;> exact ⟨a2, _, m1, a3, rfl⟩, e2⟩
  -- a slot of mine, behind the call
  have at_ : ∀ (i : Nat) (t : Sl), e2[i]? = some t → (env[i]? = some t ∧ ∀ a, OwnAt σ env i a → ¬ Own (vs.map some) as a) ∨ ∃ (j : Nat) (m : MO) (s0 : Sl) (p : Addr) (ob : HO), ars[j]? = some (Ar.s i) ∧ t = s0.put m ∧ env[i]? = some s0 ∧ o[j]? = some (Sl.par m) ∧ vs[j]? = some (V.ref p) ∧ σ[i]? = some (some (V.ref p)) ∧ (∃ m0, s0 = .own m0 ∨ s0 = .par m0) ∧ H' p = some ob ∧ G' p = none ∧ RepM K G' ob m := fun i t ht => by
    by_cases c : i ∈ slotsOf ars
    · obtain ⟨j, hj⟩ := slotIn c
      obtain ⟨m, s0, k1, k2, k3⟩ := p3 j i hj
      rw [ht] at k3; cases k3
      have hjl : j < as.length := by
        rw [h1]
        have : j < ars.length := (List.getElem?_eq_some_iff.mp hj).1
        have := Paired.length r
        omega
      rcases h3 j _ (List.getElem?_eq_getElem hjl) with ⟨d, v, z, a1, _⟩ | ⟨m1, i1, p, ob, z, a1, e2', a2, a3, _⟩
      · rw [hj] at a1; cases a1
      · rw [hj] at a1; cases a1
        obtain ⟨p', ob', b1, b2, b3, b4⟩ := hc.own_get k1 rfl
        rw [hv j _ e2'] at b1; cases b1
        refine .inr ⟨j, m, s0, p, ob', hj, rfl, k2, k1, e2', a2, ⟨m1, ?_⟩, b2, b3, b4⟩
        rcases a3 with a3 | a3 <;> (rw [k2] at a3; cases a3; first | exact .inl rfl | exact .inr rfl)
    · rw [p2 i c] at ht
      refine .inl ⟨ht, fun a oa z => ?_⟩
      obtain ⟨j, i', hj, oi, _⟩ := ownArg a z
      have := hd.dis i i' a oa oi
      subst this
      refine c ?_
      have mem : ∀ {ars : List Ar} {j i : Nat}, ars[j]? = some (Ar.s i) → i ∈ slotsOf ars := by
        intro ars
        induction ars with
        | nil => intro j i h; simp at h
        | cons a r ih =>
          intro j i h
          cases j with
          | zero => simp at h; subst h; exact List.mem_cons_self
          | succ j =>
            have := ih (j := j) (i := i) (by simpa using h)
            cases a with
            | v d => exact this
            | s x => exact List.mem_cons_of_mem _ this
      exact mem hj
  have backO : ∀ i a, OwnAt σ e2 i a → OwnAt σ env i a := fun i a ⟨q1, t, m, q2, q3⟩ => by
    rcases at_ i t q2 with ⟨z, _⟩ | ⟨j, m', s0, p, ob, _, z, z2, _, _, z4, ⟨m0, z5⟩, _⟩
    · exact ⟨q1, t, m, z, q3⟩
    · rcases z5 with z5 | z5 <;> (subst z5; exact ⟨q1, _, m0, z2, rfl⟩)
  have noArg : ∀ a, ¬ Own σ env a → ¬ Own (vs.map some) as a := fun a no z => by
    obtain ⟨j, i, _, oi, _⟩ := ownArg a z
    exact no ⟨i, oi⟩
  refine ⟨⟨hc.ex, hc.nt, by rw [p1]; exact hd.len, fun i t ht => ?_, fun i j p a b => hd.dis i j p (backO i p a) (backO j p b), fun i d ht => ?_, fun a z => ?_, hc.tb⟩, ⟨s.g, fun a u x nt no zx => s.h a u x nt (noArg a no) zx, fun a u x g no zx => s.n a u x g (noArg a no) zx, s.d, fun i m' ht => ?_, fun a ⟨j, m, q1, q2⟩ => ?_⟩, fun a ⟨i, z⟩ => ⟨i, backO i a z⟩⟩
  · rcases at_ i t ht with ⟨z, no⟩ | ⟨j, m', s0, p, ob, _, z, z2, _, _, z4, ⟨m0, z5⟩, k1, k2, k3⟩
    · have w := hd.sl i t z
      have keep : ∀ m p u, t.mo = some m → σ[i]?.join = some (.ref p) → H p = some u → G p = none → RepM K G u m → H' p = some u ∧ G' p = none := fun m p u hm hj hp gp rm => by
        have oi : OwnAt σ env i p := .of (slot_join hj) z hm
        exact ⟨s.h p u hp rm.nt (no p oi) ⟨_, hp⟩, s.n p u hp gp (no p oi) ⟨_, hp⟩⟩
      cases t with
      | none => trivial
      | fre d => trivial
      | imm d => obtain ⟨v, a, b⟩ := w; exact ⟨v, a, b.mono (Kp.of s.g)⟩
      | own m => obtain ⟨p, u, a, b, c, d⟩ := w; obtain ⟨x, y⟩ := keep m p u rfl a b c d; exact ⟨p, u, a, x, y, d.mono (Kp.of s.g)⟩
      | par m => obtain ⟨p, u, a, b, c, d⟩ := w; obtain ⟨x, y⟩ := keep m p u rfl a b c d; exact ⟨p, u, a, x, y, d.mono (Kp.of s.g)⟩
    · rcases z5 with z5 | z5 <;> (subst z5; subst z; exact ⟨p, ob, join_of z4, k1, k2, k3⟩)
  · rcases at_ i _ ht with ⟨z, no⟩ | ⟨j, m', s0, p, ob, _, z, z2, _, _, z4, ⟨m0, z5⟩, k1, k2, k3⟩
    · obtain ⟨v, R, q1, q2, q3, q4⟩ := hd.fr i d z
      refine ⟨v, R, q1, fun a u w => s.h a u (q2 a u w) (q3 a u w).2.2.2 (noArg a (q3 a u w).2.1) ⟨_, q2 a u w⟩, fun a u w => ⟨s.n a u (q2 a u w) (q3 a u w).1 (noArg a (q3 a u w).2.1) ⟨_, q2 a u w⟩, fun ⟨k, z⟩ => (q3 a u w).2.1 ⟨k, backO k a z⟩, (q3 a u w).2.2⟩, q4⟩
    · rcases z5 with z5 | z5 <;> (subst z5; cases z)
  · obtain ⟨u, hu⟩ := hd.zt a z
    cases q : H' a with
    | some u' => exact ⟨u', rfl⟩
    | none => rw [s.d a q] at hu; cases hu
  · rcases at_ i _ ht with ⟨z, no⟩ | ⟨j, m'', s0, p, ob, _, z, z2, _, _, z4, ⟨m0, z5⟩, k1, k2, k3⟩
    · exact ⟨⟨m', z⟩, rfl⟩
    · rcases z5 with z5 | z5
      · subst z5; cases z
      · subst z5; exact ⟨⟨m0, z2⟩, rfl⟩
  · rcases at_ j _ q2 with ⟨z, no⟩ | ⟨j', m'', s0, p, ob, _, z, z2, _, _, z4, ⟨m0, z5⟩, k1, k2, k3⟩
    · exact .inl ⟨j, m, q1, z⟩
    · rcases z5 with z5 | z5
      · subst z5; exact .inl ⟨j, m0, q1, z2⟩
      · subst z5; cases z
theorem EvA.after {t : TA} {m : En → Res (List Ar)} (h : EvA K mg W t m) {β : Type} (hd : Hold K Z G H σ env) {f : List Ar → En → Res β} {Q : List V → Hp → Prop} {Bad : Res β → Prop}
    (hb : Bad ((m env).bind f)) (h0 : ¬ Bad .bad) (hx : ∀ x e, Bad (.exc x e) → PoX K mg W Z G H σ env x e)
    (hk : ∀ as e G1 H1 vs, Bad (f as e) → Step Z G H σ env G1 H1 σ e → Hold K Z G1 H1 σ e → Paired (ArOk K G1 σ) vs as → Q vs H1) : t σ H Q := by
  refine h Z G H σ env Q hd ?_
  cases e : m env with
  | ok d e' => rw [e] at hb; exact fun G' H' v s hd' r => hk d e' G' H' v hb s hd' r
  | exc x e' => rw [e] at hb; exact hx x e' hb
  | bad => rw [e] at hb; exact (h0 hb).elim
theorem Hold.withZ {p : Addr} (h : Hold K Z G H σ env) (hp : ∃ o, H p = some o) {G0 H0 : Hp} {e0 : En} (h0 : Hold K Z G0 H0 σ e0) (hn : H0 p = none) (s : Step (trk H0) G0 H0 σ e0 G H σ env) (hf : ∀ (i : Nat) (d : D), env[i]? = some (Sl.fre d) → e0[i]? = some (Sl.fre d)) : Hold K (fun a => Z a ∨ a = p) G H σ env := by
  refine ⟨h.ex, h.nt, h.len, h.sl, h.dis, fun i d e => ?_, fun a z => ?_, h.tb⟩
  · obtain ⟨v, R, q1, q2, q3, q4⟩ := h0.fr i d (hf i d e)
    refine ⟨v, R, q1, fun a u w => s.h a u (q2 a u w) (q3 a u w).2.2.2 (q3 a u w).2.1 ⟨_, q2 a u w⟩, fun a u w => ⟨s.n a u (q2 a u w) (q3 a u w).1 (q3 a u w).2.1 ⟨_, q2 a u w⟩, fun z => ?_, fun z => ?_, (q3 a u w).2.2.2⟩, q4⟩
    · rcases s.own a z with z | z
      · exact (q3 a u w).2.1 z
      · rw [q2 a u w] at z; cases z
    · rcases z with z | z
      · exact (q3 a u w).2.2.1 z
      · rw [z] at w; rw [q2 p u w] at hn; cases hn
  · rcases z with z | z
    · exact h.zt a z
    · rw [z]; exact hp
theorem putB_fre {ars : List Ar} {o e e2 : En} (nd : (slotsOf ars).Nodup) (hp : putB e ars o = some e2) : ∀ (i : Nat) (d : D), e2[i]? = some (.fre d) → e[i]? = some (.fre d) := fun i d h => by
  obtain ⟨p1, p2, p3⟩ := putB_get nd hp
  by_cases c : i ∈ slotsOf ars
  · have slotIn : ∀ {ars : List Ar} {i : Nat}, i ∈ slotsOf ars → ∃ j : Nat, ars[j]? = some (Ar.s i) := by
      intro ars
      induction ars with
      | nil => intro i h; simp [slotsOf] at h
      | cons a r ih =>
        intro i h
        cases a with
        | v d => obtain ⟨j, hj⟩ := ih (i := i) h; exact ⟨j + 1, by simpa using hj⟩
        | s x =>
          rcases List.mem_cons.mp h with rfl | h
          · exact ⟨0, rfl⟩
          · obtain ⟨j, hj⟩ := ih h; exact ⟨j + 1, by simpa using hj⟩
    obtain ⟨j, hj⟩ := slotIn c
    obtain ⟨m, s, _, k2, k3⟩ := p3 j i hj
    rw [h] at k3
    cases s with
    | fre d' => cases k3; exact k2
    | own m => cases k3
    | par m => cases k3
    | none => cases k3
    | imm d => cases k3
  · rw [p2 i c] at h; exact h
theorem eve_call {mf : En → RD} {t : TA} {ma : En → Res (List Ar)} (ha : EvA K mg W t ma) : EvE K mg W (tCallS (SpM K mg mf) (WE W) t) (eCall mf ma) := by
  intro Z G H σ env Q hd h
  refine ha.after hd (Bad := fun r => PoE K mg W Z G H σ env r Q) h (fun z => z) (fun x e z => z) fun ars e G1 H1 vs h1 s hd1 rs => ?_
  by_cases nd : (slotsOf ars).Nodup
  case neg => rw [if_neg nd] at h1; exact False.elim h1
  rw [if_pos nd] at h1
  cases q : argSl e ars with
  | none => rw [q] at h1; exact False.elim h1
  | some as =>
    rw [q] at h1
    dsimp only at h1
    refine ⟨G1, as, hd1.args nd rs q, (argSl_get hd1 rs q).2.1, ?_⟩
    cases qf : mf as with
    | bad => rw [qf] at h1; exact False.elim h1
    | exc x o =>
      rw [qf] at h1
      dsimp only at h1
      cases qp : putB e ars o with
      | none => rw [qp] at h1; exact False.elim h1
      | some e2 =>
        rw [qp] at h1
        intro G' H' C a sc hc ex
        obtain ⟨k1, k2, _⟩ := hd1.called nd rs q sc hc qp
        exact h1 G' H' C a (s.trans (k2.weak hd1.zt)) k1 ex
    | ok r o =>
      rw [qf] at h1
      cases r with
      | imm d =>
        dsimp only at h1
        cases qp : putB e ars o with
        | none => rw [qp] at h1; exact False.elim h1
        | some e2 =>
          rw [qp] at h1
          intro G' H' v sc hc rv
          obtain ⟨k1, k2, _⟩ := hd1.called nd rs q sc hc qp
          exact h1 G' H' v (s.trans (k2.weak hd1.zt)) k1 rv
      | own m =>
        dsimp only at h1
        cases qp : putB e ars o with
        | none => rw [qp] at h1; exact False.elim h1
        | some e2 =>
          rw [qp] at h1
          intro G' H' p ob sc hc hp fr gp no rm
          obtain ⟨k1, k2, k3⟩ := hd1.called nd rs q sc hc qp
          have no2 : ¬ Own σ e2 p := fun z => not_own_new hd1 fr (k3 p z)
          obtain ⟨j1, j2⟩ := (k1.withZ ⟨_, hp⟩ hd1 fr k2 (putB_fre nd qp)).join hp gp no2 rm.nt
          exact h1 _ _ _ (s.trans (j2 Z G1 H1 σ e fr (k2.weak hd1.zt))) j1 ((rm.mono (Kp.of fun a u e => by rw [upd_ne (ne_of_none e gp)]; exact e)).rep upd_same)
theorem evf_call {mf : En → RD} {t : TA} {ma : En → Res (List Ar)} (ha : EvA K mg W t ma) : EvF K mg W (tCallS (SpM K mg mf) (WE W) t) (fCall mf ma) := by
  intro Z G H σ env Q hd h
  refine ha.after hd (Bad := fun r => PoF K mg W Z G H σ env r Q) h (fun z => z) (fun x e z => z) fun ars e G1 H1 vs h1 s hd1 rs => ?_
  by_cases nd : (slotsOf ars).Nodup
  case neg => rw [if_neg nd] at h1; exact False.elim h1
  rw [if_pos nd] at h1
  cases q : argSl e ars with
  | none => rw [q] at h1; exact False.elim h1
  | some as =>
    rw [q] at h1
    dsimp only at h1
    refine ⟨G1, as, hd1.args nd rs q, (argSl_get hd1 rs q).2.1, ?_⟩
    cases qf : mf as with
    | bad => rw [qf] at h1; exact False.elim h1
    | exc x o =>
      rw [qf] at h1
      dsimp only at h1
      cases qp : putB e ars o with
      | none => rw [qp] at h1; exact False.elim h1
      | some e2 =>
        rw [qp] at h1
        intro G' H' C a sc hc ex
        obtain ⟨k1, k2, _⟩ := hd1.called nd rs q sc hc qp
        exact h1 G' H' C a (s.trans (k2.weak hd1.zt)) k1 ex
    | ok r o =>
      rw [qf] at h1
      cases r with
      | imm d => exact False.elim h1
      | own m =>
        dsimp only at h1
        cases qp : putB e ars o with
        | none => rw [qp] at h1; exact False.elim h1
        | some e2 =>
          rw [qp] at h1
          intro G' H' p ob sc hc hp fr gp no rm
          obtain ⟨k1, k2, k3⟩ := hd1.called nd rs q sc hc qp
          have no2 : ¬ Own σ e2 p := fun z => not_own_new hd1 fr (k3 p z)
          exact h1 G' H' p ob (s.trans (k2.weak hd1.zt)) (k1.withZ ⟨_, hp⟩ hd1 fr k2 (putB_fre nd qp)) hp (s.d p fr) gp no2 rm
/-- the heap without tables -/
noncomputable def noT (H : Hp) : Hp := fun a => match H a with
  | some (.tbl _) => none
  | o => o
theorem noT_kp (H : Hp) : Kp H (noT H) := fun a o h nt => by
  show (match H a with | some (.tbl _) => none | o => o) = some o
  rw [h]
  cases o with
  | tbl ps => exact absurd rfl (nt ps)
  | _ => rfl
theorem noT_sub (H : Hp) : Same (noT H) H := fun a o h => by
  have h : (match H a with | some (.tbl _) => none | o => o) = some o := h
  cases q : H a with
  | none => rw [q] at h; cases h
  | some u => rw [q] at h; cases u <;> first | exact h | cases h
theorem noT_nt (H : Hp) : ∀ a o, noT H a = some o → notTbl o := fun a o h ps e => by
  subst e
  have h : (match H a with | some (.tbl _) => none | o => o) = some (.tbl ps) := h
  cases q : H a with
  | none => rw [q] at h; cases h
  | some u => rw [q] at h; cases u <;> cases h
theorem imm_slots {vs : List V} {ds : List D} (r : RepL K G vs ds) (hex : Same G H) (nt : ∀ a o, G a = some o → notTbl o) (tb : TabsOk H) : Hold K (trk H) G H (vs.map some) (ds.map .imm) ∧ ∀ a, ¬ Own (vs.map some) (ds.map .imm) a := by
  have no : ∀ j a, ¬ OwnAt (vs.map some) (ds.map Sl.imm) j a := fun j a ⟨_, s, m, q2, q3⟩ => by
    rw [List.getElem?_map] at q2
    cases e : ds[j]? with
    | none => rw [e] at q2; cases q2
    | some d => rw [e] at q2; cases q2; cases q3
  refine ⟨⟨hex, nt, by simp [r.length], fun j s e => ?_, fun i j p a _ => absurd a (no i p), fun i d e => ?_, fun a z => z, tb⟩, fun a ⟨j, z⟩ => no j a z⟩
  · rw [List.getElem?_map] at e
    cases q : ds[j]? with
    | none => rw [q] at e; cases e
    | some d =>
      rw [q] at e; cases e
      obtain ⟨v, a, b⟩ := r.get q
      exact ⟨v, by rw [List.getElem?_map, a]; rfl, b⟩
  · rw [List.getElem?_map] at e
    cases q : ds[i]? with
    | none => rw [q] at e; cases e
    | some d => rw [q] at e; cases e
theorem evp_call {mf : En → RD} {t : TA} {ma : En → RP (List D)} (ha : EvAP K mg W t ma) : EvP K mg W (tCallS (SpM K mg mf) (WE W) t) (pCall mf ma) := by
  intro Z G H σ env Q hd h
  refine ha Z G H σ env _ hd ?_
  unfold pCall at h
  cases e : ma env with
  | bad => rw [e] at h; exact h
  | exc x => rw [e] at h; exact h
  | ok ds =>
    rw [e] at h
    intro H1 vs g rs
    have h : PoP K mg W H σ (match mf (ds.map .imm) with
      | .ok (.imm d) _ => .ok d
      | .ok (.own m) _ => .ok m.toD
      | .exc x _ => .exc x
      | .bad => .bad) Q := h
    obtain ⟨i1, i2⟩ := imm_slots (rs.mono (noT_kp H1)) (noT_sub H1) (noT_nt H1) (g.t hd.tb)
    have gr : ∀ {G' H' : Hp} {o : En}, Step (trk H1) (noT H1) H1 (vs.map some) (ds.map .imm) G' H' (vs.map some) o → Hold K (trk H1) G' H' (vs.map some) o → Grow H1 H' := fun sc hc => ⟨fun a u x nt => sc.h a u x nt (i2 a) ⟨_, x⟩, sc.d, fun _ => hc.tb⟩
    refine ⟨noT H1, ds.map .imm, i1, fun s hs => ?_, ?_⟩
    · obtain ⟨d, _, rfl⟩ := List.mem_map.mp hs; exact .inl ⟨d, rfl⟩
    cases qf : mf (ds.map .imm) with
    | bad => rw [qf] at h; exact h
    | exc x o => rw [qf] at h; exact fun G' H' C a sc hc ex => h H' C a (g.trans (gr sc hc)) ex
    | ok r o =>
      rw [qf] at h
      cases r with
      | imm d => exact fun G' H' v sc hc rv => h H' v (g.trans (gr sc hc)) (rv.mono (Kp.of hc.ex))
      | own m => exact fun G' H' p ob sc hc hp fr gp no rm => h H' _ (g.trans (gr sc hc)) ((rm.mono (Kp.of hc.ex)).rep hp)
end
end Cv
end

section
set_option Elab.async false
set_option linter.all false
set_option maxRecDepth 100000
set_option maxHeartbeats 4000000
set_option autoImplicit false
/-! CvX: exceptions of the program's own classes: made, raised, caught. -/
namespace Cv
open PySem L2 PyProof.Rows
variable [TbT]
/-! ### the class's own __init__ -/
/-- C.__init__(self, ..), C an own class that has it from ValueError -/
structure BaseI (K : PySem.W.Frag) (C0 : Addr) : Prop where
  rd : PySem.W.readsIn K C0 (.type "type") = true
  ga : PySem.W.specialIn K (.ref C0) "__getattribute__" = some (some (.builtin "type.__getattribute__"))
  fc : PySem.W.findCls K (.ref C0) (.type "type") "__init__" = some (.val (.builtin "ValueError.__init__"))
theorem pe_baseinit {X : Cx} {n : Str} {C0 : Addr} {e : Expr} {es : List Expr} {ta : TA} {p1 p2 pos : Pos} {pl : Sem Bool} (hg : Gl X n) (hm : X.mg n = some (.ref C0)) (B : BaseI X.K C0) (ha : PA X (e :: es) ta)
    (hdb : (n == ("__debug__" : Str)) = false := by decide)
    (hc : eval (.Call (.Attribute (.Name n p1) "__init__" p2) (e :: es) [] pos) X.env = (do
      let ov ← eval (.Name n p1) X.env
      standAt p2.atName
      let (f, first) ← holding [ov] (getMethod ov "__init__" pl)
      callWith pos f first (backTo pos (starEach (e :: es) X.env)) (backToKw pos (keywordEach [] X.env))) := by rfl)
    (he : starEach (e :: es) X.env = (false, eval e X.env) :: starEach es X.env := by rfl) (hpl : (backTo pos (starEach es X.env)).any (·.1) = false := by rfl) :
    PE X (.Call (.Attribute (.Name n p1) "__init__" p2) (e :: es) [] pos) (tVeI X.K ta) := by
  refine ⟨fun pins s σ H Q I h => ?_⟩
  refine PySem.W.methodCall_KW (ld_glob I hg hm ?_ hdb) hc
  refine PySem.W.method_cls I.kIn B.ga (PySem.W.cls_value I.kIn B.rd B.fc rfl ?_)
  have J : Inv X pins σ H { s with toks := s.toks + 1 } := I.tok _
  refine PyProof.Rows.callWith_method1 (thn (ha.run pos pins _ σ H _ J h) fun us s1 ⟨vs, H1, I1, r1, a, C, ws, ev, hl, T, ea, q⟩ => ?_) he hpl
  subst ev
  cases r1 with
  | @cons _ u0 _ ur ra rw2 =>
    obtain rfl : u0 = Value.ref a := ra
    have hlen : ur.length ≤ sizeLine := by
      have z := Paired.length rw2
      rw [sizeLine_eq]; omega
    exact oinit_ok T I1 ea hlen fun s2 I2 => ⟨.non, H1, I2, rfl, q⟩
/-- what such an __init__ keeps: the one field f is stored -/
def spEx (C : Addr) (f : Str) : Sp := fun vs H Q _ => ∃ (a : Addr) (v : V), vs = [.ref a, v] ∧ H a = some (exo a C none) ∧ ∀ dx, H dx = none → dx ≠ a → Q .non (upd (upd H dx (exd dx [(f, v)])) a (exo a C (some dx)))
section
variable {K : PySem.W.Frag} {mg : Str → Option Value} {W : WX} {Z : Addr → Prop} {G H : Hp} {σ : L2.St} {env : En}
/-- raise C(e) -/
def sRaise (cls f : Str) (m : En → Res D) (e : En) : Fl := match m e with
  | .ok d e1 => .exc ⟨cls, [(f, d)]⟩ e1
  | .exc x e1 => .exc x e1
  | .bad => .bad
theorem evs_raise {C : Addr} {cls f : Str} {te : TE} {m : En → Res D} (hm : mg cls = some (.ref C)) (h : EvE K mg W te m) :
    EvS K mg W (fun _ σ H => tMkO C (spEx C f) [] (tCons te tNil) σ H fun c d H' => W c d σ H') (sRaise cls f m) := by
  intro Z G H σ env D hd q
  refine h Z G H σ env _ hd ?_
  unfold sRaise at q
  cases e : m env with
  | bad => rw [e] at q; exact q
  | exc x e1 => rw [e] at q; exact PoX.toS q
  | ok d e1 =>
    rw [e] at q
    intro G1 H1 v s hd1 rv
    refine ⟨by show 1 ≤ 1000; decide, fun a ha => ?_⟩
    refine ⟨a, v, rfl, upd_same, fun dx hdx hne => ⟨rfl, dx, [(f, v)], upd_same, by rw [upd_ne hne, upd_same], ?_, ?_⟩⟩
    · rw [upd_ne hne] at hdx; exact hdx
    · rw [upd_ne hne] at hdx
      have g : Grow H1 (upd (del (upd (upd (upd H1 a (exo a C none)) dx (exd dx [(f, v)])) a (exo a C (some dx))) a) dx (.xd [(f, v)])) := by
        have k1 : ∀ b o, H1 b = some o → (upd (del (upd (upd (upd H1 a (exo a C none)) dx (exd dx [(f, v)])) a (exo a C (some dx))) a) dx (.xd [(f, v)])) b = some o := fun b o e => by
          rw [upd_ne (ne_of_none e hdx), del_ne (ne_of_none e ha), upd_ne (ne_of_none e ha), upd_ne (ne_of_none e hdx), upd_ne (ne_of_none e ha)]; exact e
        have k2 : ∀ b, b ≠ dx → b ≠ a → (upd (del (upd (upd (upd H1 a (exo a C none)) dx (exd dx [(f, v)])) a (exo a C (some dx))) a) dx (.xd [(f, v)])) b = H1 b := fun b z y => by
          rw [upd_ne z, del_ne y, upd_ne y, upd_ne z, upd_ne y]
        refine ⟨fun b o e _ => k1 b o e, fun b e => ?_, fun t => t.of k1 fun b ps e => ?_⟩
        · by_cases z : b = dx
          · rw [z, upd_same] at e; cases e
          · by_cases y : b = a
            · rw [y]; exact ha
            · rw [k2 b z y] at e; exact e
        · by_cases z : b = dx
          · rw [z, upd_same] at e; cases e
          · by_cases y : b = a
            · rw [y, upd_ne hne.symm, del_same] at e; cases e
            · rw [k2 b z y] at e; exact ⟨_, e⟩
      exact q G1 _ σ C dx (s.trans (Step.grow g)) (hd1.grow g) ⟨hm, _, upd_same, .cons ((rv.mono (Kp.of hd1.ex)).mono g.k) .nil⟩
/-! ### the error that a suite holds -/
def ExcF (K : PySem.W.Frag) (H : Hp) (dd : Addr) (x : Exc) : Prop := ∃ fs, H dd = some (.xd fs) ∧ RepF K H fs x.fs
theorem ExcF.grow {H' : Hp} {dd : Addr} {x : Exc} (g : Grow H H') (h : ExcF K H dd x) : ExcF K H' dd x := by
  obtain ⟨fs, h1, h2⟩ := h
  exact ⟨fs, g.k dd _ h1 (fun _ z => by cases z), h2.mono g.k⟩
/-- read purely within the suite: slot i holds the error at a, its dict at dd -/
def EvX (K : PySem.W.Frag) (mg : Str → Option Value) (i : Nat) (a dd : Addr) (x : Exc) (t : TE) (m : En → RP D) : Prop := ∀ Z G H σ env Q, Hold K Z G H σ env → σ[i]? = some (some (.ref a)) → ExcF K H dd x → PoP K mg (fun _ _ _ _ => False) H σ (m env) Q → t σ H Q
def EvXA (K : PySem.W.Frag) (mg : Str → Option Value) (i : Nat) (a dd : Addr) (x : Exc) (t : TA) (m : En → RP (List D)) : Prop := ∀ Z G H σ env Q, Hold K Z G H σ env → σ[i]? = some (some (.ref a)) → ExcF K H dd x → PoAP K mg (fun _ _ _ _ => False) H σ (m env) Q → t σ H Q
variable {i : Nat} {a dd : Addr} {x : Exc}
theorem evx_p {t : TE} {m : En → RP D} (h : EvP K mg (fun _ _ _ _ => False) t m) : EvX K mg i a dd x t m := fun Z G H σ env Q hd _ _ q => h Z G H σ env Q hd q
def xFld (x : Exc) (f : Str) (_ : En) : RP D := .of (x.fs.lookup f)
theorem evx_fld {C : Addr} {f : Str} : EvX K mg i a dd x (tXf a (.ref C) (some dd) C f (tVar i)) (xFld x f) := by
  intro Z G H σ env Q hd hs ⟨fs, h1, h2⟩ q
  unfold xFld at q
  cases e : x.fs.lookup f with
  | none => rw [e] at q; exact False.elim q
  | some d =>
    rw [e] at q
    obtain ⟨v, k1, k2⟩ := h2.lookup e
    exact ⟨_, hs, rfl, rfl, dd, fs, v, rfl, h1, k1, q H v (Grow.refl H) k2⟩
/-- isinstance(e, T), T an own class -/
def rIsED (K : PySem.W.Frag) (C a dd : Addr) (c : V) (b : Bool) : List V → Hp → VK → Prop := fun xs H Q => ∃ fs, xs = [.ref a, c] ∧ H dd = some (.xd fs) ∧ Q (.bl b) H
theorem call_isED {X : Cx} {C a dd : Addr} {oe : Obj} {pn : List (Addr × Obj)} {c : V} {cv : Value} {b : Bool} (T : ExcC X.K C) (hz : Zc (.ref C) (some dd) oe) (hf : ∃ vs, oe.data = .fields vs) (hcv : ∀ u, RelV c u → u = cv) (hk : PySem.W.kitOne X.K (.ref C) cv = some b) :
    CallR (X.suite a ((a, oe) :: pn)) (.builtin "isinstance") (rIsED X.K C a dd c b) := by
  intro pins s σ H xs us Q I r h
  obtain ⟨fs, rfl, hx, q⟩ := h
  match us, r with
  | [_, _], .cons rx (.cons rt .nil) =>
    cases rx
    obtain rfl := hcv _ rt
    obtain ⟨mA, hns, _⟩ := I.hok dd _ hx
    obtain ⟨od, _, _, hod, _⟩ := hns
    have hp := (I.pin (a, oe) (List.mem_append.mpr (.inl List.mem_cons_self))).1
    obtain ⟨vs, hv⟩ := hf
    have J : PySem.W.InstAt s.heap a oe C (some od) := by
      obtain ⟨oc, odd, oda, osl⟩ := oe
      obtain ⟨z1, z2⟩ := hz
      dsimp only at z1 z2 hv
      subst z1 z2 hv
      exact ⟨hp, rfl, rfl, hod⟩
    have hcl : (PySem.W.clsIn X.K C).isSome = true := by
      have w := T.hd
      unfold PySem.W.hasDictIn at w
      cases z : PySem.W.clsIn X.K C with
      | some cd => rfl
      | none => rw [z] at w; cases w
    exact PySem.W.kia_one (PySem.W.kitx_exc hcl T.hg T.hk T.hs T.ha T.hn T.ht T.hm) I.kIn J hk (fun z => nomatch z) fun tk => ⟨.bl b, H, I.kept (t' := tk) fun _ _ z => z, rfl, q⟩
def xC (d : D) (_ : En) : RP D := .ok d
theorem evx_is {C : Addr} {c : V} {b : Bool} : EvX K mg i a dd x (tCB (rIsED K C a dd c b) (tCons (tVar i) (tCons (tC c) tNil))) (xC (.bl b)) := fun Z G H σ env Q hd hs ⟨fs, h1, _⟩ q => ⟨_, hs, fs, rfl, h1, q H _ (Grow.refl H) (.bl b)⟩
theorem evx_op {r : R2} {f : D → D → Option D} {ta tb : TE} {ma mb : En → RP D} (o : Op2 K r f) (ha : EvX K mg i a dd x ta ma) (hb : EvX K mg i a dd x tb mb) : EvX K mg i a dd x (tOp r ta tb) (p2 f ma mb) := by
  intro Z G H σ env Q hd hs hx q
  unfold p2 at q
  refine ha Z G H σ env _ hd hs hx ?_
  cases e : ma env with
  | exc y => rw [e] at q; exact fun H' C b g ex => (q H' C b g ex).elim
  | bad => rw [e] at q; exact q
  | ok d =>
    rw [e] at q
    intro H1 v g rv
    have q : PoP K mg (fun _ _ _ _ => False) H σ ((mb env).bind fun y => .of (f d y)) Q := q
    refine hb Z G H1 σ env _ (hd.grow g) hs (hx.grow g) ?_
    cases e2 : mb env with
    | exc y => rw [e2] at q; exact fun H' C b g2 ex => (q H' C b (g.trans g2) ex).elim
    | bad => rw [e2] at q; exact q
    | ok d2 =>
      rw [e2] at q
      intro H2 v2 g2 rv2
      have q : PoP K mg (fun _ _ _ _ => False) H σ (.of (f d d2)) Q := q
      cases e3 : f d d2 with
      | none => rw [e3] at q; exact False.elim q
      | some z => rw [e3] at q; exact o H2 v v2 d d2 z Q (rv.mono g2.k) rv2 e3 fun H' w g' rw' => q H' w ((g.trans g2).trans g') rw'
theorem evx_and {ta tb : TE} {ma mb : En → RP D} (ha : EvX K mg i a dd x ta ma) (hb : EvX K mg i a dd x tb mb) : EvX K mg i a dd x (tAndV ta tb) (pAnd ma mb) := by
  intro Z G H σ env Q hd hs hx q
  unfold pAnd at q
  refine ha Z G H σ env _ hd hs hx ?_
  cases e : ma env with
  | exc y => rw [e] at q; exact fun H' C b g ex => (q H' C b g ex).elim
  | bad => rw [e] at q; exact q
  | ok d =>
    rw [e] at q
    intro H1 v g rv
    cases d with
    | bl b =>
      cases rv
      refine ⟨b, rfl, ?_⟩
      cases b with
      | true => exact hb Z G H1 σ env _ (hd.grow g) hs (hx.grow g) (PoP.then g q)
      | false => exact q H1 _ g (.bl false)
    | _ => exact False.elim q
theorem evxa_nil : EvXA K mg i a dd x tNil pNil := fun Z G H σ env Q hd _ _ h => h H [] (Grow.refl H) .nil
theorem evxa_cons {ta : TE} {tr : TA} {ma : En → RP D} {mr : En → RP (List D)} (ha : EvX K mg i a dd x ta ma) (hr : EvXA K mg i a dd x tr mr) : EvXA K mg i a dd x (tCons ta tr) (pCons ma mr) := by
  intro Z G H σ env Q hd hs hx q
  unfold pCons at q
  refine ha Z G H σ env _ hd hs hx ?_
  cases e : ma env with
  | exc y => rw [e] at q; exact fun H' C b g ex => (q H' C b g ex).elim
  | bad => rw [e] at q; exact q
  | ok d =>
    rw [e] at q
    intro H1 v g rv
    have q : PoAP K mg (fun _ _ _ _ => False) H σ ((mr env).bind fun xs => .ok (d :: xs)) Q := q
    refine hr Z G H1 σ env _ (hd.grow g) hs (hx.grow g) ?_
    cases e2 : mr env with
    | exc y => rw [e2] at q; exact fun H' C b g2 ex => (q H' C b (g.trans g2) ex).elim
    | bad => rw [e2] at q; exact q
    | ok ds => rw [e2] at q; exact fun H2 vs g2 rs => q H2 _ (g.trans g2) (.cons (rv.mono g2.k) rs)
/-! ### suites -/
def EvSu (K : PySem.W.Frag) (mg : Str → Option Value) (C : Addr) (n : Str) (i : Nat) (ts : Addr → Value → Option Addr → TS) (su : Exc → En → Fl) : Prop := ∀ a dd x Z G H σ env D, x.cls = n → Hold K Z G H σ env → σ[i]? = some (some (.ref a)) → ExcF K H dd x →
  PoS K mg (fun _ _ _ _ => False) Z G H σ env (su x env) D → ts a (.ref C) (some dd) D σ H
def suRet (m : Exc → En → RP D) (x : Exc) (e : En) : Fl := match m x e with
  | .ok d => if flat d = true then .ret (.imm d) e else .bad
  | _ => .bad
theorem evsu_ret {C : Addr} {n : Str} {i : Nat} {te : Addr → Addr → TE} {m : Exc → En → RP D} (h : ∀ a dd x, EvX K mg i a dd x (te a dd) (m x)) : EvSu K mg C n i (fun a _ d => tRet (te a (d.getD 0))) (suRet m) := by
  intro a dd x Z G H σ env D _ hd hs hx q
  refine h a dd x Z G H σ env _ hd hs hx ?_
  unfold suRet at q
  cases e : m x env with
  | exc y => rw [e] at q; exact False.elim q
  | bad => rw [e] at q; exact False.elim q
  | ok d =>
    rw [e] at q
    dsimp only at q
    by_cases f : flat d = true
    · rw [if_pos f] at q
      exact fun H' v g rv => q G H' σ v (Step.grow g) (hd.grow g) (rv.flat f)
    · rw [if_neg f] at q; exact False.elim q
def suRetT (m : Exc → En → RP (List D)) (x : Exc) (e : En) : Fl := match m x e with
  | .ok ds => if ds.all flat = true ∧ ds.length ≤ sizeLine then .ret (.imm (.tup ds)) e else .bad
  | _ => .bad
theorem evsu_retT {C : Addr} {n : Str} {i : Nat} {te : Addr → Addr → TA} {m : Exc → En → RP (List D)} (h : ∀ a dd x, EvXA K mg i a dd x (te a dd) (m x)) : EvSu K mg C n i (fun a _ d => tRet (tTup (te a (d.getD 0)))) (suRetT m) := by
  intro a dd x Z G H σ env D _ hd hs hx q
  refine h a dd x Z G H σ env _ hd hs hx ?_
  unfold suRetT at q
  cases e : m x env with
  | exc y => rw [e] at q; exact False.elim q
  | bad => rw [e] at q; exact False.elim q
  | ok ds =>
    rw [e] at q
    dsimp only at q
    by_cases f : ds.all flat = true ∧ ds.length ≤ sizeLine
    · rw [if_pos f] at q
      intro H' vs g rs
      have hd' := hd.grow g
      refine ⟨by rw [rs.length]; exact f.2, fun p hp => ?_⟩
      have gp := hd'.gp hp
      exact q _ _ σ _ ((Step.grow g).trans (Step.lay hp gp)) (hd'.lay hp nt_tup) (.tup upd_same (rs.flat f.1))
    · rw [if_neg f] at q; exact False.elim q
/-! ### try: body, except C as n: suite, .. -/
def wA (K : PySem.W.Frag) (Wout : WX) (D : Ends) : List (Value × Nat × (Addr → Value → Option Addr → TS)) → WX
  | [] => Wout
  | (c, i, ts) :: r => fun cls d σ H => ∃ b, PySem.W.exmOne K cls c = some b ∧
      (b = true → (cls = c ∧ d.isSome = true) ∧ ∀ a, H a = none → ts a cls d { nx := fun σ' H' => D.nx (σ'.set i none) H', rt := D.rt, bk := fun σ' H' => D.bk (σ'.set i none) H', ct := fun σ' H' => D.ct (σ'.set i none) H' } (σ.set i (some (.ref a))) H) ∧ (b = false → wA K Wout D r cls d σ H)
inductive HdsA (X : Cx) : List ExceptHandler → List (Value × Nat × (Addr → Value → Option Addr → TS)) → Prop
  | nil : HdsA X [] []
  | cons {x n : Str} {c : Value} {i : Nat} {ts : Addr → Value → Option Addr → TS} {b₀ : Stmt} {suite : List Stmt} {np pos' : Pos} {hds : List ExceptHandler} {l : List (Value × Nat × (Addr → Value → Option Addr → TS))} (hc : Names X x c) (hi : X.N[i]? = some n) (hln : X.env.kindOf n = some .local)
      (hsu : ∀ (a : Addr) (oe : Obj) (cls : Value) (d : Option Addr) (pn : List (Addr × Obj)), Zc cls d oe → (∃ vs, oe.data = .fields vs) → cls = c → d.isSome = true → PSs (X.suite a ((a, oe) :: pn)) (b₀ :: suite) (ts a cls d)) (r : HdsA X hds l) :
      HdsA X (.ExceptHandler (some (.Name x np)) (some n) (b₀ :: suite) pos' :: hds) ((c, i, ts) :: l)

section
variable {X : Cx} {body : List Stmt} {hd0 : ExceptHandler} {hdr : List ExceptHandler} {cl : List (Value × Nat × (Addr → Value → Option Addr → TS))} {pos : Pos} {tb : WX → TS} {Wo : WX}
theorem ps_tryA (Xs : X.stack = X.env :: X.outer) (Xf : X.env.frame = some X.env.locals) (Xn : X.N.Nodup) (tkO : Takes X Wo)
    (hbody : ∀ (Wi : WX) (pj : List (Addr × Obj)) (xj : Value → Shared → Prop), Takes (X.tr pj xj) Wi → PassesOwn (model X.prog X.w) X.A X.env xj → PSs (X.tr pj xj) body (tb Wi))
    (hhs : HdsA X (hd0 :: hdr) cl) : PS X (.Try body (hd0 :: hdr) [] [] pos) (fun D σ H => tb (wA X.K Wo D cl) D σ H) := by
  constructor
  intro pj sB σB HB D IB goal
  have okX := IB.ok
  have frX : X.A.frames = some (X.env :: X.outer) := okX.frames.trans (congrArg some Xs)
  apply wpAny_Try_except
  let catch_ : Value → Shared → Prop := fun ev sc => wpAny (model X.prog X.w) X.A (noteFrame ev X.env)
    (fun _ sd => wpAny (model X.prog X.w) X.A (setFlight ev none) (fun _ sf => wpAny (model X.prog X.w) X.A (handleBy ev X.env (hd0 :: hdr)) (SP X pj D) X.xe sf) X.xe sd) X.xe sc
  have taken : Takes (X.tr (X.pn ++ pj) catch_) (wA X.K Wo D cl) := by
    intro ev sc fl
    obtain ⟨ea, BB, sI, pk, σE, HE, cls, dct, rfl, JE, nB, upE, skyE, naE, osE, agE, wE⟩ := fl
    have J := JE.ofTry okX
    rw [show (X.tr (X.pn ++ pj) catch_).stack = X.env :: X.outer from Xs] at skyE
    show wpAny (model X.prog X.w) X.A (noteFrame (.ref ea) X.env) _ _ _
    refine Sky.land Zc.steady frX Xf skyE fun hA flA upA => ?_
    have upT := upE.trans upA
    have JA : Inv X pj σE HE { sc with heap := hA } := J.landed nB flA.1 upT osE agE
    obtain ⟨oA, vA, getA, zA, datA⟩ := flA.there
    have offF : ea ∉ frs (X.env :: X.outer) := by
      intro inn
      obtain ⟨_, oo, ge, nof⟩ := flA.2.2.1.mem inn
      rw [getA] at ge
      cases ge
      exact nof _ datA
    have offL : ea ≠ X.env.locals := by
      intro z
      exact offF (List.mem_filterMap.mpr ⟨X.env, List.mem_cons_self, Xf.trans (congrArg some z.symm)⟩)
    have offS : ea ∉ X.fs := by
      intro inn
      obtain ⟨en, hen, qe⟩ := List.mem_filterMap.mp inn
      exact offF (List.mem_filterMap.mpr ⟨en, List.mem_cons_of_mem _ hen, qe⟩)
    have SA := JA.suite getA datA naE offL offS
    suffices walkC : ∀ {hs2 : List ExceptHandler} {cl2 : List (Value × Nat × (Addr → Value → Option Addr → TS))}, HdsA X hs2 cl2 → wA X.K Wo D cl2 cls dct σE HE →
        wpAny (model X.prog X.w) X.A (handleBy (.ref ea) X.env hs2) (SP X pj D) X.xe { sc with heap := hA } from walkC hhs wE
    intro hs2 cl2 hk
    induction hk with
    | nil =>
      intro wN
      apply wpAny_handleBy_nil
      have flK := flA
      obtain ⟨f1, f2, f3, oN, vN, TN, oTN, tsN, gN, zN, dN, d1N, restN⟩ := flA
      unfold PySem.passOn
      refine wpAny_bind (wpAny_field gN dN d1N ?_)
      have notNone : ¬ ((Value.ref TN == Value.none) = true) := by simp
      rw [if_neg notNone]
      have last : wpAny (model X.prog X.w) X.A (setFlight (.ref ea) X.env.frame) (fun _ sg => wpAny (model X.prog X.w) X.A (throw (.ref ea) : Sem Flow) (SP X pj D) X.xe sg) X.xe { sc with heap := hA } := by
        rw [Xf]
        refine HandSPX.setFlight_upZ flK fun hG flG upG => wpAny_throw (tkO _ _ ?_)
        exact ⟨ea, BB, sI, pj, σE, HE, cls, dct, rfl, J, nB, upT.trans upG, .inr (.inr (Xs.symm ▸ flG)), naE, osE, agE, wN⟩
      first
        | exact wpAny_bind (wpAny_pure (wpAny_bind last))
        | exact wpAny_bind last
    | @cons xN nN cN iN tsN bN suN npN poN hdsN lN hcN hiN hlN hsuN restN ihN =>
      intro wN
      obtain ⟨bb, hbb, yes, no⟩ := wN
      refine wpAny_handleBy_cons (codeAny_handlers_test ?_) (by intro q; cases q)
      have lookT : PySem.W.Looks (model X.prog X.w) hA (typeOf (.ref ea)) cls := by
        intro A2 Q2 E2 s2 k2 q2
        exact wpAny_typeOf_ref (k2 _ _ getA) (by rw [zA.1]; exact q2)
      have lookM := PySem.W.exm_one (M := model X.prog X.w) JA.kIn lookT hbb
      have askC : ∀ {Q2 E2 : Value → Shared → Prop}, Q2 cN { sc with heap := hA } → wpAny (model X.prog X.w) (X.A.mark (some (.ref ea))) (eval (.Name xN npN) X.env) Q2 E2 { sc with heap := hA } := by
        intro Q2 E2 q2
        obtain ⟨g1, g2, g3⟩ := hcN
        rcases g3 with g3 | ⟨g3, g4, g5⟩
        · exact ld_glob (X := X.suite ea ((ea, oA) :: (X.pn ++ pj))) SA g1 g3 q2 g2
        · exact ld_blt (X := X.suite ea ((ea, oA) :: (X.pn ++ pj))) SA g1 g3 g4 q2 g5 g2
      refine askC (lookM.here ?_)
      cases bb with
      | false =>
        show wpAny _ X.A (handleBy (.ref ea) X.env hdsN) _ _ _
        exact ihN (no rfl)
      | true =>
        obtain ⟨⟨ec, ed⟩, yes⟩ := yes rfl
        apply codeAny_handlers_suite_as
        refine HandSPX.lands_againZ flA fun hC flC upC => ?_
        have JC : Inv X pj σE HE { sc with heap := hC } := J.landed nB flC.1 (upT.trans upC) osE agE
        obtain ⟨oC, vC, getC, zC, datC⟩ := flC.there
        have SC := JC.suite getC datC naE offL offS
        refine store_ok (X := X.suite ea ((ea, oC) :: (X.pn ++ pj))) (v := .ref ea) SC Xn hiN (.inl hlN) rfl (fun sK SK => ?_) (.inr hlN)
        refine wpAny_mono ((hsuN ea oC cls dct (X.pn ++ pj) zC ⟨_, datC⟩ ec ed).run [] sK _ HE _ SK (yes ea naE)) (fun flow sM outc => ?_) fun _ _ z => False.elim z
        have closing : ∀ {σM : L2.St} {HM : Hp} {QM : Shared → Prop}, Inv (X.suite ea ((ea, oC) :: (X.pn ++ pj))) [] σM HM sM → (∀ sO, Inv X pj (σM.set iN none) HM sO → QM sO) →
            wpAny (model X.prog X.w) X.A (do bindName X.env nN .none; unbindBehindTheSuite X.env nN poN) (fun _ sO => QM sO) X.xe sM := by
          intro σM HM QM SM kM
          exact gone_ok (SM.unsuite okX) Xn hiN hlN kM
        cases flow with
        | ret uM =>
          obtain ⟨wv, σM, HM, SM, rM, qM⟩ := outc
          exact closing SM fun sO JO => ⟨wv, _, HM, JO, rM, qM⟩
        | next =>
          obtain ⟨σM, HM, SM, qM⟩ := outc
          exact closing SM fun sO JO => ⟨_, HM, JO, qM⟩
        | brk =>
          obtain ⟨σM, HM, SM, qM⟩ := outc
          exact closing SM fun sO JO => ⟨_, HM, JO, qM⟩
        | cont =>
          obtain ⟨σM, HM, SM, qM⟩ := outc
          exact closing SM fun sO JO => ⟨_, HM, JO, qM⟩
  refine wpAny_mono ((hbody (wA X.K Wo D cl) (X.pn ++ pj) catch_ taken PassesOwn.looking).run [] sB σB HB D (IB.toTry _) goal) (fun flow sM outc => ?_) fun _ _ he => he
  cases flow with
  | ret uM =>
    obtain ⟨wv, σM, HM, JM, rM, qM⟩ := outc
    exact ⟨wv, σM, HM, JM.ofTry okX, rM, qM⟩
  | next =>
    obtain ⟨σM, HM, JM, qM⟩ := outc
    exact wpAny_execs_nil ⟨σM, HM, JM.ofTry okX, qM⟩
  | brk =>
    obtain ⟨σM, HM, JM, qM⟩ := outc
    exact ⟨σM, HM, JM.ofTry okX, qM⟩
  | cont =>
    obtain ⟨σM, HM, JM, qM⟩ := outc
    exact ⟨σM, HM, JM.ofTry okX, qM⟩
end
/-! ### what a try computes -/
def Fl.clr (i : Nat) : Fl → Fl
  | .next e => .next (e.set i .none)
  | .brk e => .brk (e.set i .none)
  | .cont e => .cont (e.set i .none)
  | .ret r e => .ret r (e.set i .none)
  | _ => .bad
def sHand (dis : Str → Str → Bool) : List (Str × Nat × (Exc → En → Fl)) → Exc → En → Fl
  | [], x, e => .exc x e
  | (n, i, su) :: r, x, e => if x.cls = n then (if i < e.length then (su x (e.set i .none)).clr i else .bad) else if dis x.cls n = true then sHand dis r x e else .bad
def sTry (dis : Str → Str → Bool) (mb : En → Fl) (hs : List (Str × Nat × (Exc → En → Fl))) (e : En) : Fl := match mb e with
  | .exc x e1 => sHand dis hs x e1
  | r => r
section
variable {K : PySem.W.Frag} {mg : Str → Option Value} {W : WX} {Z : Addr → Prop} {G H : Hp} {σ : L2.St} {env : En}
/-- slot i gets a value that I do not know -/
theorem Hold.forget (h : Hold K Z G H σ env) (i : Nat) (y : Option V) : Hold K Z G H (σ.set i y) (env.set i .none) ∧ Step Z G H σ env G H (σ.set i y) (env.set i .none) := by
  have back : ∀ j a, OwnAt (σ.set i y) (env.set i .none) j a → j ≠ i ∧ OwnAt σ env j a := fun j a ⟨q1, s, m', q2, q3⟩ => by
    rcases getElem?_set_cases q2 with ⟨_, z, _⟩ | ⟨n, z⟩
    · subst z; cases q3
    · rw [List.getElem?_set_ne n] at q1; exact ⟨Ne.symm n, q1, s, m', z, q3⟩
  refine ⟨⟨h.ex, h.nt, by rw [List.length_set, List.length_set]; exact h.len, fun j s e => ?_, fun j k a z1 z2 => h.dis j k a (back j a z1).2 (back k a z2).2, fun j d e => ?_, h.zt, h.tb⟩,
    ⟨Same.refl _, fun _ _ q _ _ _ => q, fun _ _ _ g _ _ => g, fun _ q => q, fun j m' e => ?_, fun a ⟨j, m', z1, z2⟩ => ?_⟩⟩
  · rcases getElem?_set_cases e with ⟨_, z, _⟩ | ⟨n, z⟩
    · subst z; trivial
    · rw [List.getElem?_set_ne n]; exact h.sl j s z
  · rcases getElem?_set_cases e with ⟨_, z, _⟩ | ⟨n, z⟩
    · cases z
    · obtain ⟨v, R, q1, q2, q3, q4⟩ := h.fr j d z
      exact ⟨v, R, by rw [List.getElem?_set_ne n]; exact q1, q2, fun a u w => ⟨(q3 a u w).1, fun ⟨k, z⟩ => (q3 a u w).2.1 ⟨k, (back k a z).2⟩, (q3 a u w).2.2⟩, q4⟩
  · rcases getElem?_set_cases e with ⟨_, z, _⟩ | ⟨n, z⟩
    · cases z
    · exact ⟨⟨m', z⟩, List.getElem?_set_ne n⟩
  · rcases getElem?_set_cases z2 with ⟨_, z, _⟩ | ⟨n, z⟩
    · cases z
    · rw [List.getElem?_set_ne n] at z1; exact .inl ⟨j, m', z1, z⟩
/-- the clauses, each with what it computes -/
inductive HdsM (K : PySem.W.Frag) (mg : Str → Option Value) : List (Value × Nat × (Addr → Value → Option Addr → TS)) → List (Str × Nat × (Exc → En → Fl)) → Prop
  | nil : HdsM K mg [] []
  | cons {n : Str} {C : Addr} {i : Nat} {ts : Addr → Value → Option Addr → TS} {su : Exc → En → Fl} {l : List (Value × Nat × (Addr → Value → Option Addr → TS))} {r : List (Str × Nat × (Exc → En → Fl))} (hm : mg n = some (.ref C)) (hself : PySem.W.exmOne K (.ref C) (.ref C) = some true)
      (hs : EvSu K mg C n i ts su) (hr : HdsM K mg l r) : HdsM K mg ((.ref C, i, ts) :: l) ((n, i, su) :: r)
theorem evs_try {dis : Str → Str → Bool} {tb : WX → TS} {mb : En → Fl} {l : List (Value × Nat × (Addr → Value → Option Addr → TS))} {hs : List (Str × Nat × (Exc → En → Fl))} (hb : ∀ W', EvS K mg W' (tb W') mb) (hh : HdsM K mg l hs)
    (hdis : ∀ x n C C', dis x n = true → mg x = some (.ref C) → mg n = some (.ref C') → PySem.W.exmOne K (.ref C) (.ref C') = some false) : EvS K mg W (fun D σ H => tb (wA K W D l) D σ H) (sTry dis mb hs) := by
  intro Z G H σ env D hd q
  refine hb (wA K W D l) Z G H σ env D hd ?_
  unfold sTry at q
  cases e : mb env with
  | next e1 => rw [e] at q; exact q
  | brk e1 => rw [e] at q; exact q
  | cont e1 => rw [e] at q; exact q
  | ret r e1 => rw [e] at q; exact q
  | bad => rw [e] at q; exact q
  | exc x e1 =>
    rw [e] at q
    intro G1 H1 σ1 C dx s hd1 ex
    have q1 : PoS K mg W Z G1 H1 σ1 e1 (sHand dis hs x e1) D := PoS.back s q
    clear q
    induction hh with
    | nil => exact q1 G1 H1 σ1 C dx Step.refl hd1 ex
    | @cons n C' i ts su l' r' hm hself hsu hr ih =>
      unfold sHand at q1
      by_cases c : x.cls = n
      · rw [if_pos c] at q1
        have eC : C = C' := by
          have := ex.1
          rw [c, hm] at this; cases this; rfl
        subst eC
        refine ⟨true, hself, fun _ => ⟨⟨rfl, rfl⟩, fun a ha => ?_⟩, (fun z => nomatch z)⟩
        obtain ⟨d1, d2⟩ := hd1.forget i (some (.ref a))
        by_cases hl : i < e1.length
        · rw [if_pos hl] at q1
          have hi : i < σ1.length := by rw [hd1.len]; exact hl
          refine hsu a dx x Z G1 H1 _ _ _ c d1 (List.getElem?_set_self hi) ex.2 ?_
          have nx : ∀ e2 P, PoN K Z G1 H1 σ1 e1 (e2.set i .none) P → PoN K Z G1 H1 (σ1.set i (some (.ref a))) (e1.set i .none) e2 (fun σ' H' => P (σ'.set i none) H') := fun e2 P h G2 H2 σ2 s2 hd2 => by
            obtain ⟨k1, k2⟩ := hd2.forget i none
            exact h G2 H2 _ ((d2.trans s2).trans k2) k1
          cases r : su x (e1.set i .none) with
          | next e2 => rw [r] at q1; exact nx e2 _ q1
          | brk e2 => rw [r] at q1; exact nx e2 _ q1
          | cont e2 => rw [r] at q1; exact nx e2 _ q1
          | exc y e2 => rw [r] at q1; exact False.elim q1
          | bad => rw [r] at q1; exact False.elim q1
          | ret r2 e2 =>
            rw [r] at q1
            cases r2 with
            | imm d =>
              intro G2 H2 σ2 v s2 hd2 rv
              obtain ⟨k1, k2⟩ := hd2.forget i none
              exact q1 G2 H2 _ v ((d2.trans s2).trans k2) k1 rv
            | own m =>
              intro G2 H2 σ2 p o s2 hd2 hp fr gp no rm
              obtain ⟨k1, k2⟩ := hd2.forget i none
              refine q1 G2 H2 _ p o ((d2.trans s2).trans (k2.weak fun a z => .inl z)) k1 hp ?_ gp (fun z => ?_) rm
              · rcases fr with fr | fr
                · exact d2.ow p fr
                · exact .inr fr
              · rcases k2.own p z with z | z
                · exact no z
                · rw [hp] at z; cases z
        · rw [if_neg hl] at q1; exact False.elim q1
      · rw [if_neg c] at q1
        by_cases c2 : dis x.cls n = true
        · rw [if_pos c2] at q1
          exact ⟨false, hdis _ _ _ _ c2 ex.1 hm, (fun z => nomatch z), fun _ => ih q1⟩
        · rw [if_neg c2] at q1; exact False.elim q1
end
end
end Cv
end

section
set_option Elab.async false
set_option linter.all false
set_option maxRecDepth 100000
set_option maxHeartbeats 4000000
set_option autoImplicit false
/-! CvR: data that stands apart; an object made for a call alone; pure displays; more built-ins. -/
namespace Cv
open PySem L2 PyProof.Rows
variable [TbT]
section
variable {K : PySem.W.Frag} {mg : Str → Option Value} {W : WX} {Z : Addr → Prop} {G H : Hp} {σ : L2.St} {env : En}
/-! ### pure displays -/
def pTup (m : En → RP (List D)) (e : En) : RP D := (m e).bind fun ds => if ds.length ≤ sizeLine then .ok (.tup ds) else .bad
def pLst (m : En → RP (List D)) (e : En) : RP D := (m e).bind fun ds => if ds.length ≤ sizeLine then .ok (.lst ds) else .bad
theorem evp_tup {t : TA} {m : En → RP (List D)} (ha : EvAP K mg W t m) : EvP K mg W (tTup t) (pTup m) := by
  intro Z G H σ env Q hd h
  refine ha Z G H σ env _ hd ?_
  unfold pTup at h
  cases e : m env with
  | exc x => rw [e] at h; exact h
  | bad => rw [e] at h; exact h
  | ok ds =>
    rw [e] at h
    intro H1 vs g rs
    have h : PoP K mg W H σ (if ds.length ≤ sizeLine then .ok (.tup ds) else .bad) Q := h
    by_cases l : ds.length ≤ sizeLine
    · rw [if_pos l] at h
      exact ⟨by rw [rs.length]; exact l, fun p hp => h _ _ (g.trans (Grow.new hp)) (.tup upd_same (rs.mono (Grow.new hp).k))⟩
    · rw [if_neg l] at h; exact False.elim h
theorem evp_lst {t : TA} {m : En → RP (List D)} (ha : EvAP K mg W t m) : EvP K mg W (tLst t) (pLst m) := by
  intro Z G H σ env Q hd h
  refine ha Z G H σ env _ hd ?_
  unfold pLst at h
  cases e : m env with
  | exc x => rw [e] at h; exact h
  | bad => rw [e] at h; exact h
  | ok ds =>
    rw [e] at h
    intro H1 vs g rs
    have h : PoP K mg W H σ (if ds.length ≤ sizeLine then .ok (.lst ds) else .bad) Q := h
    by_cases l : ds.length ≤ sizeLine
    · rw [if_pos l] at h
      exact ⟨by rw [rs.length]; exact l, fun p hp => h _ _ (g.trans (Grow.new hp)) (.lst upd_same (rs.mono (Grow.new hp).k))⟩
    · rw [if_neg l] at h; exact False.elim h
/-! ### arguments for a call whose answer stands apart -/
def MO.flat : MO → Bool
  | .lst ds => ds.all Cv.flat
  | .ins _ fs => fs.all fun x => Cv.flat x.2
theorem RepF.flat {K : PySem.W.Frag} {H G : Hp} : ∀ {xs : List (Str × V)} {ds : List (Str × D)}, RepF K H xs ds → (ds.all fun x => Cv.flat x.2) = true → RepF K G xs ds
  | _, _, .nil, _ => .nil
  | _, _, .cons r t, f => by
    rw [List.all_cons, Bool.and_eq_true] at f
    exact .cons (r.flat f.1) (RepF.flat t f.2)
theorem RepM.flat {G' : Hp} {o : HO} {m : MO} (r : RepM K G o m) (f : m.flat = true) : RepM K G' o m := by
  cases r with
  | lst r => exact .lst (r.flat f)
  | ins r => exact .ins (r.flat f)
def PoG (K : PySem.W.Frag) (mg : Str → Option Value) (W : WX) (Z : Addr → Prop) (G H : Hp) (σ : L2.St) (env : En) (r : Res (List D)) (Q : List V → Hp → Prop) : Prop := match r with
  | .ok ds e => ∀ G' H' vs R, Step Z G H σ env G' H' σ e → Hold K (fun a => Z a ∨ ∃ o, R a = some o) G' H' σ e → Same R H' → (∀ a o, R a = some o → H a = none ∧ G' a = none ∧ ¬ Own σ e a ∧ notTbl o) → RepL K R vs ds → Q vs H'
  | .exc x e => PoX K mg W Z G H σ env x e
  | .bad => False
def EvG' (K : PySem.W.Frag) (mg : Str → Option Value) (W : WX) (t : TA) (m : En → Res (List D)) : Prop := ∀ Z G H σ env Q, Hold K Z G H σ env → PoG K mg W Z G H σ env (m env) Q → t σ H Q
def rNil (e : En) : Res (List D) := .ok [] e
def rE (a : En → Res D) (b : En → Res (List D)) (e : En) : Res (List D) := (a e).bind fun x e1 => if flat x = true then (b e1).bind fun xs e2 => .ok (x :: xs) e2 else .bad
def rF (a : En → Res MO) (b : En → Res (List D)) (e : En) : Res (List D) := (a e).bind fun x e1 => if x.flat = true then (b e1).bind fun xs e2 => .ok (x.toD :: xs) e2 else .bad
theorem evr_nil : EvG' K mg W tNil rNil := fun Z G H σ env Q hd h => h G H [] (fun _ => none) Step.refl
  ⟨hd.ex, hd.nt, hd.len, hd.sl, hd.dis, fun i d e => let ⟨v, R, h1, h2, h3, h4⟩ := hd.fr i d e; ⟨v, R, h1, h2, fun a o z => ⟨(h3 a o z).1, (h3 a o z).2.1, (fun w => by rcases w with w | ⟨_, w⟩; exact (h3 a o z).2.2.1 w; cases w), (h3 a o z).2.2.2⟩, h4⟩, (fun a z => by rcases z with z | ⟨_, z⟩; exact hd.zt a z; cases z), hd.tb⟩
  (fun a o e => by cases e) (fun a o e => by cases e) .nil
theorem evr_e {ta : TE} {ma : En → Res D} {t : TA} {m : En → Res (List D)} (ha : EvE K mg W ta ma) (hr : EvG' K mg W t m) : EvG' K mg W (tCons ta t) (rE ma m) := by
  intro Z G H σ env Q hd h
  refine ha.after hd (Bad := fun r => PoG K mg W Z G H σ env r Q) h (fun z => z) (fun x e z => z) fun d e G1 H1 v h1 s hd1 rv => ?_
  by_cases f : flat d = true
  · rw [if_pos f] at h1
    refine hr Z G1 H1 σ e _ hd1 ?_
    cases q : m e with
    | ok ds e2 =>
      rw [q] at h1
      exact fun G' H' vs R s' hd' sr hr rs => h1 G' H' _ R (s.trans s') hd' sr (fun a o z => ⟨s.d a (hr a o z).1, (hr a o z).2⟩) (.cons (rv.flat f) rs)
    | exc x e2 => rw [q] at h1; exact PoX.back s h1
    | bad => rw [q] at h1; exact False.elim h1
  · rw [if_neg f] at h1; exact False.elim h1
theorem evr_f {ta : TE} {ma : En → Res MO} {t : TA} {m : En → Res (List D)} (ha : EvF K mg W ta ma) (hr : EvG' K mg W t m) : EvG' K mg W (tCons ta t) (rF ma m) := by
  intro Z G H σ env Q hd h
  refine ha.after hd (Bad := fun r => PoG K mg W Z G H σ env r Q) h (fun z => z) (fun x e z => z) fun mo e G1 H1 p o h1 s hd1 hp h0 gp no r => ?_
  by_cases f : mo.flat = true
  case neg => rw [if_neg f] at h1; exact False.elim h1
  rw [if_pos f] at h1
  refine hr (fun a => Z a ∨ a = p) G1 H1 σ e _ hd1 ?_
  cases q : m e with
  | bad => rw [q] at h1; exact False.elim h1
  | exc x e2 =>
    rw [q] at h1
    exact fun G' H' C a s' hd' ex => h1 G' H' C a (s.trans (s'.weak fun a z => .inl z)) (hd'.weak fun a z => .inl z) ex
  | ok ds e2 =>
    rw [q] at h1
    intro G' H' vs R s' hd' sr hR rs
    have hp' : H' p = some o := s'.h p o hp r.nt no (.inr rfl)
    have gp' : G' p = none := s'.n p o hp gp no (.inr rfl)
    have no' : ¬ Own σ e2 p := fun z => by
      rcases s'.own p z with z | z
      · exact no z
      · rw [hp] at z; cases z
    have rp : R p = none := by
      cases z : R p with
      | none => rfl
      | some u => rw [(hR p u z).1] at hp; cases hp
    refine h1 G' H' _ (upd R p o) (s.trans (s'.weak fun a z => .inl z)) ?_ (fun a u z => ?_) (fun a u z => ?_) (.cons ((r.flat f : RepM K (upd R p o) o mo).rep upd_same) (rs.mono fun a u z _ => by rw [upd_ne (ne_of_none z rp)]; exact z))
    · refine hd'.weak fun a z => ?_
      rcases z with z | ⟨u, z⟩
      · exact .inl (.inl z)
      · by_cases w : a = p
        · exact .inl (.inr w)
        · rw [upd_ne w] at z; exact .inr ⟨u, z⟩
    · by_cases w : a = p
      · subst w; rw [upd_same] at z; rw [← z]; exact hp'
      · rw [upd_ne w] at z; exact sr a u z
    · by_cases w : a = p
      · subst w; rw [upd_same] at z; cases z; exact ⟨h0, gp', no', r.nt⟩
      · rw [upd_ne w] at z; exact ⟨s.d a (hR a u z).1, (hR a u z).2⟩
/-- x = f(..): the answer stands apart -/
def sAsgR (mf : En → RD) (ma : En → Res (List D)) (i : Nat) (e : En) : Fl := match ma e with
  | .ok ds e1 => (match mf (ds.map .imm) with
    | .ok (.imm d) _ => if i < e1.length then .next (e1.set i (.fre d)) else .bad
    | .ok (.own m) _ => if i < e1.length then .next (e1.set i (.fre m.toD)) else .bad
    | .exc x _ => .exc x e1
    | .bad => .bad)
  | .exc x e1 => .exc x e1
  | .bad => .bad
theorem evs_asgR {mf : En → RD} {t : TA} {ma : En → Res (List D)} {i : Nat} (ha : EvG' K mg W t ma) : EvS K mg W (tAsg (tCallS (SpM K mg mf) (WE W) t) (gName i)) (sAsgR mf ma i) := by
  intro Z G H σ env D hd h
  refine ha Z G H σ env _ hd ?_
  unfold sAsgR at h
  cases e : ma env with
  | bad => rw [e] at h; exact h
  | exc x e1 => rw [e] at h; exact PoX.toS h
  | ok ds e1 =>
    rw [e] at h
    dsimp only at h
    intro G1 H1 vs R s hd1 sr hR rs
    obtain ⟨i1, i2⟩ := imm_slots rs sr (fun a o z => (hR a o z).2.2.2) hd1.tb
    have hd1' : Hold K Z G1 H1 σ e1 := hd1.weak fun a z => .inl z
    refine ⟨R, ds.map .imm, i1, fun s hs => ?_, ?_⟩
    · obtain ⟨d, _, rfl⟩ := List.mem_map.mp hs; exact .inl ⟨d, rfl⟩
    have gr : ∀ {G' H' : Hp} {o : En}, Step (trk H1) R H1 (vs.map some) (ds.map .imm) G' H' (vs.map some) o → Hold K (trk H1) G' H' (vs.map some) o → Grow H1 H' := fun sc hc => ⟨fun a u x nt => sc.h a u x nt (i2 a) ⟨_, x⟩, sc.d, fun _ => hc.tb⟩
    -- the answer's objects
    have away : ∀ {G' H' : Hp} {o : En}, Step (trk H1) R H1 (vs.map some) (ds.map .imm) G' H' (vs.map some) o → Hold K (trk H1) G' H' (vs.map some) o → ∀ a u, G' a = some u → G1 a = none ∧ ¬ Own σ e1 a ∧ ¬ Z a ∧ notTbl u := fun {G' H' o} sc hc a u z => by
      cases r : R a with
      | some u' =>
        obtain ⟨k1, k2, k3, k4⟩ := hR a u' r
        refine ⟨k2, k3, fun z' => ?_, hc.nt a u z⟩
        obtain ⟨_, q⟩ := hd.zt a z'
        rw [k1] at q; cases q
      | none =>
        have h1 : H1 a = none := by
          cases q : H1 a with
          | none => rfl
          | some w => rw [sc.n a w q r (i2 a) ⟨_, q⟩] at z; cases z
        refine ⟨hd1'.gp h1, not_own_new hd1' h1, fun z' => ?_, hc.nt a u z⟩
        obtain ⟨_, q⟩ := hd1'.zt a z'
        rw [h1] at q; cases q
    have fin : ∀ {G' H' Gr : Hp} {o : En} {v : V} {d : Cv.D}, Step (trk H1) R H1 (vs.map some) (ds.map .imm) G' H' (vs.map some) o → Hold K (trk H1) G' H' (vs.map some) o → (∀ a u, Gr a = some u → G1 a = none ∧ ¬ Own σ e1 a ∧ ¬ Z a ∧ notTbl u) → Same Gr H' → Rep K Gr v d → i < e1.length →
        PoN K Z G H σ env (e1.set i (.fre d)) D.nx → gName i v σ H' D.nx := fun {G' H' Gr o v d} sc hc aw sm rv c q => by
      have hg := hd1'.grow (gr sc hc)
      exact q G1 H' _ (Step.put hg.len (fun m z => by cases z) (fun m z => by cases z) (s.trans (Step.grow (gr sc hc)))) (hg.put (s := .fre d) c trivial (fun m z => by cases z) (fun m z => by cases z) (fun d' z => by cases z; exact ⟨Gr, sm, aw, rv⟩))
    cases qf : mf (ds.map .imm) with
    | bad => rw [qf] at h; exact h
    | exc x o => rw [qf] at h; exact fun G' H' C a sc hc ex => PoX.toS h G1 H' C a (s.trans (Step.grow (gr sc hc))) (hd1'.grow (gr sc hc)) ex
    | ok r o =>
      rw [qf] at h
      cases r with
      | imm d =>
        dsimp only at h
        by_cases c : i < e1.length
        · rw [if_pos c] at h
          exact fun G' H' v sc hc rv => fin sc hc (away sc hc) hc.ex rv c h
        · rw [if_neg c] at h; exact False.elim h
      | own m =>
        dsimp only at h
        by_cases c : i < e1.length
        · rw [if_pos c] at h
          intro G' H' p ob sc hc hp fr gp no rm
          refine fin (Gr := upd G' p ob) sc hc (fun a u z => ?_) (fun a u z => ?_) ((rm.mono (Kp.of fun a u e => by rw [upd_ne (ne_of_none e gp)]; exact e)).rep upd_same) c h
          · by_cases w : a = p
            · subst w; rw [upd_same] at z; cases z
              refine ⟨hd1'.gp fr, not_own_new hd1' fr, fun z' => ?_, rm.nt⟩
              obtain ⟨_, q⟩ := hd1'.zt a z'
              rw [fr] at q; cases q
            · rw [upd_ne w] at z; exact away sc hc a u z
          · by_cases w : a = p
            · subst w; rw [upd_same] at z; rw [← z]; exact hp
            · rw [upd_ne w] at z; exact hc.ex a u z
        · rw [if_neg c] at h; exact False.elim h
/-! ### what stands apart is changed -/
def unfre (e : En) : En := e.map fun s => match s with
  | .fre _ => .none
  | s => s
theorem unfre_get {i : Nat} {s : Sl} (h : (unfre env)[i]? = some s) : (env[i]? = some s ∧ ∀ d, s ≠ .fre d) ∨ s = .none := by
  unfold unfre at h
  rw [List.getElem?_map] at h
  cases e : env[i]? with
  | none => rw [e] at h; cases h
  | some t =>
    rw [e] at h
    cases t with
    | fre d => cases h; exact .inr rfl
    | none => cases h; exact .inr rfl
    | imm d => cases h; exact .inl ⟨rfl, fun d z => by cases z⟩
    | own m => cases h; exact .inl ⟨rfl, fun d z => by cases z⟩
    | par m => cases h; exact .inl ⟨rfl, fun d z => by cases z⟩
theorem Hold.spoil {p : Addr} {o : HO} (h : Hold K Z G H σ env) (hp : ∃ u, H p = some u ∧ plainO u) (nto : notTbl o) (gp : G p = none) (no : ¬ Own σ env p) (nz : ¬ Z p) : Hold K Z G (upd H p o) σ (unfre env) ∧ Step Z G H σ env G (upd H p o) σ (unfre env) := by
  have back : ∀ j a, OwnAt σ (unfre env) j a → OwnAt σ env j a := fun j a ⟨q1, s, m', q2, q3⟩ => by
    rcases unfre_get q2 with ⟨z, _⟩ | z
    · exact ⟨q1, s, m', z, q3⟩
    · subst z; cases q3
  refine ⟨⟨fun a u e => by rw [upd_ne (ne_of_none e gp)]; exact h.ex a u e, h.nt, by unfold unfre; rw [List.length_map]; exact h.len, fun i s e => ?_, fun i j a z1 z2 => h.dis i j a (back i a z1) (back j a z2), fun i d e => ?_, fun a z => upd_there (h.zt a z), let ⟨_, q1, q2⟩ := hp; h.tb.mut q1 q2 nto⟩,
    ⟨Same.refl _, fun a u q _ _ z => by rw [upd_ne fun w => nz (by rw [← w]; exact z)]; exact q, fun _ _ _ g _ _ => g, fun a q => ?_, fun i m' e => ?_, fun a ⟨i, m, q1, q2⟩ => ?_⟩⟩
  · rcases unfre_get e with ⟨z, nf⟩ | z
    · have w := h.sl i s z
      have nj : ∀ m, s.mo = some m → σ[i]?.join ≠ some (.ref p) := fun m hm q => no ⟨i, .of (slot_join q) z hm⟩
      cases s with
      | none => trivial
      | fre d => trivial
      | imm d => exact w
      | own m2 => obtain ⟨p2, u, w1, w2, w3, w4⟩ := w; exact ⟨p2, u, w1, by rw [upd_ne (fun z => nj m2 rfl (by rw [w1, z]))]; exact w2, w3, w4⟩
      | par m2 => obtain ⟨p2, u, w1, w2, w3, w4⟩ := w; exact ⟨p2, u, w1, by rw [upd_ne (fun z => nj m2 rfl (by rw [w1, z]))]; exact w2, w3, w4⟩
    · subst z; trivial
  · rcases unfre_get e with ⟨z, nf⟩ | z
    · exact absurd rfl (nf d)
    · cases z
  · by_cases w : a = p
    · rw [w, upd_same] at q; cases q
    · rw [upd_ne w] at q; exact q
  · rcases unfre_get e with ⟨z, _⟩ | z
    · exact ⟨⟨m', z⟩, rfl⟩
    · cases z
  · rcases unfre_get q2 with ⟨z, _⟩ | z
    · exact .inl ⟨i, m, q1, z⟩
    · cases z
/-- a place within what slot i holds -/
def EvQ (K : PySem.W.Frag) (i : Nat) (t : TE) (m : D → Option D) : Prop := ∀ H R σ v0 d0 d Q, σ[i]? = some (some v0) → Rep K R v0 d0 → Same R H → m d0 = some d → (∀ v, Rep K R v d → Q v H) → t σ H Q
def qVar (d : D) : Option D := some d
def qIx (k : Int) (m : D → Option D) (d : D) : Option D := (m d).bind fun x => dIx x (.int k)
theorem evq_var {i : Nat} : EvQ K i (tVar i) qVar := fun H R σ v0 d0 d Q hs r _ e q => by cases e; exact ⟨v0, hs, q v0 r⟩
theorem evq_ix {i : Nat} {k : Int} {t : TE} {m : D → Option D} (h : EvQ K i t m) : EvQ K i (tOp (rIx K) t (tC (.int k))) (qIx k m) := by
  intro H R σ v0 d0 d Q hs r sm e q
  unfold qIx at e
  cases e1 : m d0 with
  | none => rw [e1] at e; cases e
  | some x =>
    rw [e1] at e
    have e : dIx x (.int k) = some d := e
    refine h H R σ v0 d0 x _ hs r sm e1 fun v rv => ?_
    show rIx K v (.int k) H Q
    unfold dIx at e
    cases x with
    | lst ds => cases rv with | lst a r => obtain ⟨w, h1, h2⟩ := atI_rep r e; exact .inl ⟨_, _, _, w, rfl, rfl, SqL.of (sm _ _ a), h1, q w h2⟩
    | rls ds => cases rv with | rls a r => obtain ⟨w, h1, h2⟩ := atI_rep r e; exact .inl ⟨_, _, _, w, rfl, rfl, SqL.kp (Kp.of sm) a, h1, q w h2⟩
    | tup ds => cases rv with | tup a r => obtain ⟨w, h1, h2⟩ := atI_rep r e; exact .inr (.inl ⟨_, _, _, w, rfl, rfl, SqT.of (sm _ _ a), h1, q w h2⟩)
    | _ => cases e
def freAt (e : En) (i : Nat) : Option D := match e[i]? with
  | some (.fre d) => some d
  | _ => none
def lstOf : Option D → Option (List D)
  | some (.lst ds) => some ds
  | _ => none
def sSpoilA (i : Nat) (q : D → Option D) (m : En → RP D) (e : En) : Fl := match lstOf ((freAt e i).bind q) with
  | some ds => (match m e with
    | .ok _ => if ds.length < sizeLine then .next (unfre e) else .bad
    | _ => .bad)
  | none => .bad
theorem fre_get (hd : Hold K Z G H σ env) {i : Nat} {d : D} (h : freAt env i = some d) : ∃ (v : V) (R : Hp), σ[i]? = some (some v) ∧ Same R H ∧ (∀ a o, R a = some o → G a = none ∧ ¬ Own σ env a ∧ ¬ Z a ∧ notTbl o) ∧ Rep K R v d := by
  unfold freAt at h
  cases e : env[i]? with
  | none => rw [e] at h; cases h
  | some s =>
    rw [e] at h
    cases s with
    | fre d' => cases h; exact hd.fr i d e
    | none => cases h
    | imm d => cases h
    | own m => cases h
    | par m => cases h
theorem lstOf_some {o : Option D} {ds : List D} (h : lstOf o = some ds) : o = some (.lst ds) := by
  unfold lstOf at h
  split at h
  · cases h; rfl
  · cases h
theorem evs_spoilA {i : Nat} {tq te : TE} {q : D → Option D} {m : En → RP D} (hq : EvQ K i tq q) (hm : EvP K mg W te m) : EvS K mg W (tDrop (tBM K "list" rAppend tq (tCons te tNil))) (sSpoilA i q m) := by
  intro Z G H σ env D hd h
  unfold sSpoilA at h
  cases e : lstOf ((freAt env i).bind q) with
  | none => rw [e] at h; exact False.elim h
  | some ds =>
    rw [e] at h
    dsimp only at h
    have e' := lstOf_some e
    cases f : freAt env i with
    | none => rw [f] at e'; cases e'
    | some d0 =>
      rw [f] at e'
      have e' : q d0 = some (.lst ds) := e'
      obtain ⟨v, R, h1, h2, h3, h4⟩ := fre_get hd f
      refine hq H R σ v d0 (.lst ds) _ h1 h4 h2 e' fun x rx => ?_
      cases rx with
      | @lst p xs _ hp rs =>
        obtain ⟨k1, k2, k3, _⟩ := h3 _ _ hp
        refine ⟨.inl ⟨rfl, _, SqL.of (h2 _ _ hp)⟩, ?_⟩
        refine hm Z G H σ env _ hd ?_
        cases em : m env with
        | bad => rw [em] at h; exact False.elim h
        | exc x => rw [em] at h; exact False.elim h
        | ok d =>
          rw [em] at h
          dsimp only at h
          by_cases c : ds.length < sizeLine
          · rw [if_pos c] at h
            intro H1 w g rw'
            have hd1 := hd.grow g
            have hp1 : H1 p = some (.lst xs) := g.k _ _ (h2 _ _ hp) nt_lst
            obtain ⟨a, b⟩ := hd1.spoil (o := .lst (xs ++ [w])) ⟨_, hp1, pl_lst⟩ nt_lst k1 k2 k3
            exact ⟨p, xs, w, rfl, rfl, hp1, by rw [rs.length]; exact c, h G _ σ ((Step.grow g).trans b) a⟩
          · rw [if_neg c] at h; exact False.elim h
def sSpoilP (i : Nat) (q : D → Option D) (e : En) : Fl := match lstOf ((freAt e i).bind q) with
  | some ds => if ds = [] then .bad else .next (unfre e)
  | none => .bad
theorem evs_spoilP {i : Nat} {tq : TE} {q : D → Option D} (hq : EvQ K i tq q) : EvS K mg W (tDrop (tBM0 K "list" rPop tq)) (sSpoilP i q) := by
  intro Z G H σ env D hd h
  unfold sSpoilP at h
  cases e : lstOf ((freAt env i).bind q) with
  | none => rw [e] at h; exact False.elim h
  | some ds =>
    rw [e] at h
    dsimp only at h
    have e' := lstOf_some e
    cases f : freAt env i with
    | none => rw [f] at e'; cases e'
    | some d0 =>
      rw [f] at e'
      have e' : q d0 = some (.lst ds) := e'
      obtain ⟨v, R, h1, h2, h3, h4⟩ := fre_get hd f
      refine hq H R σ v d0 (.lst ds) _ h1 h4 h2 e' fun x rx => ?_
      cases rx with
      | @lst p xs _ hp rs =>
        obtain ⟨k1, k2, k3, _⟩ := h3 _ _ hp
        by_cases c : ds = []
        · rw [if_pos c] at h; exact False.elim h
        · rw [if_neg c] at h
          have hl := rs.length
          have nd : 0 < ds.length := by
            cases ds with
            | nil => exact absurd rfl c
            | cons _ _ => simp
          obtain ⟨a, b⟩ := hd.spoil (o := .lst xs.dropLast) ⟨_, h2 _ _ hp, pl_lst⟩ nt_lst k1 k2 k3
          have hx : xs[xs.length - 1]? = some (xs[xs.length - 1]'(by omega)) := List.getElem?_eq_getElem (by omega)
          exact ⟨.inl ⟨rfl, _, SqL.of (h2 _ _ hp)⟩, p, xs, _, rfl, rfl, h2 _ _ hp, hx, h G _ σ b a⟩
end
end Cv
end

section
set_option Elab.async false
set_option linter.all false
set_option maxRecDepth 100000
set_option maxHeartbeats 4000000
set_option autoImplicit false
/-! CvS: a call one of whose arguments is an object made for it; sorted pairs; o[i] op= e. -/
namespace Cv
open PySem L2 PyProof.Rows
variable [TbT]
section
variable {K : PySem.W.Frag} {mg : Str → Option Value} {W : WX} {Z : Addr → Prop} {G H : Hp} {σ : L2.St} {env : En}
/-! ### a call's answer, data or new -/
def PoW (K : PySem.W.Frag) (mg : Str → Option Value) (W : WX) (Z : Addr → Prop) (G H : Hp) (σ : L2.St) (env : En) (r : Res Ret) (Q : VK) : Prop := match r with
  | .ok (.imm d) e => PoE K mg W Z G H σ env (.ok d e) Q
  | .ok (.own m) e => PoF K mg W Z G H σ env (.ok m e) Q
  | .exc x e => PoX K mg W Z G H σ env x e
  | .bad => False
def EvW (K : PySem.W.Frag) (mg : Str → Option Value) (W : WX) (t : TE) (m : En → Res Ret) : Prop := ∀ Z G H σ env Q, Hold K Z G H σ env → PoW K mg W Z G H σ env (m env) Q → t σ H Q
def eOfW (a : En → Res Ret) (e : En) : Res D := match a e with
  | .ok (.imm d) e1 => .ok d e1
  | .ok (.own m) e1 => .ok m.toD e1
  | .exc x e1 => .exc x e1
  | .bad => .bad
def fOfW (a : En → Res Ret) (e : En) : Res MO := match a e with
  | .ok (.imm _) _ => .bad
  | .ok (.own m) e1 => .ok m e1
  | .exc x e1 => .exc x e1
  | .bad => .bad
theorem eve_w {t : TE} {m : En → Res Ret} (h : EvW K mg W t m) : EvE K mg W t (eOfW m) := by
  intro Z G H σ env Q hd q
  refine h Z G H σ env Q hd ?_
  unfold eOfW at q
  cases e : m env with
  | bad => rw [e] at q; exact q
  | exc x e1 => rw [e] at q; exact q
  | ok r e1 =>
    rw [e] at q
    cases r with
    | imm d => exact q
    | own mo =>
      intro G1 H1 p o s hd1 hp h0 gp no r
      obtain ⟨j1, j2⟩ := hd1.join hp gp no r.nt
      exact q _ _ _ (j2 Z G H σ env h0 s) j1 ((r.mono (Kp.of fun a u e => by rw [upd_ne (ne_of_none e gp)]; exact e)).rep upd_same)
theorem evf_w {t : TE} {m : En → Res Ret} (h : EvW K mg W t m) : EvF K mg W t (fOfW m) := by
  intro Z G H σ env Q hd q
  refine h Z G H σ env Q hd ?_
  unfold fOfW at q
  cases e : m env with
  | bad => rw [e] at q; exact q
  | exc x e1 => rw [e] at q; exact q
  | ok r e1 =>
    rw [e] at q
    cases r with
    | imm d => exact False.elim q
    | own mo => exact q
/-! ### one slot more -/
theorem app_last {α : Type} {l : List α} {x y : α} {i : Nat} (h : (l ++ [x])[i]? = some y) : l[i]? = some y ∨ (i = l.length ∧ x = y) := by
  by_cases c : i < l.length
  · rw [List.getElem?_append_left c] at h; exact .inl h
  · rw [List.getElem?_append_right (by omega)] at h
    cases q : i - l.length with
    | zero => rw [q] at h; simp at h; exact .inr ⟨by omega, h⟩
    | succ n => rw [q] at h; simp at h
theorem app_l {α : Type} {l : List α} {x y : α} {i : Nat} (h : l[i]? = some y) : (l ++ [x])[i]? = some y := by
  rw [List.getElem?_append_left (List.getElem?_eq_some_iff.mp h).1]; exact h
theorem ownAt_ext (hl : σ.length = env.length) {x : Option V} {s0 : Sl} {j : Nat} {a : Addr} (h : OwnAt (σ ++ [x]) (env ++ [s0]) j a) : OwnAt σ env j a ∨ (j = env.length ∧ x = some (.ref a)) := by
  obtain ⟨q1, s, m, q2, q3⟩ := h
  rcases app_last q2 with z | ⟨z, w⟩
  · rcases app_last q1 with y | ⟨y, _⟩
    · exact .inl ⟨y, s, m, z, q3⟩
    · have := (List.getElem?_eq_some_iff.mp z).1; omega
  · rcases app_last q1 with y | ⟨_, y⟩
    · have := (List.getElem?_eq_some_iff.mp y).1; omega
    · exact .inr ⟨z, y⟩
theorem Hold.ext {p : Addr} {o : HO} {m : MO} (h : Hold K (fun a => Z a ∨ a = p) G H σ env) (hp : H p = some o) (gp : G p = none) (no : ¬ Own σ env p) (r : RepM K G o m) : Hold K Z G H (σ ++ [some (.ref p)]) (env ++ [.own m]) := by
  have hl := h.len
  refine ⟨h.ex, h.nt, by simp [hl], fun i s e => ?_, fun i j a x y => ?_, fun i d e => ?_, fun a z => h.zt a (.inl z), h.tb⟩
  · rcases app_last e with z | ⟨z, w⟩
    · have q := h.sl i s z
      have hi : i < σ.length := by have := (List.getElem?_eq_some_iff.mp z).1; omega
      rw [List.getElem?_append_left hi]; exact q
    · subst w; subst z
      exact ⟨p, o, by rw [← hl]; simp, hp, gp, r⟩
  · rcases ownAt_ext hl x with x | ⟨x1, x2⟩ <;> rcases ownAt_ext hl y with y | ⟨y1, y2⟩
    · exact h.dis i j a x y
    · have ea : p = a := V.ref.inj (Option.some.inj y2)
      rw [← ea] at x; exact absurd ⟨i, x⟩ no
    · have ea : p = a := V.ref.inj (Option.some.inj x2)
      rw [← ea] at y; exact absurd ⟨j, y⟩ no
    · omega
  · rcases app_last e with z | ⟨z, w⟩
    · obtain ⟨v, R, q1, q2, q3, q4⟩ := h.fr i d z
      refine ⟨v, R, app_l q1, q2, fun a u w => ⟨(q3 a u w).1, fun ⟨k, y⟩ => ?_, fun y => (q3 a u w).2.2.1 (.inl y), (q3 a u w).2.2.2⟩, q4⟩
      rcases ownAt_ext hl y with y | ⟨_, y⟩
      · exact (q3 a u w).2.1 ⟨k, y⟩
      · have ea : p = a := V.ref.inj (Option.some.inj y)
        exact (q3 a u w).2.2.1 (.inr ea.symm)
    · cases w
theorem Hold.unext {x : Option V} {s0 : Sl} (hl : σ.length = env.length) (h : Hold K Z G H (σ ++ [x]) (env ++ [s0])) : Hold K Z G H σ env := by
  have up : ∀ j a, OwnAt σ env j a → OwnAt (σ ++ [x]) (env ++ [s0]) j a := fun j a ⟨q1, s, m, q2, q3⟩ => ⟨app_l q1, s, m, app_l q2, q3⟩
  refine ⟨h.ex, h.nt, hl, fun i s e => ?_, fun i j a y z => h.dis i j a (up i a y) (up j a z), fun i d e => ?_, h.zt, h.tb⟩
  · have q := h.sl i s (app_l e)
    have hi : i < σ.length := by have := (List.getElem?_eq_some_iff.mp e).1; omega
    rw [List.getElem?_append_left hi] at q; exact q
  · obtain ⟨v, R, q1, q2, q3, q4⟩ := h.fr i d (app_l e)
    have hi : i < σ.length := by have := (List.getElem?_eq_some_iff.mp e).1; omega
    rw [List.getElem?_append_left hi] at q1
    exact ⟨v, R, q1, q2, fun a u w => ⟨(q3 a u w).1, fun ⟨k, y⟩ => (q3 a u w).2.1 ⟨k, up k a y⟩, (q3 a u w).2.2⟩, q4⟩
theorem argSl_ext {s0 : Sl} : ∀ {ars : List Ar} {as : En}, argSl env ars = some as → argSl (env ++ [s0]) ars = some as ∧ env.length ∉ slotsOf ars
  | [], as, h => ⟨h, by simp [slotsOf]⟩
  | .v d :: r, as, h => by
    unfold argSl at h
    cases q : argSl env r with
    | none => rw [q] at h; cases h
    | some a =>
      rw [q] at h; cases h
      obtain ⟨a1, a2⟩ := argSl_ext (s0 := s0) q
      exact ⟨by unfold argSl; rw [a1]; rfl, a2⟩
  | .s i :: r, as, h => by
    unfold argSl at h
    have key : ∀ (sl : Sl) (m : MO), env[i]? = some sl → (sl = .own m ∨ sl = .par m) → (argSl env r).map (.par m :: ·) = some as → argSl (env ++ [s0]) (.s i :: r) = some as ∧ env.length ∉ slotsOf (.s i :: r) := fun sl m e hk h => by
      cases q : argSl env r with
      | none => rw [q] at h; cases h
      | some a =>
        rw [q] at h; cases h
        obtain ⟨a1, a2⟩ := argSl_ext (s0 := s0) q
        refine ⟨?_, fun z => ?_⟩
        · unfold argSl
          rw [app_l e]
          rcases hk with hk | hk <;> (subst hk; dsimp only; rw [a1]; rfl)
        · rcases List.mem_cons.mp z with z | z
          · have := (List.getElem?_eq_some_iff.mp e).1; omega
          · exact a2 z
    cases e : env[i]? with
    | none => rw [e] at h; cases h
    | some sl =>
      rw [e] at h
      cases sl with
      | own m => exact key _ m e (.inl rfl) h
      | par m => exact key _ m e (.inr rfl) h
      | none => cases h
      | imm d => cases h
      | fre d => cases h
theorem putB_ext {s0 : Sl} : ∀ {ars : List Ar} {o e e2 : En}, putB e ars o = some e2 → putB (e ++ [s0]) ars o = some (e2 ++ [s0]) ∧ e2.length = e.length
  | [], [], e, e2, h => by cases h; exact ⟨rfl, rfl⟩
  | .v _ :: r, .imm _ :: o, e, e2, h => putB_ext (ars := r) (show putB e r o = some e2 from h)
  | .s x :: r, .par m :: o, e, e2, h => by
    unfold putB at h ⊢
    cases q : e[x]? with
    | none => rw [q] at h; cases h
    | some s =>
      rw [q] at h
      rw [app_l q]
      have hx : x < e.length := (List.getElem?_eq_some_iff.mp q).1
      obtain ⟨a, b⟩ := putB_ext (s0 := s0) h
      refine ⟨?_, by rw [b, List.length_set]⟩
      dsimp only
      rw [List.set_append_left _ _ hx]
      exact a
  | [], _ :: _, e, e2, h => by cases h
  | .v _ :: _, [], e, e2, h => by cases h
  | .s _ :: _, [], e, e2, h => by cases h
  | .v _ :: _, .none :: _, e, e2, h => by cases h
  | .v _ :: _, .own _ :: _, e, e2, h => by cases h
  | .v _ :: _, .par _ :: _, e, e2, h => by cases h
  | .v _ :: _, .fre _ :: _, e, e2, h => by cases h
  | .s _ :: _, .none :: _, e, e2, h => by cases h
  | .s _ :: _, .own _ :: _, e, e2, h => by cases h
  | .s _ :: _, .imm _ :: _, e, e2, h => by cases h
  | .s _ :: _, .fre _ :: _, e, e2, h => by cases h
theorem ArOk.ext {x : Option V} {v : V} {a : Ar} (h : ArOk K G σ v a) : ArOk K G (σ ++ [x]) v a := by
  cases a with
  | v d => exact h
  | s i => exact app_l (show σ[i]? = some (some v) from h)
theorem pairedExt {x : Option V} : ∀ {vs : List V} {as : List Ar}, Paired (ArOk K G σ) vs as → Paired (ArOk K G (σ ++ [x])) vs as
  | _, _, .nil => .nil
  | _, _, .cons r t => .cons r.ext (pairedExt t)
/-- f(an object made for it, ..) -/
def wCallT (mf : En → RD) (mF : En → Res MO) (mr : En → Res (List Ar)) (e : En) : Res Ret := (mF e).bind fun m e1 => (mr e1).bind fun ars e2 => if (slotsOf ars).Nodup then (match argSl e2 ars with
  | some as => (match mf (.par m :: as) with
    | .ok r (.par _ :: o) => (match putB e2 ars o with
      | some e3 => .ok r e3
      | none => .bad)
    | .exc x (.par _ :: o) => (match putB e2 ars o with
      | some e3 => .exc x e3
      | none => .bad)
    | _ => .bad)
  | none => .bad) else .bad
theorem evw_callT {mf : En → RD} {tF : TE} {mF : En → Res MO} {t : TA} {mr : En → Res (List Ar)} (hF : EvF K mg W tF mF) (hr : EvA K mg W t mr) : EvW K mg W (tCallS (SpM K mg mf) (WE W) (tCons tF t)) (wCallT mf mF mr) := by
  intro Z G H σ env Q hd h
  refine hF.after hd (Bad := fun r => PoW K mg W Z G H σ env r Q) h (fun z => z) (fun x e z => z) fun m e1 G1 H1 p ob h1 s1 hd1 hp1 h0 gp1 no1 rm1 => ?_
  refine hr.after (Z := fun a => Z a ∨ a = p) hd1 (Bad := fun r => PoW K mg W Z G H σ env r Q) h1 (fun z => z) (fun x e z => ?_) fun ars e2 G2 H2 vs h2 s2 hd2 rs => ?_
  · exact fun G' H' C a s' hd' ex => z G' H' C a (s1.trans (s'.weak fun a z => .inl z)) (hd'.weak fun a z => .inl z) ex
  have hp2 : H2 p = some ob := s2.h p ob hp1 rm1.nt no1 (.inr rfl)
  have gp2 : G2 p = none := s2.n p ob hp1 gp1 no1 (.inr rfl)
  have no2 : ¬ Own σ e2 p := fun z => by
    rcases s2.own p z with z | z
    · exact no1 z
    · rw [hp1] at z; cases z
  have rm2 := rm1.mono (Kp.of s2.g)
  have s02 : Step Z G H σ env G2 H2 σ e2 := s1.trans (s2.weak fun a z => .inl z)
  have hx := hd2.ext hp2 gp2 no2 rm2
  by_cases nd : (slotsOf ars).Nodup
  case neg => rw [if_neg nd] at h2; exact False.elim h2
  rw [if_pos nd] at h2
  cases q : argSl e2 ars with
  | none => rw [q] at h2; exact False.elim h2
  | some as =>
    rw [q] at h2
    dsimp only at h2
    obtain ⟨a1, a2⟩ := argSl_ext (s0 := .own m) q
    have nd' : (slotsOf (.s e2.length :: ars)).Nodup := List.nodup_cons.mpr ⟨a2, nd⟩
    have q' : argSl (e2 ++ [.own m]) (.s e2.length :: ars) = some (.par m :: as) := by
      unfold argSl
      have : (e2 ++ [Sl.own m])[e2.length]? = some (.own m) := by simp
      rw [this]; dsimp only; rw [a1]; rfl
    have rs' : Paired (ArOk K G2 (σ ++ [some (V.ref p)])) (.ref p :: vs) (.s e2.length :: ars) := .cons (show (σ ++ [some (V.ref p)])[e2.length]? = some (some (.ref p)) by rw [← hd2.len]; simp) (pairedExt rs)
    refine ⟨G2, .par m :: as, hx.args nd' rs' q', (argSl_get hx rs' q').2.1, ?_⟩
    -- behind the call
    have post : ∀ {G' H' : Hp} {m' : MO} {o e3 : En}, Step (trk H2) G2 H2 ((V.ref p :: vs).map some) (.par m :: as) G' H' ((V.ref p :: vs).map some) (.par m' :: o) → Hold K (trk H2) G' H' ((V.ref p :: vs).map some) (.par m' :: o) → putB e2 ars o = some e3 →
        Hold K Z G' H' σ e3 ∧ Step Z G H σ env G' H' σ e3 ∧ (∀ pn on, H2 pn = none → H' pn = some on → Hold K (fun a => Z a ∨ a = pn) G' H' σ e3 ∧ ¬ Own σ e3 pn) := fun {G' H' m' o e3} sc hc qp => by
      obtain ⟨b1, b2⟩ := putB_ext (s0 := .own m') qp
      have qp' : putB (e2 ++ [.own m]) (.s e2.length :: ars) (.par m' :: o) = some (e3 ++ [.own m']) := by
        unfold putB
        have : (e2 ++ [Sl.own m])[e2.length]? = some (.own m) := by simp
        rw [this]; dsimp only
        have e' : (e2 ++ [Sl.own m]).set e2.length (Sl.put (.own m) m') = e2 ++ [.own m'] := by
          rw [List.set_append_right _ _ (Nat.le_refl _)]; simp [Sl.put]
        rw [e']; exact b1
      obtain ⟨k1, k2, k3⟩ := hx.called nd' rs' q' sc hc qp'
      have hl3 : σ.length = e3.length := by rw [b2]; exact hd2.len
      have u1 := k1.unext hl3
      have ownE : ∀ a, Own (σ ++ [some (V.ref p)]) (e2 ++ [.own m]) a → Own σ e2 a ∨ a = p := fun a ⟨j, z⟩ => by
        rcases ownAt_ext hd2.len z with z | ⟨_, z⟩
        · exact .inl ⟨j, z⟩
        · exact .inr (V.ref.inj (Option.some.inj z)).symm
      have notOwn : ∀ a u, H a = some u → ¬ Own σ env a → ¬ Own (σ ++ [some (V.ref p)]) (e2 ++ [.own m]) a := fun a u hu no z => by
        rcases ownE a z with z | z
        · rcases s02.own a z with z | z
          · exact no z
          · rw [hu] at z; cases z
        · rw [z, h0] at hu; cases hu
      refine ⟨u1, ⟨s02.g.trans k2.g, fun a u hu nt no z => ?_, fun a u hu hg no z => ?_, fun a z => s02.d a (k2.d a z), fun i mm e => ?_, fun a ⟨j, mm, z1, z2⟩ => ?_⟩, fun pn on hn hn' => ?_⟩
      · have := s02.h a u hu nt no z
        exact k2.h a u this nt (notOwn a u hu no) ⟨_, this⟩
      · have g2 := s02.n a u hu hg no z
        have : ∃ u', H2 a = some u' := by
          cases w : H2 a with
          | none => rw [s02.d a w] at hu; cases hu
          | some u' => exact ⟨u', rfl⟩
        obtain ⟨u', this⟩ := this
        exact k2.n a u' this g2 (notOwn a u hu no) ⟨_, this⟩
      · obtain ⟨⟨m1, e1'⟩, _⟩ := k2.par i mm (app_l e)
        rcases app_last e1' with w | ⟨_, w⟩
        · exact s02.par i m1 w
        · cases w
      · rcases k2.ow a ⟨j, mm, app_l z1, app_l z2⟩ with ⟨jj, mj, w1, w2⟩ | w
        · rcases app_last w2 with w2 | ⟨w3, w2⟩
          · rcases app_last w1 with w1 | ⟨w1, _⟩
            · exact s02.ow a ⟨jj, mj, w1, w2⟩
            · have := (List.getElem?_eq_some_iff.mp w2).1; have := hd2.len; omega
          · subst w3
            have ea : a = p := by
              rw [← hd2.len] at w1; simp at w1; exact w1.symm
            subst ea
            have o1 : OwnAt (σ ++ [some (V.ref a)]) (e3 ++ [.own m']) j a := ⟨app_l z1, _, mm, app_l z2, rfl⟩
            have o2 : OwnAt (σ ++ [some (V.ref a)]) (e3 ++ [.own m']) e3.length a := ⟨by rw [← hl3]; simp, .own m', m', by simp, rfl⟩
            have := k1.dis j e3.length a o1 o2
            have := (List.getElem?_eq_some_iff.mp z2).1
            omega
        · exact .inr (s02.d a w)
      · have w := (k1.withZ ⟨_, hn'⟩ hx hn k2 (putB_fre nd' qp')).unext hl3
        refine ⟨w, fun ⟨j, z⟩ => ?_⟩
        have o1 : Own (σ ++ [some (V.ref p)]) (e3 ++ [.own m']) pn := ⟨j, app_l z.1, let ⟨s, m, a, b⟩ := z.2; ⟨s, m, app_l a, b⟩⟩
        exact not_own_new hx hn (k3 pn o1)
    cases qf : mf (.par m :: as) with
    | bad => rw [qf] at h2; exact False.elim h2
    | exc x o' =>
      rw [qf] at h2
      match o', h2 with
      | .par m' :: o, h2 =>
        dsimp only at h2
        cases qp : putB e2 ars o with
        | none => rw [qp] at h2; exact False.elim h2
        | some e3 =>
          rw [qp] at h2
          intro G' H' C a sc hc ex
          obtain ⟨p1, p2, _⟩ := post sc hc qp
          exact h2 G' H' C a p2 p1 ex
      | [], h2 => exact False.elim h2
      | .none :: _, h2 => exact False.elim h2
      | .imm _ :: _, h2 => exact False.elim h2
      | .own _ :: _, h2 => exact False.elim h2
      | .fre _ :: _, h2 => exact False.elim h2
    | ok r o' =>
      rw [qf] at h2
      match o', h2 with
      | .par m' :: o, h2 =>
        dsimp only at h2
        cases qp : putB e2 ars o with
        | none => rw [qp] at h2; exact False.elim h2
        | some e3 =>
          rw [qp] at h2
          cases r with
          | imm d =>
            intro G' H' v sc hc rv
            obtain ⟨p1, p2, _⟩ := post sc hc qp
            exact h2 G' H' v p2 p1 rv
          | own mo =>
            intro G' H' pn on sc hc hpn frn gpn non rmn
            obtain ⟨p1, p2, p3⟩ := post sc hc qp
            obtain ⟨w1, w2⟩ := p3 pn on frn hpn
            exact h2 G' H' pn on p2 w1 hpn (s02.d pn frn) gpn w2 rmn
      | [], h2 => exact False.elim h2
      | .none :: _, h2 => exact False.elim h2
      | .imm _ :: _, h2 => exact False.elim h2
      | .own _ :: _, h2 => exact False.elim h2
      | .fre _ :: _, h2 => exact False.elim h2
/-! ### sorted pairs of ints -/
def pairsD : List D → Option (List (Int × Int))
  | [] => some []
  | .tup [.int i, .int j] :: r => (pairsD r).map ((i, j) :: ·)
  | _ :: _ => none
def lePair (a b : Int × Int) : Bool := decide (a.1 < b.1 ∨ (a.1 = b.1 ∧ a.2 ≤ b.2))
def sortP (ps : List (Int × Int)) : List (Int × Int) := ps.mergeSort lePair
theorem lePair_iff {a b : Int × Int} : lePair a b = true ↔ a.1 < b.1 ∨ (a.1 = b.1 ∧ a.2 ≤ b.2) := by unfold lePair; simp
theorem sortP_perm (ps : List (Int × Int)) : (sortP ps).Perm ps := List.mergeSort_perm ps _
theorem sortP_sorted (ps : List (Int × Int)) : (sortP ps).Pairwise (fun a b => lePair a b = true) :=
  List.pairwise_mergeSort (le := lePair) (fun a b c h1 h2 => by rw [lePair_iff] at *; omega) (fun a b => by
    simp only [Bool.or_eq_true]; rw [lePair_iff, lePair_iff]; omega) ps
theorem sortP_unique {ps l : List (Int × Int)} (p : l.Perm ps) (s : l.Pairwise (fun a b => lePair a b = true)) : l = sortP ps :=
  List.Perm.eq_of_pairwise (le := fun a b => lePair a b = true) (fun a b _ _ h1 h2 => by
    rw [lePair_iff] at h1 h2
    exact Prod.ext (by omega) (by omega)) s (sortP_sorted ps) (p.trans (sortP_perm ps).symm)
def pairD (p : Int × Int) : D := .tup [.int p.1, .int p.2]
theorem pairsD_map : ∀ {ds : List D} {ps : List (Int × Int)}, pairsD ds = some ps → ds = ps.map pairD
  | [], _, h => by cases h; rfl
  | d :: r, ps, h => by
    unfold pairsD at h
    split at h
    · rename_i heq; cases heq
    · rename_i i j r' heq
      cases heq
      cases q : pairsD r with
      | none => rw [q] at h; cases h
      | some qs => rw [q] at h; cases h; rw [pairsD_map q]; rfl
    · cases h
open Classical in
/-- the pair that stands at a tuple's address -/
noncomputable def pairOf (H : Hp) (x : V) : Int × Int := if h : ∃ (t : Addr) (i j : Int), x = .ref t ∧ H t = some (.tup [.int i, .int j]) then (Classical.choose (Classical.choose_spec h), Classical.choose (Classical.choose_spec (Classical.choose_spec h))) else (0, 0)
theorem pairOf_at {H : Hp} {t : Addr} {i j : Int} (h : H t = some (.tup [.int i, .int j])) : pairOf H (.ref t) = (i, j) := by
  have ex : ∃ (t' : Addr) (i j : Int), V.ref t = .ref t' ∧ H t' = some (.tup [.int i, .int j]) := ⟨t, i, j, rfl, h⟩
  unfold pairOf
  rw [dif_pos ex]
  obtain ⟨e1, e2⟩ := Classical.choose_spec (Classical.choose_spec (Classical.choose_spec ex))
  have e3 := h.symm.trans ((congrArg H (V.ref.inj e1)).trans e2)
  clear e2
  injection e3 with e2
  injection e2 with e2
  injection e2 with a b
  injection b with b _
  injection a with a
  injection b with b
  exact Prod.ext a.symm b.symm
theorem repl_pairs {H : Hp} : ∀ {ps : List (Int × Int)} {xs : List V}, RepL K H xs (ps.map pairD) → xs.map (pairOf H) = ps ∧ ∀ x ∈ xs, ∃ t, x = V.ref t ∧ H t = some (.tup [.int (pairOf H x).1, .int (pairOf H x).2])
  | [], _, .nil => ⟨rfl, fun x h => by simp at h⟩
  | (i, j) :: r, _, .cons (xs := xs) a t => by
    obtain ⟨h1, h2⟩ := repl_pairs t
    cases a with
    | tup hp rr =>
      match rr with
      | .cons r1 (.cons r2 .nil) =>
        cases r1; cases r2
        have e := pairOf_at hp
        refine ⟨by rw [List.map_cons, e, h1], fun x hx => ?_⟩
        rcases List.mem_cons.mp hx with z | z
        · subst z; exact ⟨_, rfl, by rw [e]; exact hp⟩
        · exact h2 x z
theorem lex_le {a b : Int × Int} : SrtO.lexB b a = false ↔ lePair a b = true := by
  rw [SrtO.lexB_no, lePair_iff]; omega
def lSortP (b : Bool) (ds : List D) : Option (List D) := if b = true then (pairsD ds).map fun ps => (sortP ps).map pairD else none
theorem rep_pairs_of {H G : Hp} : ∀ {xs : List V}, RepL K G xs ((xs.map (pairOf H)).map pairD) → ∀ {ys : List V}, ys.Perm xs → RepL K G ys ((ys.map (pairOf H)).map pairD) := by
  intro xs h ys p
  have mem : ∀ {xs : List V}, RepL K G xs ((xs.map (pairOf H)).map pairD) → ∀ x ∈ xs, Rep K G x (pairD (pairOf H x)) := by
    intro xs
    induction xs with
    | nil => intro _ x hx; simp at hx
    | cons a r ih =>
      intro h x hx
      cases h with
      | cons r1 rr =>
        rcases List.mem_cons.mp hx with z | z
        · subst z; exact r1
        · exact ih rr x z
  have back : ∀ {ys : List V}, (∀ x ∈ ys, Rep K G x (pairD (pairOf H x))) → RepL K G ys ((ys.map (pairOf H)).map pairD) := by
    intro ys
    induction ys with
    | nil => intro _; exact .nil
    | cons a r ih => intro h; exact .cons (h a List.mem_cons_self) (ih fun x hx => h x (List.mem_cons_of_mem _ hx))
  exact back fun x hx => mem h x (p.mem_iff.mp hx)
theorem cl_sortP : OpCl K (rSortedPO K) lSortP := by
  intro H G p b xs ds zs Q sq r rg e q
  unfold lSortP at e
  cases b with
  | false => cases e
  | true =>
    rw [if_pos rfl] at e
    cases h : pairsD ds with
    | none => rw [h] at e; cases e
    | some ps =>
      rw [h] at e; cases e
      have ed := pairsD_map h
      subst ed
      obtain ⟨h1, h2⟩ := repl_pairs r
      refine ⟨p, xs, pairOf H, rfl, sq, h2, fun ys l st sb hl => q l ys hl ?_⟩
      have hs : (ys.map (pairOf H)).Pairwise (fun a b => lePair a b = true) := by
        rw [List.pairwise_map]
        exact st.imp fun z => lex_le.mp z
      have hp : (ys.map (pairOf H)).Perm ps := by rw [← h1]; exact sb.perm.map _
      show RepL K G ys ((sortP ps).map pairD)
      rw [← sortP_unique hp hs]
      exact rep_pairs_of (by rw [h1]; exact rg) sb.perm
theorem get_list {X : Cx} : PGet X (rIxL X.K) := by
  intro pins s σ H x y v u Q I rx ry h
  obtain ⟨p, xs, i, z, rfl, rfl, hq, he, q⟩ := h
  cases rx
  obtain ⟨t, rfl⟩ := ry
  obtain ⟨its, r, pl, hz⟩ := I.list hq
  obtain ⟨j, h1, h2, h3, h4, h5⟩ := atI_get he
  obtain ⟨w, ew, rw'⟩ := r.get h2
  have hl := r.length
  have hn := line63
  have fin : EP X pins σ Q w s := ⟨z, H, I, rw', q⟩
  by_cases h0 : 0 ≤ i
  · have hj : i.toNat = j := by
      rw [seqIndex_of h0 h5] at h1
      exact Option.some.inj h1
    exact wpAny_getItem_list pl.isList h0 (by omega) (by rw [hj]; simpa using ew) fin
  · have hj : (i + (its.toArray.size : Int)).toNat = j := by
      rw [seqIndex_neg (by omega) h4] at h1
      rw [List.size_toArray, ← hl]
      exact Option.some.inj h1
    exact wpAny_getItem_list_neg pl.isList (by omega) (by rw [List.size_toArray] <;> omega) (by omega) (by rw [hj]; simpa using ew) fin
end
end Cv
end

section
set_option Elab.async false
set_option linter.all false
set_option maxRecDepth 100000
set_option maxHeartbeats 4000000
set_option autoImplicit false
/-! CvY: the derivation and what it computes, in one term. -/
namespace Cv
open PySem L2 PyProof.Rows
variable [TbT]
/-- what a context gives -/
structure Cc (P : Program) (w : World) (K : PySem.W.Frag) (mg : Str → Option Value) (base : Heap) (W : WX) (X : Cx) (k : Nat) : Prop where
  p : X.prog = P
  w : X.w = w
  K : X.K = K
  mg : X.mg = mg
  base : X.base = base
  calm : X.calm = true
  tk : Takes X W
  room : Room k X.A
  po : PassesOwn (model X.prog X.w) X.A X.env X.xe
  nd : X.N.Nodup
/-- nothing flies -/
abbrev W0 : WX := fun _ _ _ _ => False
abbrev CP (K : PySem.W.Frag) (mg : Str → Option Value) (W : WX) (X : Cx) (e : Expr) (t : TE) (m : En → RP D) : Prop := PE X e t ∧ EvP K mg W t m
abbrev CE (K : PySem.W.Frag) (mg : Str → Option Value) (W : WX) (X : Cx) (e : Expr) (t : TE) (m : En → Res D) : Prop := PE X e t ∧ EvE K mg W t m
abbrev CF (K : PySem.W.Frag) (mg : Str → Option Value) (W : WX) (X : Cx) (e : Expr) (t : TE) (m : En → Res MO) : Prop := PE X e t ∧ EvF K mg W t m
abbrev CW (K : PySem.W.Frag) (mg : Str → Option Value) (W : WX) (X : Cx) (e : Expr) (t : TE) (m : En → Res Ret) : Prop := PE X e t ∧ EvW K mg W t m
abbrev CC (K : PySem.W.Frag) (mg : Str → Option Value) (W : WX) (X : Cx) (e : Expr) (t : TE) (m : En → Res (Bool × List D)) : Prop := PE X e t ∧ EvC K mg W t m
abbrev CK (K : PySem.W.Frag) (mg : Str → Option Value) (W : WX) (X : Cx) (e : Expr) (t : TE) (m : En → RP (List D)) : Prop := PE X e t ∧ EvK K mg W t m
abbrev CQ (K : PySem.W.Frag) (i : Nat) (X : Cx) (e : Expr) (t : TE) (m : D → Option D) : Prop := PE X e t ∧ EvQ K i t m
abbrev CT (K : PySem.W.Frag) (mg : Str → Option Value) (W : WX) (X : Cx) (e : Expr) (t : TT) (m : En → Res Bool) : Prop := PT X e t ∧ EvT K mg W t m
abbrev CTP (K : PySem.W.Frag) (mg : Str → Option Value) (W : WX) (X : Cx) (e : Expr) (t : TT) (m : En → RP Bool) : Prop := PT X e t ∧ EvTP K mg W t m
abbrev CTW (K : PySem.W.Frag) (mg : Str → Option Value) (W : WX) (X : Cx) (e : Expr) (t : TT) (m : En → Res Bool) : Prop := PW X e t ∧ EvT K mg W t m
abbrev CTPW (K : PySem.W.Frag) (mg : Str → Option Value) (W : WX) (X : Cx) (e : Expr) (t : TT) (m : En → RP Bool) : Prop := PW X e t ∧ EvTP K mg W t m
abbrev CA (K : PySem.W.Frag) (mg : Str → Option Value) (W : WX) (X : Cx) (e : List Expr) (t : TA) (m : En → Res (List Ar)) : Prop := PA X e t ∧ EvA K mg W t m
abbrev CAP (K : PySem.W.Frag) (mg : Str → Option Value) (W : WX) (X : Cx) (e : List Expr) (t : TA) (m : En → RP (List D)) : Prop := PA X e t ∧ EvAP K mg W t m
abbrev CV (K : PySem.W.Frag) (mg : Str → Option Value) (W : WX) (X : Cx) (e : List Expr) (t : TA) (m : En → Res (List D)) : Prop := PA X e t ∧ EvV K mg W t m
abbrev CR (K : PySem.W.Frag) (mg : Str → Option Value) (W : WX) (X : Cx) (e : List Expr) (t : TA) (m : En → Res (List D)) : Prop := PA X e t ∧ EvG' K mg W t m
abbrev CO (K : PySem.W.Frag) (mg : Str → Option Value) (W : WX) (X : Cx) (e : Option Expr) (t : TO) (m : En → RP (Option Int)) : Prop := PO X e t ∧ EvO K mg W t m
abbrev CI (K : PySem.W.Frag) (mg : Str → Option Value) (W : WX) (X : Cx) (tg e : Expr) (t : TI) (m : En → Res (List D)) : Prop := PI X tg e t ∧ EvI K mg W t m
abbrev CG (K : PySem.W.Frag) (X : Cx) (e : Expr) (t : TG) (m : D → En → Option En) : Prop := PG X e t ∧ EvG K t m
abbrev CGs (K : PySem.W.Frag) (X : Cx) (e : List Expr) (t : TGs) (m : List D → En → Option En) : Prop := PGs X e t ∧ EvGs K t m
abbrev CGV (K : PySem.W.Frag) (vs : List Nat) (X : Cx) (e : Expr) (t : TG) (m : D → En → Option En) : Prop := PG X e t ∧ EvGV K vs t m
abbrev CGsV (K : PySem.W.Frag) (vs : List Nat) (X : Cx) (e : List Expr) (t : TGs) (m : List D → En → Option En) : Prop := PGs X e t ∧ EvGsV K vs t m
abbrev CS (K : PySem.W.Frag) (mg : Str → Option Value) (W : WX) (X : Cx) (e : Stmt) (t : TS) (m : En → Fl) : Prop := PS X e t ∧ EvS K mg W t m
abbrev CSs (K : PySem.W.Frag) (mg : Str → Option Value) (W : WX) (X : Cx) (e : List Stmt) (t : TS) (m : En → Fl) : Prop := PSs X e t ∧ EvS K mg W t m
abbrev CTs (K : PySem.W.Frag) (mg : Str → Option Value) (W : WX) (X : Cx) (e : List Expr) (t : TT) (m : En → Res Bool) : Prop := PTs X e t ∧ EvT K mg W t m
section
variable {P : Program} {w : World} {K : PySem.W.Frag} {mg : Str → Option Value} {base : Heap} {W : WX} {X : Cx} {k : Nat} {a b : Expr} {ta tb tq : TE} {ma mb : En → RP D} {pos : Pos}
/-! ### pure -/
theorem cp_var (i : Nat) {x : Str} (hN : X.N[i]? = some x := by rfl) (hv : Vis X.env.scope x := by first | exact Or.inl rfl | exact Or.inr (Or.inl rfl) | exact Or.inr (Or.inr rfl)) (h1 : (x == ("__debug__" : Str)) = false := by decide)
    (h2 : (x == ("__classdict__" : Str)) = false := by decide) : CP K mg W X (.Name x pos) (tVar i) (pVar i) := ⟨pe_var hN hv h1 h2, evp_var⟩
theorem cp_int {i : Int} {j} : CP K mg W X (.Constant (.int i) j pos) (tC (.int i)) (pC (.int i)) := ⟨pe_int, evp_c fun _ => .int i⟩
theorem cp_bl {b : Bool} {j} : CP K mg W X (.Constant (.bool b) j pos) (tC (.bl b)) (pC (.bl b)) := ⟨pe_bl, evp_c fun _ => .bl b⟩
theorem cp_non {j} : CP K mg W X (.Constant .none j pos) (tC .non) (pC .non) := ⟨pe_non, evp_c fun _ => .non⟩
theorem cp_str {x : Str} {j} : CP K mg W X (.Constant (.str x) j pos) (tC (.str x)) (pC (.str x)) := ⟨pe_str, evp_c fun _ => .str x⟩
/-- a module's whole number -/
theorem cp_gint (c : Cc P w K mg base W X k) {x : Str} {i : Int} (hm : ∃ t, mg x = some (.int i t)) (hg : Gl X x := by rfl) (hd : (x == ("__debug__" : Str)) = false := by decide) : CP K mg W X (.Name x pos) (tC (.int i)) (pC (.int i)) := by
  obtain ⟨t, hm⟩ := hm
  exact ⟨pe_glob hg (by rw [c.mg]; exact hm) (show RelV (.int i) (.int i t) from ⟨t, rfl⟩) hd, evp_c fun _ => .int i⟩
theorem cp_op {op : Operator} {r : R2} {f : D → D → Option D} (ho : OpR X (binaryOp op) r) (o : Op2 K r f) (ha : CP K mg W X a ta ma) (hb : CP K mg W X b tb mb) : CP K mg W X (.BinOp a op b pos) (tOp r ta tb) (p2 f ma mb) :=
  ⟨pe_op ho ha.1 hb.1, evp_op o ha.2 hb.2⟩
theorem cp_add (ha : CP K mg W X a ta ma) (hb : CP K mg W X b tb mb) : CP K mg W X (.BinOp a .Add b pos) (tOp rAddU ta tb) (p2 dAdd ma mb) := cp_op op_addU o_add ha hb
theorem cp_sub (ha : CP K mg W X a ta ma) (hb : CP K mg W X b tb mb) : CP K mg W X (.BinOp a .Sub b pos) (tOp (rI0 fun i j => .int (i - j)) ta tb) (p2 dSub ma mb) := cp_op op_sub o_sub ha hb
theorem cp_mul (ha : CP K mg W X a ta ma) (hb : CP K mg W X b tb mb) : CP K mg W X (.BinOp a .Mult b pos) (tOp rMulU ta tb) (p2 dMul ma mb) := cp_op op_mulU o_mul ha hb
theorem cp_fdiv (ha : CP K mg W X a ta ma) (hb : CP K mg W X b tb mb) : CP K mg W X (.BinOp a .FloorDiv b pos) (tOp (rI CDivW fun i j => .int (i / j)) ta tb) (p2 dFdiv ma mb) := cp_op op_fdivW o_fdiv ha hb
theorem cp_mod (ha : CP K mg W X a ta ma) (hb : CP K mg W X b tb mb) : CP K mg W X (.BinOp a .Mod b pos) (tOp (rI (fun _ j => 0 < j) fun i j => .int (i % j)) ta tb) (p2 dMod ma mb) := cp_op op_mod o_mod ha hb
theorem cp_pow (ha : CP K mg W X a ta ma) (hb : CP K mg W X b tb mb) : CP K mg W X (.BinOp a .Pow b pos) (tOp (rI CPow fun i j => .int (i ^ j.toNat)) ta tb) (p2 dPow ma mb) := cp_op op_pow o_pow ha hb
theorem cp_neg (ha : CP K mg W X a ta ma) : CP K mg W X (.UnaryOp .USub a pos) (tUn (rU fun i => .int (-i)) ta) (p1 dNeg ma) := ⟨pe_un un_neg ha.1, evp_un o_neg ha.2⟩
theorem cp_cmp {op : CmpOp} {r : R2} {f : D → D → Option D} (ho : OpR X (compareOp op) r) (o : Op2 K r f) (ha : CP K mg W X a ta ma) (hb : CP K mg W X b tb mb) (hm : behindInMarks op b = false := by first | exact nomark _ | rfl) :
    CP K mg W X (.Compare a [op] [b] pos) (tOp r ta tb) (p2 f ma mb) := ⟨pe_cmpR ho ha.1 hb.1 hm, evp_op o ha.2 hb.2⟩
theorem cp_lt (ha : CP K mg W X a ta ma) (hb : CP K mg W X b tb mb) : CP K mg W X (.Compare a [.Lt] [b] pos) (tOp (rI0 fun i j => .bl (decide (i < j))) ta tb) (p2 dLt ma mb) := cp_cmp op_lt o_lt ha hb
theorem cp_le (ha : CP K mg W X a ta ma) (hb : CP K mg W X b tb mb) : CP K mg W X (.Compare a [.LtE] [b] pos) (tOp (rI0 fun i j => .bl (decide (i ≤ j))) ta tb) (p2 dLe ma mb) := cp_cmp op_le o_le ha hb
theorem cp_gt (ha : CP K mg W X a ta ma) (hb : CP K mg W X b tb mb) : CP K mg W X (.Compare a [.Gt] [b] pos) (tOp (rI0 fun i j => .bl (decide (j < i))) ta tb) (p2 dGt ma mb) := cp_cmp op_gt o_gt ha hb
theorem cp_ge (ha : CP K mg W X a ta ma) (hb : CP K mg W X b tb mb) : CP K mg W X (.Compare a [.GtE] [b] pos) (tOp (rI0 fun i j => .bl (decide (j ≤ i))) ta tb) (p2 dGe ma mb) := cp_cmp op_ge o_ge ha hb
theorem Cc.un (c : Cc P w K mg base W X k) : X.A.units + 64 < cLine := c.room.units
theorem cp_eq (c : Cc P w K mg base W X k) (ha : CP K mg W X a ta ma) (hb : CP K mg W X b tb mb) : CP K mg W X (.Compare a [.Eq] [b] pos) (tOp (rEqD K) ta tb) (p2 dEq ma mb) := cp_cmp (by have := op_eqD c.un; rw [c.K] at this; exact this) o_eq ha hb
theorem cp_ne (c : Cc P w K mg base W X k) (ha : CP K mg W X a ta ma) (hb : CP K mg W X b tb mb) : CP K mg W X (.Compare a [.NotEq] [b] pos) (tOp (rNeD K) ta tb) (p2 dNe ma mb) := cp_cmp (by have := op_neD c.un; rw [c.K] at this; exact this) o_ne ha hb
theorem cp_isN (ha : CP K mg W X a ta ma) (hb : CP K mg W X b tb mb) : CP K mg W X (.Compare a [.Is] [b] pos) (tOp (fun x y H Q => y = .non ∧ Q (.bl (decide (x = .non))) H) ta tb) (p2 dIsN ma mb) := cp_cmp op_isN o_isN ha hb
theorem cp_notN (ha : CP K mg W X a ta ma) (hb : CP K mg W X b tb mb) : CP K mg W X (.Compare a [.IsNot] [b] pos) (tOp (fun x y H Q => y = .non ∧ Q (.bl (!decide (x = .non))) H) ta tb) (p2 dNotN ma mb) := cp_cmp op_notN o_notN ha hb
theorem cp_one {op : BoolOp} (ha : CP K mg W X a ta ma) : CP K mg W X (.BoolOp op [a] pos) ta ma := ⟨pe_one ha.1, ha.2⟩
theorem cp_and {rest : List Expr} (ha : CP K mg W X a ta ma) (hb : CP K mg W X (.BoolOp .And (b :: rest) pos) tb mb) : CP K mg W X (.BoolOp .And (a :: b :: rest) pos) (tAndV ta tb) (pAnd ma mb) := ⟨pe_and ha.1 hb.1, evp_and ha.2 hb.2⟩
theorem cp_or {rest : List Expr} (ha : CP K mg W X a ta ma) (hb : CP K mg W X (.BoolOp .Or (b :: rest) pos) tb mb) : CP K mg W X (.BoolOp .Or (a :: b :: rest) pos) (tOrV ta tb) (pOr ma mb) := ⟨pe_or ha.1 hb.1, evp_or ha.2 hb.2⟩
theorem cp_not (ha : CP K mg W X a ta ma) : CP K mg W X (.UnaryOp .Not a pos) (tNotV ta) (p1 dNot ma) := ⟨pe_not ha.1, evp_not ha.2⟩
theorem cp_ix (c : Cc P w K mg base W X k) (ha : CP K mg W X a ta ma) (hb : CP K mg W X b tb mb) (hs : PlainIx b := by intro _ _; rfl) : CP K mg W X (.Subscript a b pos) (tOp (rIx K) ta tb) (p2 dIx ma mb) :=
  ⟨pe_ix (by have := ix_seq (X := X); rw [c.K] at this; exact this) ha.1 hb.1 hs, evp_op o_ix ha.2 hb.2⟩
theorem cap_nil : CAP K mg W X [] tNil pNil := ⟨pa_nil, evap_nil⟩
theorem cap_cons {es : List Expr} {t : TA} {m : En → RP (List D)} (ha : CP K mg W X a ta ma) (hr : CAP K mg W X es t m) (hs : starEach (a :: es) X.env = (false, eval a X.env) :: starEach es X.env := by rfl) : CAP K mg W X (a :: es) (tCons ta t) (pCons ma m) :=
  ⟨pa_cons ha.1 hr.1 hs, evap_cons ha.2 hr.2⟩
theorem cp_tup {es : List Expr} {x1} {t : TA} {m : En → RP (List D)} (h : CAP K mg W X es t m) : CP K mg W X (.Tuple es x1 pos) (tTup t) (pTup m) := ⟨pe_tup h.1, evp_tup h.2⟩
theorem cp_lst {es : List Expr} {t : TA} {m : En → RP (List D)} (h : CAP K mg W X es t m) : CP K mg W X (.List es pos) (tLst t) (pLst m) := ⟨pe_lst h.1, evp_lst h.2⟩
/-- a built-in's call, by what it computes -/
theorem cp_callB (c : Cc P w K mg base W X k) {id : String} {x : Str} {e : Expr} {es : List Expr} {p : Pos} {r : List V → Hp → VK → Prop} {f : List D → Option D} {t : TA} {m : En → RP (List D)} (hc : CallR X (.builtin id) r) (o : OpN K r f) (hm : mg x = none) (hv : bootBuiltins x = some (.builtin id))
    (ha : CAP K mg W X (e :: es) t m) (hg : Gl X x := by rfl) (hn : x ≠ "__name__" := by decide) (hdb : (x == ("__debug__" : Str)) = false := by decide) (he : starEach (e :: es) X.env = (false, eval e X.env) :: starEach es X.env := by rfl) (hpl : (backTo pos (starEach es X.env)).any (·.1) = false := by rfl) :
    CP K mg W X (.Call (.Name x p) (e :: es) [] pos) (tCB r t) (pN f m) := ⟨pe_callB hc hg (by rw [c.mg]; exact hm) hv ha.1 hn hdb he hpl, evp_CB o ha.2⟩
theorem cp_callT (c : Cc P w K mg base W X k) {T : String} {x : Str} {e : Expr} {es : List Expr} {p : Pos} {r : List V → Hp → VK → Prop} {f : List D → Option D} {t : TA} {m : En → RP (List D)} (hc : CallR X (.type T) r) (o : OpN K r f) (hm : mg x = none) (hv : bootBuiltins x = some (.type T))
    (ha : CAP K mg W X (e :: es) t m) (hg : Gl X x := by rfl) (hn : x ≠ "__name__" := by decide) (hdb : (x == ("__debug__" : Str)) = false := by decide) (he : starEach (e :: es) X.env = (false, eval e X.env) :: starEach es X.env := by rfl) (hpl : (backTo pos (starEach es X.env)).any (·.1) = false := by rfl) :
    CP K mg W X (.Call (.Name x p) (e :: es) [] pos) (tCB r t) (pN f m) := ⟨pe_callTy hc hg (by rw [c.mg]; exact hm) hv ha.1 hn hdb he hpl, evp_CB o ha.2⟩
theorem cr_lenU (c : Cc P w K mg base W X k) : CallR X (.builtin "len") (rLenU K) := by have := call_lenU (X := X); rw [c.K] at this; exact this
theorem bb_sum : bootBuiltins "sum" = some (.builtin "sum") := by decide +kernel
theorem bb_min : bootBuiltins "min" = some (.builtin "min") := by decide +kernel
theorem bb_max : bootBuiltins "max" = some (.builtin "max") := by decide +kernel
theorem bb_abs : bootBuiltins "abs" = some (.builtin "abs") := by decide +kernel
theorem bb_sorted : bootBuiltins "sorted" = some (.builtin "sorted") := by decide +kernel
theorem bb_int : bootBuiltins "int" = some (.type "int") := by decide +kernel
theorem bb_list : bootBuiltins "list" = some (.type "list") := by decide +kernel
theorem bb_tuple : bootBuiltins "tuple" = some (.type "tuple") := by decide +kernel
theorem bb_bool : bootBuiltins "bool" = some (.type "bool") := by decide +kernel
theorem bb_str : bootBuiltins "str" = some (.type "str") := by decide +kernel
theorem bb_dict : bootBuiltins "dict" = some (.type "dict") := by decide +kernel
theorem bb_isi : bootBuiltins "isinstance" = some (.builtin "isinstance") := by decide +kernel
section
variable {e : Expr} {es : List Expr} {p : Pos} {t : TA} {m : En → RP (List D)}
theorem cp_len (c : Cc P w K mg base W X k) (hm : mg "len" = none) (ha : CAP K mg W X (e :: es) t m) (hg : Gl X "len" := by rfl) (he : starEach (e :: es) X.env = (false, eval e X.env) :: starEach es X.env := by rfl) (hpl : (backTo pos (starEach es X.env)).any (·.1) = false := by rfl) : CP K mg W X (.Call (.Name "len" p) (e :: es) [] pos) (tCB (rLenU K) t) (pN dLen m) := cp_callB c (cr_lenU c) n_len hm PySem.boot_len ha hg (by decide) (by decide) he hpl
theorem cp_abs (c : Cc P w K mg base W X k) (hm : mg "abs" = none) (ha : CAP K mg W X (e :: es) t m) (hg : Gl X "abs" := by rfl) (he : starEach (e :: es) X.env = (false, eval e X.env) :: starEach es X.env := by rfl) (hpl : (backTo pos (starEach es X.env)).any (·.1) = false := by rfl) : CP K mg W X (.Call (.Name "abs" p) (e :: es) [] pos) (tCB rAbs t) (pN dAbs m) := cp_callB c call_abs n_abs hm bb_abs ha hg (by decide) (by decide) he hpl
theorem cp_min2 (c : Cc P w K mg base W X k) (hm : mg "min" = none) (ha : CAP K mg W X (e :: es) t m) (hg : Gl X "min" := by rfl) (he : starEach (e :: es) X.env = (false, eval e X.env) :: starEach es X.env := by rfl) (hpl : (backTo pos (starEach es X.env)).any (·.1) = false := by rfl) : CP K mg W X (.Call (.Name "min" p) (e :: es) [] pos) (tCB rMin2 t) (pN dMin2 m) := cp_callB c (call_min2 c.calm) n_min2 hm bb_min ha hg (by decide) (by decide) he hpl
theorem cp_max2 (c : Cc P w K mg base W X k) (hm : mg "max" = none) (ha : CAP K mg W X (e :: es) t m) (hg : Gl X "max" := by rfl) (he : starEach (e :: es) X.env = (false, eval e X.env) :: starEach es X.env := by rfl) (hpl : (backTo pos (starEach es X.env)).any (·.1) = false := by rfl) : CP K mg W X (.Call (.Name "max" p) (e :: es) [] pos) (tCB rMax2 t) (pN dMax2 m) := cp_callB c (call_max2 c.calm) n_max2 hm bb_max ha hg (by decide) (by decide) he hpl
theorem cp_toint (c : Cc P w K mg base W X k) (hm : mg "int" = none) (ha : CAP K mg W X (e :: es) t m) (hg : Gl X "int" := by rfl) (he : starEach (e :: es) X.env = (false, eval e X.env) :: starEach es X.env := by rfl) (hpl : (backTo pos (starEach es X.env)).any (·.1) = false := by rfl) : CP K mg W X (.Call (.Name "int" p) (e :: es) [] pos) (tCB rInt1 t) (pN dInt m) := cp_callT c call_int1 n_int hm bb_int ha hg (by decide) (by decide) he hpl
end
/-- isinstance(a, T) -/
theorem cp_isi (c : Cc P w K mg base W X k) (T : String) {x : Str} {p q : Pos} (hm : mg "isinstance" = none) (hmT : mg x = none) (hv : bootBuiltins x = some (.type T)) (ha : CP K mg W X a ta ma) (hg : Gl X "isinstance" := by rfl) (hgT : Gl X x := by rfl) (hn : x ≠ "__name__" := by decide)
    (hdb : (x == ("__debug__" : Str)) = false := by decide) (he : starEach [a, .Name x q] X.env = (false, eval a X.env) :: starEach [.Name x q] X.env := by rfl) (he2 : starEach [.Name x q] X.env = (false, eval (.Name x q) X.env) :: starEach [] X.env := by rfl) (hpl : (backTo pos (starEach [.Name x q] X.env)).any (·.1) = false := by rfl) :
    CP K mg W X (.Call (.Name "isinstance" p) [a, .Name x q] [] pos) (tCB (rIsB K T) (tCons ta (tCons (tC (.ty T)) tNil))) (p1 (dIsi T) ma) :=
  ⟨pe_callB (by have := call_isB (X := X) T; rw [c.K] at this; exact this) hg (by rw [c.mg]; exact hm) bb_isi (pa_cons ha.1 (pa_cons (pe_bltn hgT (by rw [c.mg]; exact hmT) hv (show RelV (.ty T) (.type T) from rfl) hn hdb) pa_nil he2) he) (by decide) (by decide) he hpl, evp_isi ha.2⟩
/-! ### pure tests -/
variable {ua ub : TT} {na nb : En → RP Bool} {rest : List Expr}
theorem ctp_val (h : CP K mg W X a ta ma) (he : ∀ whole, isTrue a X.env whole = (do let v ← whole; standAt a.pos; holding [v] (truthy v)) := by intro _; rfl) : CTP K mg W X a (tB ta) (qB ma) := ⟨pt_val h.1 he, evtp_B h.2⟩
theorem ctp_cmp {op : CmpOp} {r : R2} {f : D → D → Option D} (ho : OpR X (compareOp op) r) (o : Op2 K r f) (ha : CP K mg W X a ta ma) (hb : CP K mg W X b tb mb) (hm : behindInMarks op b = false := by first | exact nomark _ | rfl) :
    CTP K mg W X (.Compare a [op] [b] pos) (tTest (tOp r ta tb)) (qB (p2 f ma mb)) := ⟨pt_cmpR ho ha.1 hb.1 hm, evtp_test (evp_op o ha.2 hb.2)⟩
theorem ctp_lt (ha : CP K mg W X a ta ma) (hb : CP K mg W X b tb mb) : CTP K mg W X (.Compare a [.Lt] [b] pos) (tTest (tOp (rI0 fun i j => .bl (decide (i < j))) ta tb)) (qB (p2 dLt ma mb)) := ctp_cmp op_lt o_lt ha hb
theorem ctp_le (ha : CP K mg W X a ta ma) (hb : CP K mg W X b tb mb) : CTP K mg W X (.Compare a [.LtE] [b] pos) (tTest (tOp (rI0 fun i j => .bl (decide (i ≤ j))) ta tb)) (qB (p2 dLe ma mb)) := ctp_cmp op_le o_le ha hb
theorem ctp_gt (ha : CP K mg W X a ta ma) (hb : CP K mg W X b tb mb) : CTP K mg W X (.Compare a [.Gt] [b] pos) (tTest (tOp (rI0 fun i j => .bl (decide (j < i))) ta tb)) (qB (p2 dGt ma mb)) := ctp_cmp op_gt o_gt ha hb
theorem ctp_ge (ha : CP K mg W X a ta ma) (hb : CP K mg W X b tb mb) : CTP K mg W X (.Compare a [.GtE] [b] pos) (tTest (tOp (rI0 fun i j => .bl (decide (j ≤ i))) ta tb)) (qB (p2 dGe ma mb)) := ctp_cmp op_ge o_ge ha hb
theorem ctp_eq (c : Cc P w K mg base W X k) (ha : CP K mg W X a ta ma) (hb : CP K mg W X b tb mb) : CTP K mg W X (.Compare a [.Eq] [b] pos) (tTest (tOp (rEqD K) ta tb)) (qB (p2 dEq ma mb)) := ctp_cmp (by have := op_eqD c.un; rw [c.K] at this; exact this) o_eq ha hb
theorem ctp_ne (c : Cc P w K mg base W X k) (ha : CP K mg W X a ta ma) (hb : CP K mg W X b tb mb) : CTP K mg W X (.Compare a [.NotEq] [b] pos) (tTest (tOp (rNeD K) ta tb)) (qB (p2 dNe ma mb)) := ctp_cmp (by have := op_neD c.un; rw [c.K] at this; exact this) o_ne ha hb
theorem ctp_isN (ha : CP K mg W X a ta ma) (hb : CP K mg W X b tb mb) : CTP K mg W X (.Compare a [.Is] [b] pos) (tTest (tOp (fun x y H Q => y = .non ∧ Q (.bl (decide (x = .non))) H) ta tb)) (qB (p2 dIsN ma mb)) := ctp_cmp op_isN o_isN ha hb
theorem ctp_notN (ha : CP K mg W X a ta ma) (hb : CP K mg W X b tb mb) : CTP K mg W X (.Compare a [.IsNot] [b] pos) (tTest (tOp (fun x y H Q => y = .non ∧ Q (.bl (!decide (x = .non))) H) ta tb)) (qB (p2 dNotN ma mb)) := ctp_cmp op_notN o_notN ha hb
theorem ctp_w {e : Expr} (h : CTPW K mg W X e ua na) : CTP K mg W X e ua na := ⟨h.1.pt, h.2⟩
theorem ctpw_and1 (h : CTP K mg W X a ua na) : CTPW K mg W X (.BoolOp .And [a] pos) ua na := ⟨pw_and1 h.1, h.2⟩
theorem ctpw_or1 (h : CTP K mg W X a ua na) : CTPW K mg W X (.BoolOp .Or [a] pos) ua na := ⟨pw_or1 h.1, h.2⟩
theorem ctpw_and (ha : CTP K mg W X a ua na) (hb : CTPW K mg W X (.BoolOp .And (b :: rest) pos) ub nb) : CTPW K mg W X (.BoolOp .And (a :: b :: rest) pos) (tAnd ua ub) (qAnd na nb) := ⟨pw_and ha.1 hb.1, evtp_and ha.2 hb.2⟩
theorem ctpw_or (ha : CTP K mg W X a ua na) (hb : CTPW K mg W X (.BoolOp .Or (b :: rest) pos) ub nb) : CTPW K mg W X (.BoolOp .Or (a :: b :: rest) pos) (tOr ua ub) (qOr na nb) := ⟨pw_or ha.1 hb.1, evtp_or ha.2 hb.2⟩
theorem ctp_not (ha : CTP K mg W X a ua na) : CTP K mg W X (.UnaryOp .Not a pos) (tNot ua) (qNot na) := ⟨pt_not ha.1, evtp_not ha.2⟩
theorem cp_if {cn : Expr} (hc : CTP K mg W X cn ua na) (ha : CP K mg W X a ta ma) (hb : CP K mg W X b tb mb) : CP K mg W X (.IfExp cn a b pos) (tIf ua ta tb) (pIf na ma mb) := ⟨pe_ifExp hc.1 ha.1 hb.1, evp_if hc.2 ha.2 hb.2⟩
end
/-! ### that stay -/
section
variable {P : Program} {w : World} {K : PySem.W.Frag} {mg : Str → Option Value} {base : Heap} {W : WX} {X : Cx} {k : Nat} {a b : Expr} {ta tb tq : TE} {ma mb : En → Res D} {pos : Pos} {ua ub : TT} {na nb : En → Res Bool} {rest : List Expr}
theorem ce_p {m : En → RP D} (h : CP K mg W X a ta m) : CE K mg W X a ta (liftP m) := ⟨h.1, eve_p h.2⟩
theorem ct_p {m : En → RP Bool} (h : CTP K mg W X a ua m) : CT K mg W X a ua (liftT m) := ⟨h.1, evt_p h.2⟩
theorem ce_f {m : En → Res MO} (h : CF K mg W X a ta m) : CE K mg W X a ta (eOfF m) := ⟨h.1, eve_f h.2⟩
theorem ce_w {m : En → Res Ret} (h : CW K mg W X a ta m) : CE K mg W X a ta (eOfW m) := ⟨h.1, eve_w h.2⟩
theorem cf_w {m : En → Res Ret} (h : CW K mg W X a ta m) : CF K mg W X a ta (fOfW m) := ⟨h.1, evf_w h.2⟩
theorem cc_f {m : En → Res MO} (h : CF K mg W X a ta m) : CC K mg W X a ta (cOfF m) := ⟨h.1, evc_f h.2⟩
theorem cc_e {m : En → Res D} (h : CE K mg W X a ta m) : CC K mg W X a ta (cOfE m) := ⟨h.1, evc_e h.2⟩
section
variable (i : Nat) {x : Str} (hN : X.N[i]? = some x := by rfl) (hv : Vis X.env.scope x := by first | exact Or.inl rfl | exact Or.inr (Or.inl rfl) | exact Or.inr (Or.inr rfl)) (h1 : (x == ("__debug__" : Str)) = false := by decide) (h2 : (x == ("__classdict__" : Str)) = false := by decide)
include hN hv h1 h2
theorem ce_var : CE K mg W X (.Name x pos) (tVar i) (eVar i) := ⟨pe_var hN hv h1 h2, eve_var⟩
theorem cc_var : CC K mg W X (.Name x pos) (tVar i) (cVar i) := ⟨pe_var hN hv h1 h2, evc_var⟩
theorem ck_var : CK K mg W X (.Name x pos) (tVar i) (kVar i) := ⟨pe_var hN hv h1 h2, evk_var⟩
theorem cq_var : CQ K i X (.Name x pos) (tVar i) qVar := ⟨pe_var hN hv h1 h2, evq_var⟩
end
theorem ce_op {op : Operator} {r : R2} {f : D → D → Option D} (ho : OpR X (binaryOp op) r) (o : Op2 K r f) (ha : CE K mg W X a ta ma) (hb : CE K mg W X b tb mb) : CE K mg W X (.BinOp a op b pos) (tOp r ta tb) (e2 f ma mb) := ⟨pe_op ho ha.1 hb.1, eve_op o ha.2 hb.2⟩
theorem ce_add (ha : CE K mg W X a ta ma) (hb : CE K mg W X b tb mb) : CE K mg W X (.BinOp a .Add b pos) (tOp rAddU ta tb) (e2 dAdd ma mb) := ce_op op_addU o_add ha hb
theorem ce_sub (ha : CE K mg W X a ta ma) (hb : CE K mg W X b tb mb) : CE K mg W X (.BinOp a .Sub b pos) (tOp (rI0 fun i j => .int (i - j)) ta tb) (e2 dSub ma mb) := ce_op op_sub o_sub ha hb
theorem ce_mul (ha : CE K mg W X a ta ma) (hb : CE K mg W X b tb mb) : CE K mg W X (.BinOp a .Mult b pos) (tOp rMulU ta tb) (e2 dMul ma mb) := ce_op op_mulU o_mul ha hb
theorem ce_fdiv (ha : CE K mg W X a ta ma) (hb : CE K mg W X b tb mb) : CE K mg W X (.BinOp a .FloorDiv b pos) (tOp (rI CDivW fun i j => .int (i / j)) ta tb) (e2 dFdiv ma mb) := ce_op op_fdivW o_fdiv ha hb
theorem ce_mod (ha : CE K mg W X a ta ma) (hb : CE K mg W X b tb mb) : CE K mg W X (.BinOp a .Mod b pos) (tOp (rI (fun _ j => 0 < j) fun i j => .int (i % j)) ta tb) (e2 dMod ma mb) := ce_op op_mod o_mod ha hb
theorem ce_pow (ha : CE K mg W X a ta ma) (hb : CE K mg W X b tb mb) : CE K mg W X (.BinOp a .Pow b pos) (tOp (rI CPow fun i j => .int (i ^ j.toNat)) ta tb) (e2 dPow ma mb) := ce_op op_pow o_pow ha hb
theorem ce_neg (ha : CE K mg W X a ta ma) : CE K mg W X (.UnaryOp .USub a pos) (tUn (rU fun i => .int (-i)) ta) (e1 dNeg ma) := ⟨pe_un un_neg ha.1, eve_un o_neg ha.2⟩
theorem ce_cmp {op : CmpOp} {r : R2} {f : D → D → Option D} (ho : OpR X (compareOp op) r) (o : Op2 K r f) (ha : CE K mg W X a ta ma) (hb : CE K mg W X b tb mb) (hm : behindInMarks op b = false := by first | exact nomark _ | rfl) :
    CE K mg W X (.Compare a [op] [b] pos) (tOp r ta tb) (e2 f ma mb) := ⟨pe_cmpR ho ha.1 hb.1 hm, eve_op o ha.2 hb.2⟩
theorem ct_cmp {op : CmpOp} {r : R2} {f : D → D → Option D} (ho : OpR X (compareOp op) r) (o : Op2 K r f) (ha : CE K mg W X a ta ma) (hb : CE K mg W X b tb mb) (hm : behindInMarks op b = false := by first | exact nomark _ | rfl) :
    CT K mg W X (.Compare a [op] [b] pos) (tTest (tOp r ta tb)) (tBm (e2 f ma mb)) := ⟨pt_cmpR ho ha.1 hb.1 hm, evt_B (eve_op o ha.2 hb.2)⟩
theorem ce_lt (ha : CE K mg W X a ta ma) (hb : CE K mg W X b tb mb) : CE K mg W X (.Compare a [.Lt] [b] pos) (tOp (rI0 fun i j => .bl (decide (i < j))) ta tb) (e2 dLt ma mb) := ce_cmp op_lt o_lt ha hb
theorem ce_le (ha : CE K mg W X a ta ma) (hb : CE K mg W X b tb mb) : CE K mg W X (.Compare a [.LtE] [b] pos) (tOp (rI0 fun i j => .bl (decide (i ≤ j))) ta tb) (e2 dLe ma mb) := ce_cmp op_le o_le ha hb
theorem ce_gt (ha : CE K mg W X a ta ma) (hb : CE K mg W X b tb mb) : CE K mg W X (.Compare a [.Gt] [b] pos) (tOp (rI0 fun i j => .bl (decide (j < i))) ta tb) (e2 dGt ma mb) := ce_cmp op_gt o_gt ha hb
theorem ce_ge (ha : CE K mg W X a ta ma) (hb : CE K mg W X b tb mb) : CE K mg W X (.Compare a [.GtE] [b] pos) (tOp (rI0 fun i j => .bl (decide (j ≤ i))) ta tb) (e2 dGe ma mb) := ce_cmp op_ge o_ge ha hb
theorem ce_eq (c : Cc P w K mg base W X k) (ha : CE K mg W X a ta ma) (hb : CE K mg W X b tb mb) : CE K mg W X (.Compare a [.Eq] [b] pos) (tOp (rEqD K) ta tb) (e2 dEq ma mb) := ce_cmp (by have := op_eqD c.un; rw [c.K] at this; exact this) o_eq ha hb
theorem ce_ne (c : Cc P w K mg base W X k) (ha : CE K mg W X a ta ma) (hb : CE K mg W X b tb mb) : CE K mg W X (.Compare a [.NotEq] [b] pos) (tOp (rNeD K) ta tb) (e2 dNe ma mb) := ce_cmp (by have := op_neD c.un; rw [c.K] at this; exact this) o_ne ha hb
theorem ct_lt (ha : CE K mg W X a ta ma) (hb : CE K mg W X b tb mb) : CT K mg W X (.Compare a [.Lt] [b] pos) (tTest (tOp (rI0 fun i j => .bl (decide (i < j))) ta tb)) (tBm (e2 dLt ma mb)) := ct_cmp op_lt o_lt ha hb
theorem ct_le (ha : CE K mg W X a ta ma) (hb : CE K mg W X b tb mb) : CT K mg W X (.Compare a [.LtE] [b] pos) (tTest (tOp (rI0 fun i j => .bl (decide (i ≤ j))) ta tb)) (tBm (e2 dLe ma mb)) := ct_cmp op_le o_le ha hb
theorem ct_gt (ha : CE K mg W X a ta ma) (hb : CE K mg W X b tb mb) : CT K mg W X (.Compare a [.Gt] [b] pos) (tTest (tOp (rI0 fun i j => .bl (decide (j < i))) ta tb)) (tBm (e2 dGt ma mb)) := ct_cmp op_gt o_gt ha hb
theorem ct_ge (ha : CE K mg W X a ta ma) (hb : CE K mg W X b tb mb) : CT K mg W X (.Compare a [.GtE] [b] pos) (tTest (tOp (rI0 fun i j => .bl (decide (j ≤ i))) ta tb)) (tBm (e2 dGe ma mb)) := ct_cmp op_ge o_ge ha hb
theorem ct_eq (c : Cc P w K mg base W X k) (ha : CE K mg W X a ta ma) (hb : CE K mg W X b tb mb) : CT K mg W X (.Compare a [.Eq] [b] pos) (tTest (tOp (rEqD K) ta tb)) (tBm (e2 dEq ma mb)) := ct_cmp (by have := op_eqD c.un; rw [c.K] at this; exact this) o_eq ha hb
theorem ct_ne (c : Cc P w K mg base W X k) (ha : CE K mg W X a ta ma) (hb : CE K mg W X b tb mb) : CT K mg W X (.Compare a [.NotEq] [b] pos) (tTest (tOp (rNeD K) ta tb)) (tBm (e2 dNe ma mb)) := ct_cmp (by have := op_neD c.un; rw [c.K] at this; exact this) o_ne ha hb
theorem ce_one {op : BoolOp} (ha : CE K mg W X a ta ma) : CE K mg W X (.BoolOp op [a] pos) ta ma := ⟨pe_one ha.1, ha.2⟩
theorem ce_and (ha : CE K mg W X a ta ma) (hb : CE K mg W X (.BoolOp .And (b :: rest) pos) tb mb) : CE K mg W X (.BoolOp .And (a :: b :: rest) pos) (tAndV ta tb) (eAnd ma mb) := ⟨pe_and ha.1 hb.1, eve_and ha.2 hb.2⟩
theorem ce_or (ha : CE K mg W X a ta ma) (hb : CE K mg W X (.BoolOp .Or (b :: rest) pos) tb mb) : CE K mg W X (.BoolOp .Or (a :: b :: rest) pos) (tOrV ta tb) (eOr ma mb) := ⟨pe_or ha.1 hb.1, eve_or ha.2 hb.2⟩
theorem ce_not (ha : CE K mg W X a ta ma) : CE K mg W X (.UnaryOp .Not a pos) (tNotV ta) (e1 dNot ma) := ⟨pe_not ha.1, eve_not ha.2⟩
theorem ct_val (h : CE K mg W X a ta ma) (he : ∀ whole, isTrue a X.env whole = (do let v ← whole; standAt a.pos; holding [v] (truthy v)) := by intro _; rfl) : CT K mg W X a (tB ta) (tBm ma) := ⟨pt_val h.1 he, evt_B h.2⟩
theorem ct_w {e : Expr} (h : CTW K mg W X e ua na) : CT K mg W X e ua na := ⟨h.1.pt, h.2⟩
theorem ctw_and1 (h : CT K mg W X a ua na) : CTW K mg W X (.BoolOp .And [a] pos) ua na := ⟨pw_and1 h.1, h.2⟩
theorem ctw_or1 (h : CT K mg W X a ua na) : CTW K mg W X (.BoolOp .Or [a] pos) ua na := ⟨pw_or1 h.1, h.2⟩
theorem ctw_and (ha : CT K mg W X a ua na) (hb : CTW K mg W X (.BoolOp .And (b :: rest) pos) ub nb) : CTW K mg W X (.BoolOp .And (a :: b :: rest) pos) (tAnd ua ub) (tAndm na nb) := ⟨pw_and ha.1 hb.1, evt_and ha.2 hb.2⟩
theorem ctw_or (ha : CT K mg W X a ua na) (hb : CTW K mg W X (.BoolOp .Or (b :: rest) pos) ub nb) : CTW K mg W X (.BoolOp .Or (a :: b :: rest) pos) (tOr ua ub) (tOrm na nb) := ⟨pw_or ha.1 hb.1, evt_or ha.2 hb.2⟩
theorem ct_not (ha : CT K mg W X a ua na) : CT K mg W X (.UnaryOp .Not a pos) (tNot ua) (tNotm na) := ⟨pt_not ha.1, evt_not ha.2⟩
theorem ce_if {cn : Expr} (hc : CT K mg W X cn ua na) (ha : CE K mg W X a ta ma) (hb : CE K mg W X b tb mb) : CE K mg W X (.IfExp cn a b pos) (tIf ua ta tb) (eIf na ma mb) := ⟨pe_ifExp hc.1 ha.1 hb.1, eve_if hc.2 ha.2 hb.2⟩
theorem cv_nil : CV K mg W X [] tNil vNil := ⟨pa_nil, evv_nil⟩
theorem cv_cons {es : List Expr} {t : TA} {m : En → Res (List D)} (ha : CE K mg W X a ta ma) (hr : CV K mg W X es t m) (hs : starEach (a :: es) X.env = (false, eval a X.env) :: starEach es X.env := by rfl) : CV K mg W X (a :: es) (tCons ta t) (vCons ma m) := ⟨pa_cons ha.1 hr.1 hs, evv_cons ha.2 hr.2⟩
theorem ce_tup {es : List Expr} {x1} {t : TA} {m : En → Res (List D)} (h : CV K mg W X es t m) : CE K mg W X (.Tuple es x1 pos) (tTup t) (eTup m) := ⟨pe_tup h.1, eve_tup h.2⟩
theorem cf_lst {es : List Expr} {t : TA} {m : En → Res (List D)} (h : CV K mg W X es t m) : CF K mg W X (.List es pos) (tLst t) (fLst m) := ⟨pe_lst h.1, evf_lst h.2⟩
theorem ca_nil : CA K mg W X [] tNil aNil := ⟨pa_nil, eva_nil⟩
theorem ca_v {es : List Expr} {t : TA} {m : En → Res (List Ar)} (ha : CE K mg W X a ta ma) (hr : CA K mg W X es t m) (hs : starEach (a :: es) X.env = (false, eval a X.env) :: starEach es X.env := by rfl) : CA K mg W X (a :: es) (tCons ta t) (aV ma m) := ⟨pa_cons ha.1 hr.1 hs, eva_v ha.2 hr.2⟩
theorem ca_s (i : Nat) {x : Str} {es : List Expr} {t : TA} {m : En → Res (List Ar)} (hr : CA K mg W X es t m) (hN : X.N[i]? = some x := by rfl) (hv : Vis X.env.scope x := by first | exact Or.inl rfl | exact Or.inr (Or.inl rfl) | exact Or.inr (Or.inr rfl)) (h1 : (x == ("__debug__" : Str)) = false := by decide)
    (h2 : (x == ("__classdict__" : Str)) = false := by decide) (hs : starEach (.Name x pos :: es) X.env = (false, eval (.Name x pos) X.env) :: starEach es X.env := by rfl) : CA K mg W X (.Name x pos :: es) (tCons (tVar i) t) (aS i m) := ⟨pa_cons (pe_var hN hv h1 h2) hr.1 hs, eva_s hr.2⟩
theorem cr_nil : CR K mg W X [] tNil rNil := ⟨pa_nil, evr_nil⟩
theorem cr_e {es : List Expr} {t : TA} {m : En → Res (List D)} (ha : CE K mg W X a ta ma) (hr : CR K mg W X es t m) (hs : starEach (a :: es) X.env = (false, eval a X.env) :: starEach es X.env := by rfl) : CR K mg W X (a :: es) (tCons ta t) (rE ma m) := ⟨pa_cons ha.1 hr.1 hs, evr_e ha.2 hr.2⟩
theorem cr_f {es : List Expr} {t : TA} {mf : En → Res MO} {m : En → Res (List D)} (ha : CF K mg W X a ta mf) (hr : CR K mg W X es t m) (hs : starEach (a :: es) X.env = (false, eval a X.env) :: starEach es X.env := by rfl) : CR K mg W X (a :: es) (tCons ta t) (rF mf m) := ⟨pa_cons ha.1 hr.1 hs, evr_f ha.2 hr.2⟩
theorem ce_ix (c : Cc P w K mg base W X k) (ha : CE K mg W X a ta ma) (hb : CE K mg W X b tb mb) (hs : PlainIx b := by intro _ _; rfl) : CE K mg W X (.Subscript a b pos) (tOp (rIx K) ta tb) (eIx ma mb) :=
  ⟨pe_ix (by have := ix_seq (X := X); rw [c.K] at this; exact this) ha.1 hb.1 hs, eve_ix ha.2 hb.2⟩
theorem ce_ixC (c : Cc P w K mg base W X k) {mc : En → Res (Bool × List D)} {mp : En → RP D} (ha : CC K mg W X a ta mc) (hb : CP K mg W X b tb mp) (hs : PlainIx b := by intro _ _; rfl) : CE K mg W X (.Subscript a b pos) (tOp (rIx K) ta tb) (cIx mc mp) :=
  ⟨pe_ix (by have := ix_seq (X := X); rw [c.K] at this; exact this) ha.1 hb.1 hs, eve_ixC ha.2 hb.2⟩
theorem cq_ix (c : Cc P w K mg base W X k) {i : Nat} {kk : Int} {j} {p : Pos} {m : D → Option D} (ha : CQ K i X a ta m) (hs : PlainIx (.Constant (.int kk) j p) := by intro _ _; rfl) : CQ K i X (.Subscript a (.Constant (.int kk) j p) pos) (tOp (rIx K) ta (tC (.int kk))) (qIx kk m) :=
  ⟨pe_ix (by have := ix_seq (X := X); rw [c.K] at this; exact this) ha.1 pe_int hs, evq_ix ha.2⟩
/-! ### built-ins of one container -/
theorem ce_cs (c : Cc P w K mg base W X k) {id : String} {x : Str} {p : Pos} {r : List V → Hp → VK → Prop} {f : Bool → List D → Option D} {mc : En → Res (Bool × List D)} (hc : CallR X (.builtin id) r) (o : OpCs K r f) (hm : mg x = none) (hv : bootBuiltins x = some (.builtin id)) (ha : CC K mg W X a ta mc)
    (hg : Gl X x := by rfl) (hn : x ≠ "__name__" := by decide) (hdb : (x == ("__debug__" : Str)) = false := by decide) (he : starEach [a] X.env = (false, eval a X.env) :: starEach [] X.env := by rfl) (hpl : (backTo pos (starEach [] X.env)).any (·.1) = false := by rfl) :
    CE K mg W X (.Call (.Name x p) [a] [] pos) (tCB r (tCons ta tNil)) (cS f mc) := ⟨pe_callB hc hg (by rw [c.mg]; exact hm) hv (pa_cons ha.1 pa_nil he) hn hdb he hpl, eve_cs o ha.2⟩
section
variable {p : Pos} {mc : En → Res (Bool × List D)} (c : Cc P w K mg base W X k) (ha : CC K mg W X a ta mc)
include c ha
theorem ce_sum (hm : mg "sum" = none) (hg : Gl X "sum" := by rfl) (he : starEach [a] X.env = (false, eval a X.env) :: starEach [] X.env := by rfl) (hpl : (backTo pos (starEach [] X.env)).any (·.1) = false := by rfl) : CE K mg W X (.Call (.Name "sum" p) [a] [] pos) (tCB (rSum K) (tCons ta tNil)) (cS sSum mc) := ce_cs c (by have := cr_sum c.calm; rw [c.K] at this; exact this) cs_sum hm bb_sum ha hg (by decide) (by decide) he hpl
theorem ce_max (hm : mg "max" = none) (hg : Gl X "max" := by rfl) (he : starEach [a] X.env = (false, eval a X.env) :: starEach [] X.env := by rfl) (hpl : (backTo pos (starEach [] X.env)).any (·.1) = false := by rfl) : CE K mg W X (.Call (.Name "max" p) [a] [] pos) (tCB (rMax K) (tCons ta tNil)) (cS sMax mc) := ce_cs c (by have := cr_max c.calm; rw [c.K] at this; exact this) cs_max hm bb_max ha hg (by decide) (by decide) he hpl
theorem ce_min (hm : mg "min" = none) (hg : Gl X "min" := by rfl) (he : starEach [a] X.env = (false, eval a X.env) :: starEach [] X.env := by rfl) (hpl : (backTo pos (starEach [] X.env)).any (·.1) = false := by rfl) : CE K mg W X (.Call (.Name "min" p) [a] [] pos) (tCB (rMin K) (tCons ta tNil)) (cS sMin mc) := ce_cs c (by have := cr_min c.calm; rw [c.K] at this; exact this) cs_min hm bb_min ha hg (by decide) (by decide) he hpl
theorem ce_lenC (hm : mg "len" = none) (hg : Gl X "len" := by rfl) (he : starEach [a] X.env = (false, eval a X.env) :: starEach [] X.env := by rfl) (hpl : (backTo pos (starEach [] X.env)).any (·.1) = false := by rfl) : CE K mg W X (.Call (.Name "len" p) [a] [] pos) (tCB (rLenU K) (tCons ta tNil)) (cS sLen mc) := ce_cs c (cr_lenU c) cs_len hm PySem.boot_len ha hg (by decide) (by decide) he hpl
theorem cf_sortI (hm : mg "sorted" = none) (hg : Gl X "sorted" := by rfl) (he : starEach [a] X.env = (false, eval a X.env) :: starEach [] X.env := by rfl) (hpl : (backTo pos (starEach [] X.env)).any (·.1) = false := by rfl) : CF K mg W X (.Call (.Name "sorted" p) [a] [] pos) (tCB (rSortedI K) (tCons ta tNil)) (cL lSortI mc) :=
  ⟨pe_callB (by have := cr_sortedI (X := X); rw [c.K] at this; exact this) hg (by rw [c.mg]; exact hm) bb_sorted (pa_cons ha.1 pa_nil he) (by decide) (by decide) he hpl, evf_cl cl_sortI ha.2⟩
theorem cf_sortP (hm : mg "sorted" = none) (hg : Gl X "sorted" := by rfl) (he : starEach [a] X.env = (false, eval a X.env) :: starEach [] X.env := by rfl) (hpl : (backTo pos (starEach [] X.env)).any (·.1) = false := by rfl) : CF K mg W X (.Call (.Name "sorted" p) [a] [] pos) (tCB (rSortedPO K) (tCons ta tNil)) (cL lSortP mc) :=
  ⟨pe_callB (by have := cr_sortedPO (X := X); rw [c.K] at this; exact this) hg (by rw [c.mg]; exact hm) bb_sorted (pa_cons ha.1 pa_nil he) (by decide) (by decide) he hpl, evf_cl cl_sortP ha.2⟩
theorem cf_list (hm : mg "list" = none) (hg : Gl X "list" := by rfl) (he : starEach [a] X.env = (false, eval a X.env) :: starEach [] X.env := by rfl) (hpl : (backTo pos (starEach [] X.env)).any (·.1) = false := by rfl) : CF K mg W X (.Call (.Name "list" p) [a] [] pos) (tCB (rListU K) (tCons ta tNil)) (cL lAll mc) :=
  ⟨pe_callTy (by have := call_list_of (X := X); rw [c.K] at this; exact this) hg (by rw [c.mg]; exact hm) bb_list (pa_cons ha.1 pa_nil he) (by decide) (by decide) he hpl, evf_cl cl_list ha.2⟩
end
theorem co_no : CO K mg W X none tNoPart oNo := ⟨po_none, evo_no⟩
theorem co_i {m : En → RP D} (h : CP K mg W X a ta m) : CO K mg W X (some a) (tPart ta) (oI m) := ⟨po_some h.1, evo_i h.2⟩
theorem cf_cut (c : Cc P w K mg base W X k) {lo hi : Option Expr} {p2 : Pos} {tl th : TO} {mc : En → Res (Bool × List D)} {ml mh : En → RP (Option Int)} (ha : CC K mg W X a ta mc) (hl : CO K mg W X lo tl ml) (hh : CO K mg W X hi th mh) :
    CF K mg W X (.Subscript a (.Slice lo hi none p2) pos) (tSl (rSlL K) ta tl th) (fCut mc ml mh) := ⟨pe_slice (by have := sl_list (X := X); rw [c.K] at this; exact this) ha.1 hl.1 hh.1, evf_cut ha.2 hl.2 hh.2⟩
theorem ck_lst {es : List Expr} {t : TA} {m : En → RP (List D)} (h : CAP K mg W X es t m) : CK K mg W X (.List es pos) (tLst t) (kLst m) := ⟨pe_lst h.1, evk_lst h.2⟩
theorem ck_rep {mk : En → RP (List D)} {mp : En → RP D} (ha : CK K mg W X a ta mk) (hb : CP K mg W X b tb mp) : CK K mg W X (.BinOp a .Mult b pos) (tOp rRep ta tb) (kRep mk mp) := ⟨pe_op op_rep ha.1 hb.1, evk_rep ha.2 hb.2⟩
theorem ck_cat {mk mk' : En → RP (List D)} (ha : CK K mg W X a ta mk) (hb : CK K mg W X b tb mk') : CK K mg W X (.BinOp a .Add b pos) (tOp rCat ta tb) (kCat mk mk') := ⟨pe_op op_cat ha.1 hb.1, evk_cat ha.2 hb.2⟩
theorem ck_cut (c : Cc P w K mg base W X k) {lo hi : Option Expr} {p2 : Pos} {tl th : TO} {mk : En → RP (List D)} {ml mh : En → RP (Option Int)} (ha : CK K mg W X a ta mk) (hl : CO K mg W X lo tl ml) (hh : CO K mg W X hi th mh) :
    CK K mg W X (.Subscript a (.Slice lo hi none p2) pos) (tSl (rSlL K) ta tl th) (kCut mk ml mh) := ⟨pe_slice (by have := sl_list (X := X); rw [c.K] at this; exact this) ha.1 hl.1 hh.1, evk_cut ha.2 hl.2 hh.2⟩
theorem cf_rep {mk : En → RP (List D)} {mp : En → RP D} (ha : CK K mg W X a ta mk) (hb : CP K mg W X b tb mp) : CF K mg W X (.BinOp a .Mult b pos) (tOp rRep ta tb) (fOfK (kRep mk mp)) := ⟨pe_op op_rep ha.1 hb.1, evf_rep ha.2 hb.2⟩
theorem cf_cat {mk mk' : En → RP (List D)} (ha : CK K mg W X a ta mk) (hb : CK K mg W X b tb mk') : CF K mg W X (.BinOp a .Add b pos) (tOp rCat ta tb) (fOfK (kCat mk mk')) := ⟨pe_op op_cat ha.1 hb.1, evf_cat ha.2 hb.2⟩
/-! ### calls -/
end
/-- a def that is known: it computes mf -/
structure CalM (P : Program) (w : World) (K : PySem.W.Frag) (mg : Str → Option Value) (base : Heap) (k : Nat) (x : Str) (mf : En → RD) : Prop where
  ex : ∃ (f : Addr) (fd : FuncData) (ps : List Str), FnOk P w K mg base (L2.CX P w) k f fd ps (SpM K mg mf) ∧ mg x = some (.ref f) ∧ PySem.W.keepIn K (.ref f) = true ∧ Binds K fd ps []
section
variable {P : Program} {w : World} {K : PySem.W.Frag} {mg : Str → Option Value} {base : Heap} {W : WX} {X : Cx} {k j : Nat} {a e : Expr} {es : List Expr} {ta te : TE} {pos p : Pos} {t : TA} {x : Str} {mf : En → RD}
theorem pe_calM (c : Cc P w K mg base W X k) (F : CalM P w K mg base j x mf) (hj : j ≤ k) (ha : PA X (e :: es) t) (hg : Gl X x) (hdb : (x == ("__debug__" : Str)) = false) (he : starEach (e :: es) X.env = (false, eval e X.env) :: starEach es X.env) (hpl : (backTo pos (starEach es X.env)).any (·.1) = false) :
    PE X (.Call (.Name x p) (e :: es) [] pos) (tCallS (SpM K mg mf) (WE W) t) := by
  obtain ⟨f, fd, ps, h1, h2, h3, h4⟩ := F.ex
  have h1' : FnOk X.prog X.w X.K X.mg X.base (L2.CX X.prog X.w) j f fd ps (SpM K mg mf) := by rw [c.p, c.w, c.K, c.mg, c.base]; exact h1
  exact pe_callS h1' (c.room.mono hj) hg (by rw [c.mg]; exact h2) (by rw [c.K]; exact h3) (by rw [c.K]; exact h4) (fun σ => passAt c.tk σ) ha hdb he hpl
theorem cp_call (c : Cc P w K mg base W X k) {m : En → RP (List D)} (F : CalM P w K mg base j x mf) (ha : CAP K mg W X (e :: es) t m) (hj : j ≤ k := by decide) (hg : Gl X x := by rfl) (hdb : (x == ("__debug__" : Str)) = false := by decide)
    (he : starEach (e :: es) X.env = (false, eval e X.env) :: starEach es X.env := by rfl) (hpl : (backTo pos (starEach es X.env)).any (·.1) = false := by rfl) : CP K mg W X (.Call (.Name x p) (e :: es) [] pos) (tCallS (SpM K mg mf) (WE W) t) (pCall mf m) :=
  ⟨pe_calM c F hj ha.1 hg hdb he hpl, evp_call ha.2⟩
theorem ce_call (c : Cc P w K mg base W X k) {m : En → Res (List Ar)} (F : CalM P w K mg base j x mf) (ha : CA K mg W X (e :: es) t m) (hj : j ≤ k := by decide) (hg : Gl X x := by rfl) (hdb : (x == ("__debug__" : Str)) = false := by decide)
    (he : starEach (e :: es) X.env = (false, eval e X.env) :: starEach es X.env := by rfl) (hpl : (backTo pos (starEach es X.env)).any (·.1) = false := by rfl) : CE K mg W X (.Call (.Name x p) (e :: es) [] pos) (tCallS (SpM K mg mf) (WE W) t) (eCall mf m) :=
  ⟨pe_calM c F hj ha.1 hg hdb he hpl, eve_call ha.2⟩
theorem cf_call (c : Cc P w K mg base W X k) {m : En → Res (List Ar)} (F : CalM P w K mg base j x mf) (ha : CA K mg W X (e :: es) t m) (hj : j ≤ k := by decide) (hg : Gl X x := by rfl) (hdb : (x == ("__debug__" : Str)) = false := by decide)
    (he : starEach (e :: es) X.env = (false, eval e X.env) :: starEach es X.env := by rfl) (hpl : (backTo pos (starEach es X.env)).any (·.1) = false := by rfl) : CF K mg W X (.Call (.Name x p) (e :: es) [] pos) (tCallS (SpM K mg mf) (WE W) t) (fCall mf m) :=
  ⟨pe_calM c F hj ha.1 hg hdb he hpl, evf_call ha.2⟩
theorem cw_callT (c : Cc P w K mg base W X k) {mF : En → Res MO} {m : En → Res (List Ar)} (F : CalM P w K mg base j x mf) (hf : CF K mg W X e te mF) (ha : CA K mg W X es t m) (hj : j ≤ k := by decide) (hg : Gl X x := by rfl) (hdb : (x == ("__debug__" : Str)) = false := by decide)
    (he : starEach (e :: es) X.env = (false, eval e X.env) :: starEach es X.env := by rfl) (hpl : (backTo pos (starEach es X.env)).any (·.1) = false := by rfl) : CW K mg W X (.Call (.Name x p) (e :: es) [] pos) (tCallS (SpM K mg mf) (WE W) (tCons te t)) (wCallT mf mF m) :=
  ⟨pe_calM c F hj (pa_cons hf.1 ha.1 he) hg hdb he hpl, evw_callT hf.2 ha.2⟩
end
end Cv
end

section
set_option Elab.async false
set_option linter.all false
set_option maxRecDepth 100000
set_option maxHeartbeats 4000000
set_option autoImplicit false
/-! CvZ: statements, comprehensions, defs: derivation and reading in one term. -/
namespace Cv
open PySem L2 PyProof.Rows
variable [TbT]
section
variable {P : Program} {w : World} {K : PySem.W.Frag} {mg : Str → Option Value} {base : Heap} {W : WX} {X : Cx} {k : Nat} {a b e : Expr} {es : List Expr} {ta tb te : TE} {pos p : Pos} {x : Str} {st : Stmt} {sts : List Stmt} {t u : TS} {f g : En → Fl}
theorem Cc.blk (c : Cc P w K mg base W X k) {s : Shared} {H : Hp} {scope : Scope} {ce : Env} {fp : List Addr} : Cc P w K mg base W0 (X.blk s H scope ce fp) k := ⟨c.p, c.w, c.K, c.mg, c.base, c.calm, takes0, c.room, PassesOwn.never, c.nd⟩
theorem Cc.tr (c : Cc P w K mg base W X k) {W' : WX} {pj : List (Addr × Obj)} {xj : Value → Shared → Prop} (tk : Takes (X.tr pj xj) W') (po : PassesOwn (model X.prog X.w) X.A X.env xj) : Cc P w K mg base W' (X.tr pj xj) k := ⟨c.p, c.w, c.K, c.mg, c.base, c.calm, tk, c.room, po, c.nd⟩
/-! ### targets -/
section
variable (i : Nat) (c : Cc P w K mg base W X k) (hN : X.N[i]? = some x := by rfl) (hx : Loc X.env.scope x := by first | exact Or.inl rfl | exact Or.inr rfl) (hf : X.fn x = true ∨ X.env.scope.names.lookup x = some .local := by first | exact .inl rfl | exact .inr rfl)
include c hN hx hf
theorem cg_name : CG K X (.Name x pos) (gName i) (gN i) := ⟨pg_name c.nd hN hx hf, evg_name⟩
theorem cgv_name {vs : List Nat} (hi : i ∈ vs := by decide) : CGV K vs X (.Name x pos) (gName i) (gN i) := ⟨pg_name c.nd hN hx hf, evgv_name hi⟩
end
theorem cgs_nil : CGs K X [] gNil gsNil := ⟨pgs_nil, evgs_nil⟩
theorem cgs_cons {tg : TG} {tu : TGs} {ma : D → En → Option En} {mb : List D → En → Option En} (ha : CG K X e tg ma) (hb : CGs K X es tu mb) (hs : (assignEach (e :: es) X.env).map (·.2) = assign e X.env :: (assignEach es X.env).map (·.2) := by rfl) : CGs K X (e :: es) (gCons tg tu) (gsCons ma mb) :=
  ⟨pgs_cons ha.1 hb.1 hs, evgs_cons ha.2 hb.2⟩
theorem cg_tup (c : Cc P w K mg base W X k) {j n : Nat} {tu : TGs} {mb : List D → En → Option En} (h : CGs K X es tu mb) (hn : (assignEach es X.env).length = n := by rfl) (hst : (assignEach es X.env).findIdx? (·.1) = none := by rfl) : CG K X (.Tuple es j pos) (gTup K n tu) (gT n mb) :=
  ⟨by have := pg_tup (pos := pos) (k := j) c.calm h.1 hn hst; rw [c.K] at this; exact this, evg_tup h.2⟩
theorem cgsv_nil {vs : List Nat} : CGsV K vs X [] gNil gsNil := ⟨pgs_nil, evgsv_nil⟩
theorem cgsv_cons {vs : List Nat} {tg : TG} {tu : TGs} {ma : D → En → Option En} {mb : List D → En → Option En} (ha : CGV K vs X e tg ma) (hb : CGsV K vs X es tu mb) (hs : (assignEach (e :: es) X.env).map (·.2) = assign e X.env :: (assignEach es X.env).map (·.2) := by rfl) : CGsV K vs X (e :: es) (gCons tg tu) (gsCons ma mb) :=
  ⟨pgs_cons ha.1 hb.1 hs, evgsv_cons ha.2 hb.2⟩
theorem cgv_tup (c : Cc P w K mg base W X k) {vs : List Nat} {j n : Nat} {tu : TGs} {mb : List D → En → Option En} (h : CGsV K vs X es tu mb) (hn : (assignEach es X.env).length = n := by rfl) (hst : (assignEach es X.env).findIdx? (·.1) = none := by rfl) : CGV K vs X (.Tuple es j pos) (gTup K n tu) (gT n mb) :=
  ⟨by have := pg_tup (pos := pos) (k := j) c.calm h.1 hn hst; rw [c.K] at this; exact this, evgv_tup h.2⟩
/-! ### what is walked -/
variable {tg : Expr}
theorem ci_r1 (c : Cc P w K mg base W X k) {ta : TA} {m : En → Res (List D)} (hm : mg "range" = none) (ha : CV K mg W X [a] ta m) (hg : Gl X "range" := by rfl) (hs : starEach [a] X.env = [(false, eval a X.env)] := by rfl) : CI K mg W X tg (.Call (.Name "range" p) [a] [] pos) (iRng1 ta) (iR1 m) :=
  ⟨pi_range1 hg (by rw [c.mg]; exact hm) ha.1 hs, evi_r1 ha.2⟩
theorem ci_r2 (c : Cc P w K mg base W X k) {ta : TA} {m : En → Res (List D)} (hm : mg "range" = none) (ha : CV K mg W X [a, b] ta m) (hg : Gl X "range" := by rfl) (hs : starEach [a, b] X.env = [(false, eval a X.env), (false, eval b X.env)] := by rfl) (hs2 : starEach [b] X.env = [(false, eval b X.env)] := by rfl) :
    CI K mg W X tg (.Call (.Name "range" p) [a, b] [] pos) (iRng2 ta) (iR2 m) := ⟨pi_range2 hg (by rw [c.mg]; exact hm) ha.1 hs hs2, evi_r2 ha.2⟩
theorem ci_lst (c : Cc P w K mg base W X k) {m : En → Res D} (h : CE K mg W X a ta m) : CI K mg W X tg a (iList K ta) (iLst m) := ⟨by have := pi_list (tg := tg) h.1; rw [c.K] at this; exact this, evi_lst h.2⟩
theorem ci_lstF (c : Cc P w K mg base W X k) {m : En → Res MO} (h : CF K mg W X a ta m) : CI K mg W X tg a (iList K ta) (iLst (eOfF m)) := ⟨by have := pi_list (tg := tg) h.1; rw [c.K] at this; exact this, evi_lstF h.2⟩
theorem ci_tup (c : Cc P w K mg base W X k) {m : En → Res D} (h : CE K mg W X a ta m) : CI K mg W X tg a (iTup K ta) (iTupl m) := ⟨by have := pi_tup (tg := tg) h.1; rw [c.K] at this; exact this, evi_tup h.2⟩
/-! ### comprehensions -/
theorem cts_nil : CTs K mg W X [] tYes tYesm := ⟨pts_nil, evt_yes⟩
theorem cts_one {tt : TT} {m : En → Res Bool} (h : CT K mg W X a tt m) : CTs K mg W X [a] tt m := ⟨pts_one h.1, h.2⟩
theorem cf_lc (c : Cc P w K mg base W X k) {elt iter : Expr} {ifs : List Expr} {scope : Scope} (own : List (Str × Nat)) {wi : TI} {gg : TG} {tt : TT} {src : En → Res (List D)} {mtg : D → En → Option En} {mt : En → Res Bool} {me : En → Res D} (hi : CI K mg W X tg iter wi src)
    (hg : ∀ (s : Shared) (H : Hp) (C : Addr) (cl : List (Str × Addr)) (fp : List Addr), Cc P w K mg base W0 (X.blk s H scope (compEnvC scope cl C X.env) fp) k → CGV K (own.map (·.2)) (X.blk s H scope (compEnvC scope cl C X.env) fp) tg gg mtg)
    (ht : ∀ (s : Shared) (H : Hp) (C : Addr) (cl : List (Str × Addr)) (fp : List Addr), Cc P w K mg base W0 (X.blk s H scope (compEnvC scope cl C X.env) fp) k → CTs K mg W0 (X.blk s H scope (compEnvC scope cl C X.env) fp) ifs tt mt)
    (he : ∀ (s : Shared) (H : Hp) (C : Addr) (cl : List (Str × Addr)) (fp : List Addr), Cc P w K mg base W0 (X.blk s H scope (compEnvC scope cl C X.env) fp) k → CE K mg W0 (X.blk s H scope (compEnvC scope cl C X.env) fp) elt te me)
    (ok : blkC X.N X.env.scope scope own = true := by first | rfl | (dsimp only [cxOf, envOfC, compEnvC]; decide +kernel)) (hs : ∀ x, foldedSetIterable iter X.env x = pure x := by intro _; rfl) :
    CF K mg W X (.ListComp elt [⟨tg, iter, ifs, 0⟩] scope pos) (tLc wi gg tt te (own.map (·.2))) (fLc src (own.map (·.2)) mtg mt me) := by
  have h0 := fun (s : Shared) (H : Hp) (C : Addr) (cl : List (Str × Addr)) (fp : List Addr) => c.blk (s := s) (H := H) (scope := scope) (ce := compEnvC scope cl C X.env) (fp := fp)
  obtain ⟨s0⟩ : Nonempty Shared := ⟨{}⟩
  exact ⟨pe_lc c.calm c.nd hi.1 (blkOk_by ok) (fun s H C cl fp => (hg s H C cl fp (h0 s H C cl fp)).1) (fun s H C cl fp => (ht s H C cl fp (h0 s H C cl fp)).1) (fun s H C cl fp => (he s H C cl fp (h0 s H C cl fp)).1) hs,
    evf_lc hi.2 (hg s0 (fun _ => none) 0 [] [] (h0 _ _ _ _ _)).2 (ht s0 (fun _ => none) 0 [] [] (h0 _ _ _ _ _)).2 (he s0 (fun _ => none) 0 [] [] (h0 _ _ _ _ _)).2⟩
/-! ### statements -/
theorem css_nil : CSs K mg W X [] tNext sNext := ⟨pss_nil, evs_next⟩
theorem css_cons (h1 : CS K mg W X st t f) (h2 : CSs K mg W X sts u g) : CSs K mg W X (st :: sts) (tSeq t u) (sSeq f g) := ⟨pss_cons h1.1 h2.1, evs_seq h1.2 h2.2⟩
theorem css_one (h1 : CS K mg W X st t f) : CSs K mg W X [st] t f := ⟨pss_one h1.1, h1.2⟩
theorem cs_pass : CS K mg W X (.Pass pos) tNext sNext := ⟨ps_pass, evs_next⟩
theorem cs_break : CS K mg W X (.Break pos) tBreak sBrk := ⟨ps_break, evs_brk⟩
theorem cs_cont : CS K mg W X (.Continue pos) tCont sCont := ⟨ps_continue, evs_cont⟩
theorem cs_doc {z : Str} {j pos'} : CS K mg W X (.Expr (.Constant (.str z) j pos) pos') tNext sNext := ⟨ps_doc, evs_next⟩
theorem cs_expr {m : En → Res D} (h : CE K mg W X e te m) (hs : swapsWith e none pos.line X.env = pure false := by rfl) : CS K mg W X (.Expr e pos) (tDrop te) (sDrop m) := ⟨ps_expr h.1 hs, evs_drop h.2⟩
theorem cs_ret {m : En → Res D} (h : CE K mg W X e te m) : CS K mg W X (.Return (some e) pos) (tRet te) (sRet m) := ⟨ps_ret h.1, evs_ret h.2⟩
theorem cs_retF {m : En → Res MO} (h : CF K mg W X e te m) : CS K mg W X (.Return (some e) pos) (tRet te) (sRetF m) := ⟨ps_ret h.1, evs_retF h.2⟩
theorem cs_retN : CS K mg W X (.Return none pos) tRetN sRetN := ⟨ps_retN, evs_retN⟩
theorem cs_retO (i : Nat) (hN : X.N[i]? = some x := by rfl) (hv : Vis X.env.scope x := by first | exact Or.inl rfl | exact Or.inr (Or.inl rfl) | exact Or.inr (Or.inr rfl)) (h1 : (x == ("__debug__" : Str)) = false := by decide)
    (h2 : (x == ("__classdict__" : Str)) = false := by decide) : CS K mg W X (.Return (some (.Name x p)) pos) (tRet (tVar i)) (sRetO i) := ⟨ps_ret (pe_var hN hv h1 h2), evs_retO⟩
theorem cs_if {tc : TT} {m : En → Res Bool} {sa sb : List Stmt} (hc : CT K mg W X a tc m) (ha : CSs K mg W X sa t f) (hb : CSs K mg W X sb u g) : CS K mg W X (.If a sa sb pos) (tIfS tc t u) (sIf m f g) := ⟨ps_if hc.1 ha.1 hb.1, evs_if hc.2 ha.2 hb.2⟩
theorem cs_asg {m : En → Res D} {gg : TG} {mt : D → En → Option En} (h : CE K mg W X e te m) (hg : CG K X a gg mt) (hs : swapsWithSole [a] e pos.line X.env = pure false := by rfl) (hw : swappedStores [a] e X.env = pure none := by rfl)
    (h1 : (assignEach [a] X.env).map (·.2) = [assign a X.env] := by rfl) : CS K mg W X (.Assign [a] e pos) (tAsg te gg) (sAsg m mt) := ⟨ps_asg h.1 hg.1 hs hw h1, evs_asg h.2 hg.2⟩
section
variable (i : Nat) (c : Cc P w K mg base W X k)
include c
theorem cs_asgF {m : En → Res MO} {p : Pos} (h : CF K mg W X e te m) (hN : X.N[i]? = some x := by rfl) (hx : Loc X.env.scope x := by first | exact Or.inl rfl | exact Or.inr rfl) (hf : X.fn x = true ∨ X.env.scope.names.lookup x = some .local := by first | exact .inl rfl | exact .inr rfl) (hs : swapsWithSole [.Name x p] e pos.line X.env = pure false := by rfl) (hw : swappedStores [.Name x p] e X.env = pure none := by rfl)
    (h1 : (assignEach [.Name x p] X.env).map (·.2) = [assign (.Name x p) X.env] := by rfl) : CS K mg W X (.Assign [.Name x p] e pos) (tAsg te (gName i)) (sAsgF m i) := ⟨ps_asg h.1 (pg_name c.nd hN hx hf) hs hw h1, evs_asgF h.2⟩
theorem cs_asgR {j : Nat} {y : Str} {mf : En → RD} {e1 : Expr} {p q pos' : Pos} {ta : TA} {m : En → Res (List D)} (F : CalM P w K mg base j y mf) (ha : CR K mg W X (e1 :: es) ta m) (hN : X.N[i]? = some x := by rfl) (hx : Loc X.env.scope x := by first | exact Or.inl rfl | exact Or.inr rfl) (hf : X.fn x = true ∨ X.env.scope.names.lookup x = some .local := by first | exact .inl rfl | exact .inr rfl) (hj : j ≤ k := by decide) (hg : Gl X y := by rfl) (hdb : (y == ("__debug__" : Str)) = false := by decide)
    (he : starEach (e1 :: es) X.env = (false, eval e1 X.env) :: starEach es X.env := by rfl) (hpl : (backTo pos' (starEach es X.env)).any (·.1) = false := by rfl) (hs : swapsWithSole [.Name x p] (.Call (.Name y q) (e1 :: es) [] pos') pos.line X.env = pure false := by rfl)
    (hw : swappedStores [.Name x p] (.Call (.Name y q) (e1 :: es) [] pos') X.env = pure none := by rfl) (h1 : (assignEach [.Name x p] X.env).map (·.2) = [assign (.Name x p) X.env] := by rfl) :
    CS K mg W X (.Assign [.Name x p] (.Call (.Name y q) (e1 :: es) [] pos') pos) (tAsg (tCallS (SpM K mg mf) (WE W) ta) (gName i)) (sAsgR mf m i) := ⟨ps_asg (pe_calM c F hj ha.1 hg hdb he hpl) (pg_name c.nd hN hx hf) hs hw h1, evs_asgR ha.2⟩
theorem cs_aug {op : Operator} {fz : Int → Int → Int} {m : En → Res D} (ho : PIp X op (ipI fz)) (h : CE K mg W X e te m) (hN : X.N[i]? = some x := by rfl) (hx : Loc X.env.scope x := by first | exact Or.inl rfl | exact Or.inr rfl) (hf : X.fn x = true ∨ X.env.scope.names.lookup x = some .local := by first | exact .inl rfl | exact .inr rfl) : CS K mg W X (.AugAssign (.Name x p) op e pos) (tAug i te (ipI fz)) (sAug fz i m) := ⟨ps_aug c.nd hN hx h.1 ho hf, evs_aug h.2⟩
end
section
variable (i : Nat) (c : Cc P w K mg base W X k)
include c
theorem cs_augA {m : En → Res D} (h : CE K mg W X e te m) (hN : X.N[i]? = some x := by rfl) (hx : Loc X.env.scope x := by first | exact Or.inl rfl | exact Or.inr rfl) (hf : X.fn x = true ∨ X.env.scope.names.lookup x = some .local := by first | exact .inl rfl | exact .inr rfl) :
    CS K mg W X (.AugAssign (.Name x p) .Add e pos) (tAug i te (ipI fun i j => i + j)) (sAug (fun i j => i + j) i m) := cs_aug i c ip_add h hN hx hf
theorem cs_augS {m : En → Res D} (h : CE K mg W X e te m) (hN : X.N[i]? = some x := by rfl) (hx : Loc X.env.scope x := by first | exact Or.inl rfl | exact Or.inr rfl) (hf : X.fn x = true ∨ X.env.scope.names.lookup x = some .local := by first | exact .inl rfl | exact .inr rfl) :
    CS K mg W X (.AugAssign (.Name x p) .Sub e pos) (tAug i te (ipI fun i j => i - j)) (sAug (fun i j => i - j) i m) := cs_aug i c ip_sub h hN hx hf
end
theorem cs_spoilA {i : Nat} {tq : TE} {q : D → Option D} {m : En → RP D} {apos cpos : Pos} (hq : CQ K i X a tq q) (c : Cc P w K mg base W X k) (hm : CP K mg W X e te m) (hbase : attributeBase a "append" X.env (eval a X.env) = eval a X.env := by rfl)
    (hfew : ((backTo cpos (starEach [e] X.env)).all (fun x => !x.1) && (backToKw cpos (keywordEach [] X.env)).all (fun x => x.1.isSome) && decide ([e].length + ([] : List Keyword).length + (if ([] : List Keyword).isEmpty then 0 else 1) < 30)) = true := by rfl)
    (hline : (apos.endLine == cpos.line) = true := by rfl) (hs : starEach [e] X.env = (false, eval e X.env) :: starEach [] X.env := by rfl) (hplain : (backTo cpos (starEach [] X.env)).any (·.1) = false := by rfl) (hsw : swapsWith (.Call (.Attribute a "append" apos) [e] [] cpos) none pos.line X.env = pure false := by rfl) :
    CS K mg W X (.Expr (.Call (.Attribute a "append" apos) [e] [] cpos) pos) (tDrop (tBM K "list" rAppend tq (tCons te tNil))) (sSpoilA i q m) :=
  ⟨ps_expr (by have := pe_bm (X := X) (apos := apos) PySem.F.plainAttrs_list PySem.F.slot_list_append PySem.F.type_list_append mt_append hq.1 (pa_cons hm.1 pa_nil hs) hbase hfew hline hs hplain; rw [c.K] at this; exact this) hsw, evs_spoilA hq.2 hm.2⟩
theorem cs_spoilP {i : Nat} {tq : TE} {q : D → Option D} {apos cpos : Pos} (hq : CQ K i X a tq q) (c : Cc P w K mg base W X k) (hbase : attributeBase a "pop" X.env (eval a X.env) = eval a X.env := by rfl) (hline : (apos.endLine == cpos.line) = true := by rfl)
    (hsw : swapsWith (.Call (.Attribute a "pop" apos) [] [] cpos) none pos.line X.env = pure false := by rfl) : CS K mg W X (.Expr (.Call (.Attribute a "pop" apos) [] [] cpos) pos) (tDrop (tBM0 K "list" rPop tq)) (sSpoilP i q) :=
  ⟨ps_expr (by have := pe_bm0 (X := X) (apos := apos) (cpos := cpos) PySem.F.plainAttrs_list PySem.F.slot_list_pop PySem.F.type_list_pop mt_pop hq.1 hbase hline; rw [c.K] at this; exact this) hsw, evs_spoilP hq.2⟩
theorem ce_app (i : Nat) {x : Str} {m : En → Res D} {apos cpos p : Pos} (c : Cc P w K mg base W X k) (hm : CE K mg W X e te m) (hN : X.N[i]? = some x := by rfl) (hv : Vis X.env.scope x := by first | exact Or.inl rfl | exact Or.inr (Or.inl rfl) | exact Or.inr (Or.inr rfl))
    (h1 : (x == ("__debug__" : Str)) = false := by decide) (h2 : (x == ("__classdict__" : Str)) = false := by decide) (hbase : attributeBase (.Name x p) "append" X.env (eval (.Name x p) X.env) = eval (.Name x p) X.env := by rfl)
    (hfew : ((backTo cpos (starEach [e] X.env)).all (fun x => !x.1) && (backToKw cpos (keywordEach [] X.env)).all (fun x => x.1.isSome) && decide ([e].length + ([] : List Keyword).length + (if ([] : List Keyword).isEmpty then 0 else 1) < 30)) = true := by rfl)
    (hline : (apos.endLine == cpos.line) = true := by rfl) (hs : starEach [e] X.env = (false, eval e X.env) :: starEach [] X.env := by rfl) (hplain : (backTo cpos (starEach [] X.env)).any (·.1) = false := by rfl) :
    CE K mg W X (.Call (.Attribute (.Name x p) "append" apos) [e] [] cpos) (tBM K "list" rAppend (tVar i) (tCons te tNil)) (eApp i m) :=
  ⟨by have := pe_bm (X := X) (apos := apos) PySem.F.plainAttrs_list PySem.F.slot_list_append PySem.F.type_list_append mt_append (pe_var hN hv h1 h2) (pa_cons hm.1 pa_nil hs) hbase hfew hline hs hplain; rw [c.K] at this; exact this, eve_app hm.2⟩
theorem ce_pop (i : Nat) {x : Str} {apos cpos p : Pos} (c : Cc P w K mg base W X k) (hN : X.N[i]? = some x := by rfl) (hv : Vis X.env.scope x := by first | exact Or.inl rfl | exact Or.inr (Or.inl rfl) | exact Or.inr (Or.inr rfl)) (h1 : (x == ("__debug__" : Str)) = false := by decide)
    (h2 : (x == ("__classdict__" : Str)) = false := by decide) (hbase : attributeBase (.Name x p) "pop" X.env (eval (.Name x p) X.env) = eval (.Name x p) X.env := by rfl) (hline : (apos.endLine == cpos.line) = true := by rfl) :
    CE K mg W X (.Call (.Attribute (.Name x p) "pop" apos) [] [] cpos) (tBM0 K "list" rPop (tVar i)) (ePop i) :=
  ⟨by have := pe_bm0 (X := X) (apos := apos) (cpos := cpos) PySem.F.plainAttrs_list PySem.F.slot_list_pop PySem.F.type_list_pop mt_pop (pe_var hN hv h1 h2) hbase hline; rw [c.K] at this; exact this, eve_pop⟩
theorem ce_popAt (i : Nat) {x : Str} {m : En → Res D} {apos cpos p : Pos} (c : Cc P w K mg base W X k) (hm : CE K mg W X e te m) (hN : X.N[i]? = some x := by rfl) (hv : Vis X.env.scope x := by first | exact Or.inl rfl | exact Or.inr (Or.inl rfl) | exact Or.inr (Or.inr rfl))
    (h1 : (x == ("__debug__" : Str)) = false := by decide) (h2 : (x == ("__classdict__" : Str)) = false := by decide) (hbase : attributeBase (.Name x p) "pop" X.env (eval (.Name x p) X.env) = eval (.Name x p) X.env := by rfl)
    (hfew : ((backTo cpos (starEach [e] X.env)).all (fun x => !x.1) && (backToKw cpos (keywordEach [] X.env)).all (fun x => x.1.isSome) && decide ([e].length + ([] : List Keyword).length + (if ([] : List Keyword).isEmpty then 0 else 1) < 30)) = true := by rfl)
    (hline : (apos.endLine == cpos.line) = true := by rfl) (hs : starEach [e] X.env = (false, eval e X.env) :: starEach [] X.env := by rfl) (hplain : (backTo cpos (starEach [] X.env)).any (·.1) = false := by rfl) :
    CE K mg W X (.Call (.Attribute (.Name x p) "pop" apos) [e] [] cpos) (tBM K "list" rPopAt (tVar i) (tCons te tNil)) (ePopAt i m) :=
  ⟨by have := pe_bm (X := X) (apos := apos) PySem.F.plainAttrs_list PySem.F.slot_list_pop PySem.F.type_list_pop mt_popAt (pe_var hN hv h1 h2) (pa_cons hm.1 pa_nil hs) hbase hfew hline hs hplain; rw [c.K] at this; exact this, eve_popAt hm.2⟩
theorem cs_par (i j : Nat) {x y : Str} {ta : TA} {m : En → Res (List D)} {px py pt : Pos} {kt k2 pt2} (c : Cc P w K mg base W X k) (ha : CV K mg W X [a, b] ta m) (hi : X.N[i]? = some x := by rfl) (hj : X.N[j]? = some y := by rfl) (hij : i ≠ j := by decide)
    (hx : X.env.scope.names.lookup x = some .local := by rfl) (hy : X.env.scope.names.lookup y = some .local := by rfl) (hw : swappedStores [.Tuple [.Name x px, .Name y py] kt pt] (.Tuple [a, b] k2 pt2) X.env = pure (some [x, y]) := by rfl)
    (hs : swapsWithSole [.Tuple [.Name x px, .Name y py] kt pt] (.Tuple [a, b] k2 pt2) pos.line X.env = pure false := by rfl) :
    CS K mg W X (.Assign [.Tuple [.Name x px, .Name y py] kt pt] (.Tuple [a, b] k2 pt2) pos) (tPar i j ta) (sPar i j m) := ⟨ps_par c.calm c.nd hi hj hij hx hy ha.1 hw hs, evs_par ha.2⟩
theorem cs_setIx (i : Nat) {x : Str} {ti : TE} {m : En → Res D} {mi : En → RP D} {p pos' : Pos} (h : CE K mg W X e te m) (hi : CP K mg W X b ti mi) (hN : X.N[i]? = some x := by rfl) (hv : Vis X.env.scope x := by first | exact Or.inl rfl | exact Or.inr (Or.inl rfl) | exact Or.inr (Or.inr rfl))
    (h1 : (x == ("__debug__" : Str)) = false := by decide) (h2 : (x == ("__classdict__" : Str)) = false := by decide)
    (ha : ∀ v, assign (.Subscript (.Name x p) b pos') X.env v = (do
      let ov ← holding [v] (eval (.Name x p) X.env)
      let iv ← holding [v, ov] (eval b X.env)
      standAt pos'
      holding [v, ov, iv] (setItem ov iv v)
      release [v, ov, iv] []) := by intro _; rfl)
    (hs : swapsWithSole [.Subscript (.Name x p) b pos'] e pos.line X.env = pure false := by rfl) (hw : swappedStores [.Subscript (.Name x p) b pos'] e X.env = pure none := by rfl) (h3 : (assignEach [.Subscript (.Name x p) b pos'] X.env).map (·.2) = [assign (.Subscript (.Name x p) b pos') X.env] := by rfl) :
    CS K mg W X (.Assign [.Subscript (.Name x p) b pos'] e pos) (tAsg te (gSub (tVar i) ti rSetL)) (sSetIx i mi m) := ⟨ps_asg h.1 (pg_sub (pe_var hN hv h1 h2) hi.1 set_list ha) hs hw h3, evs_setIx h.2 hi.2⟩
theorem cs_augIx (i : Nat) {x : Str} {ti : TE} {op : Operator} {fz : Int → Int → Int} {m mi : En → RP D} {p pos' : Pos} (c : Cc P w K mg base W X k) (ho : PIp X op (ipI fz)) (hi : CP K mg W X b ti mi) (h : CP K mg W X e te m) (hN : X.N[i]? = some x := by rfl)
    (hv : Vis X.env.scope x := by first | exact Or.inl rfl | exact Or.inr (Or.inl rfl) | exact Or.inr (Or.inr rfl)) (h1 : (x == ("__debug__" : Str)) = false := by decide) (h2 : (x == ("__classdict__" : Str)) = false := by decide)
    (ha : ∀ ov iv new, augStore b ov iv new = (do holding [new, ov, iv] (setItem ov iv new); release [new, ov, iv] []; pure .next) := by intros; rfl) :
    CS K mg W X (.AugAssign (.Subscript (.Name x p) b pos') op e pos) (tAugS (tVar i) ti te (rIxL K) (ipI fz) rSetL) (sAugIx fz i mi m) :=
  ⟨by have := ps_augS (pos := pos) (tpos := pos') (pe_var (pos := p) hN hv h1 h2) hi.1 get_list h.1 ho set_list ha; rw [c.K] at this; exact this, evs_augIx h.2 hi.2⟩
theorem cs_for (c : Cc P w K mg base W X k) {iter : Expr} {wi : TI} {gg : TG} {src : En → Res (List D)} {mt : D → En → Option En} (hi : CI K mg W X a iter wi src) (hg : CG K X a gg mt) (hb : CSs K mg W X sts t f) (hs : ∀ x, foldedSetIterable iter X.env x = pure x := by intro _; rfl) :
    CS K mg W X (.For a iter sts [] pos) (tFor wi gg t) (sFor src mt f) := ⟨ps_for c.po c.calm hi.1 hg.1 hb.1 hs, evs_for hi.2 hg.2 hb.2⟩
theorem cs_while (c : Cc P w K mg base W X k) {tc : TT} {m : En → Res Bool} (hc : CT K mg W X a tc m) (hb : CSs K mg W X sts t f) : CS K mg W X (.While a sts [] pos) (tWhile tc t) (sWhile m f) := ⟨ps_while c.po hc.1 hb.1, evs_while hc.2 hb.2⟩
/-- y = [.. for ..] -/
theorem cs_asgLc (i : Nat) (c : Cc P w K mg base W X k) {elt iter : Expr} {ifs : List Expr} {scope : Scope} (own : List (Str × Nat)) {wi : TI} {gg : TG} {tt : TT} {src : En → Res (List D)} {mtg : D → En → Option En} {mt : En → Res Bool} {me : En → Res D} {y : Str} {py : Pos} {tg : Expr} (hi : CI K mg W X tg iter wi src)
    (hg : ∀ (s : Shared) (H : Hp) (C : Addr) (cl : List (Str × Addr)) (fp : List Addr), Cc P w K mg base W0 (X.blk s H scope (compEnvC scope cl C X.env) fp) k → CGV K (own.map (·.2)) (X.blk s H scope (compEnvC scope cl C X.env) fp) tg gg mtg)
    (ht : ∀ (s : Shared) (H : Hp) (C : Addr) (cl : List (Str × Addr)) (fp : List Addr), Cc P w K mg base W0 (X.blk s H scope (compEnvC scope cl C X.env) fp) k → CTs K mg W0 (X.blk s H scope (compEnvC scope cl C X.env) fp) ifs tt mt)
    (he : ∀ (s : Shared) (H : Hp) (C : Addr) (cl : List (Str × Addr)) (fp : List Addr), Cc P w K mg base W0 (X.blk s H scope (compEnvC scope cl C X.env) fp) k → CE K mg W0 (X.blk s H scope (compEnvC scope cl C X.env) fp) elt te me)
    (hy : X.N[i]? = some y := by rfl) (hyl : X.env.scope.names.lookup y = some .local := by rfl) (hk : X.env.scope.kind = .function := by rfl) (hl : (py.line == p.line) = true := by rfl) (hn : (scope.names.any fun (n, k) => n == y && (k == .local || k == .cell)) = false := by decide +kernel)
    (ok : blkC X.N X.env.scope scope own = true := by first | rfl | (dsimp only [cxOf, envOfC, compEnvC]; decide +kernel)) (hs : ∀ x, foldedSetIterable iter X.env x = pure x := by intro _; rfl) :
    CS K mg W X (.Assign [.Name y py] (.ListComp elt [⟨tg, iter, ifs, 0⟩] scope p) pos) (tAsg (tLc wi gg tt te (own.map (·.2))) (gName i)) (sAsgF (fLc src (own.map (·.2)) mtg mt me) i) := by
  have h0 := fun (s : Shared) (H : Hp) (C : Addr) (cl : List (Str × Addr)) (fp : List Addr) => c.blk (s := s) (H := H) (scope := scope) (ce := compEnvC scope cl C X.env) (fp := fp)
  obtain ⟨s0⟩ : Nonempty Shared := ⟨{}⟩
  exact ⟨ps_setLc c.calm c.nd hy hyl (sw_true hk hyl hl hn) hi.1 (blkOk_by ok) (fun s H C cl fp => (hg s H C cl fp (h0 s H C cl fp)).1) (fun s H C cl fp => (ht s H C cl fp (h0 s H C cl fp)).1) (fun s H C cl fp => (he s H C cl fp (h0 s H C cl fp)).1) hs,
    evs_asgF (evf_lc hi.2 (hg s0 (fun _ => none) 0 [] [] (h0 _ _ _ _ _)).2 (ht s0 (fun _ => none) 0 [] [] (h0 _ _ _ _ _)).2 (he s0 (fun _ => none) 0 [] [] (h0 _ _ _ _ _)).2)⟩
/-! ### exceptions -/
end
/-- an own error's class: made of one value, kept in the field f -/
structure ExM (P : Program) (w : World) (K : PySem.W.Frag) (mg : Str → Option Value) (base : Heap) (k : Nat) (x f : Str) (C : Addr) : Prop where
  hm : mg x = some (.ref C)
  oex : OexC K C
  xf : XfC K C
  ec : ExcC K C
  noF : PySem.W.findIn K (.ref C) f = some none
  self : PySem.W.exmOne K (.ref C) (.ref C) = some true
  made : ∃ (fI : Addr) (fd : FuncData) (ps : List Str), PySem.W.findIn K (.ref C) "__init__" = some (some (.ref fI)) ∧ PySem.W.typeIn K (.ref fI) = some (.type "function") ∧ FnOk P w K mg base (L2.CX P w) k fI fd ps (spEx C f) ∧ Binds K fd ps []
section
variable {P : Program} {w : World} {K : PySem.W.Frag} {mg : Str → Option Value} {base : Heap} {W : WX} {X : Cx} {k j : Nat} {a b e : Expr} {es : List Expr} {ta tb te : TE} {pos p : Pos} {x : Str} {st : Stmt} {sts : List Stmt} {t u : TS} {f g : En → Fl}
theorem cs_raise (c : Cc P w K mg base W X k) {fl : Str} {C : Addr} {m : En → Res D} {pos2 : Pos} (M : ExM P w K mg base j x fl C) (h : CE K mg W X e te m) (hj : j + 1 ≤ k := by decide) (hg : Gl X x := by rfl) (hdb : (x == ("__debug__" : Str)) = false := by decide)
    (he : starEach [e] X.env = (false, eval e X.env) :: starEach [] X.env := by rfl) (hpl : (backTo pos (starEach [] X.env)).any (·.1) = false := by rfl) :
    CS K mg W X (.Raise (some (.Call (.Name x p) [e] [] pos)) none pos2) (fun _ σ H => tMkO C (spEx C fl) [] (tCons te tNil) σ H fun c d H' => W c d σ H') (sRaise x fl m) := by
  obtain ⟨fI, fd, ps, h1, h2, h3, h4⟩ := M.made
  have h3' : FnOk X.prog X.w X.K X.mg X.base (L2.CX X.prog X.w) j fI fd ps (spEx C fl) := by rw [c.p, c.w, c.K, c.mg, c.base]; exact h3
  exact ⟨ps_raise c.calm c.tk (pmk_oex (by rw [c.K]; exact M.oex) (by rw [c.K]; exact h1) (by rw [c.K]; exact h2) h3' (c.room.mono hj) (by rw [c.K]; exact h4) .nil passL hg (by rw [c.mg]; exact M.hm) (pa_cons h.1 pa_nil he) hdb he hpl), evs_raise M.hm h.2⟩
end
end Cv
end

section
set_option Elab.async false
set_option linter.all false
set_option maxRecDepth 100000
set_option maxHeartbeats 4000000
set_option autoImplicit false
/-! CvU: try, defs, an error's __init__, the law's end. -/
namespace Cv
open PySem L2 PyProof.Rows
variable [TbT]
section
variable {X : Cx}
/-- a context's wish about exceptions can be any -/
theorem takes_any (Xs : X.stack = X.env :: X.outer) (Xf : X.env.frame = some X.env.locals) (W' : WX) : ∃ xj, Takes (X.tr [] xj) W' ∧ PassesOwn (model X.prog X.w) X.A X.env xj := by
  refine ⟨fun ev sc => wpAny (model X.prog X.w) X.A (noteFrame ev X.env) (fun _ sd => wpAny (model X.prog X.w) X.A (setFlight ev none) (fun _ _ => True) X.xe sd) X.xe sc, ?_, PassesOwn.looking⟩
  intro ev sc fl
  obtain ⟨ea, BB, sI, pk, σE, HE, cls, dct, rfl, JE, nB, upE, skyE, naE, osE, agE, wE⟩ := fl
  have frX : X.A.frames = some (X.env :: X.outer) := JE.ok.frames.trans (congrArg some Xs)
  rw [show ∀ xj, (X.tr [] xj).stack = X.env :: X.outer from fun _ => Xs] at skyE
  exact Sky.land Zc.steady frX Xf skyE fun hA flA upA => trivial
end
abbrev CX' (K : PySem.W.Frag) (mg : Str → Option Value) (i : Nat) (a dd : Addr) (x : Exc) (X : Cx) (e : Expr) (t : TE) (m : En → RP D) : Prop := PE X e t ∧ EvX K mg i a dd x t m
abbrev CXA (K : PySem.W.Frag) (mg : Str → Option Value) (i : Nat) (a dd : Addr) (x : Exc) (X : Cx) (e : List Expr) (t : TA) (m : En → RP (List D)) : Prop := PA X e t ∧ EvXA K mg i a dd x t m
section
variable {P : Program} {w : World} {K : PySem.W.Frag} {mg : Str → Option Value} {base : Heap} {W : WX} {X : Cx} {k j : Nat} {ea eb e : Expr} {es : List Expr} {ta tb te : TE} {pos p : Pos} {i : Nat} {a dd : Addr} {x : Exc} {ma mb : En → RP D}
theorem cx_p {m : En → RP D} (h : CP K mg W0 X e te m) : CX' K mg i a dd x X e te m := ⟨h.1, evx_p h.2⟩
theorem cx_fld (c : Cc P w K mg base W X k) {nm fl : Str} {C : Addr} {oe : Obj} {pn : List (Addr × Obj)} {y : Str} {py : Pos} (M : ExM P w K mg base j nm fl C) (hz : Zc (.ref C) (some dd) oe) (hf : ∃ vs, oe.data = .fields vs) (hN : X.N[i]? = some y := by rfl)
    (hv : Vis X.env.scope y := by first | exact Or.inl rfl | exact Or.inr (Or.inl rfl) | exact Or.inr (Or.inr rfl)) (h1 : (y == ("__debug__" : Str)) = false := by decide) (h2 : (y == ("__classdict__" : Str)) = false := by decide)
    (hb : attributeBase (.Name y py) fl X.env (eval (.Name y py) X.env) = eval (.Name y py) X.env := by rfl) :
    CX' K mg i a dd x (X.suite a ((a, oe) :: pn)) (.Attribute (.Name y py) fl pos) (tXf a (.ref C) (some dd) C fl (tVar i)) (xFld x fl) :=
  ⟨pe_xf (by rw [c.K]; exact M.xf) (by rw [c.K]; exact M.noF) hz hf (pe_var (X := X.suite a ((a, oe) :: pn)) hN hv h1 h2) hb, evx_fld⟩
theorem cx_is (c : Cc P w K mg base W X k) {nm fl : Str} {C CY : Addr} {oe : Obj} {pn : List (Addr × Obj)} {y z : Str} {py pz pi : Pos} {b : Bool} (M : ExM P w K mg base j nm fl C) (hz : Zc (.ref C) (some dd) oe) (hf : ∃ vs, oe.data = .fields vs) (hm : mg "isinstance" = none) (hmY : mg z = some (.ref CY))
    (hk : PySem.W.kitOne K (.ref C) (.ref CY) = some b) (hN : X.N[i]? = some y := by rfl) (hv : Vis X.env.scope y := by first | exact Or.inl rfl | exact Or.inr (Or.inl rfl) | exact Or.inr (Or.inr rfl)) (h1 : (y == ("__debug__" : Str)) = false := by decide) (h2 : (y == ("__classdict__" : Str)) = false := by decide)
    (hg : Gl X "isinstance" := by rfl) (hgz : Gl X z := by rfl) (h3 : (z == ("__debug__" : Str)) = false := by decide) (he : starEach [.Name y py, .Name z pz] X.env = (false, eval (.Name y py) X.env) :: starEach [.Name z pz] X.env := by rfl)
    (he2 : starEach [.Name z pz] X.env = (false, eval (.Name z pz) X.env) :: starEach [] X.env := by rfl) (hpl : (backTo pos (starEach [.Name z pz] X.env)).any (·.1) = false := by rfl) :
    CX' K mg i a dd x (X.suite a ((a, oe) :: pn)) (.Call (.Name "isinstance" pi) [.Name y py, .Name z pz] [] pos) (tCB (rIsED K C a dd (.ref CY) b) (tCons (tVar i) (tCons (tC (.ref CY)) tNil))) (xC (.bl b)) :=
  ⟨pe_callB (X := X.suite a ((a, oe) :: pn)) (by have := call_isED (X := X) (a := a) (pn := pn) (b := b) (c := .ref CY) (cv := .ref CY) (by rw [c.K]; exact M.ec) hz hf (fun u z => z) (by rw [c.K]; exact hk); rw [c.K] at this; exact this) hg (by show X.mg _ = _; rw [c.mg]; exact hm) bb_isi
    (pa_cons (pe_var (X := X.suite a ((a, oe) :: pn)) hN hv h1 h2) (pa_cons (pe_glob (X := X.suite a ((a, oe) :: pn)) (u := .ref CY) hgz (by show X.mg _ = _; rw [c.mg]; exact hmY) (show RelV (.ref CY) (.ref CY) from rfl) h3) pa_nil he2) he) (by decide) (by decide) he hpl, evx_is⟩
theorem cx_cmp {op : CmpOp} {r : R2} {f : D → D → Option D} (ho : OpR X (compareOp op) r) (o : Op2 K r f) (ha : CX' K mg i a dd x X ea ta ma) (hb : CX' K mg i a dd x X eb tb mb) (hm : behindInMarks op eb = false := by first | exact nomark _ | rfl) : CX' K mg i a dd x X (.Compare ea [op] [eb] pos) (tOp r ta tb) (p2 f ma mb) :=
  ⟨pe_cmpR ho ha.1 hb.1 hm, evx_op o ha.2 hb.2⟩
theorem cx_one {op : BoolOp} (ha : CX' K mg i a dd x X ea ta ma) : CX' K mg i a dd x X (.BoolOp op [ea] pos) ta ma := ⟨pe_one ha.1, ha.2⟩
theorem cx_and {rest : List Expr} (ha : CX' K mg i a dd x X ea ta ma) (hb : CX' K mg i a dd x X (.BoolOp .And (eb :: rest) pos) tb mb) : CX' K mg i a dd x X (.BoolOp .And (ea :: eb :: rest) pos) (tAndV ta tb) (pAnd ma mb) := ⟨pe_and ha.1 hb.1, evx_and ha.2 hb.2⟩
theorem cxa_nil : CXA K mg i a dd x X [] tNil pNil := ⟨pa_nil, evxa_nil⟩
theorem cxa_cons {t : TA} {m : En → RP (List D)} (ha : CX' K mg i a dd x X ea ta ma) (hr : CXA K mg i a dd x X es t m) (hs : starEach (ea :: es) X.env = (false, eval ea X.env) :: starEach es X.env := by rfl) : CXA K mg i a dd x X (ea :: es) (tCons ta t) (pCons ma m) := ⟨pa_cons ha.1 hr.1 hs, evxa_cons ha.2 hr.2⟩
/-! ### clauses -/
/-- a suite: derivation and reading -/
def CSu (K : PySem.W.Frag) (mg : Str → Option Value) (X : Cx) (C : Addr) (n : Str) (i : Nat) (b : Stmt) (bs : List Stmt) (ts : Addr → Value → Option Addr → TS) (su : Exc → En → Fl) : Prop :=
  (∀ (a : Addr) (oe : Obj) (cls : Value) (d : Option Addr) (pn : List (Addr × Obj)), Zc cls d oe → (∃ vs, oe.data = .fields vs) → cls = .ref C → d.isSome = true → PSs (X.suite a ((a, oe) :: pn)) (b :: bs) (ts a cls d)) ∧ EvSu K mg C n i ts su
theorem csu_ret {C : Addr} {n : Str} {te : Addr → Addr → TE} {m : Exc → En → RP D} (h : ∀ (a : Addr) (oe : Obj) (dd : Addr) (pn : List (Addr × Obj)) (x : Exc), Zc (.ref C) (some dd) oe → (∃ vs, oe.data = .fields vs) → CX' K mg i a dd x (X.suite a ((a, oe) :: pn)) e (te a dd) (m x)) :
    CSu K mg X C n i (.Return (some e) pos) [] (fun a _ d => tRet (te a (d.getD 0))) (suRet m) := by
  refine ⟨fun a oe cls d pn hz hf hc hd => ?_, evsu_ret fun a dd x => (h a ⟨.ref C, some dd, .fields #[], #[]⟩ dd [] x ⟨rfl, rfl⟩ ⟨_, rfl⟩).2⟩
  subst hc
  cases d with
  | none => cases hd
  | some dd => exact pss_one (ps_ret (h a oe dd pn ⟨"", []⟩ hz hf).1)
theorem csu_retT {C : Addr} {n : Str} {x1} {pt : Pos} {te : Addr → Addr → TA} {m : Exc → En → RP (List D)} (h : ∀ (a : Addr) (oe : Obj) (dd : Addr) (pn : List (Addr × Obj)) (x : Exc), Zc (.ref C) (some dd) oe → (∃ vs, oe.data = .fields vs) → CXA K mg i a dd x (X.suite a ((a, oe) :: pn)) es (te a dd) (m x)) :
    CSu K mg X C n i (.Return (some (.Tuple es x1 pt)) pos) [] (fun a _ d => tRet (tTup (te a (d.getD 0)))) (suRetT m) := by
  refine ⟨fun a oe cls d pn hz hf hc hd => ?_, evsu_retT fun a dd x => (h a ⟨.ref C, some dd, .fields #[], #[]⟩ dd [] x ⟨rfl, rfl⟩ ⟨_, rfl⟩).2⟩
  subst hc
  cases d with
  | none => cases hd
  | some dd => exact pss_one (ps_ret (pe_tup (h a oe dd pn ⟨"", []⟩ hz hf).1))
def CHs (K : PySem.W.Frag) (mg : Str → Option Value) (X : Cx) (hds : List ExceptHandler) (l : List (Value × Nat × (Addr → Value → Option Addr → TS))) (hs : List (Str × Nat × (Exc → En → Fl))) : Prop := HdsA X hds l ∧ HdsM K mg l hs
theorem chs_nil : CHs K mg X [] [] [] := ⟨.nil, .nil⟩
theorem chs_cons (c : Cc P w K mg base W X k) {nm fl y : Str} {C : Addr} {b : Stmt} {bs : List Stmt} {np pos' : Pos} {ts : Addr → Value → Option Addr → TS} {su : Exc → En → Fl} {hds : List ExceptHandler} {l : List (Value × Nat × (Addr → Value → Option Addr → TS))} {hs : List (Str × Nat × (Exc → En → Fl))} (i : Nat) (M : ExM P w K mg base j nm fl C)
    (hsu : CSu K mg X C nm i b bs ts su) (hr : CHs K mg X hds l hs) (hN : X.N[i]? = some y := by rfl) (hln : X.env.kindOf y = some .local := by rfl) (hg : Gl X nm := by rfl) (hdb : (nm == ("__debug__" : Str)) = false := by decide) :
    CHs K mg X (.ExceptHandler (some (.Name nm np)) (some y) (b :: bs) pos' :: hds) ((.ref C, i, ts) :: l) ((nm, i, su) :: hs) :=
  ⟨.cons ⟨hg, hdb, .inl (by rw [c.mg]; exact M.hm)⟩ hN hln hsu.1 hr.1, .cons M.hm M.self hsu.2 hr.2⟩
theorem cs_try (c : Cc P w K mg base W X k) (fr : X.stack = X.env :: X.outer ∧ X.env.frame = some X.env.locals) {dis : Str → Str → Bool} {body : List Stmt} {hd0 : ExceptHandler} {hdr : List ExceptHandler} {tb : WX → TS} {mb : En → Fl} {l : List (Value × Nat × (Addr → Value → Option Addr → TS))} {hs : List (Str × Nat × (Exc → En → Fl))}
    (hb : ∀ (W' : WX) (X' : Cx), (∃ pj xj, X' = X.tr pj xj) → Cc P w K mg base W' X' k → CSs K mg W' X' body (tb W') mb) (hh : CHs K mg X (hd0 :: hdr) l hs)
    (hdis : ∀ x n C C', dis x n = true → mg x = some (.ref C) → mg n = some (.ref C') → PySem.W.exmOne K (.ref C) (.ref C') = some false) : CS K mg W X (.Try body (hd0 :: hdr) [] [] pos) (fun D σ H => tb (wA K W D l) D σ H) (sTry dis mb hs) := by
  have c0 : ∀ W', ∃ xj, Cc P w K mg base W' (X.tr [] xj) k := fun W' => by
    obtain ⟨xj, h1, h2⟩ := takes_any fr.1 fr.2 W'
    exact ⟨xj, c.tr h1 h2⟩
  refine ⟨?_, evs_try (fun W' => ?_) hh.2 hdis⟩
  · have := ps_tryA (pos := pos) (tb := tb) fr.1 fr.2 c.nd c.tk (fun Wi pj xj tk po => (hb Wi _ ⟨pj, xj, rfl⟩ (c.tr tk po)).1) hh.1
    rw [c.K] at this; exact this
  · obtain ⟨xj, h⟩ := c0 W'
    exact (hb W' _ ⟨_, _, rfl⟩ h).2
end
/-! ### defs -/
/-- a def of the module, with its parameters -/
structure FnT (K : PySem.W.Frag) (mg : Str → Option Value) (x : Str) (st : Stmt) (ps : List Str) : Prop where
  ex : ∃ (f : Addr) (fd : FuncData), Fun K x x st f fd ∧ mg x = some (.ref f) ∧ Binds K fd ps []
section
variable {P : Program} {w : World} {K : PySem.W.Frag} {mg : Str → Option Value} {base : Heap}
theorem FnM.of {x : Str} {st : Stmt} {f : Addr} {fd : FuncData} {N ps : List Str} {k np n : Nat} {mb : En → Fl} (F : Fun K x x st f fd) (S : FnScope N ps (defScope st)) (hnp : np = ps.length) (hn : n = N.length)
    (hbody : ∀ (cdv : Value) (A : Around) (outer : List Env) (s : Shared) (H : Hp) (E : XK), Cc P w K mg base (fun cls d _ H => E cls d H) (cxOf (L2.CX P w) P w K mg base N x (defScope st) f cdv A outer s H E) k →
      ∃ t, CSs K mg (fun cls d _ H => E cls d H) (cxOf (L2.CX P w) P w K mg base N x (defScope st) f cdv A outer s H E) (defBody st) t mb) : FnOk P w K mg base (L2.CX P w) (k + 1) f fd ps (SpM K mg (mDef np n mb)) := by
  refine fn_okM F S hnp hn fun cdv A outer s H E hr => ?_
  obtain ⟨t, h⟩ := hbody cdv A outer s H E ⟨rfl, rfl, rfl, rfl, rfl, rfl, takes_of rfl rfl rfl rfl, hr, passes_of rfl, S.nd⟩
  exact ⟨t, h.1, h.2⟩
theorem CalM.of {x : Str} {st : Stmt} {N ps : List Str} {k np n : Nat} {mb : En → Fl} (F : FnT K mg x st ps) (S : FnScope N ps (defScope st)) (hnp : np = ps.length) (hn : n = N.length)
    (hbody : ∀ (f : Addr) (cdv : Value) (A : Around) (outer : List Env) (s : Shared) (H : Hp) (E : XK), Cc P w K mg base (fun cls d _ H => E cls d H) (cxOf (L2.CX P w) P w K mg base N x (defScope st) f cdv A outer s H E) k →
      ∃ t, CSs K mg (fun cls d _ H => E cls d H) (cxOf (L2.CX P w) P w K mg base N x (defScope st) f cdv A outer s H E) (defBody st) t mb) : CalM P w K mg base (k + 1) x (mDef np n mb) := by
  obtain ⟨f, fd, h1, h2, h3⟩ := F.ex
  refine ⟨f, fd, ps, fn_okM h1 S hnp hn fun cdv A outer s H E hr => ?_, h2, h1.kp, h3⟩
  obtain ⟨t, h⟩ := hbody f cdv A outer s H E ⟨rfl, rfl, rfl, rfl, rfl, rfl, takes_of rfl rfl rfl rfl, hr, passes_of rfl, S.nd⟩
  exact ⟨t, h.1, h.2⟩
/-- self's class's __init__: the base's, then the one field -/
theorem ex_init {qual fl z : Str} {st : Stmt} {fI C : Addr} {fd : FuncData} {N : List Str} (F : Fun K "__init__" qual st fI fd) (T : OexC K C) (hno : PySem.W.findIn K (.ref C) fl = some none) (S : FnScope N N (defScope st)) (hN : N.length = 2)
    (hbody : ∀ (cdv : Value) (A : Around) (outer : List Env) (s : Shared) (H : Hp) (E : XK), PSs (cxOf (L2.CX P w) P w K mg base N qual (defScope st) fI cdv A outer s H E) (defBody st) (tSeq (tDrop (tVeI K (tCons (tVar 0) (tCons (tC (.str z)) tNil)))) (tOst K fl (tVar 0) (tVar 1)))) :
    FnOk P w K mg base (L2.CX P w) 2 fI fd N (spEx C fl) := by
  refine F.okX S (fun vs H Q E h => ?_) (fun cdv A outer s H vs Q E hr h => ?_)
  · obtain ⟨a, v, rfl, _⟩ := h
    exact hN.symm
  · obtain ⟨a, v, rfl, ha, q⟩ := h
    refine ⟨_, hbody cdv A outer s H E, ?_⟩
    refine ⟨_, rfl, a, C, [.str z], rfl, by show 1 ≤ 1000; decide, T, ha, ?_⟩
    exact ⟨v, rfl, _, rfl, a, C, rfl, T, hno, .inl ⟨ha, fun dx h1 h2 => q dx h1 h2⟩⟩
/-! ### the law -/
def spLaw (K : PySem.W.Frag) : Sp := fun vs H Q _ => ∃ (a : Addr) (ns : List Int), vs = [.ref a] ∧ SqL K H a (ns.map V.int) ∧ ns.length ≤ 63 ∧ TabsOk H ∧ ∀ H', Q (.bl true) H'
theorem law_end {mf : En → RD} (h : ∀ ns : List Int, ns.length ≤ 63 → ∃ o, mf [.imm (.rls (ns.map .int))] = .ok (.imm (.bl true)) o) : ∀ vs H Q E, spLaw K vs H Q E → SpM K mg mf vs H Q E := by
  rintro vs H Q E ⟨a, ns, rfl, hs, hl, tb, q⟩
  obtain ⟨o, e⟩ := h ns hl
  have rs : RepL K (noT H) [V.ref a] [.rls (ns.map .int)] := .cons (.rls (SqL.kp (noT_kp H) hs) (repl_of_ints ns)) .nil
  obtain ⟨i1, i2⟩ := imm_slots rs (noT_sub H) (noT_nt H) tb
  refine ⟨noT H, [.imm (.rls (ns.map .int))], i1, fun s hs => ?_, ?_⟩
  · rcases List.mem_singleton.mp hs with rfl; exact .inl ⟨_, rfl⟩
  · rw [e]
    intro G' H' v sc hc rv
    cases rv
    exact q H'
end
end Cv
end

section
set_option Elab.async false
set_option linter.all false
set_option maxRecDepth 100000
set_option maxHeartbeats 4000000
set_option autoImplicit false
/-! CvV: more rules. -/
namespace Cv
open PySem L2 PyProof.Rows
variable [TbT]
section
variable {P : Program} {w : World} {K : PySem.W.Frag} {mg : Str → Option Value} {base : Heap} {W : WX} {X : Cx} {k j : Nat} {a b e : Expr} {es : List Expr} {ta te : TE} {pos p : Pos}
/-- the scalars that a list or a tuple holds -/
def itemsD : D → Option (List D)
  | .lst ds => some ds
  | .rls ds => some ds
  | .tup ds => some ds
  | _ => none
/-- list(x), x read purely, its items scalars -/
def fListP (m : En → RP D) (e : En) : Res MO := match m e with
  | .ok d => (match itemsD d with
    | some ds => if ds.all flat = true then .ok (.lst ds) e else .bad
    | none => .bad)
  | .exc x => .exc x e
  | .bad => .bad
theorem evf_listP {m : En → RP D} (ha : EvP K mg W ta m) : EvF K mg W (tCB (rListU K) (tCons ta tNil)) (fListP m) := by
  intro Z G H σ env Q hd h
  refine ha Z G H σ env _ hd ?_
  unfold fListP at h
  cases e : m env with
  | bad => rw [e] at h; exact h
  | exc x => rw [e] at h; exact PoX.pure h hd
  | ok d =>
    rw [e] at h
    dsimp only at h
    cases e2 : itemsD d with
    | none => rw [e2] at h; exact False.elim h
    | some ds =>
      rw [e2] at h
      dsimp only at h
      by_cases f : ds.all flat = true
      case neg => rw [if_neg f] at h; exact False.elim h
      rw [if_pos f] at h
      intro H1 v g rv
      have hd1 := hd.grow g
      have fin : ∀ p xs, (SqL K H1 p xs ∨ SqT K H1 p xs) → RepL K H1 xs ds → rListU K [.ref p] H1 Q := fun p xs sq rs => ⟨p, xs, rfl, sq, fun l hl => new_own hd (Step.grow g) hd1 (.lst (rs.flat f)) h l hl⟩
      unfold itemsD at e2
      split at e2
      · cases e2; cases rv with | lst h1 r => exact fin _ _ (.inl (SqL.of h1)) r
      · cases e2; cases rv with | rls h1 r => exact fin _ _ (.inl h1) r
      · cases e2; cases rv with | tup h1 r => exact fin _ _ (.inr (SqT.of h1)) r
      · cases e2
theorem cf_listP (c : Cc P w K mg base W X k) {m : En → RP D} (ha : CP K mg W X a ta m) (hm : mg "list" = none) (hg : Gl X "list" := by rfl) (he : starEach [a] X.env = (false, eval a X.env) :: starEach [] X.env := by rfl) (hpl : (backTo pos (starEach [] X.env)).any (·.1) = false := by rfl) :
    CF K mg W X (.Call (.Name "list" p) [a] [] pos) (tCB (rListU K) (tCons ta tNil)) (fListP m) :=
  ⟨pe_callTy (by have := call_list_of (X := X); rw [c.K] at this; exact this) hg (by rw [c.mg]; exact hm) bb_list (pa_cons ha.1 pa_nil he) (by decide) (by decide) he hpl, evf_listP ha.2⟩
end
/-! ### what the top has written -/
section
variable {P : Program} {w : World} {K : PySem.W.Frag} {mg : Str → Option Value} {base : Heap}
theorem ExM.of_facts {x f : Str} {C fI : Addr} {fd : FuncData} {ps : List Str} {nm q : Str} {N : Addr} {bs bm : List Value} {sn : List Str} {sub : List Value} {ab : Bool} {col : Option Bool} {dd : Option Addr} {k0 k1 k2 k3 k5 : Option Value} (hm : mg x = some (.ref C))
    (lk : K.lookup C = some (excClassObj nm q C N bs bm true sn sub ab col dd k0 k1 k2 k3 k5 "ValueError.__new__")) (hbm : PySem.HandSPX.refsVE bm = true) (sa : PySem.W.findIn K (.ref C) "__setattr__" = some (some (.builtin "object.__setattr__")))
    (eC : PySem.W.subIn K (.ref C) (.type "BaseException") = some true) (tC : PySem.W.typeIn K (.ref C) = some (.type "type")) (kC : PySem.W.keepIn K (.ref C) = true) (ga : PySem.W.findIn K (.ref C) "__getattribute__" = some (some (.builtin "BaseException.__getattribute__")))
    (gg : PySem.W.findIn K (.ref C) "__getattr__" = some none) (hd : PySem.W.hasDictIn K C = true) (ca : PySem.W.findIn K (.ref C) "__class__" = some (some (.builtin "object.__class__"))) (cg : PySem.W.specialIn K (.builtin "object.__class__") "__get__" = some (some (.builtin "getset_descriptor.__get__")))
    (ct : PySem.W.takesIn K (.builtin "object.__class__") = some true) (mo : PySem.W.mroIn K C (.type "object") = some true) (nf : PySem.W.findIn K (.ref C) f = some none) (sf : PySem.W.subIn K (.ref C) (.ref C) = some true)
    (iC : PySem.W.findIn K (.ref C) "__init__" = some (some (.ref fI))) (tI : PySem.W.typeIn K (.ref fI) = some (.type "function")) (F : OexC K C → FnOk P w K mg base (L2.CX P w) 2 fI fd ps (spEx C f)) (B : Binds K fd ps []) : ExM P w K mg base 2 x f C :=
  have T : OexC K C := ⟨⟨_, _, _, _, _, _, _, _, _, _, _, _, _, _, _, lk, hbm⟩, sa, eC, tC, kC⟩
  ⟨hm, T, ⟨ga, gg, eC, hd⟩, ⟨ga, gg, eC, hd, ca, cg, ct, mo⟩, nf, PySem.W.exm_ref eC hd tC sf, fI, fd, ps, iC, tI, F T, B⟩
theorem kit_of {A C : Addr} {b : Bool} (hd : PySem.W.hasDictIn K C = true) (tC : PySem.W.typeIn K (.ref C) = some (.type "type")) (sf : PySem.W.subIn K (.ref C) (.ref C) = some true) (sb : PySem.W.subIn K (.ref A) (.ref C) = some b) : PySem.W.kitOne K (.ref A) (.ref C) = some b := by
  unfold PySem.W.kitOne
  by_cases e : A = C
  · subst e
    rw [sf] at sb; cases sb
    rw [if_pos (by simp)]
  · have hc : (PySem.W.clsIn K C).isSome = true := by
      unfold PySem.W.hasDictIn at hd
      cases z : PySem.W.clsIn K C with
      | some cd => rfl
      | none => rw [z] at hd; cases hd
    rw [if_neg (fun z => e (Value.ref.inj (beq_iff_eq.mp z)))]
    unfold PySem.W.kitCls
    dsimp only
    rw [if_pos (by rw [hc, tC]; rfl)]
    exact sb
/-- the goal that the head leaves, where a value of the top that was reckoned is read -/
theorem walk_ofX {l : PySem.W.OpenLaw} {n k : Nat} {q : Program} {loose : List Str} {XP : (Str → Option Value) → Heap → Prop} {YP : World → Heap → Prop} {d : DefRec} {K : Params → PySem.W.Frag} {CX : World → CXT} {sp : World → PySem.W.Frag → Sp} {x : Str}
    (hn : l.most = some n) (hn2 : n ≤ sizeLine) (hdf : d.params.defaults = []) (hr : Room k callerA) (hY : ∀ (w : World) (h : Heap), YP w h → (K w.params).In h)
    (F : ∀ (w : World) (mg : Str → Option Value) (fa : Addr) (h : Heap), XP mg h → (K w.params).In h → h.Ns mainGlobals mg → mg d.name = some (.ref fa) →
      ∃ fd : FuncData, (∀ (s : Shared) (u : Value), BindsTo s fd ⟨[u], []⟩ [(x, u)]) ∧ ∀ base : Heap, (K w.params).In base → base.Ns mainGlobals mg → FnOk l.prog w (K w.params) mg base (CX w) k fa fd [x] (sp w (K w.params)))
    (hsp : ∀ (w : World) (K : PySem.W.Frag) (H : Hp) (a : Addr) (ns : List Int), ns.length ≤ n → Only H → SqL K H a (ns.map V.int) → sp w K [.ref a] H (fun v _ => v = .bl true) fun _ _ _ => False)
    (hCX : ∀ (w : World) (H : Hp) (s : Shared) (e : Value) (s' : Shared), CX w [] H s (fun _ _ _ => False) e s' → False) : PySem.W.WalkO q loose XP YP l.row.toRowW d [] (fun f vs => PySem.call f vs) := by
  refine Att.attach_call hn hdf fun w s₀ s₁ mg mb fa o pm cd doc a vs ns Gr Y ho hd hcd hmg hobj hints hlen hg => ?_
  obtain ⟨fd, hb, hF⟩ := F w mg fa _ Gr.X (hY w _ Y) Gr.T.g hmg
  exact law_call (hY w _ Y) Gr.T.g Gr.T.b Gr.T.builtins Gr.T.nolimit hg hobj hints (Nat.le_trans hlen hn2) hr hF hb (fun H hO hS => hsp w _ H a ns hlen hO hS) fun H e s' => hCX w H s₁ e s'
theorem cx_no {H : Hp} {s s' : Shared} {e : Value} (h : L2.CX P w [] H s (fun _ _ _ => False) e s') : False := by
  obtain ⟨_, _, _, _, _, _, _, _, _, _, _, _, z⟩ := h
  exact z
theorem loose_int {x : Str} {i : Int} {lv : List (Str × PySem.W.WData)} {h : Heap} (X : PySem.W.LooseAre lv mg h) (hx : lv.lookup x = some (.int i)) : ∃ t, mg x = some (.int i t) := by
  have mem : ∀ {lv : List (Str × PySem.W.WData)}, lv.lookup x = some (.int i) → (x, PySem.W.WData.int i) ∈ lv := by
    intro lv
    induction lv with
    | nil => intro h; cases h
    | cons p r ih =>
      intro h
      obtain ⟨y, z⟩ := p
      by_cases e : x = y
      · subst e
        simp [List.lookup] at h
        subst h; exact List.mem_cons_self
      · have e' : (x == y) = false := by simpa using e
        simp only [List.lookup, e'] at h
        exact List.mem_cons_of_mem _ (ih h)
  obtain ⟨v, h1, h2⟩ := X.val _ (mem hx)
  cases h2
  exact ⟨_, h1⟩
end
end Cv
end

section
set_option Elab.async false
set_option linter.all false
set_option maxRecDepth 100000
set_option maxHeartbeats 4000000
set_option autoImplicit false
/-! CvM: reckoning with mirrors. -/
namespace Cv
open PySem L2
variable [TbT]
/-! ### types -/
theorem kb1 : kitB "int" "int" = some true := by decide +kernel
theorem kb2 : kitB "int" "bool" = some false := by decide +kernel
theorem kb3 : kitB "bool" "int" = some true := by decide +kernel
theorem kb4 : kitB "bool" "bool" = some true := by decide +kernel
theorem kb5 : kitB "str" "str" = some true := by decide +kernel
theorem kb6 : kitB "list" "list" = some true := by decide +kernel
theorem kb7 : kitB "tuple" "tuple" = some true := by decide +kernel
theorem kb8 : kitB "list" "tuple" = some false := by decide +kernel
theorem kb9 : kitB "tuple" "list" = some false := by decide +kernel
theorem kb10 : kitB "list" "int" = some false := by decide +kernel
theorem kb11 : kitB "tuple" "int" = some false := by decide +kernel
theorem kb12 : kitB "str" "int" = some false := by decide +kernel
theorem kb13 : kitB "NoneType" "int" = some false := by decide +kernel
theorem kb14 : kitB "NoneType" "bool" = some false := by decide +kernel
theorem kb15 : kitB "NoneType" "list" = some false := by decide +kernel
theorem kb16 : kitB "NoneType" "tuple" = some false := by decide +kernel
theorem kb17 : kitB "int" "list" = some false := by decide +kernel
theorem kb18 : kitB "int" "tuple" = some false := by decide +kernel
theorem kb19 : kitB "int" "str" = some false := by decide +kernel
theorem kb20 : kitB "str" "list" = some false := by decide +kernel
theorem kb21 : kitB "str" "tuple" = some false := by decide +kernel
theorem kb22 : kitB "bool" "list" = some false := by decide +kernel
theorem kb23 : kitB "bool" "tuple" = some false := by decide +kernel
/-! ### equality -/
mutual
def okD : Nat → D → Bool
  | _, .non => true
  | _, .bl _ => true
  | _, .int _ => true
  | _, .str s => PyData.strOk s
  | 0, .lst _ => false
  | 0, .tup _ => false
  | n + 1, .lst xs => okDL n xs
  | n + 1, .tup xs => okDL n xs
  | _, .rls _ => false
  | _, .obj _ _ => false
  | _, .fn _ _ => false
def okDL : Nat → List D → Bool
  | _, [] => true
  | n, x :: xs => okD n x && okDL n xs
end
mutual
theorem okD_py : ∀ {d : D} {n : Nat}, okD n d = true → ∃ p, toPy d = some p ∧ p.canLay0 = true ∧ p.depth ≤ n
  | .non, n, h => ⟨.none, rfl, rfl, Nat.zero_le _⟩
  | .bl b, n, h => ⟨.bool b, rfl, rfl, Nat.zero_le _⟩
  | .int i, n, h => ⟨.int i, rfl, rfl, Nat.zero_le _⟩
  | .str s, n, h => ⟨.str s, rfl, by simpa [PyData.canLay0, okD] using h, Nat.zero_le _⟩
  | .lst xs, 0, h => by simp [okD] at h
  | .tup xs, 0, h => by simp [okD] at h
  | .lst xs, n + 1, h => by
    obtain ⟨ps, h1, h2, h3⟩ := okDL_py (ds := xs) (n := n) (by simpa [okD] using h)
    exact ⟨.list ps, by simp [toPy, h1], by simpa [PyData.canLay0] using h2, by simp [PyData.depth]; omega⟩
  | .tup xs, n + 1, h => by
    obtain ⟨ps, h1, h2, h3⟩ := okDL_py (ds := xs) (n := n) (by simpa [okD] using h)
    exact ⟨.tuple ps, by simp [toPy, h1], by simpa [PyData.canLay0] using h2, by simp [PyData.depth]; omega⟩
  | .rls _, n, h => by simp [okD] at h
  | .obj _ _, n, h => by simp [okD] at h
  | .fn _ _, n, h => by simp [okD] at h
theorem okDL_py : ∀ {ds : List D} {n : Nat}, okDL n ds = true → ∃ ps, toPyL ds = some ps ∧ PyData.canLayAll0 ps = true ∧ PyData.depthAll ps ≤ n
  | [], n, h => ⟨[], rfl, rfl, Nat.zero_le _⟩
  | x :: xs, n, h => by
    have h' : okD n x = true ∧ okDL n xs = true := by simpa [okDL] using h
    obtain ⟨p, a1, a2, a3⟩ := okD_py h'.1
    obtain ⟨ps, b1, b2, b3⟩ := okDL_py h'.2
    exact ⟨p :: ps, by simp [toPyL, a1, b1], by simp [PyData.canLayAll0, a2, b2], by simp [PyData.depthAll]; omega⟩
end
theorem shaped_of {p : PyData} (h : p.canLay0 = true) (h2 : p.depth ≤ 64) : PySem.SeqAt.shaped p = true := by
  unfold PySem.SeqAt.shaped
  rw [h]; simpa using h2
theorem dEqv_refl {d : D} (h : okD 64 d = true) : dEqv d d = some true := by
  obtain ⟨p, h1, h2, h3⟩ := okD_py h
  unfold dEqv
  rw [h1]
  simp only [Option.bind_some]
  rw [if_pos ⟨shaped_of h2 h3, shaped_of h2 h3⟩]
  exact congrArg some (PySem.SeqAt.eqv_refl p h2)
theorem dEq_refl {d : D} (h : okD 64 d = true) : dEq d d = some (.bl true) := by unfold dEq; rw [dEqv_refl h]; rfl
theorem dNe_refl {d : D} (h : okD 64 d = true) : dNe d d = some (.bl false) := by unfold dNe; rw [dEqv_refl h]; rfl
theorem dEqv_int (i j : Int) : dEqv (.int i) (.int j) = some (decide (i = j)) := by
  unfold dEqv
  simp only [toPy, Option.bind_some]
  rw [if_pos ⟨shaped_of (by simp [PyData.canLay0]) (Nat.zero_le _), shaped_of (by simp [PyData.canLay0]) (Nat.zero_le _)⟩]
  by_cases h : i = j <;> simp [PyData.eqv, h]
theorem dEqv_str {i j : Str} (hi : PyData.strOk i = true) (hj : PyData.strOk j = true) : dEqv (.str i) (.str j) = some (decide (i = j)) := by
  unfold dEqv
  simp only [toPy, Option.bind_some]
  rw [if_pos ⟨shaped_of (by simpa [PyData.canLay0] using hi) (Nat.zero_le _), shaped_of (by simpa [PyData.canLay0] using hj) (Nat.zero_le _)⟩]
  by_cases h : i = j <;> simp [PyData.eqv, h]
theorem dEqv_bl (i j : Bool) : dEqv (.bl i) (.bl j) = some (decide (i = j)) := by
  unfold dEqv
  simp only [toPy, Option.bind_some]
  rw [if_pos ⟨shaped_of (by simp [PyData.canLay0]) (Nat.zero_le _), shaped_of (by simp [PyData.canLay0]) (Nat.zero_le _)⟩]
  by_cases h : i = j <;> simp [PyData.eqv, h]
theorem dEq_int (i j : Int) : dEq (.int i) (.int j) = some (.bl (decide (i = j))) := by unfold dEq; rw [dEqv_int]; rfl
theorem dNe_int (i j : Int) : dNe (.int i) (.int j) = some (.bl (!decide (i = j))) := by unfold dNe; rw [dEqv_int]; rfl
theorem dEq_str {i j : Str} (hi : PyData.strOk i = true := by decide +kernel) (hj : PyData.strOk j = true := by decide +kernel) : dEq (.str i) (.str j) = some (.bl (decide (i = j))) := by unfold dEq; rw [dEqv_str hi hj]; rfl
theorem dNe_str {i j : Str} (hi : PyData.strOk i = true := by decide +kernel) (hj : PyData.strOk j = true := by decide +kernel) : dNe (.str i) (.str j) = some (.bl (!decide (i = j))) := by unfold dNe; rw [dEqv_str hi hj]; rfl
theorem dEq_bl (i j : Bool) : dEq (.bl i) (.bl j) = some (.bl (decide (i = j))) := by unfold dEq; rw [dEqv_bl]; rfl
theorem dEq_nil {ds : List D} (h : okDL 63 ds = true) : dEq (.lst ds) (.lst []) = some (.bl (decide (ds = []))) := by
  obtain ⟨ps, h1, h2, h3⟩ := okDL_py h
  have e : dEqv (.lst ds) (.lst []) = some (PyData.eqv (.list ps) (.list [])) := by
    unfold dEqv
    simp only [toPy, toPyL, h1, Option.map_some, Option.bind_some]
    rw [if_pos ⟨shaped_of (by simpa [PyData.canLay0] using h2) (by simp [PyData.depth]; omega), rfl⟩]
  unfold dEq
  rw [e]
  cases ds with
  | nil => cases h1; simp [PyData.eqv, PyData.eqvAll]
  | cons x xs =>
    unfold toPyL at h1
    cases q : toPy x with
    | none => rw [q] at h1; cases h1
    | some p =>
      rw [q] at h1
      cases q2 : toPyL xs with
      | none => rw [q2] at h1; cases h1
      | some r => rw [q2] at h1; cases h1; simp [PyData.eqv, PyData.eqvAll]
theorem okDL_ints (n : Nat) : ∀ (ns : List Int), okDL n (ns.map .int) = true
  | [] => by simp [okDL]
  | x :: xs => by
    have : okD n (.int x) = true := by cases n <;> simp [okD]
    rw [List.map_cons, okDL, this, okDL_ints n xs]; rfl
theorem flat_ints : ∀ (ns : List Int), (ns.map D.int).all flat = true
  | [] => rfl
  | n :: r => by simp [flat]
/-! ### arithmetic -/
theorem dMul_ok {i j : Int} (h : CMul i j ∨ CMulW i j) : dMul (.int i) (.int j) = some (.int (i * j)) := by show (if CMul i j ∨ CMulW i j then some (D.int (i * j)) else none) = _; rw [if_pos h]
theorem dMul_l {i j : Int} (h : -18446744073709551616 < i) (h2 : i < 18446744073709551616) : dMul (.int i) (.int j) = some (.int (i * j)) := dMul_ok (.inl (.inl ⟨h, h2⟩))
theorem dMul_r {i j : Int} (h : -18446744073709551616 < j) (h2 : j < 18446744073709551616) : dMul (.int i) (.int j) = some (.int (i * j)) := dMul_ok (.inl (.inr ⟨h, h2⟩))
theorem cdivW_of {i j : Int} (h : 0 < j) (h2 : j < 18446744073709551616) : CDivW i j := by
  refine ⟨h, ?_⟩
  have : j.natAbs < 2 ^ 64 := by omega
  have := (Nat.log2_lt (n := j.natAbs) (k := 64) (by omega)).mpr this
  omega
theorem dFdiv_ok {i j : Int} (h : 0 < j) (h2 : j < 18446744073709551616) : dFdiv (.int i) (.int j) = some (.int (i / j)) := by show (if CDivW i j then some (D.int (i / j)) else none) = _; rw [if_pos (cdivW_of h h2)]
theorem dMod_ok {i j : Int} (h : 0 < j) : dMod (.int i) (.int j) = some (.int (i % j)) := by show (if 0 < j then some (D.int (i % j)) else none) = _; rw [if_pos h]
theorem dPow_ok {i j : Int} (h : CPow i j) : dPow (.int i) (.int j) = some (.int (i ^ j.toNat)) := by show (if CPow i j then some (D.int (i ^ j.toNat)) else none) = _; rw [if_pos h]
theorem dPow_10_6 : dPow (.int 10) (.int 6) = some (.int 1000000) := dPow_ok (by decide)
theorem dPow_10_18 : dPow (.int 10) (.int 18) = some (.int 1000000000000000000) := dPow_ok (by decide)
theorem intsD_map (ns : List Int) : intsD (ns.map .int) = some ns := by
  induction ns with
  | nil => rfl
  | cons n r ih => simp [intsD, ih]
theorem pairsD_of (ps : List (Int × Int)) : pairsD (ps.map pairD) = some ps := by
  induction ps with
  | nil => rfl
  | cons n r ih => obtain ⟨a, b⟩ := n; simp [pairsD, pairD, ih]
theorem sizeLine_big : (1000000 : Nat) ≤ sizeLine := by rw [PySem.sizeLine_eq]; decide
theorem le_line {n : Nat} (h : n ≤ 1000000) : n ≤ sizeLine := Nat.le_trans h sizeLine_big
theorem lt_line {n : Nat} (h : n < 1000000) : n < sizeLine := Nat.lt_of_lt_of_le h sizeLine_big
/-! ### places -/
theorem atI_of {α : Type} {xs : List α} {i : Int} {j : Nat} {v : α} (hj : i = (j : Int)) (h : xs[j]? = some v) : atI xs i = some v := by rw [hj]; exact L2.atI_nat h
theorem ixN_of {n : Nat} {i : Int} {j : Nat} (hj : i = (j : Int)) (h : j < n) : ixN n i = some j := by
  subst hj
  unfold ixN
  rw [if_pos (by omega), if_pos (by omega)]; simp
/-! ### loops -/
theorem forL_inv {tg : D → En → Option En} {body : En → Fl} : ∀ {ds : List D} (inv : Nat → En), (∀ (i : Nat) (d : D), ds[i]? = some d → ∃ e1, tg d (inv i) = some e1 ∧ (body e1 = .next (inv (i + 1)) ∨ body e1 = .cont (inv (i + 1)))) → forL tg body ds (inv 0) = .next (inv ds.length)
  | [], inv, h => rfl
  | d :: r, inv, h => by
    obtain ⟨e1, h1, h2⟩ := h 0 d rfl
    unfold forL
    rw [h1]
    dsimp only
    have ih := forL_inv (tg := tg) (body := body) (ds := r) (fun i => inv (i + 1)) fun i x hx => h (i + 1) x (by simpa using hx)
    rcases h2 with h2 | h2 <;> (rw [h2]; exact ih)
/-- a loop, by what stands at each turn -/
theorem forL_rel {tg : D → En → Option En} {body : En → Fl} : ∀ {ds : List D} (P : Nat → En → Prop) {e : En}, P 0 e → (∀ (i : Nat) (d : D) (e : En), ds[i]? = some d → P i e → ∃ e1 e2, tg d e = some e1 ∧ (body e1 = .next e2 ∨ body e1 = .cont e2) ∧ P (i + 1) e2) → ∃ e', forL tg body ds e = .next e' ∧ P ds.length e'
  | [], P, e, h0, h => ⟨e, rfl, h0⟩
  | d :: r, P, e, h0, h => by
    obtain ⟨e1, e2, h1, h2, h3⟩ := h 0 d e rfl h0
    unfold forL
    rw [h1]
    dsimp only
    obtain ⟨e', a, b⟩ := forL_rel (tg := tg) (body := body) (ds := r) (fun i => P (i + 1)) h3 fun i x e hx => h (i + 1) x e (by simpa using hx)
    refine ⟨e', ?_, b⟩
    rcases h2 with h2 | h2 <;> (rw [h2]; exact a)
/-- a loop left at turn j -/
theorem forL_out {tg : D → En → Option En} {body : En → Fl} {out : Fl} (ho : (∀ e, out ≠ .next e) ∧ (∀ e, out ≠ .cont e) ∧ ∀ e, out ≠ .brk e) : ∀ {ds : List D} {j : Nat} {d : D} (inv : Nat → En), (∀ (i : Nat) (d : D), i < j → ds[i]? = some d → ∃ e1, tg d (inv i) = some e1 ∧ (body e1 = .next (inv (i + 1)) ∨ body e1 = .cont (inv (i + 1)))) →
    ds[j]? = some d → (∃ e1, tg d (inv j) = some e1 ∧ body e1 = out) → forL tg body ds (inv 0) = out
  | [], j, d, inv, h, hj, _ => by simp at hj
  | x :: r, 0, d, inv, h, hj, ⟨e1, h1, h2⟩ => by
    simp at hj; subst hj
    unfold forL
    rw [h1]
    dsimp only
    rw [h2]
    cases out with
    | next e => exact absurd rfl (ho.1 e)
    | cont e => exact absurd rfl (ho.2.1 e)
    | brk e => exact absurd rfl (ho.2.2 e)
    | ret r e => rfl
    | exc x e => rfl
    | bad => rfl
  | x :: r, j + 1, d, inv, h, hj, he => by
    obtain ⟨e1, h1, h2⟩ := h 0 x (Nat.succ_pos _) rfl
    unfold forL
    rw [h1]
    dsimp only
    have ih := forL_out ho (tg := tg) (body := body) (ds := r) (j := j) (d := d) (fun i => inv (i + 1)) (fun i y hi hy => h (i + 1) y (by omega) (by simpa using hy)) (by simpa using hj) he
    rcases h2 with h2 | h2 <;> (rw [h2]; exact ih)
theorem lcL_map {vs : List Nat} {tg : D → En → Option En} {test : En → Res Bool} {elt : En → Res D} {e : En} {f : D → D} : ∀ {ds acc : List D}, (∀ d ∈ ds, ∃ e1, tg d e = some e1 ∧ test e1 = .ok true e1 ∧ elt e1 = .ok (f d) e1 ∧ freeOf e1 vs = true ∧ wipeE e1 vs = e) → acc.length + ds.length ≤ sizeLine → lcL vs tg test elt ds acc e = .ok (acc ++ ds.map f) e
  | [], acc, h, hl => by simp [lcL]
  | d :: r, acc, h, hl => by
    obtain ⟨e1, h1, h2, h3, h4, h5⟩ := h d List.mem_cons_self
    unfold lcL
    rw [h1]
    dsimp only
    rw [h2]
    dsimp only
    rw [h3]
    dsimp only
    rw [if_pos ⟨by simp at hl; omega, h4⟩, h5, lcL_map (fun x hx => h x (List.mem_cons_of_mem _ hx)) (by simp at hl ⊢; omega)]
    simp
theorem fLc_map {vs : List Nat} {src : En → Res (List D)} {tg : D → En → Option En} {test : En → Res Bool} {elt : En → Res D} {e e1 : En} {ds : List D} (f : D → D) (hs : src e = .ok ds e1) (hf : freeOf e1 vs = true)
    (h : ∀ d ∈ ds, ∃ e2, tg d (wipeE e1 vs) = some e2 ∧ test e2 = .ok true e2 ∧ elt e2 = .ok (f d) e2 ∧ freeOf e2 vs = true ∧ wipeE e2 vs = wipeE e1 vs) (hl : ds.length ≤ sizeLine) : fLc src vs tg test elt e = .ok (.lst (ds.map f)) (rest e1 vs (wipeE e1 vs)) := by
  unfold fLc
  rw [hs]
  dsimp only
  rw [if_pos hf, lcL_map h (by simpa using hl)]
  simp
theorem rng_eq (n : Nat) : rng 0 n = (List.range n).map fun (i : Nat) => D.int (i : Int) := by unfold rng; simp
/-! ### step by step -/
/-- a def's end -/
def fin (as : En) : Fl → RD
  | .next e => (match outsOf as e with
    | some o => .ok (.imm .non) o
    | none => .bad)
  | .ret r e => (match outsOf as e with
    | some o => .ok r o
    | none => .bad)
  | .exc x e => (match outsOf as e with
    | some o => .exc x o
    | none => .bad)
  | _ => .bad
theorem mDef_fin {np n : Nat} {b : En → Fl} {as : En} (h : as.length = np) : mDef np n b as = fin as (b (as ++ List.replicate (n - as.length) .none)) := by
  unfold mDef
  rw [if_pos h]
  cases b (as ++ List.replicate (n - as.length) .none) <;> rfl
/-- a def called: its slots -/
theorem mDef_go {np n : Nat} {b : En → Fl} {as e : En} {r : Fl} (h : as.length = np) (he : as ++ List.replicate (n - as.length) .none = e) (hr : b e = r) : mDef np n b as = fin as r := by rw [mDef_fin h, he, hr]
theorem seq_next {a b : En → Fl} {e e1 : En} (h : a e = .next e1) : sSeq a b e = b e1 := by unfold sSeq; rw [h]
theorem seq_ret {a b : En → Fl} {e e1 : En} {r : Ret} (h : a e = .ret r e1) : sSeq a b e = .ret r e1 := by unfold sSeq; rw [h]
theorem seq_exc {a b : En → Fl} {e e1 : En} {x : Exc} (h : a e = .exc x e1) : sSeq a b e = .exc x e1 := by unfold sSeq; rw [h]
theorem asg_ok {m : En → Res D} {g : D → En → Option En} {e e1 e2 : En} {d : D} (h : m e = .ok d e1) (hg : g d e1 = some e2) : sAsg m g e = .next e2 := by unfold sAsg; rw [h]; dsimp only; rw [hg]
theorem asgF_ok {m : En → Res MO} {i : Nat} {e e1 : En} {d : MO} (h : m e = .ok d e1) (hi : i < e1.length) : sAsgF m i e = .next (e1.set i (.own d)) := by unfold sAsgF; rw [h]; dsimp only; rw [if_pos hi]
theorem for_ok {src : En → Res (List D)} {tg : D → En → Option En} {b : En → Fl} {e e1 : En} {ds : List D} (h : src e = .ok ds e1) : sFor src tg b e = forL tg b ds e1 := by unfold sFor; rw [h]
theorem if_t {c : En → Res Bool} {a b : En → Fl} {e e1 : En} (h : c e = .ok true e1) : sIf c a b e = a e1 := by unfold sIf; rw [h]
theorem if_f {c : En → Res Bool} {a b : En → Fl} {e e1 : En} (h : c e = .ok false e1) : sIf c a b e = b e1 := by unfold sIf; rw [h]
theorem drop_ok {m : En → Res D} {e e1 : En} {d : D} (h : m e = .ok d e1) : sDrop m e = .next e1 := by unfold sDrop; rw [h]
theorem drop_exc {m : En → Res D} {e e1 : En} {x : Exc} (h : m e = .exc x e1) : sDrop m e = .exc x e1 := by unfold sDrop; rw [h]
theorem ret_ok {m : En → Res D} {e e1 : En} {d : D} (h : m e = .ok d e1) : sRet m e = .ret (.imm d) e1 := by unfold sRet; rw [h]
/-! ### for simp: by the kind of data alone -/
theorem fl_non : flat .non = true := rfl
theorem fl_bl (b : Bool) : flat (.bl b) = true := rfl
theorem fl_int (i : Int) : flat (.int i) = true := rfl
theorem fl_str (s : Str) : flat (.str s) = true := rfl
theorem fl_lst (l : List D) : flat (.lst l) = false := rfl
theorem fl_tup (l : List D) : flat (.tup l) = false := rfl
theorem fl_rls (l : List D) : flat (.rls l) = false := rfl
theorem td_lst (l : List D) : MO.toD (.lst l) = .lst l := rfl
theorem mf_lst (l : List D) : MO.flat (.lst l) = l.all flat := rfl
/-- a loop left at turn j, by what stands at each turn -/
theorem forL_outR {tg : D → En → Option En} {body : En → Fl} {R : Fl → Prop} (hR : ∀ e, ¬ R (.next e) ∧ ¬ R (.cont e) ∧ ¬ R (.brk e)) : ∀ {ds : List D} {j : Nat} {d : D} (P : Nat → En → Prop) {e : En}, P 0 e →
    (∀ (i : Nat) (d : D) (e : En), i < j → ds[i]? = some d → P i e → ∃ e1 e2, tg d e = some e1 ∧ (body e1 = .next e2 ∨ body e1 = .cont e2) ∧ P (i + 1) e2) → ds[j]? = some d → (∀ e, P j e → ∃ e1, tg d e = some e1 ∧ R (body e1)) → R (forL tg body ds e)
  | [], j, d, P, e, h0, h, hj, _ => by simp at hj
  | x :: r, 0, d, P, e, h0, h, hj, ho => by
    simp at hj; subst hj
    obtain ⟨e1, h1, h2⟩ := ho e h0
    unfold forL
    rw [h1]
    dsimp only
    cases q : body e1 with
    | next e => rw [q] at h2; exact absurd h2 (hR e).1
    | cont e => rw [q] at h2; exact absurd h2 (hR e).2.1
    | brk e => rw [q] at h2; exact absurd h2 (hR e).2.2
    | ret r e => rw [q] at h2; exact h2
    | exc x e => rw [q] at h2; exact h2
    | bad => rw [q] at h2; exact h2
  | x :: r, j + 1, d, P, e, h0, h, hj, ho => by
    obtain ⟨e1, e2, h1, h2, h3⟩ := h 0 x e (Nat.succ_pos _) rfl h0
    unfold forL
    rw [h1]
    dsimp only
    have ih := forL_outR hR (tg := tg) (body := body) (ds := r) (j := j) (d := d) (fun i => P (i + 1)) h3 (fun i y e hi hy => h (i + 1) y e (by omega) (by simpa using hy)) (by simpa using hj) ho
    rcases h2 with h2 | h2 <;> (rw [h2]; exact ih)
/-- the first place of a kind -/
theorem first_ix {α : Type} {p : α → Prop} : ∀ {l : List α}, (∃ x ∈ l, p x) → ∃ (j : Nat) (x : α), l[j]? = some x ∧ p x ∧ ∀ (i : Nat) (y : α), i < j → l[i]? = some y → ¬ p y
  | [], ⟨x, h, _⟩ => by simp at h
  | a :: r, ⟨x, h, hp⟩ => by
    by_cases c : p a
    · exact ⟨0, a, rfl, c, fun i y hi => by omega⟩
    · have : ∃ x ∈ r, p x := by
        rcases List.mem_cons.mp h with z | z
        · rw [z] at hp; exact absurd hp c
        · exact ⟨x, z, hp⟩
      obtain ⟨j, y, h1, h2, h3⟩ := first_ix this
      refine ⟨j + 1, y, by simpa using h1, h2, fun i z hi hz => ?_⟩
      cases i with
      | zero => simp at hz; subst hz; exact c
      | succ i => exact h3 i z (by omega) (by simpa using hz)
theorem iR1_ok {m : En → Res (List D)} {e e1 : En} {j : Int} {n : Nat} (h : m e = .ok [.int j] e1) (h1 : 0 ≤ j) (h2 : j ≤ 1000000) (hn : j.toNat = n) : iR1 m e = .ok (rng 0 n) e1 := by
  unfold iR1
  rw [h]
  have c : -(2 ^ 62) ≤ j ∧ j < 2 ^ 62 := ⟨Int.le_trans (by decide) h1, Int.lt_of_le_of_lt h2 (by decide)⟩
  show (if -(2 ^ 62) ≤ j ∧ j < 2 ^ 62 then Res.ok (rng 0 j.toNat) e1 else .bad) = _
  rw [if_pos c, hn]
theorem iR2_ok {m : En → Res (List D)} {e e1 : En} {i j : Int} {n : Nat} (h : m e = .ok [.int i, .int j] e1) (h1 : 0 ≤ j) (h2 : j ≤ 1000000) (h3 : 0 ≤ i) (h4 : i ≤ 1000000) (hn : (j - i).toNat = n) : iR2 m e = .ok (rng i n) e1 := by
  unfold iR2
  rw [h]
  have c : -(2 ^ 62) ≤ i ∧ i < 2 ^ 62 ∧ -(2 ^ 62) ≤ j ∧ j < 2 ^ 62 := ⟨Int.le_trans (by decide) h3, Int.lt_of_le_of_lt h4 (by decide), Int.le_trans (by decide) h1, Int.lt_of_le_of_lt h2 (by decide)⟩
  show (if -(2 ^ 62) ≤ i ∧ i < 2 ^ 62 ∧ -(2 ^ 62) ≤ j ∧ j < 2 ^ 62 then Res.ok (rng i (j - i).toNat) e1 else .bad) = _
  rw [if_pos c, hn]
theorem kRep_ok {a : En → RP (List D)} {b : En → RP D} {e : En} {ds : List D} {k : Int} {n : Nat} (ha : a e = .ok ds) (hb : b e = .ok (.int k)) (h1 : 0 ≤ k) (h2 : k ≤ 1000000) (hn : k.toNat = n) (hl : ds.length * n ≤ 1000000) : kRep a b e = .ok (List.replicate n ds).flatten := by
  unfold kRep
  rw [ha]
  simp only [RP.bind]
  rw [hb]
  have c : -(2 ^ 63) ≤ k ∧ k < 2 ^ 63 ∧ ds.length * k.toNat ≤ sizeLine := ⟨Int.le_trans (by decide) h1, Int.lt_of_le_of_lt h2 (by decide), by rw [hn]; exact le_line hl⟩
  show (if -(2 ^ 63) ≤ k ∧ k < 2 ^ 63 ∧ ds.length * k.toNat ≤ sizeLine then RP.ok (List.replicate k.toNat ds).flatten else .bad) = _
  rw [if_pos c, hn]
theorem fOfK_ok {a : En → RP (List D)} {e : En} {ds : List D} (h : a e = .ok ds) : fOfK a e = .ok (.lst ds) e := by unfold fOfK; rw [h]
end Cv
end

section
set_option Elab.async false
set_option linter.all false
set_option maxRecDepth 100000
set_option maxHeartbeats 4000000
set_option autoImplicit false
/-! CvK: a lambda without parameters handed, ahead of further arguments, to a def of the module that calls it. -/
namespace Cv
open PySem L2 LamX PyProof.Rows PySem.Spec
variable [TbT]
section
variable {X : Cx} {pins : List (Addr × Obj)} {σ : L2.St} {H : Hp} {s : Shared}
abbrev lamQ (X : Cx) : Str := X.env.qual ++ "<lambda>"
abbrev lamO (X : Cx) (params : Arguments) (body : Expr) (scope : Scope) (pm : Value) (c' : Addr) (ctv : Value) : Obj := PySem.W.kla_obj "<lambda>" (lamQ X) params body scope (cloFrom X.env.cells scope.names []) pm c' ctv
/-- the lambda is made; its object is new, all that was tracked is still tracked -/
theorem lam_mk {T : List (Addr × Str)} {c P : Addr} {params : Arguments} {body : Expr} {scope : Scope} {pos : Pos} {E Q : Value → Shared → Prop} (I : Inv X pins σ H s) (TB : LamX.TabB X.base X.mg c P) (hcode : X.env.code = .ref c)
    (hm : (P, lamQ X) ∈ T) (hu : ∀ p ∈ T, p.1 = P → p.2 = lamQ X) (hT : Tabs T H) (hdef : defaultsOf params X.env = ([], [])) (hfree : ∀ y ∈ scope.names, y.2 = .free → ∃ c, X.env.cells.lookup y.1 = some c)
    (h : ∀ (f c' : Addr) (pm ctv : Value) (H1 : Hp) (s' : Shared), Inv X pins σ H1 s' → ExtN H H1 → (∀ a, H1 a = none → H a = none) → (∀ a, (∃ ps, H a = some (.tbl ps)) ↔ ∃ ps, H1 a = some (.tbl ps)) → Tabs T H1 → s'.heap.get? f = some (lamO X params body scope pm c' ctv) → H1 f = none → f ∉ frs X.stack → H1 c' = some (CodeO c' (lamQ X)) → Q (.ref f) s') :
    wpAny (model X.prog X.w) X.A (eval (.Lambda params body scope pos) X.env) Q E s := by
  have hTP := hT _ hm
  obtain ⟨ps, tP, tr, al⟩ := hTP
  apply PySem.W.kla_eval hdef
  have bP := TB.bm.keeps I.bk
  have oP : s.heap.get? P = some { cls := .none, data := .fields ps } := I.hok P _ tP
  have cl := closure_ok (env := X.env) hfree
  have gl := I.mod.glob.keeps I.bk
  have cd := TB.code.keeps I.bk
  have away : ∀ f, s.heap.objs.size ≤ f → f ∉ frs X.stack := by
    intro f hf z
    cases List.mem_cons.mp (I.stkSub _ z) with
    | inl e => have l := I.lt; rw [← e] at l; exact absurd (Nat.lt_of_lt_of_le l hf) (Nat.lt_irrefl _)
    | inr e => exact I.nofs hf e
  cases hc : codeAmong pos ps.toList with
  | some cv =>
    obtain ⟨c', e, known⟩ := al pos cv hc
    subst e
    apply PySem.W.kla_makeFunctionHit cl I.ok.glob gl hcode cd oP tr hc bP
    intro ctv h' tk keep sz
    have J : Inv X pins σ H { s with heap := h'.push (lamO X params body scope ((X.mg "__name__").getD .none) c' ctv), toks := tk } := I.kept fun b o q => Heap.get?_push_of_some _ (keep b o q)
    exact h _ c' _ ctv H _ J (ExtN.refl H) (fun _ z => z) (fun _ => Iff.rfl) hT (Heap.get?_push_size _ rfl) (I.hok.fresh sz) (away _ sz) known
  | none =>
    apply PySem.W.kla_makeFunction cl I.ok.glob gl hcode cd oP tr hc TB.gP bP
    intro c' ctv h' tk ext ge lt rec_ tab
    obtain ⟨c2, oc, vs, t, e2, r1, r2, r3⟩ := rec_
    cases e2
    have sz : s.heap.objs.size ≤ h'.objs.size := Nat.le_of_lt (Nat.lt_of_le_of_lt ge lt)
    have nC : H c' = none := I.hok.fresh ge
    have dP : P ≠ c' := ne_of_none tP nC
    have J := inv_table (t' := tk) (q := lamQ X) (more := #[rawInt pos.line, rawInt pos.col, .ref c']) (h' := h'.push (lamO X params body scope ((X.mg "__name__").getD .none) c' ctv)) I tP
      (fun b o hb q => Heap.get?_push_of_some _ (ext b o hb q)) (Heap.get?_push_of_some _ tab) ge ⟨oc, vs, t, Heap.get?_push_of_some _ r1, r2, r3⟩
    have ex1 : ExtN H (upd (upd H P (.tbl (ps ++ #[rawInt pos.line, rawInt pos.col, .ref c']))) c' (CodeO c' (lamQ X))) := by
      intro b o q n
      have d1 : b ≠ c' := ne_of_none q nC
      have d2 : b ≠ P := fun z => by rw [z, tP] at q; exact n ps (Option.some.inj q).symm
      rw [upd_ne d1, upd_ne d2]; exact q
    have ls : (ps ++ #[rawInt pos.line, rawInt pos.col, .ref c']).toList = ps.toList ++ [rawInt pos.line, rawInt pos.col, .ref c'] := by simp
    have n1 : h'.objs.size ≠ c' := fun z => by rw [z] at lt; exact Nat.lt_irrefl _ lt
    have n2 : h'.objs.size ≠ P := fun z => absurd (Nat.lt_of_lt_of_le (Heap.lt_size oP) sz) (by rw [z]; exact Nat.lt_irrefl _)
    refine h h'.objs.size c' _ ctv _ _ J ex1 (fun a z => ?_) (fun a => ?_) (fun p hp => ?_) (Heap.get?_push_size _ rfl) (by rw [upd_ne n1, upd_ne n2]; exact I.hok.fresh sz) (away _ sz) upd_same
    · by_cases e : a = c'
      · rw [e]; exact nC
      · rw [upd_ne e] at z
        by_cases e' : a = P
        · rw [e', upd_same] at z; cases z
        · rw [upd_ne e'] at z; exact z
    · by_cases e : a = c'
      · rw [e, upd_same, nC]
        exact ⟨(fun ⟨_, z⟩ => by cases z), fun ⟨qs, z⟩ => (codeO_ne qs (Option.some.inj z)).elim⟩
      · rw [upd_ne e]
        by_cases e' : a = P
        · rw [e', upd_same]; exact ⟨fun _ => ⟨_, rfl⟩, fun _ => ⟨ps, tP⟩⟩
        · rw [upd_ne e']
    · by_cases hb : p.1 = P
      · rw [hu p hp hb, hb]
        refine ⟨ps ++ #[rawInt pos.line, rawInt pos.col, .ref c'], by rw [upd_ne dP, upd_same], by rw [ls]; exact PySem.TriplesOk_snoc _ _ _ _ tr, ?_⟩
        rw [ls]
        intro p' cv q
        cases among_app _ tr q with
        | inl z => obtain ⟨c0, e1, e2⟩ := al p' cv z; exact ⟨c0, e1, ex1 _ _ e2 codeO_ne⟩
        | inr z => exact ⟨c', z, upd_same⟩
      · obtain ⟨qs, a1, a2, a3⟩ := hT p hp
        refine ⟨qs, by rw [upd_ne (ne_of_none a1 nC), upd_ne hb]; exact a1, a2, fun p' cv q => ?_⟩
        obtain ⟨c0, e1, e2⟩ := a3 p' cv q
        exact ⟨c0, e1, ex1 _ _ e2 codeO_ne⟩
/-- held fast while the other arguments are read -/
theorem lam_pin {params : Arguments} {body : Expr} {scope : Scope} {pm ctv : Value} {f c' : Addr} (I : Inv X pins σ H s) (hf : s.heap.get? f = some (lamO X params body scope pm c' ctv)) (hn : H f = none) (hr : f ∉ frs X.stack) :
    Inv X ((f, lamO X params body scope pm c' ctv) :: pins) σ H s := by
  refine I.pins_of fun p hp => ?_
  cases List.mem_cons.mp hp with
  | inr z => exact I.pin p (List.mem_append_right _ z)
  | inl z =>
    subst z
    refine ⟨hf, hn, fun e => ?_, fun e => hr ?_, fun v e => by cases e⟩
    · obtain ⟨m, ⟨o, es, ep, g, d, _⟩, _⟩ := I.loc
      have e : f = X.env.locals := e
      rw [← e, hf] at g
      cases g
      cases d
    · rcases I.ok.stk with q | ⟨q, _⟩
      · rw [q]; exact e
      · rw [q]
        unfold frs
        rw [List.filterMap_cons]
        have e : f ∈ frs X.outer := e
        cases X.env.frame with
        | none => exact e
        | some _ => exact List.mem_cons_of_mem _ e
end
end Cv
end

section
set_option Elab.async false
set_option linter.all false
set_option maxRecDepth 100000
set_option maxHeartbeats 4000000
set_option autoImplicit false
/-! CvN: the lambda called, and the def that calls it. -/
namespace Cv
open PySem L2 LamX PyProof.Rows PySem.Spec
variable [TbT]
section
variable {X : Cx} {pins : List (Addr × Obj)} {σ : L2.St} {H : Hp} {s : Shared}
/-- the lambda's body, at any frame: read with what its maker knew -/
def bodyAt (X : Cx) (σ : L2.St) (scope : Scope) (f c' : Addr) (body : Expr) (k : Nat) (W : WX) (σZ : L2.St) (HZ : Hp) (Q : VK) : Prop :=
  ∀ (A : Around) (outer : List Env) (s : Shared), Room k (A.deeper (lamEnv X scope s.heap.objs.size f c')) → ∃ tb : TE, PE (lamCx X A outer s HZ (WE W σZ) scope f c') body tb ∧ tb σ HZ Q
theorem act_run {CXg : CXT} {Eg : XK} {Ng : List Str} {qg : Str} {sg : Scope} {g f c' : Addr} {cdg pm ctv : Value} {params : Arguments} {body : Expr} {scope : Scope} {k i : Nat} {a : Str} {pn : List (Addr × Obj)} {xe : Value → Shared → Prop} {W : WX} {p1 p2 : Pos}
    (I : Inv X pins σ H s) (L : LamS X.env.scope scope) (hf : s.heap.get? f = some (lamO X params body scope pm c' ctv)) (hfn : H f = none) (hfr : f ∉ frs X.stack)
    (hbind : ∀ (q : Str) (cl : List (Str × Addr)) (pm cv ctv : Value), bindArgs (PySem.W.kla_fn "<lambda>" q params body scope cl pm cv ctv) ⟨[], []⟩ = pure [])
    (hr : Room (k + 1) (X.A.deeper (envOfC qg sg s.heap.objs.size g cdg))) (hN : Ng[i]? = some a) (hv : Vis sg a) (hd : (a == ("__debug__" : Str)) = false) (hcd : (a == ("__classdict__" : Str)) = false)
    (tk : Takes ((cxOf CXg X.prog X.w X.K X.mg X.base Ng qg sg g cdg X.A X.stack s H Eg).tr pn xe) W) :
    PE ((cxOf CXg X.prog X.w X.K X.mg X.base Ng qg sg g cdg X.A X.stack s H Eg).tr pn xe) (.Call (.Name a p1) [] [] p2)
      (fun σZ HZ Q => σZ[i]? = some (some (.ref f)) ∧ HZ c' = some (CodeO c' (lamQ X)) ∧ bodyAt X σ scope f c' body k W σZ HZ Q) := by
  constructor
  intro pinsZ sZ σZ HZ Q IZ ⟨q1, q2, q3⟩
  have nm : PE ((cxOf CXg X.prog X.w X.K X.mg X.base Ng qg sg g cdg X.A X.stack s H Eg).tr pn xe) (.Name a p1) (tVar i) := pe_var hN hv hd hcd
  apply wpAny_Call_Name_kw
  refine thn (nm.run pinsZ sZ σZ HZ (fun v H1 => v = .ref f ∧ H1 = HZ) IZ ⟨.ref f, q1, rfl, rfl⟩) ?_
  rintro u s1 ⟨v, H1, I1, r1, ev, eH⟩
  subst ev
  subst eH
  obtain rfl : u = Value.ref f := r1
  have un : Un (frs X.stack) [] H H1 s.heap s1.heap := I1.base
  have ob := un.keep f _ hf hfn hfr (fun z => nomatch z)
  obtain ⟨⟨oc, vs, t, u1, u2, u3⟩, _⟩ := I1.hok c' _ q2
  refine PySem.W.callWith_F0 ⟨_, _, _, _, ob⟩ (wpAny_call ?_)
  have run : codeAny (model X.prog X.w) (X.A.deeper (envOfC qg sg s.heap.objs.size g cdg)) (.call (.ref f) ⟨[], []⟩) (L2.CR (L2.CX X.prog X.w) (envOfC qg sg s.heap.objs.size g cdg :: X.stack) X.prog X.w H1 s1 Q (WE W σZ)) s1 := by
    apply PySem.W.kla_callFunE hr.depth ob rfl L.co L.gen rfl ⟨c', oc, vs, t, rfl, u1, u2, u3⟩
    rw [hbind]
    apply wpAny_pure
    refine wpAny_newFunctionEnv (fun y hy => (L.own y hy).2) (fun y hy => by simp at hy) (fun h₁ ns sb => ?_) L.kind
    refine ⟨I1.nolimit.fresh _ sb, ?_⟩
    have kp : ∀ b o, s1.heap.get? b = some o → h₁.get? b = some o := fun b o e => sb.extBut b o (Nat.ne_of_lt (Heap.lt_size e)) (Heap.get?_push_of_some _ e)
    obtain ⟨tb, pb, tq⟩ := q3 (X.A.deeper (envOfC qg sg s.heap.objs.size g cdg)) (envOfC qg sg s.heap.objs.size g cdg :: X.stack) s1 (hr.deeper _)
    have J : Inv (lamCx X (X.A.deeper (envOfC qg sg s.heap.objs.size g cdg)) (envOfC qg sg s.heap.objs.size g cdg :: X.stack) s1 H1 (WE W σZ) scope f c') [] σ H1 { s1 with heap := h₁, toks := s1.toks + ([] : List (Str × Value)).length } := lam_start2 I L I1.env0 hr.hd un ns kp
    apply PySem.W.kla_codeExpr
    refine wpAny_mono (pb.run [] _ _ H1 Q J tq) ?_ (fun _ _ z => z)
    rintro v s' ⟨w', H', J', rv, fin⟩
    exact ⟨w', H', J'.os, J'.bare, J'.base, J'.hok, rv, fin⟩
  refine codeAny_mono run fun r s' => ?_
  intro z
  match r, z with
  | .error e, z => exact passAt tk σZ pinsZ H1 s1 e s' I1 z
  | .ok (.ret u), z => exact I1.after z
  | .ok .next, z => exact z.elim
  | .ok .brk, z => exact z.elim
  | .ok .cont, z => exact z.elim
/-- in the def Z, the name a stands for the lambda -/
def ActOk (Z : Cx) (a : Str) (f c' : Addr) (q : Str) (B : WX → L2.St → Hp → VK → Prop) : Prop :=
  ∀ (W : WX) (pn : List (Addr × Obj)) (xe : Value → Shared → Prop) (p1 p2 : Pos), Takes (Z.tr pn xe) W → PE (Z.tr pn xe) (.Call (.Name a p1) [] [] p2) (fun σZ HZ Q => σZ[0]? = some (some (.ref f)) ∧ HZ c' = some (CodeO c' q) ∧ B W σZ HZ Q)
/-- the def's context, entered at s -/
abbrev cxG (X : Cx) (Wx : WX) (σ : L2.St) (Ng : List Str) (x : Str) (st : Stmt) (g : Addr) (cdv : Value) (s : Shared) (H : Hp) : Cx := cxOf (L2.CX X.prog X.w) X.prog X.w X.K X.mg X.base Ng x (defScope st) g cdv X.A X.stack s H (WE Wx σ)
def tLamN (X : Cx) (Wx : WX) (Ng ps : List Str) (x a : Str) (st : Stmt) (g : Addr) (scope : Scope) (body : Expr) (k : Nat) (ta : TA) : TE := fun σ H Q =>
  TabsOk H ∧ ∀ (f c' : Addr) (H1 : Hp), ExtN H H1 → (∀ b, H1 b = none → H b = none) → TabsOk H1 → H1 f = none → H1 c' = some (CodeO c' (lamQ X)) → ta σ H1 fun vs H2 => H2 f = none → vs.length = ps.length ∧ ∀ (cdv : Value) (s : Shared),
    ActOk (cxG X Wx σ Ng x st g cdv s H2) a f c' (lamQ X) (bodyAt X σ scope f c' body k) → Room (k + 1) (X.A.deeper (envOfC x (defScope st) s.heap.objs.size g cdv)) → ∃ t, PSs (cxG X Wx σ Ng x st g cdv s H2) (defBody st) t ∧ t { nx := fun _ H' => Q .non H', rt := Q } (L2.start Ng (.ref f :: vs)) H2
/-- x(lambda: body, e, ..) -/
theorem pe_lamN {Wx : WX} {st : Stmt} {g c P : Addr} {fd : FuncData} {x a : Str} {ps Ng : List Str} {params : Arguments} {body : Expr} {scope : Scope} {k : Nat} {es : List Expr} {ta : TA} {p lpos pos : Pos}
    (tk : Takes X Wx) (F : Fun X.K x x st g fd) (hm : X.mg x = some (.ref g)) (hb : Binds X.K fd (a :: ps) []) (Sg : FnScope Ng (a :: ps) (defScope st)) (hN : Ng[0]? = some a) (hv : Vis (defScope st) a) (hg : Gl X x)
    (TB : LamX.TabB X.base X.mg c P) (hcode : X.env.code = .ref c) (hmT : (P, lamQ X) ∈ TbT.T) (hu : ∀ p ∈ TbT.T, p.1 = P → p.2 = lamQ X) (hr : Room (k + 2) X.A) (L : LamS X.env.scope scope) (hdef : defaultsOf params X.env = ([], []))
    (hbind : ∀ (q : Str) (cl : List (Str × Addr)) (pm cv ctv : Value), bindArgs (PySem.W.kla_fn "<lambda>" q params body scope cl pm cv ctv) ⟨[], []⟩ = pure []) (ha : PA X es ta)
    (hdb : (x == ("__debug__" : Str)) = false) (hd : (a == ("__debug__" : Str)) = false) (hcd : (a == ("__classdict__" : Str)) = false) (he : starEach (.Lambda params body scope lpos :: es) X.env = (false, eval (.Lambda params body scope lpos) X.env) :: starEach es X.env) (hpl : (backTo pos (starEach es X.env)).any (·.1) = false) :
    PE X (.Call (.Name x p) (.Lambda params body scope lpos :: es) [] pos) (tLamN X Wx Ng ps x a st g scope body k ta) := by
  constructor
  intro pins s σ H Q I ⟨hT, h⟩
  obtain ⟨oc, od, kV, doc, pm0, an, cdv, ct, osl, efd, lk, hcdv⟩ := F.ex
  subst efd
  apply wpAny_Call_Name_kw
  refine ld_glob I hg hm ?_ hdb
  refine PySem.W.callWith_K (h₀ := X.base) I.ok.mod.kin F.kp ?_ he hpl
  apply Calls.spliced_cons
  refine lam_mk I TB hcode hmT hu hT.1 hdef (L.has I.ok) ?_
  intro f c' pm ctv H1 s1 I1 x1 d1 w1 T1 hf hn hfr hc
  have h1 := h f c' H1 x1 d1 ⟨T1, fun a => (hT.2 a).trans (w1 a)⟩ hn hc
  refine thn (ha.run pos _ s1 σ H1 _ (lam_pin I1 hf hn hfr) h1) ?_
  rintro us s2 ⟨vs, H2, I2, rv, q⟩
  obtain ⟨g1, g2, _⟩ := I2.pin (f, lamO X params body scope pm c' ctv) (List.mem_append_right _ List.mem_cons_self)
  obtain ⟨hl, q⟩ := q g2
  refine ⟨I2.kIn, wpAny_call ?_⟩
  have lu : us.length = ps.length := by rw [← rv.length]; exact hl
  have bt := hb s2 (.ref f :: us) I2.kIn (by simp [lu])
  rw [List.append_nil] at bt
  have rc : codeAny (model X.prog X.w) X.A (.call (.ref g) ⟨.ref f :: us, []⟩) (L2.CR (L2.CX X.prog X.w) X.stack X.prog X.w H2 s2 Q (WE Wx σ)) s2 := by
    refine run_ofS (us := .ref f :: us) (vs := .ref f :: vs) lk hcdv Sg hr I2.env0 bt (.cons rfl rv) (by simp [hl]) fun hr' => ?_
    exact q cdv s2 (fun W pn xe p1 p2 tk' => act_run (i := 0) I2 L g1 g2 hfr hbind hr' hN hv hd hcd tk') hr'
  refine codeAny_mono rc fun r s' => ?_
  intro z
  match r, z with
  | .error e, z => exact passAt tk σ _ H2 s2 e s' I2 z
  | .ok (.ret u), z =>
    obtain ⟨v, H', J, rv', fin⟩ := I2.after z
    exact ⟨v, H', J.pins_of fun p hp => J.pin p (List.mem_append_right _ (List.mem_cons_of_mem _ hp)), rv', fin⟩
  | .ok .next, z => exact z.elim
  | .ok .brk, z => exact z.elim
  | .ok .cont, z => exact z.elim
end
end Cv
end

section
set_option Elab.async false
set_option linter.all false
set_option maxRecDepth 100000
set_option maxHeartbeats 4000000
set_option autoImplicit false
/-! CvL: x(lambda: body, e, ..) read on plain data. -/
namespace Cv
open PySem L2 LamX PyProof.Rows PySem.Spec
variable [TbT]
/-- what a def answers, its arguments forgotten -/
def strip : RD → RP D
  | .ok (.imm d) _ => .ok d
  | .ok (.own m) _ => .ok m.toD
  | .exc x _ => .exc x
  | .bad => .bad
open Classical in
/-- the lambda called: what it gives is known -/
noncomputable def eRun (f : Addr) (R : Hp) (r : RP D) (e : En) : RP D := match e[(0 : Nat)]? with
  | some (.imm (.fn g R')) => if g = f ∧ R' = R then r else .bad
  | _ => .bad
open Classical in
/-- an answer that does not hang on where the lambda stands -/
noncomputable def lamR (g : Addr → Hp → RD) : RP D := if h : ∃ r : RP D, ∀ f R, strip (g f R) = r then Classical.choose h else .bad
theorem lamR_of {g : Addr → Hp → RD} {r : RP D} (h : ∀ f R, strip (g f R) = r) : lamR g = r := by
  have ex : ∃ r : RP D, ∀ f R, strip (g f R) = r := ⟨r, h⟩
  unfold lamR
  rw [dif_pos ex, ← Classical.choose_spec ex 0 (fun _ => none), h]
noncomputable def pLam (mf : Addr → Hp → RP D → En → RD) (mb : En → RP D) (ma : En → RP (List D)) (e : En) : RP D := (ma e).bind fun ds => lamR fun f R => mf f R (mb e) (.imm (.fn f R) :: ds.map .imm)
/-- a def of the module whose first parameter is a lambda that it calls -/
structure LamM (P : Program) (w : World) (K : PySem.W.Frag) (mg : Str → Option Value) (base : Heap) (j : Nat) (x : Str) (mf : Addr → Hp → RP D → En → RD) : Prop where
  ex : ∃ (g : Addr) (fd : FuncData) (st : Stmt) (a : Str) (ps Ng : List Str) (mb : Addr → Hp → RP D → En → Fl), Fun K x x st g fd ∧ mg x = some (.ref g) ∧ Binds K fd (a :: ps) [] ∧ FnScope Ng (a :: ps) (defScope st) ∧ Ng[0]? = some a ∧ Vis (defScope st) a ∧
    (a == ("__debug__" : Str)) = false ∧ (a == ("__classdict__" : Str)) = false ∧ (∀ f R r, mf f R r = mDef (ps.length + 1) Ng.length (mb f R r)) ∧
    ∀ (f : Addr) (R : Hp) (r : RP D) (cdv : Value) (A : Around) (outer : List Env) (s : Shared) (H : Hp) (E : XK), Cc P w K mg base (fun cls d _ H => E cls d H) (cxOf (L2.CX P w) P w K mg base Ng x (defScope st) g cdv A outer s H E) j →
      (∃ tw : WX → TE, ∀ (W : WX) (pn : List (Addr × Obj)) (xe : Value → Shared → Prop) (p1 p2 : Pos), Takes ((cxOf (L2.CX P w) P w K mg base Ng x (defScope st) g cdv A outer s H E).tr pn xe) W → CP K mg W ((cxOf (L2.CX P w) P w K mg base Ng x (defScope st) g cdv A outer s H E).tr pn xe) (.Call (.Name a p1) [] [] p2) (tw W) (eRun f R r)) →
      ∃ t, CSs K mg (fun cls d _ H => E cls d H) (cxOf (L2.CX P w) P w K mg base Ng x (defScope st) g cdv A outer s H E) (defBody st) t (mb f R r)
section
variable {P : Program} {w : World} {K : PySem.W.Frag} {mg : Str → Option Value} {base : Heap} {W : WX} {X : Cx} {k j : Nat} {Z : Addr → Prop} {G H : Hp} {σ : L2.St} {env : En}
theorem Grow.of_noT {H2 HZ G3 : Hp} (t2 : TabsOk H2) (tZ : TabsOk HZ) (ex : Same G3 HZ) (hR : ∀ b o, noT H2 b = some o → G3 b = some o ∧ ∀ ps, o ≠ .tbl ps) : Grow H2 HZ := by
  refine ⟨fun b o e nt => ex b o (hR b o (noT_kp H2 b o e nt)).1, fun b e => ?_, fun _ => tZ⟩
  cases q : H2 b with
  | none => rfl
  | some o =>
    by_cases nt : notTbl o
    · rw [ex b o (hR b o (noT_kp H2 b o q nt)).1] at e; cases e
    · exfalso
      apply nt
      intro ps z
      subst z
      obtain ⟨ps', h⟩ := (tZ.2 b).mp ((t2.2 b).mpr ⟨ps, q⟩)
      rw [h] at e; cases e
/-- the lambda called in the def: what its body reads -/
theorem evp_act {W' : WX} {scope : Scope} {body : Expr} {f c' : Addr} {kk : Nat} {mb : En → RP D} {q : Str} {H2 : Hp} (hd : Hold K Z G H2 σ env) (hc : H2 c' = some (CodeO c' q))
    (hbody : ∀ (A : Around) (outer : List Env) (s : Shared) (H : Hp) (E : XK), Room kk (A.deeper (lamEnv X scope s.heap.objs.size f c')) → ∃ t, CP K mg (fun cls d _ H => E cls d H) (lamCx X A outer s H E scope f c') body t mb) :
    EvP K mg W' (fun σZ HZ Q => σZ[0]? = some (some (.ref f)) ∧ HZ c' = some (CodeO c' q) ∧ bodyAt X σ scope f c' body kk W' σZ HZ Q) (eRun f (noT H2) (mb env)) := by
  intro Z3 G3 HZ σZ eZ Q h3 hq
  unfold eRun at hq
  cases e : eZ[(0 : Nat)]? with
  | none => rw [e] at hq; exact hq.elim
  | some sl =>
    rw [e] at hq
    cases sl with
    | none => exact hq.elim
    | own m => exact hq.elim
    | par m => exact hq.elim
    | fre d => exact hq.elim
    | imm d =>
      cases d with
      | fn g R =>
        dsimp only at hq
        by_cases c : g = f ∧ R = noT H2
        case neg => rw [if_neg c] at hq; exact hq.elim
        rw [if_pos c] at hq
        obtain ⟨c1, c2⟩ := c
        subst c1
        subst c2
        obtain ⟨v, q1, q2⟩ := h3.imm_get e
        cases q2 with
        | fn hR =>
          have gr : Grow H2 HZ := Grow.of_noT hd.tb h3.tb h3.ex hR
          refine ⟨q1, gr.k _ _ hc fun ps => codeO_ne ps, fun A outer s room => ?_⟩
          obtain ⟨t, p1, p2⟩ := hbody A outer s HZ (WE W' σZ) room
          refine ⟨t, p1, p2 Z G HZ σ env Q (hd.grow gr) ?_⟩
          cases r : mb env with
          | bad => rw [r] at hq; exact hq
          | ok d => rw [r] at hq; exact hq
          | exc x => rw [r] at hq; exact hq
      | _ => exact hq.elim
/-- x(lambda: body, e, ..) -/
theorem cp_lam (c : Cc P w K mg base W X k) {c0 P0 : Addr} {x : Str} {mf : Addr → Hp → RP D → En → RD} {mb : En → RP D} {params : Arguments} {body : Expr} {scope : Scope} {es : List Expr} {t : TA} {m : En → RP (List D)} {p lpos pos : Pos}
    (M : LamM P w K mg base (j + 1) x mf) (TB : LamX.TabB base mg c0 P0) (hmT : (P0, lamQ X) ∈ TbT.T) (hu : ∀ p ∈ TbT.T, p.1 = P0 → p.2 = lamQ X) (hcode : X.env.code = .ref c0)
    (hbody : ∀ (f c' : Addr) (A : Around) (outer : List Env) (s : Shared) (H : Hp) (E : XK), Cc P w K mg base (fun cls d _ H => E cls d H) (lamCx X A outer s H E scope f c') j → ∃ t, CP K mg (fun cls d _ H => E cls d H) (lamCx X A outer s H E scope f c') body t mb)
    (ha : CAP K mg W X es t m) (hj : j + 2 ≤ k := by decide) (L : LamS X.env.scope scope := by exact LamX.lamS_by rfl) (hdef : defaultsOf params X.env = ([], []) := by rfl)
    (hbind : ∀ (q : Str) (cl : List (Str × Addr)) (pm cv ctv : Value), bindArgs (PySem.W.kla_fn "<lambda>" q params body scope cl pm cv ctv) ⟨[], []⟩ = pure [] := by intros; rfl)
    (hg : Gl X x := by rfl) (hdb : (x == ("__debug__" : Str)) = false := by decide) (he : starEach (.Lambda params body scope lpos :: es) X.env = (false, eval (.Lambda params body scope lpos) X.env) :: starEach es X.env := by rfl) (hpl : (backTo pos (starEach es X.env)).any (·.1) = false := by rfl) :
    ∃ t, CP K mg W X (.Call (.Name x p) (.Lambda params body scope lpos :: es) [] pos) t (pLam mf mb m) := by
  obtain ⟨g, fd, st, a, ps, Ng, mB, F, hm, hb, Sg, hN, hv, h1, h2, hmf, hw⟩ := M.ex
  obtain ⟨eP, ew, eK, emg, eb, calm, tk, room, po, nd⟩ := c
  subst eP; subst ew; subst eK; subst emg; subst eb
  refine ⟨_, pe_lamN (k := j) tk F hm hb Sg hN hv hg TB hcode hmT hu (room.mono hj) L hdef hbind ha.1 hdb h1 h2 he hpl, ?_⟩
  intro Z G H σ env Q hd h
  refine ⟨hd.tb, fun f c' H1 x1 d1 T1 hn hc => ?_⟩
  have g1 : Grow H H1 := ⟨x1, d1, fun _ => T1⟩
  have hd1 := hd.grow g1
  refine ha.2 Z G H1 σ env _ hd1 ?_
  unfold pLam at h
  cases e : m env with
  | bad => rw [e] at h; exact h
  | exc y => rw [e] at h; exact fun H' C a g => h H' C a (g1.trans g)
  | ok ds =>
    rw [e] at h
    have h : PoP X.K X.mg W H σ (lamR fun f R => mf f R (mb env) (.imm (.fn f R) :: ds.map .imm)) Q := h
    intro H2 vs g2 rs hf2
    have ex : ∃ r : RP D, ∀ f R, strip (mf f R (mb env) (.imm (.fn f R) :: ds.map .imm)) = r := by
      apply Classical.byContradiction
      intro no
      unfold lamR at h
      rw [dif_neg no] at h
      exact h
    obtain ⟨r, hr⟩ := ex
    rw [lamR_of hr] at h
    have hr := hr f (noT H2)
    rw [hmf] at hr
    have len : ds.length = ps.length := by
      apply Classical.byContradiction
      intro no
      unfold mDef at hr
      rw [if_neg (by simp; exact no)] at hr
      rw [← hr] at h
      exact h
    refine ⟨by rw [rs.length]; exact len, fun cdv s act hroom => ?_⟩
    have hd2 := hd1.grow g2
    have hc2 : H2 c' = some (CodeO c' (lamQ X)) := g2.k _ _ hc fun ps => codeO_ne ps
    obtain ⟨t', k1, k2⟩ := hw f (noT H2) (mb env) cdv X.A X.stack s H2 (WE W σ) ⟨rfl, rfl, rfl, rfl, rfl, rfl, takes_of rfl rfl rfl rfl, hroom, passes_of rfl, Sg.nd⟩ ⟨fun W' σZ HZ Q => σZ[0]? = some (some (.ref f)) ∧ HZ c' = some (CodeO c' (lamQ X)) ∧ bodyAt X σ scope f c' body j W' σZ HZ Q, fun W' pn xe p1 p2 tk' =>
      ⟨act W' pn xe p1 p2 tk', evp_act hd2 hc2 fun A outer s H E rm => hbody f c' A outer s H E ⟨rfl, rfl, rfl, rfl, rfl, rfl, takes_of rfl rfl rfl rfl, rm, passes_of rfl, nd⟩⟩⟩
    refine ⟨t', k1, ?_⟩
    -- the def's slots
    have rf : Rep X.K (noT H2) (.ref f) (.fn f (noT H2)) := .fn fun b o z => ⟨z, noT_nt H2 b o z⟩
    obtain ⟨i1, i2⟩ := imm_slots (vs := .ref f :: vs) (ds := .fn f (noT H2) :: ds) (.cons rf (rs.mono (noT_kp H2))) (noT_sub H2) (noT_nt H2) hd2.tb
    have gr : ∀ {G' H' : Hp} {o : En}, Step (trk H2) (noT H2) H2 ((V.ref f :: vs).map some) ((D.fn f (noT H2) :: ds).map .imm) G' H' ((V.ref f :: vs).map some) o → Hold X.K (trk H2) G' H' ((V.ref f :: vs).map some) o → Grow H2 H' := fun sc hc => ⟨fun a u x nt => sc.h a u x nt (i2 a) ⟨_, x⟩, sc.d, fun _ => hc.tb⟩
    refine spM_run (np := ps.length + 1) i1 (fun s hs => by
      obtain ⟨d, _, rfl⟩ := List.mem_map.mp hs; exact .inl ⟨d, rfl⟩) rfl k2 ?_
    · rw [List.map_cons (f := Sl.imm)]
      generalize mDef (ps.length + 1) Ng.length (mB f (noT H2) (mb env)) (Sl.imm (.fn f (noT H2)) :: ds.map Sl.imm) = rd at hr ⊢
      cases rd with
      | bad => rw [← hr] at h; exact h
      | exc x o =>
        rw [← hr] at h
        exact fun G' H' C a sc hc ex => h H' C a ((g1.trans g2).trans (gr sc hc)) ex
      | ok r o =>
        cases r with
        | imm d =>
          rw [← hr] at h
          exact fun G' H' v sc hc rv => h H' v ((g1.trans g2).trans (gr sc hc)) (rv.mono (Kp.of hc.ex))
        | own mo =>
          rw [← hr] at h
          exact fun G' H' p ob sc hc hp fr gp no rm => h H' _ ((g1.trans g2).trans (gr sc hc)) ((rm.mono (Kp.of hc.ex)).rep hp)
end
end Cv
end

section
set_option Elab.async false
set_option linter.all false
set_option maxRecDepth 100000
set_option maxHeartbeats 4000000
set_option autoImplicit false
/-! CvQ: quiet defs (they raise nothing, they loop not) called within an except suite. -/
namespace Cv
open PySem L2 PyProof.Rows PySem.Spec L2H
variable [TbT]
/-- what a quiet def promises, whatever is handled -/
structure FnQ (P : Program) (w : World) (K : PySem.W.Frag) (mg : Str → Option Value) (base : Heap) (k : Nat) (f : Addr) (fd : FuncData) (ps : List Str) (sp : Sp) : Prop where
  len : ∀ vs H Q E, sp vs H Q E → vs.length = ps.length
  run : ∀ (A : Around) (outer : List Env) (s : Shared) (H : Hp) (args : Args) (us : List Value) (vs : List V) (Q : VK) (E : XK) (p : Addr × Obj), RoomH k A → PinOk outer H s p → Env0 P w K mg base A outer s H →
    BindsTo s fd args (ps.zip us) → Vals vs us → sp vs H Q E → codeAny (model P w) A (.call (.ref f) args) (L2.CR (L2.CX P w) outer P w H s Q E) s
abbrev cxQ (P : Program) (w : World) (K : PySem.W.Frag) (mg : Str → Option Value) (base : Heap) (N : List Str) (x : Str) (st : Stmt) (f : Addr) (cdv : Value) (A : Around) (outer : List Env) (s : Shared) (H : Hp) (E : XK) (p : Addr × Obj) : Cx := cxH (L2.CX P w) P w K mg base N x (defScope st) f cdv A outer s H E p
theorem fn_ofQ {P : Program} {w : World} {K : PySem.W.Frag} {mg : Str → Option Value} {base : Heap} {k : Nat} {f : Addr} {fd : FuncData} {x : Str} {st : Stmt} {N ps : List Str} {sp : Sp} (F : Fun K x x st f fd) (S : FnScope N ps (defScope st)) (len : ∀ vs H Q E, sp vs H Q E → vs.length = ps.length)
    (hbody : ∀ (cdv : Value) (A : Around) (outer : List Env) (s : Shared) (H : Hp) (vs : List V) (Q : VK) (E : XK) (p : Addr × Obj), RoomH k (A.deeper (envOfC x (defScope st) s.heap.objs.size f cdv)) → sp vs H Q E →
      ∃ t, PSs (cxQ P w K mg base N x st f cdv A outer s H E p) (defBody st) t ∧ t { nx := fun _ H' => Q .non H', rt := Q } (L2.start N vs) H) : FnQ P w K mg base (k + 1) f fd ps sp := by
  obtain ⟨oc, od, kV, doc, pm, an, cdv, ct, osl, efd, lk, hcd⟩ := F.ex
  subst efd
  refine ⟨len, ?_⟩
  intro A outer s H args us vs Q E p room pin env bnd rv hsp
  have KX := env.mod.kin.keeps fun b o e => (env.bs b o e).1
  have lim := env.mod.nolimit.keeps fun b o e => (env.bs b o e).1
  have kinds : ∀ y ∈ ps.zip us, (defScope st).names.lookup y.1 = some .local ∨ ((defScope st).names.lookup y.1 = some .cell ∧ ((cellsFrom (s.heap.objs.size + 1) (defScope st).names []).lookup y.1).isSome = true) := by
    rintro ⟨n, v⟩ hy
    cases S.par n (List.of_mem_zip hy).1 with
    | inl q => exact .inl q
    | inr q => exact .inr ⟨q, PySem.W.cellsFrom_some _ _ _ (.inl q)⟩
  apply codeAny_call_function room.depth (KX _ _ lk) rfl S.co S.gen rfl (PySem.W.codeRec_of KX hcd)
  apply bnd
  refine wpAny_newFunctionEnv_cells S.kind kinds ?_
  intro en he s1 x1
  subst he
  refine ⟨lim.keeps x1.toInCall.keep, codeAny_func ?_⟩
  obtain ⟨t, ht, hq⟩ := hbody cdv A outer s H vs Q E p (room.deeper _) hsp
  have I := inv_startH (CX := L2.CX P w) (E := E) S pin env (len _ _ _ _ hsp) rv x1
  refine wpAny_mono (ht.run [] s1 (L2.start N vs) H _ I hq) ?_ (fun _ _ z => z)
  intro fl s' hs
  match fl, hs with
  | .ret u, ⟨v, σ', H', J, rv', q⟩ => exact ⟨v, H', J.os, J.bare, J.base, J.hok, rv', q⟩
  | .next, ⟨σ', H', J, q⟩ => exact ⟨.non, H', J.os, J.bare, J.base, J.hok, rfl, q⟩
  | .brk, ⟨_, _, _, q⟩ => exact q.elim
  | .cont, ⟨_, _, _, q⟩ => exact q.elim
/-- x(e, ..), where something is pinned -/
theorem pe_callQ {X : Cx} {k : Nat} {f : Addr} {fd : FuncData} {ps : List Str} {sp : Sp} {E : L2.St → XK} {x : Str} {e : Expr} {es : List Expr} {t : TA} {q pos : Pos} (F : FnQ X.prog X.w X.K X.mg X.base k f fd ps sp) (room : RoomH k X.A) (hp : ∃ p, p ∈ X.pn) (hg : Gl X x) (hm : X.mg x = some (.ref f))
    (hk : PySem.W.keepIn X.K (.ref f) = true) (hb : Binds X.K fd ps []) (hx : ∀ σ, PassesAt (L2.CX X.prog X.w) X σ (E σ)) (ha : PA X (e :: es) t) (hdb : (x == ("__debug__" : Str)) = false) (he : starEach (e :: es) X.env = (false, eval e X.env) :: starEach es X.env) (hpl : (backTo pos (starEach es X.env)).any (·.1) = false) :
    PE X (.Call (.Name x q) (e :: es) [] pos) (tCallS sp E t) := by
  constructor
  intro pins s σ H Q I h
  obtain ⟨p, hp⟩ := hp
  apply wpAny_Call_Name_kw
  refine ld_glob I hg hm ?_ hdb
  refine PySem.W.callWith_K (h₀ := X.base) I.ok.mod.kin hk (thn (ha.run pos pins s σ H _ I h) ?_) he hpl
  rintro us s1 ⟨vs, H1, I1, r, q1⟩
  refine ⟨I1.kIn, wpAny_call ?_⟩
  have hl : us.length = ps.length := by rw [← r.length]; exact F.len _ _ _ _ q1
  have b := hb s1 us I1.kIn (by rw [List.append_nil]; exact hl)
  rw [List.append_nil] at b
  have P1 := I1.pin p (List.mem_append_left _ hp)
  have pin : PinOk X.stack H1 s1 p := ⟨P1.1, P1.2.1, fun z => (List.mem_cons.mp (I1.stkSub p.1 z)).elim P1.2.2.1 P1.2.2.2.1, P1.2.2.2.2⟩
  refine codeAny_mono (F.run X.A X.stack s1 H1 ⟨us, []⟩ us vs Q (E σ) p room pin I1.env0 b r q1) ?_
  intro r s' z
  match r, z with
  | .error e, z => exact hx σ pins H1 s1 e s' I1 z
  | .ok (.ret u), z => exact I1.after z
  | .ok .next, z => exact z.elim
  | .ok .brk, z => exact z.elim
  | .ok .cont, z => exact z.elim
/-- what such a context gives -/
structure CcQ (P : Program) (w : World) (K : PySem.W.Frag) (mg : Str → Option Value) (base : Heap) (W : WX) (X : Cx) (k : Nat) : Prop where
  p : X.prog = P
  w : X.w = w
  K : X.K = K
  mg : X.mg = mg
  base : X.base = base
  tk : Takes X W
  room : RoomH k X.A
  pin : ∃ p, p ∈ X.pn
structure CalQ (P : Program) (w : World) (K : PySem.W.Frag) (mg : Str → Option Value) (base : Heap) (k : Nat) (x : Str) (mf : En → RD) : Prop where
  ex : ∃ (f : Addr) (fd : FuncData) (ps : List Str), FnQ P w K mg base k f fd ps (SpM K mg mf) ∧ mg x = some (.ref f) ∧ PySem.W.keepIn K (.ref f) = true ∧ Binds K fd ps []
section
variable {P : Program} {w : World} {K : PySem.W.Frag} {mg : Str → Option Value} {base : Heap} {W : WX} {X : Cx} {k j : Nat} {a b e : Expr} {es : List Expr} {ta tb : TE} {ma mb : En → RP D} {pos p : Pos} {t : TA} {x : Str} {mf : En → RD}
theorem cpq_isi (c : CcQ P w K mg base W X k) (T : String) {x : Str} {p q : Pos} (hm : mg "isinstance" = none) (hmT : mg x = none) (hv : bootBuiltins x = some (.type T)) (ha : CP K mg W X a ta ma) (hg : Gl X "isinstance" := by rfl) (hgT : Gl X x := by rfl) (hn : x ≠ "__name__" := by decide)
    (hdb : (x == ("__debug__" : Str)) = false := by decide) (he : starEach [a, .Name x q] X.env = (false, eval a X.env) :: starEach [.Name x q] X.env := by rfl) (he2 : starEach [.Name x q] X.env = (false, eval (.Name x q) X.env) :: starEach [] X.env := by rfl) (hpl : (backTo pos (starEach [.Name x q] X.env)).any (·.1) = false := by rfl) :
    CP K mg W X (.Call (.Name "isinstance" p) [a, .Name x q] [] pos) (tCB (rIsB K T) (tCons ta (tCons (tC (.ty T)) tNil))) (p1 (dIsi T) ma) :=
  ⟨pe_callB (by have := call_isB (X := X) T; rw [c.K] at this; exact this) hg (by rw [c.mg]; exact hm) bb_isi (pa_cons ha.1 (pa_cons (pe_bltn hgT (by rw [c.mg]; exact hmT) hv (show RelV (.ty T) (.type T) from rfl) hn hdb) pa_nil he2) he) (by decide) (by decide) he hpl, evp_isi ha.2⟩
theorem cpq_eq (c : CcQ P w K mg base W X k) (ha : CP K mg W X a ta ma) (hb : CP K mg W X b tb mb) : CP K mg W X (.Compare a [.Eq] [b] pos) (tOp (rEqD K) ta tb) (p2 dEq ma mb) := cp_cmp (by have := op_eqD (X := X) (by have := c.room.un; omega); rw [c.K] at this; exact this) o_eq ha hb
theorem cpq_call (c : CcQ P w K mg base W X k) {m : En → RP (List D)} (F : CalQ P w K mg base j x mf) (ha : CAP K mg W X (e :: es) t m) (hj : j ≤ k := by decide) (hg : Gl X x := by rfl) (hdb : (x == ("__debug__" : Str)) = false := by decide)
    (he : starEach (e :: es) X.env = (false, eval e X.env) :: starEach es X.env := by rfl) (hpl : (backTo pos (starEach es X.env)).any (·.1) = false := by rfl) : CP K mg W X (.Call (.Name x p) (e :: es) [] pos) (tCallS (SpM K mg mf) (WE W) t) (pCall mf m) := by
  obtain ⟨f, fd, ps, h1, h2, h3, h4⟩ := F.ex
  refine ⟨?_, evp_call ha.2⟩
  have h1' : FnQ X.prog X.w X.K X.mg X.base j f fd ps (SpM K mg mf) := by rw [c.p, c.w, c.K, c.mg, c.base]; exact h1
  exact pe_callQ h1' (c.room.mono hj) c.pin hg (by rw [c.mg]; exact h2) (by rw [c.K]; exact h3) (by rw [c.K]; exact h4) (fun σ => passAt c.tk σ) ha.1 hdb he hpl
theorem CalQ.of {st : Stmt} {N ps : List Str} {np n : Nat} {mb : En → Fl} (F : FnT K mg x st ps) (S : FnScope N ps (defScope st)) (hnp : np = ps.length) (hn : n = N.length)
    (hbody : ∀ (f : Addr) (cdv : Value) (A : Around) (outer : List Env) (s : Shared) (H : Hp) (E : XK) (p : Addr × Obj), CcQ P w K mg base (fun cls d _ H => E cls d H) (cxQ P w K mg base N x st f cdv A outer s H E p) k →
      ∃ t, CSs K mg (fun cls d _ H => E cls d H) (cxQ P w K mg base N x st f cdv A outer s H E p) (defBody st) t mb) : CalQ P w K mg base (k + 1) x (mDef np n mb) := by
  obtain ⟨f, fd, h1, h2, h3⟩ := F.ex
  refine ⟨f, fd, ps, fn_ofQ h1 S (fun vs H Q E h => ?_) (fun cdv A outer s H vs Q E p room h => ?_), h2, h1.kp, h3⟩
  · obtain ⟨G, as, hd, imp, po⟩ := h
    have hl : vs.length = as.length := by have := hd.len; simpa using this
    unfold mDef at po
    by_cases c : as.length = np
    · rw [hl, c, hnp]
    · rw [if_neg c] at po; exact po.elim
  · obtain ⟨G, as, hd, imp, po⟩ := h
    obtain ⟨t, h5, h6⟩ := hbody f cdv A outer s H E p ⟨rfl, rfl, rfl, rfl, rfl, takes_of rfl rfl rfl rfl, room, ⟨p, List.mem_cons_self⟩⟩
    exact ⟨t, h5, spM_run hd imp hn h6 po⟩
/-! ### .. within the suite -/
variable {i : Nat} {a' dd : Addr} {y : Exc}
theorem evx_call {ma : En → RP (List D)} (ha : EvXA K mg i a' dd y t ma) : EvX K mg i a' dd y (tCallS (SpM K mg mf) (WE W0) t) (pCall mf ma) := by
  intro Z G H σ env Q hd hs hx h
  refine ha Z G H σ env _ hd hs hx ?_
  unfold pCall at h
  cases q : ma env with
  | bad => rw [q] at h; exact h
  | exc z => rw [q] at h; exact h
  | ok ds =>
    rw [q] at h
    intro H1 vs g rs
    have h : PoP K mg W0 H σ (strip (mf (ds.map .imm))) Q := by
      have h : PoP K mg W0 H σ (match mf (ds.map .imm) with
        | .ok (.imm d) _ => .ok d
        | .ok (.own m) _ => .ok m.toD
        | .exc x _ => .exc x
        | .bad => .bad) Q := h
      unfold strip
      exact h
    obtain ⟨i1, i2⟩ := imm_slots (rs.mono (noT_kp H1)) (noT_sub H1) (noT_nt H1) (g.t hd.tb)
    have gr : ∀ {G' H' : Hp} {o : En}, Step (trk H1) (noT H1) H1 (vs.map some) (ds.map .imm) G' H' (vs.map some) o → Hold K (trk H1) G' H' (vs.map some) o → Grow H1 H' := fun sc hc => ⟨fun a u x nt => sc.h a u x nt (i2 a) ⟨_, x⟩, sc.d, fun _ => hc.tb⟩
    refine ⟨noT H1, ds.map .imm, i1, fun s hs => ?_, ?_⟩
    · obtain ⟨d, _, rfl⟩ := List.mem_map.mp hs; exact .inl ⟨d, rfl⟩
    cases qf : mf (ds.map .imm) with
    | bad => rw [qf] at h; exact h
    | exc x o => rw [qf] at h; exact fun G' H' C a sc hc ex => h H' C a (g.trans (gr sc hc)) ex
    | ok r o =>
      rw [qf] at h
      cases r with
      | imm d => exact fun G' H' v sc hc rv => h H' v (g.trans (gr sc hc)) (rv.mono (Kp.of hc.ex))
      | own m => exact fun G' H' p ob sc hc hp fr gp no rm => h H' _ (g.trans (gr sc hc)) ((rm.mono (Kp.of hc.ex)).rep hp)
theorem cx_call (c : Cc P w K mg base W X k) {m : En → RP (List D)} {oe : Obj} {pn : List (Addr × Obj)} (F : CalQ P w K mg base j x mf) (ha : CXA K mg i a' dd y (X.suite a' ((a', oe) :: pn)) (e :: es) t m) (hj : j ≤ k := by decide) (hg : Gl X x := by rfl) (hdb : (x == ("__debug__" : Str)) = false := by decide)
    (he : starEach (e :: es) X.env = (false, eval e X.env) :: starEach es X.env := by rfl) (hpl : (backTo pos (starEach es X.env)).any (·.1) = false := by rfl) : CX' K mg i a' dd y (X.suite a' ((a', oe) :: pn)) (.Call (.Name x p) (e :: es) [] pos) (tCallS (SpM K mg mf) (WE W0) t) (pCall mf m) := by
  obtain ⟨f, fd, ps, h1, h2, h3, h4⟩ := F.ex
  refine ⟨?_, evx_call ha.2⟩
  have h1' : FnQ X.prog X.w X.K X.mg X.base j f fd ps (SpM K mg mf) := by rw [c.p, c.w, c.K, c.mg, c.base]; exact h1
  exact pe_callQ (X := X.suite a' ((a', oe) :: pn)) h1' ⟨(c.room.mono hj).dp, (c.room.mono hj).un⟩ ⟨(a', oe), List.mem_cons_self⟩ hg (by show X.mg x = _; rw [c.mg]; exact h2) (by show PySem.W.keepIn X.K _ = _; rw [c.K]; exact h3) (by show Binds X.K fd ps []; rw [c.K]; exact h4) (fun σ => passAt LamX.takes0 σ) ha.1 hdb he hpl
end
end Cv
end

section
set_option Elab.async false
set_option linter.all false
set_option maxRecDepth 100000
set_option maxHeartbeats 4000000
set_option autoImplicit false
/-! CvO: the order of data (lists, tuples ..), the least of a list of data. -/
namespace Cv
open PySem L2 PyProof.Rows PySem.Spec PySem.W
variable [TbT]
def notNone : PyData → Bool
  | .none => false
  | _ => true
theorem notNone_ne {p : PyData} (h : notNone p = true) : p ≠ .none := fun z => by rw [z] at h; cases h
/-- two data that can be compared -/
def cmpOk (p q : PyData) : Bool := alike p q && notNone p && decide (p.depth ≤ 64)
def dLtD (x y : D) : Option D := (toPy x).bind fun p => (toPy y).bind fun q => if cmpOk p q = true then some (.bl (dataLt p q)) else none
def rLtD (K : PySem.W.Frag) : R2 := fun x y H Q => ∃ p q, Dp K H x p ∧ Dp K H y q ∧ cmpOk p q = true ∧ Q (.bl (dataLt p q)) H
theorem op_ltD {X : Cx} (hu : X.A.units + 64 < cLine) : OpR X (compareOp .Lt) (rLtD X.K) := by
  intro pins s σ H x y v u Q I rx ry h
  obtain ⟨p, q, hp, hq, c, fin⟩ := h
  unfold cmpOk at c
  simp only [Bool.and_eq_true, decide_eq_true_eq] at c
  obtain ⟨as, r1⟩ := Dp.reads I p x v hp rx
  obtain ⟨bs, r2⟩ := Dp.reads I q y u hq ry
  exact lt_data r1 r2 c.1.1 (notNone_ne c.1.2) (Nat.lt_of_le_of_lt (Nat.add_le_add_left (Nat.le_trans (Nat.min_le_left _ _) c.2) _) hu) ⟨.bl _, H, I, rfl, fin⟩
section
variable {P : Program} {w : World} {K : PySem.W.Frag} {mg : Str → Option Value} {base : Heap} {W : WX} {X : Cx} {k j : Nat} {a b e : Expr} {es : List Expr} {ta tb : TE} {ma mb : En → RP D} {pos p : Pos} {t : TA} {x : Str} {mf : En → RD}
theorem o_ltD : Op2 K (rLtD K) dLtD := by
  intro H x y d1 d2 z Q r1 r2 e q
  unfold dLtD at e
  cases h1 : toPy d1 with
  | none => rw [h1] at e; cases e
  | some p =>
    rw [h1] at e
    cases h2 : toPy d2 with
    | none => rw [h2] at e; cases e
    | some p2 =>
      rw [h2] at e
      simp only [Option.bind_some] at e
      by_cases c : cmpOk p p2 = true
      · rw [if_pos c] at e; cases e
        exact ⟨p, p2, dp_of r1 h1, dp_of r2 h2, c, q H _ (Grow.refl H) (.bl _)⟩
      · rw [if_neg c] at e; cases e
theorem cp_ltD (c : Cc P w K mg base W X k) (ha : CP K mg W X a ta ma) (hb : CP K mg W X b tb mb) : CP K mg W X (.Compare a [.Lt] [b] pos) (tOp (rLtD K) ta tb) (p2 dLtD ma mb) := cp_cmp (by have := op_ltD c.un; rw [c.K] at this; exact this) o_ltD ha hb
theorem ctp_ltD (c : Cc P w K mg base W X k) (ha : CP K mg W X a ta ma) (hb : CP K mg W X b tb mb) : CTP K mg W X (.Compare a [.Lt] [b] pos) (tTest (tOp (rLtD K) ta tb)) (qB (p2 dLtD ma mb)) := ctp_cmp (by have := op_ltD c.un; rw [c.K] at this; exact this) o_ltD ha hb
/-! ### the least -/
mutual
def ofPy : PyData → D
  | .none => .non
  | .bool b => .bl b
  | .int i => .int i
  | .str s => .str s
  | .list xs => .lst (ofPyL xs)
  | .tuple xs => .tup (ofPyL xs)
  | _ => .non
def ofPyL : List PyData → List D
  | [] => []
  | x :: xs => ofPy x :: ofPyL xs
end
mutual
theorem ofPy_of : ∀ {d : D} {p : PyData}, toPy d = some p → ofPy p = d
  | .non, _, e => by cases e; simp [ofPy]
  | .bl b, _, e => by cases e; simp [ofPy]
  | .int i, _, e => by cases e; simp [ofPy]
  | .str s, _, e => by cases e; simp [ofPy]
  | .lst xs, p, e => by
    unfold toPy at e
    cases q : toPyL xs with
    | none => rw [q] at e; cases e
    | some ps => rw [q] at e; cases e; rw [ofPy, ofPyL_of q]
  | .tup xs, p, e => by
    unfold toPy at e
    cases q : toPyL xs with
    | none => rw [q] at e; cases e
    | some ps => rw [q] at e; cases e; rw [ofPy, ofPyL_of q]
  | .rls _, _, e => by cases e
  | .obj _ _, _, e => by cases e
  | .fn _ _, _, e => by cases e
theorem ofPyL_of : ∀ {ds : List D} {ps : List PyData}, toPyL ds = some ps → ofPyL ps = ds
  | [], _, e => by cases e; simp [ofPyL]
  | x :: xs, _, e => by
    unfold toPyL at e
    cases q : toPy x with
    | none => rw [q] at e; cases e
    | some p =>
      rw [q] at e
      cases q2 : toPyL xs with
      | none => rw [q2] at e; cases e
      | some ps => rw [q2] at e; cases e; rw [ofPyL, ofPy_of q, ofPyL_of q2]
end
theorem toPyL_get : ∀ {ds : List D} {ps : List PyData}, toPyL ds = some ps → ∀ {i : Nat} {p : PyData}, ps[i]? = some p → ∃ d, ds[i]? = some d ∧ toPy d = some p
  | [], _, e, i, p, h => by cases e; simp at h
  | x :: xs, _, e, i, p, h => by
    unfold toPyL at e
    cases q : toPy x with
    | none => rw [q] at e; cases e
    | some p0 =>
      rw [q] at e
      cases q2 : toPyL xs with
      | none => rw [q2] at e; cases e
      | some ps =>
        rw [q2] at e; cases e
        cases i with
        | zero => simp at h; subst h; exact ⟨x, rfl, q⟩
        | succ i => obtain ⟨d, a, b⟩ := toPyL_get q2 (i := i) (by simpa using h); exact ⟨d, by simpa using a, b⟩
/-- all can be compared with one another -/
def allCmp (ps : List PyData) : Bool := ps.all (fun x => ps.all fun y => alike x y) && ps.all notNone && decide (PyData.depthAll ps ≤ 60)
theorem allCmp_alike {ps : List PyData} (h : allCmp ps = true) : AlikeAll ps ∧ PyData.depthAll ps ≤ 60 := by
  unfold allCmp at h
  simp only [Bool.and_eq_true, List.all_eq_true, decide_eq_true_eq] at h
  exact ⟨⟨fun x hx y hy => h.1.1 x hx y hy, fun x hx => notNone_ne (h.1.2 x hx)⟩, h.2⟩
def sMinD (b : Bool) (ds : List D) : Option D := if b = true then (match toPyL ds with
  | some (x :: xs) => if allCmp (x :: xs) = true then some (ofPy (minD x xs)) else none
  | _ => none) else none
def rMinD (K : PySem.W.Frag) : List V → Hp → VK → Prop := fun vs H Q => ∃ (a : Addr) (xs : List V) (y : PyData) (ys : List PyData), vs = [V.ref a] ∧ SqL K H a xs ∧ DpAll K H xs (y :: ys) ∧ allCmp (y :: ys) = true ∧
  ∀ (i : Nat) (v : V), xs[i]? = some v → (y :: ys)[i]? = some (minD y ys) → Q v H
theorem minD_mem (y : PyData) : ∀ ys : List PyData, minD y ys ∈ y :: ys := by
  intro ys
  unfold minD
  induction ys generalizing y with
  | nil => simp
  | cons z r ih =>
    rw [List.foldl_cons]
    by_cases c : dataLt z y = true
    · rw [if_pos c]
      rcases List.mem_cons.mp (ih z) with q | q
      · rw [q]; simp
      · exact List.mem_cons_of_mem _ (List.mem_cons_of_mem _ q)
    · rw [if_neg c]
      rcases List.mem_cons.mp (ih y) with q | q
      · rw [q]; simp
      · exact List.mem_cons_of_mem _ (List.mem_cons_of_mem _ q)
theorem dpAll_get {H : Hp} : ∀ {xs : List V} {ps : List PyData}, DpAll K H xs ps → ∀ {i : Nat} {v : V}, xs[i]? = some v → ∃ p, ps[i]? = some p ∧ Dp K H v p
  | _, _, .nil, i, v, h => by simp at h
  | _, _, .cons r t, 0, v, h => by simp at h; subst h; exact ⟨_, rfl, r⟩
  | _, _, .cons r t, i + 1, v, h => by obtain ⟨p, a, b⟩ := dpAll_get t (i := i) (by simpa using h); exact ⟨p, by simpa using a, b⟩
theorem cr_minD {X : Cx} (hc : X.calm = true) (hu : X.A.units + 64 < cLine) : CallR X (.builtin "min") (rMinD X.K) := by
  intro pins s σ H vs us Q I r h
  obtain ⟨a, xs, y, ys, rfl, hs, hd, c, fin⟩ := h
  obtain ⟨its, rv, hl, _⟩ := I.list hs
  obtain ⟨as, ra⟩ := Dp.readsAll I (y :: ys) xs its hd rv
  obtain ⟨al, dp⟩ := allCmp_alike c
  rw [Vals.ref1 r]
  refine min_list_data (x := y) (xs := ys) (as := as) (I.ok.hd hc) hl.isList (by rw [List.toList_toArray]; exact ra) al (by omega) ?_
  intro i v h' tk bs hi hr keep
  have hi' : its[i]? = some v := by rw [List.getElem?_toArray] at hi; exact hi
  obtain ⟨x, hx, rx⟩ : ∃ x, xs[i]? = some x ∧ RelV x v := by
    have hl2 : xs.length = its.length := rv.length
    have hlt : i < xs.length := by rw [hl2]; exact (List.getElem?_eq_some_iff.mp hi').1
    obtain ⟨u, hu', ru⟩ := rv.get (List.getElem?_eq_getElem hlt)
    rw [hi'] at hu'; cases hu'
    exact ⟨_, List.getElem?_eq_getElem hlt, ru⟩
  obtain ⟨p, hp, dpp⟩ := dpAll_get hd hx
  obtain ⟨as', rp⟩ := Dp.reads I p x v dpp rx
  have ali := al.1 p (List.mem_of_getElem? hp) _ (minD_mem y ys)
  have e : p = minD y ys := alike_unique p _ v as' bs ali (Reads.keeps keep rp) hr
  exact ⟨x, H, I.kept keep, rx, fin i x hx (by rw [← e]; exact hp)⟩
/-- a built-in of one container that gives one of its items -/
def OpCd (K : PySem.W.Frag) (r : List V → Hp → VK → Prop) (f : Bool → List D → Option D) : Prop := ∀ H G p b xs ds z Q, SeqAt K H p b xs → RepL K H xs ds → RepL K G xs ds → f b ds = some z → (∀ v, Rep K G v z → Q v H) → r [.ref p] H Q
def cSd (f : Bool → List D → Option D) (a : En → Res (Bool × List D)) (e : En) : Res D := (a e).bind fun x e1 => match f x.1 x.2 with
  | some z => .ok z e1
  | none => .bad
theorem eve_cd {r : List V → Hp → VK → Prop} {f : Bool → List D → Option D} (o : OpCd K r f) {ta : TE} {ma : En → Res (Bool × List D)} (ha : EvC K mg W ta ma) : EvE K mg W (tCB r (tCons ta tNil)) (cSd f ma) := by
  intro Z G H σ env Q hd h
  refine ha.after hd (Bad := fun r => PoE K mg W Z G H σ env r Q) h (fun z => z) (fun x e z => z) fun b ds e G1 H1 p xs h1 s hd1 sq rs => ?_
  dsimp only at h1
  cases q : f b ds with
  | none => rw [q] at h1; exact False.elim h1
  | some z =>
    rw [q] at h1
    exact o H1 G1 p b xs ds z Q sq (rs.mono (Kp.of hd1.ex)) rs q fun v rv => h1 G1 H1 v s hd1 rv
theorem cd_minD : OpCd K (rMinD K) sMinD := by
  intro H G p b xs ds z Q sq r rg e q
  unfold sMinD at e
  cases b with
  | false => cases e
  | true =>
    rw [if_pos rfl] at e
    cases h : toPyL ds with
    | none => rw [h] at e; cases e
    | some ps =>
      rw [h] at e
      cases ps with
      | nil => cases e
      | cons y ys =>
        dsimp only at e
        by_cases c : allCmp (y :: ys) = true
        · rw [if_pos c] at e
          cases e
          refine ⟨p, xs, y, ys, rfl, sq, dpl_of r h, c, fun i v hv hi => q v ?_⟩
          obtain ⟨d, h1, h2⟩ := toPyL_get h hi
          obtain ⟨v', k1, k2⟩ := rg.get h1
          rw [hv] at k1; cases k1
          rw [ofPy_of h2]; exact k2
        · rw [if_neg c] at e; cases e
theorem ce_minD {p : Pos} {mc : En → Res (Bool × List D)} (c : Cc P w K mg base W X k) (ha : CC K mg W X a ta mc) (hm : mg "min" = none) (hg : Gl X "min" := by rfl) (he : starEach [a] X.env = (false, eval a X.env) :: starEach [] X.env := by rfl) (hpl : (backTo pos (starEach [] X.env)).any (·.1) = false := by rfl) :
    CE K mg W X (.Call (.Name "min" p) [a] [] pos) (tCB (rMinD K) (tCons ta tNil)) (cSd sMinD mc) :=
  ⟨pe_callB (by have := cr_minD c.calm c.un; rw [c.K] at this; exact this) hg (by rw [c.mg]; exact hm) bb_min (pa_cons ha.1 pa_nil he) (by decide) (by decide) he hpl, eve_cd cd_minD ha.2⟩
end
end Cv
end

section
set_option Elab.async false
set_option linter.all false
set_option maxRecDepth 100000
set_option maxHeartbeats 4000000
set_option autoImplicit false
/-! CvP: lists and tuples purely read: slices, list(x), tuple(x), x + a new list. -/
namespace Cv
open PySem L2 PyProof.Rows PySem.Spec PySem.W
variable [TbT]
/-- a sequence as it stands, purely read -/
def PoU (K : PySem.W.Frag) (mg : Str → Option Value) (W : WX) (G H : Hp) (σ : L2.St) (r : RP (Bool × List D)) (Q : VK) : Prop := match r with
  | .ok x => ∀ H' p xs, Grow H H' → SeqAt K H' p x.1 xs → RepL K G xs x.2 → Q (.ref p) H'
  | .exc x => ∀ H' C a, Grow H H' → ExcAt K mg H' x C a → W (.ref C) (some a) σ H'
  | .bad => False
def EvU (K : PySem.W.Frag) (mg : Str → Option Value) (W : WX) (t : TE) (m : En → RP (Bool × List D)) : Prop := ∀ Z G H σ env Q, Hold K Z G H σ env → PoU K mg W G H σ (m env) Q → t σ H Q
abbrev CU (K : PySem.W.Frag) (mg : Str → Option Value) (W : WX) (X : Cx) (e : Expr) (t : TE) (m : En → RP (Bool × List D)) : Prop := PE X e t ∧ EvU K mg W t m
section
variable {P : Program} {w : World} {K : PySem.W.Frag} {mg : Str → Option Value} {base : Heap} {W : WX} {X : Cx} {k j : Nat} {a b e : Expr} {es : List Expr} {ta tb : TE} {ma mb : En → RP D} {pos p : Pos} {t : TA} {x : Str} {Z : Addr → Prop} {G H : Hp} {σ : L2.St} {env : En}
theorem EvU.after {t : TE} {m : En → RP (Bool × List D)} (h : EvU K mg W t m) {β : Type} (hd : Hold K Z G H σ env) {f : Bool × List D → RP β} {Q : VK} {Bad : RP β → Prop}
    (hb : Bad ((m env).bind f)) (h0 : ¬ Bad .bad) (hx : ∀ x, Bad (.exc x) → ∀ H' C a, Grow H H' → ExcAt K mg H' x C a → W (.ref C) (some a) σ H')
    (hk : ∀ b ds H1 p xs, Bad (f (b, ds)) → Grow H H1 → Hold K Z G H1 σ env → SeqAt K H1 p b xs → RepL K G xs ds → Q (.ref p) H1) : t σ H Q := by
  refine h Z G H σ env Q hd ?_
  cases e : m env with
  | ok d => obtain ⟨b, ds⟩ := d; rw [e] at hb; exact fun H' p xs g a r => hk b ds H' p xs hb g (hd.grow g) a r
  | exc x => rw [e] at hb; exact hx x hb
  | bad => rw [e] at hb; exact (h0 hb).elim
def uVar (i : Nat) (env : En) : RP (Bool × List D) := match env[i]? with
  | some (.imm (.lst ds)) => .ok (true, ds)
  | some (.imm (.rls ds)) => .ok (true, ds)
  | some (.imm (.tup ds)) => .ok (false, ds)
  | some (.own (.lst ds)) => .ok (true, ds)
  | some (.par (.lst ds)) => .ok (true, ds)
  | _ => .bad
theorem evu_var {i : Nat} : EvU K mg W (tVar i) (uVar i) := by
  intro Z G H σ env Q hd h
  have key : ∀ s ds, env[i]? = some s → s.mo = some (.lst ds) → PoU K mg W G H σ (.ok (true, ds)) Q → tVar i σ H Q := fun s ds e hm h => by
    obtain ⟨p, o, h1, h2, h3, h4⟩ := hd.own_get e hm
    cases h4 with
    | lst r => exact ⟨_, h1, h H p _ (Grow.refl H) (SqL.of h2) r⟩
  unfold uVar at h
  cases e : env[i]? with
  | none => rw [e] at h; exact h.elim
  | some s =>
    rw [e] at h
    cases s with
    | none => exact h.elim
    | fre d => exact h.elim
    | own m =>
      cases m with
      | lst ds => exact key _ ds e rfl h
      | ins c fs => exact h.elim
    | par m =>
      cases m with
      | lst ds => exact key _ ds e rfl h
      | ins c fs => exact h.elim
    | imm d =>
      obtain ⟨v, h1, h2⟩ := hd.imm_get e
      cases d with
      | lst ds => cases h2 with | lst a r => exact ⟨_, h1, h H _ _ (Grow.refl H) (SqL.of (hd.ex _ _ a)) r⟩
      | rls ds => cases h2 with | rls a r => exact ⟨_, h1, h H _ _ (Grow.refl H) (SqL.kp (Kp.of hd.ex) a) r⟩
      | tup ds => cases h2 with | tup a r => exact ⟨_, h1, h H _ _ (Grow.refl H) (SqT.of (hd.ex _ _ a)) r⟩
      | _ => exact h.elim
theorem cu_var (i : Nat) {x : Str} (hN : X.N[i]? = some x := by rfl) (hv : Vis X.env.scope x := by first | exact Or.inl rfl | exact Or.inr (Or.inl rfl) | exact Or.inr (Or.inr rfl)) (h1 : (x == ("__debug__" : Str)) = false := by decide)
    (h2 : (x == ("__classdict__" : Str)) = false := by decide) : CU K mg W X (.Name x pos) (tVar i) (uVar i) := ⟨pe_var hN hv h1 h2, evu_var⟩
/-- a list purely read is one -/
def uK (m : En → RP (List D)) (e : En) : RP (Bool × List D) := (m e).bind fun ds => .ok (true, ds)
theorem evu_k {t : TE} {m : En → RP (List D)} (h : EvK K mg W t m) : EvU K mg W t (uK m) := by
  intro Z G H σ env Q hd q
  unfold uK at q
  exact h.after hd (Bad := fun r => PoU K mg W G H σ r Q) q (fun z => z) (fun x z => z) fun ds H1 p xs h1 g hd1 hp rs => h1 H1 p xs g (SqL.of hp) rs
theorem cu_k {m : En → RP (List D)} (h : CK K mg W X a ta m) : CU K mg W X a ta (uK m) := ⟨h.1, evu_k h.2⟩
/-! ### slices -/
def rSlU (K : PySem.W.Frag) : V → Option Int → Option Int → Hp → VK → Prop := fun x lo hi H Q => rSlL K x lo hi H Q ∨ rSlA K x lo hi H Q
theorem sl_U : SlR X (rSlU X.K) := by
  intro pins s σ H x v vl vu lo hi sl Q I rx hs pl pu h
  rcases h with h | h
  · exact sl_list pins s σ H x v vl vu lo hi sl Q I rx hs pl pu h
  · exact sl_tupA pins s σ H x v vl vu lo hi sl Q I rx hs pl pu h
def uCut (a : En → RP (Bool × List D)) (l h : En → RP (Option Int)) (e : En) : RP (Bool × List D) := (a e).bind fun x => (l e).bind fun lo => (h e).bind fun hi => .ok (x.1, cutD x.2 lo hi)
theorem cut_all {α : Type} {xs : List α} {lo hi : Option Int} (h : HT.sIx xs.length 0 lo = 0 ∧ HT.sIx xs.length xs.length hi = xs.length) : (xs.drop (HT.sIx xs.length 0 lo)).take (HT.sIx xs.length xs.length hi - HT.sIx xs.length 0 lo) = xs := by
  rw [h.1, h.2]; simp
theorem evu_cut {m : En → RP (Bool × List D)} {tl th : TO} {ml mh : En → RP (Option Int)} (ha : EvU K mg W ta m) (hl : EvO K mg W tl ml) (hh : EvO K mg W th mh) : EvU K mg W (tSl (rSlU K) ta tl th) (uCut m ml mh) := by
  intro Z G H σ env Q hd h
  refine ha.after hd (Bad := fun r => PoU K mg W G H σ r Q) h (fun z => z) (fun x z => z) fun b ds H1 p xs h1 g hd1 sq rs => ?_
  dsimp only at h1
  refine hl Z G H1 σ env _ hd1 ?_
  cases q : ml env with
  | exc y => rw [q] at h1; exact fun H' C a g' ex => h1 H' C a (g.trans g') ex
  | bad => rw [q] at h1; exact h1
  | ok lo =>
    rw [q] at h1
    intro H2 g2
    refine hh Z G H2 σ env _ (hd1.grow g2) ?_
    cases q2 : mh env with
    | exc y => rw [q2] at h1; exact fun H' C a g' ex => h1 H' C a ((g.trans g2).trans g') ex
    | bad => rw [q2] at h1; exact h1
    | ok hi =>
      rw [q2] at h1
      intro H3 g3
      have g4 := g2.trans g3
      have sq3 := SeqAt.grow g4 sq
      cases b with
      | true => exact .inl ⟨p, xs, rfl, sq3, fun l hl => h1 _ l _ ((g.trans g4).trans (Grow.new hl)) (SqL.of upd_same) (rs.cut lo hi)⟩
      | false =>
        refine .inr ⟨p, xs, rfl, sq3, fun c => ?_, fun _ l hl => h1 _ l _ ((g.trans g4).trans (Grow.new hl)) (SqT.of upd_same) (rs.cut lo hi)⟩
        have e1 : cutV xs lo hi = xs := cut_all c
        have := rs.cut lo hi
        rw [e1] at this
        exact h1 _ p xs (g.trans g4) sq3 this
theorem cu_cut (c : Cc P w K mg base W X k) {lo hi : Option Expr} {p2 : Pos} {tl th : TO} {m : En → RP (Bool × List D)} {ml mh : En → RP (Option Int)} (ha : CU K mg W X a ta m) (hl : CO K mg W X lo tl ml) (hh : CO K mg W X hi th mh) :
    CU K mg W X (.Subscript a (.Slice lo hi none p2) pos) (tSl (rSlU K) ta tl th) (uCut m ml mh) := ⟨pe_slice (by have := sl_U (X := X); rw [c.K] at this; exact this) ha.1 hl.1 hh.1, evu_cut ha.2 hl.2 hh.2⟩
/-! ### list(x), tuple(x) -/
def kU (m : En → RP (Bool × List D)) (e : En) : RP (List D) := (m e).bind fun x => .ok x.2
theorem evk_listU {m : En → RP (Bool × List D)} (ha : EvU K mg W ta m) : EvK K mg W (tCB (rListU K) (tCons ta tNil)) (kU m) := by
  intro Z G H σ env Q hd h
  unfold kU at h
  refine ha.after (Q := fun v H1 => rListU K [v] H1 Q) hd (Bad := fun r => PoK K mg W G H σ r Q) h (fun z => z) (fun x z => z) fun b ds H1 p xs h1 g hd1 sq rs => ?_
  refine ⟨p, xs, rfl, ?_, fun l hl => h1 _ l xs (g.trans (Grow.new hl)) upd_same rs⟩
  cases b with
  | true => exact .inl sq
  | false => exact .inr sq
theorem ck_list (c : Cc P w K mg base W X k) {m : En → RP (Bool × List D)} (ha : CU K mg W X a ta m) (hm : mg "list" = none) (hg : Gl X "list" := by rfl) (he : starEach [a] X.env = (false, eval a X.env) :: starEach [] X.env := by rfl) (hpl : (backTo pos (starEach [] X.env)).any (·.1) = false := by rfl) :
    CK K mg W X (.Call (.Name "list" p) [a] [] pos) (tCB (rListU K) (tCons ta tNil)) (kU m) :=
  ⟨pe_callTy (by have := call_list_of (X := X); rw [c.K] at this; exact this) hg (by rw [c.mg]; exact hm) bb_list (pa_cons ha.1 pa_nil he) (by decide) (by decide) he hpl, evk_listU ha.2⟩
def rTupU (K : PySem.W.Frag) : List V → Hp → VK → Prop := fun xs H Q => ∃ p ys, xs = [.ref p] ∧ ((SqL K H p ys ∧ ∀ l, H l = none → Q (.ref l) (upd H l (.tup ys))) ∨ (SqT K H p ys ∧ Q (.ref p) H))
def uTup (m : En → RP (Bool × List D)) (e : En) : RP (Bool × List D) := (m e).bind fun x => .ok (false, x.2)
theorem evu_tup {m : En → RP (Bool × List D)} (ha : EvU K mg W ta m) : EvU K mg W (tCB (rTupU K) (tCons ta tNil)) (uTup m) := by
  intro Z G H σ env Q hd h
  unfold uTup at h
  refine ha.after (Q := fun v H1 => rTupU K [v] H1 Q) hd (Bad := fun r => PoU K mg W G H σ r Q) h (fun z => z) (fun x z => z) fun b ds H1 p xs h1 g hd1 sq rs => ?_
  cases b with
  | true => exact ⟨p, xs, rfl, .inl ⟨sq, fun l hl => h1 _ l xs (g.trans (Grow.new hl)) (SqT.of upd_same) rs⟩⟩
  | false => exact ⟨p, xs, rfl, .inr ⟨sq, h1 _ p xs g sq rs⟩⟩
theorem cu_tup (c : Cc P w K mg base W X k) {m : En → RP (Bool × List D)} (ha : CU K mg W X a ta m) (hm : mg "tuple" = none) (hg : Gl X "tuple" := by rfl) (he : starEach [a] X.env = (false, eval a X.env) :: starEach [] X.env := by rfl) (hpl : (backTo pos (starEach [] X.env)).any (·.1) = false := by rfl) :
    CU K mg W X (.Call (.Name "tuple" p) [a] [] pos) (tCB (rTupU K) (tCons ta tNil)) (uTup m) :=
  ⟨pe_callTy (by have := call_tuple_of (X := X); rw [c.K] at this; exact this) hg (by rw [c.mg]; exact hm) bb_tuple (pa_cons ha.1 pa_nil he) (by decide) (by decide) he hpl, evu_tup ha.2⟩
/-! ### .. read as data -/
def pK (m : En → RP (List D)) (e : En) : RP D := (m e).bind fun ds => .ok (.lst ds)
theorem evp_k {m : En → RP (List D)} (h : EvK K mg W ta m) : EvP K mg W ta (pK m) := by
  intro Z G H σ env Q hd q
  unfold pK at q
  exact h.after hd (Bad := fun r => PoP K mg W H σ r Q) q (fun z => z) (fun x z => z) fun ds H1 p xs h1 g hd1 hp rs => h1 H1 (.ref p) g (.lst hp (rs.mono (Kp.of hd1.ex)))
theorem cp_k {m : En → RP (List D)} (h : CK K mg W X a ta m) : CP K mg W X a ta (pK m) := ⟨h.1, evp_k h.2⟩
/-- tuple(a list), as data -/
def pTupL (m : En → RP (Bool × List D)) (e : En) : RP D := (m e).bind fun x => if x.1 = true then .ok (.tup x.2) else .bad
theorem evp_tupL {m : En → RP (Bool × List D)} (ha : EvU K mg W ta m) : EvP K mg W (tCB (rTupU K) (tCons ta tNil)) (pTupL m) := by
  intro Z G H σ env Q hd h
  unfold pTupL at h
  refine ha.after (Q := fun v H1 => rTupU K [v] H1 Q) hd (Bad := fun r => PoP K mg W H σ r Q) h (fun z => z) (fun x z => z) fun b ds H1 p xs h1 g hd1 sq rs => ?_
  cases b with
  | false => exact h1.elim
  | true => exact ⟨p, xs, rfl, .inl ⟨sq, fun l hl => h1 _ (.ref l) (g.trans (Grow.new hl)) (.tup upd_same (rs.mono ((Kp.of hd1.ex).trans (Grow.new hl).k)))⟩⟩
theorem cp_tupL (c : Cc P w K mg base W X k) {m : En → RP (Bool × List D)} (ha : CU K mg W X a ta m) (hm : mg "tuple" = none) (hg : Gl X "tuple" := by rfl) (he : starEach [a] X.env = (false, eval a X.env) :: starEach [] X.env := by rfl) (hpl : (backTo pos (starEach [] X.env)).any (·.1) = false := by rfl) :
    CP K mg W X (.Call (.Name "tuple" p) [a] [] pos) (tCB (rTupU K) (tCons ta tNil)) (pTupL m) :=
  ⟨pe_callTy (by have := call_tuple_of (X := X); rw [c.K] at this; exact this) hg (by rw [c.mg]; exact hm) bb_tuple (pa_cons ha.1 pa_nil he) (by decide) (by decide) he hpl, evp_tupL ha.2⟩
/-! ### x + a new list, x a name -/
theorem kVar_at (hd : Hold K Z G H σ env) {i : Nat} {ds : List D} (h : kVar i env = .ok ds) : ∃ p xs, σ[i]? = some (some (.ref p)) ∧ H p = some (.lst xs) ∧ RepL K G xs ds := by
  have key : ∀ s ds, env[i]? = some s → s.mo = some (.lst ds) → ∃ p xs, σ[i]? = some (some (.ref p)) ∧ H p = some (.lst xs) ∧ RepL K G xs ds := fun s ds e hm => by
    obtain ⟨p, o, h1, h2, h3, h4⟩ := hd.own_get e hm
    cases h4 with
    | lst r => exact ⟨p, _, h1, h2, r⟩
  unfold kVar at h
  cases e : env[i]? with
  | none => rw [e] at h; cases h
  | some s =>
    rw [e] at h
    cases s with
    | none => cases h
    | fre d => cases h
    | own m =>
      cases m with
      | lst ds' => cases h; exact key _ _ e rfl
      | ins c fs => cases h
    | par m =>
      cases m with
      | lst ds' => cases h; exact key _ _ e rfl
      | ins c fs => cases h
    | imm d =>
      obtain ⟨v, h1, h2⟩ := hd.imm_get e
      cases d with
      | lst ds' => cases h; cases h2 with | lst a r => exact ⟨_, _, h1, hd.ex _ _ a, r⟩
      | _ => cases h
def itemsM : MO → Option (List D)
  | .lst ds => some ds
  | _ => none
def fCatV (i : Nat) (b : En → Res MO) (e : En) : Res MO := match kVar i e with
  | .ok _ => (b e).bind fun m e1 => (match kVar i e1, itemsM m with
    | .ok xs, some ys => if xs.length + ys.length ≤ sizeLine then .ok (.lst (xs ++ ys)) e1 else .bad
    | _, _ => .bad)
  | _ => .bad
theorem evf_catV {i : Nat} {m : En → Res MO} (hb : EvF K mg W tb m) : EvF K mg W (tOp rCat (tVar i) tb) (fCatV i m) := by
  intro Z G H σ env Q hd h
  unfold fCatV at h
  cases q : kVar i env with
  | bad => rw [q] at h; exact h.elim
  | exc x => rw [q] at h; exact h.elim
  | ok ds0 =>
    rw [q] at h
    dsimp only at h
    obtain ⟨p0, xs0, h1, _, _⟩ := kVar_at hd q
    refine ⟨_, h1, ?_⟩
    refine hb Z G H σ env _ hd ?_
    cases e : m env with
    | bad => rw [e] at h; exact h.elim
    | exc x e1 => rw [e] at h; exact h
    | ok mo e1 =>
      rw [e] at h
      intro G1 H1 p o s hd1 hp h0 gp no rm
      have h : PoF K mg W Z G H σ env (match kVar i e1, itemsM mo with
        | .ok xs, some ys => if xs.length + ys.length ≤ sizeLine then .ok (.lst (xs ++ ys)) e1 else .bad
        | _, _ => .bad) Q := h
      cases q1 : kVar i e1 with
      | bad => rw [q1] at h; exact h.elim
      | exc x => rw [q1] at h; exact h.elim
      | ok xsD =>
        rw [q1] at h
        cases mo with
        | ins c fs => exact h.elim
        | lst ysD =>
          dsimp only [itemsM] at h
          obtain ⟨p1, xs, k1, k2, k3⟩ := kVar_at hd1 q1
          rw [h1] at k1
          cases k1
          cases rm with
          | lst ry =>
            by_cases c : xsD.length + ysD.length ≤ sizeLine
            · rw [if_pos c] at h
              exact ⟨_, p, xs, _, rfl, rfl, k2, hp, by rw [k3.length, ry.length]; exact c, new_own hd s (hd1.weak fun a z => .inl z) (.lst (k3.append ry)) h⟩
            · rw [if_neg c] at h; exact h.elim
theorem cf_catV {m : En → Res MO} (i : Nat) {x : Str} {px : Pos} (hb : CF K mg W X b tb m) (hN : X.N[i]? = some x := by rfl) (hv : Vis X.env.scope x := by first | exact Or.inl rfl | exact Or.inr (Or.inl rfl) | exact Or.inr (Or.inr rfl)) (h1 : (x == ("__debug__" : Str)) = false := by decide)
    (h2 : (x == ("__classdict__" : Str)) = false := by decide) : CF K mg W X (.BinOp (.Name x px) .Add b pos) (tOp rCat (tVar i) tb) (fCatV i m) := ⟨pe_op op_cat (pe_var hN hv h1 h2) hb.1, evf_catV hb.2⟩
end
end Cv
end

section
set_option Elab.async false
set_option linter.all false
set_option maxRecDepth 100000
set_option maxHeartbeats 4000000
set_option autoImplicit false
/-! CvI: what stands apart: x = list(..) apart, y = f(x), y[0] changed through a name of its own. -/
namespace Cv
open PySem L2 PyProof.Rows PySem.Spec PySem.W
variable [TbT]
section
variable {P : Program} {w : World} {K : PySem.W.Frag} {mg : Str → Option Value} {base : Heap} {W : WX} {X : Cx} {k j : Nat} {a b e : Expr} {es : List Expr} {ta tb te : TE} {ma mb : En → RP D} {pos p : Pos} {t : TA} {x : Str} {Z : Addr → Prop} {G H : Hp} {σ : L2.St} {env : En}
/-- x = a new list of scalars that shall stand apart -/
def _root_.Cv.MO.flatL : MO → Bool
  | .lst ds => ds.all flat
  | .ins _ _ => false
def sAsgFre (m : En → Res MO) (i : Nat) (e : En) : Fl := match m e with
  | .ok mo e1 => if mo.flatL = true ∧ i < e1.length then .next (e1.set i (.fre mo.toD)) else .bad
  | .exc x e1 => .exc x e1
  | .bad => .bad
theorem evs_asgFre {m : En → Res MO} {i : Nat} (h : EvF K mg W te m) : EvS K mg W (tAsg te (gName i)) (sAsgFre m i) := by
  intro Z G H σ env D hd q
  refine h Z G H σ env _ hd ?_
  unfold sAsgFre at q
  cases e : m env with
  | bad => rw [e] at q; exact q
  | exc x e1 => rw [e] at q; exact PoX.toS q
  | ok mo e1 =>
    rw [e] at q
    dsimp only at q
    by_cases c : mo.flatL = true ∧ i < e1.length
    case neg => rw [if_neg c] at q; exact q.elim
    rw [if_pos c] at q
    intro G1 H1 p o s hd1 hp h0 gp no rm
    have hg : Hold K Z G1 H1 σ e1 := hd1.weak fun a z => .inl z
    have rp : Rep K (fun a => if a = p then some o else none) (.ref p) mo.toD := by
      cases rm with
      | lst r => exact .lst (if_pos rfl) (r.flat c.1)
      | ins r => cases c.1
    exact q G1 H1 _ (Step.put hg.len (fun m z => by cases z) (fun m z => by cases z) s) (hg.put (s := .fre mo.toD) c.2 trivial (fun m z => by cases z) (fun m z => by cases z) (fun d' z => by
      cases z
      refine ⟨fun a => if a = p then some o else none, fun a u z => ?_, fun a u z => ?_, rp⟩
      · by_cases w : a = p
        · have z : (if a = p then some o else none) = some u := z
          rw [if_pos w] at z; cases z; rw [w]; exact hp
        · have z : (if a = p then some o else none) = some u := z
          rw [if_neg w] at z; cases z
      · by_cases w : a = p
        · have z : (if a = p then some o else none) = some u := z
          rw [if_pos w] at z; cases z
          rw [w]
          exact ⟨gp, no, fun z' => (by obtain ⟨_, q⟩ := hd.zt p z'; rw [h0] at q; cases q), rm.nt⟩
        · have z : (if a = p then some o else none) = some u := z
          rw [if_neg w] at z; cases z))
/-- y = f(x), x standing apart: so does the answer -/
def sAsgRV (mf : En → RD) (g i : Nat) (e : En) : Fl := match freAt e g with
  | some d => (match mf [.imm d] with
    | .ok (.imm r) _ => if i < e.length then .next (e.set i (.fre r)) else .bad
    | .ok (.own m) _ => if i < e.length then .next (e.set i (.fre m.toD)) else .bad
    | .exc x _ => .exc x e
    | .bad => .bad)
  | none => .bad
theorem evs_asgRV {mf : En → RD} {g i : Nat} : EvS K mg W (tAsg (tCallS (SpM K mg mf) (WE W) (tCons (tVar g) tNil)) (gName i)) (sAsgRV mf g i) := by
  intro Z G H σ env D hd h
  unfold sAsgRV at h
  cases f : freAt env g with
  | none => rw [f] at h; exact h.elim
  | some d0 =>
    rw [f] at h
    dsimp only at h
    obtain ⟨v, R, hs, sr, hR, rv⟩ := fre_get hd f
    refine ⟨v, hs, ?_⟩
    have rs : RepL K R [v] [d0] := .cons rv .nil
    obtain ⟨i1, i2⟩ := imm_slots rs sr (fun a o z => (hR a o z).2.2.2) hd.tb
    refine ⟨R, [.imm d0], i1, fun s hs => ?_, ?_⟩
    · rcases List.mem_singleton.mp hs with rfl; exact .inl ⟨_, rfl⟩
    have gr : ∀ {G' H' : Hp} {o : En}, Step (trk H) R H ([v].map some) ([d0].map .imm) G' H' ([v].map some) o → Hold K (trk H) G' H' ([v].map some) o → Grow H H' := fun sc hc => ⟨fun a u x nt => sc.h a u x nt (i2 a) ⟨_, x⟩, sc.d, fun _ => hc.tb⟩
    have away : ∀ {G' H' : Hp} {o : En}, Step (trk H) R H ([v].map some) ([d0].map .imm) G' H' ([v].map some) o → Hold K (trk H) G' H' ([v].map some) o → ∀ a u, G' a = some u → G a = none ∧ ¬ Own σ env a ∧ ¬ Z a ∧ notTbl u := fun {G' H' o} sc hc a u z => by
      cases r : R a with
      | some u' =>
        obtain ⟨k1, k2, k3, _⟩ := hR a u' r
        exact ⟨k1, k2, k3, hc.nt a u z⟩
      | none =>
        have h1 : H a = none := by
          cases q : H a with
          | none => rfl
          | some w => rw [sc.n a w q r (i2 a) ⟨_, q⟩] at z; cases z
        refine ⟨hd.gp h1, not_own_new hd h1, fun z' => ?_, hc.nt a u z⟩
        obtain ⟨_, q⟩ := hd.zt a z'
        rw [h1] at q; cases q
    have fin : ∀ {G' H' Gr : Hp} {o : En} {v' : V} {d : Cv.D}, Step (trk H) R H ([v].map some) ([d0].map .imm) G' H' ([v].map some) o → Hold K (trk H) G' H' ([v].map some) o → (∀ a u, Gr a = some u → G a = none ∧ ¬ Own σ env a ∧ ¬ Z a ∧ notTbl u) → Same Gr H' → Rep K Gr v' d → i < env.length →
        PoN K Z G H σ env (env.set i (.fre d)) D.nx → gName i v' σ H' D.nx := fun {G' H' Gr o v' d} sc hc aw sm rv c q => by
      have hg := hd.grow (gr sc hc)
      exact q G H' _ (Step.put hg.len (fun m z => by cases z) (fun m z => by cases z) (Step.grow (gr sc hc))) (hg.put (s := .fre d) c trivial (fun m z => by cases z) (fun m z => by cases z) (fun d' z => by cases z; exact ⟨Gr, sm, aw, rv⟩))
    cases qf : mf [.imm d0] with
    | bad => rw [qf] at h; exact h
    | exc x o => rw [qf] at h; exact fun G' H' C a sc hc ex => h G H' σ C a (Step.grow (gr sc hc)) (hd.grow (gr sc hc)) ex
    | ok r o =>
      rw [qf] at h
      cases r with
      | imm d =>
        dsimp only at h
        by_cases c : i < env.length
        · rw [if_pos c] at h
          exact fun G' H' v' sc hc rv' => fin sc hc (away sc hc) hc.ex rv' c h
        · rw [if_neg c] at h; exact h.elim
      | own m =>
        dsimp only at h
        by_cases c : i < env.length
        · rw [if_pos c] at h
          intro G' H' p ob sc hc hp fr gp no rm
          refine fin (Gr := upd G' p ob) sc hc (fun a u z => ?_) (fun a u z => ?_) ((rm.mono (Kp.of fun a u e => by rw [upd_ne (ne_of_none e gp)]; exact e)).rep upd_same) c h
          · by_cases w : a = p
            · subst w; rw [upd_same] at z; cases z
              refine ⟨hd.gp fr, not_own_new hd fr, fun z' => ?_, rm.nt⟩
              obtain ⟨_, q⟩ := hd.zt a z'
              rw [fr] at q; cases q
            · rw [upd_ne w] at z; exact away sc hc a u z
          · by_cases w : a = p
            · subst w; rw [upd_same] at z; rw [← z]; exact hp
            · rw [upd_ne w] at z; exact hc.ex a u z
        · rw [if_neg c] at h; exact h.elim
/-! ### y = x[0]; y.append(n); x.pop() -/
def sSpoil3 (i j : Nat) (e : En) : Fl := match freAt e i with
  | some (.lst (.lst ds :: _)) => if j < e.length ∧ j ≠ i ∧ ds.length < sizeLine then .next ((unfre e).set j .none) else .bad
  | _ => .bad
theorem unfre_unfre (e : En) : unfre (unfre e) = unfre e := by
  unfold unfre
  rw [List.map_map]
  apply List.map_congr_left
  intro s _
  cases s <;> rfl
theorem unfre_own {i : Nat} {p : Addr} (h : OwnAt σ (unfre env) i p) : OwnAt σ env i p := by
  obtain ⟨q1, s, m, q2, q3⟩ := h
  rcases unfre_get q2 with ⟨z, _⟩ | z
  · exact ⟨q1, s, m, z, q3⟩
  · subst z; cases q3
theorem evs_spoil3 {i j : Nat} {n : Int} : EvS K mg W (tSeq (tAsg (tOp (rIx K) (tVar i) (tC (.int 0))) (gName j)) (tSeq (tDrop (tBM K "list" rAppend (tVar j) (tCons (tC (.int n)) tNil))) (tDrop (tBM0 K "list" rPop (tVar i))))) (sSpoil3 i j) := by
  intro Z G H σ env D hd h
  unfold sSpoil3 at h
  cases f : freAt env i with
  | none => rw [f] at h; exact h.elim
  | some d0 =>
    rw [f] at h
    obtain ⟨v, R, h1, h2, h3, h4⟩ := fre_get hd f
    cases h4 with
    | @lst p xs dl hp rs =>
      cases rs with
      | nil => exact h.elim
      | @cons x0 d1 xs' dl' rx rt =>
        cases rx with
        | @lst p0 xs0 ds hp0 rs0 =>
          dsimp only at h
          by_cases c : j < env.length ∧ j ≠ i ∧ ds.length < sizeLine
          case neg => rw [if_neg c] at h; exact h.elim
          rw [if_pos c] at h
          obtain ⟨c1, c2, c3⟩ := c
          have hl := hd.len
          have sj : (σ.set j (some (V.ref p0)))[j]? = some (some (V.ref p0)) := List.getElem?_set_self (by omega)
          have si : (σ.set j (some (V.ref p0)))[i]? = some (some (V.ref p)) := by rw [List.getElem?_set_ne c2]; exact h1
          obtain ⟨a1, a2, a3, _⟩ := h3 _ _ hp0
          obtain ⟨b1, b2, b3, _⟩ := h3 _ _ hp
          have H0 : H p0 = some (.lst xs0) := h2 _ _ hp0
          have Hp : H p = some (.lst (V.ref p0 :: xs')) := h2 _ _ hp
          have H1p : ∃ ys y, upd H p0 (.lst (xs0 ++ [V.int n])) p = some (.lst ys) ∧ ys[ys.length - 1]? = some y := by
            by_cases w : p = p0
            · rw [w, upd_same]
              exact ⟨xs0 ++ [V.int n], V.int n, rfl, by simp⟩
            · rw [upd_ne w]
              refine ⟨V.ref p0 :: xs', (V.ref p0 :: xs')[(V.ref p0 :: xs').length - 1]'(by simp), Hp, List.getElem?_eq_getElem (by simp)⟩
          obtain ⟨ys, y, k1, k2⟩ := H1p
          obtain ⟨e1, e2⟩ := hd.spoil (o := .lst (xs0 ++ [V.int n])) ⟨_, H0, pl_lst⟩ nt_lst a1 a2 a3
          obtain ⟨e3, e4⟩ := e1.spoil (o := .lst ys.dropLast) ⟨_, k1, pl_lst⟩ nt_lst b1 (fun ⟨q, z⟩ => b2 ⟨q, unfre_own z⟩) b3
          rw [unfre_unfre] at e3 e4
          obtain ⟨e5, e6⟩ := e3.forget j (some (V.ref p0))
          refine ⟨_, h1, .inl ⟨p, _, 0, V.ref p0, rfl, rfl, SqL.of Hp, atI_of (j := 0) rfl rfl, ?_⟩⟩
          refine ⟨V.ref p0, sj, .inl ⟨rfl, _, SqL.of H0⟩, p0, xs0, V.int n, rfl, rfl, H0, by rw [rs0.length]; exact c3, ?_⟩
          refine ⟨V.ref p, si, .inl ⟨rfl, _, SqL.of k1⟩, p, ys, y, rfl, rfl, k1, k2, ?_⟩
          exact h G _ _ ((e2.trans e4).trans e6) e5
        | _ => exact h.elim
    | _ => exact h.elim
section
variable (i : Nat) (c : Cc P w K mg base W X k)
include c
theorem cs_asgFre {m : En → Res MO} {px : Pos} (h : CF K mg W X e te m) (hN : X.N[i]? = some x := by rfl) (hx : Loc X.env.scope x := by first | exact Or.inl rfl | exact Or.inr rfl) (hf : X.fn x = true ∨ X.env.scope.names.lookup x = some .local := by first | exact .inl rfl | exact .inr rfl) (hs : swapsWithSole [.Name x px] e pos.line X.env = pure false := by rfl)
    (hw : swappedStores [.Name x px] e X.env = pure none := by rfl) (h1 : (assignEach [.Name x px] X.env).map (·.2) = [assign (.Name x px) X.env] := by rfl) : CS K mg W X (.Assign [.Name x px] e pos) (tAsg te (gName i)) (sAsgFre m i) := ⟨ps_asg h.1 (pg_name c.nd hN hx hf) hs hw h1, evs_asgFre h.2⟩
theorem cs_asgRV (g : Nat) {j : Nat} {y z : Str} {mf : En → RD} {px py pz pos' : Pos} (F : CalM P w K mg base j y mf) (hNg : X.N[g]? = some z := by rfl) (hvz : Vis X.env.scope z := by first | exact Or.inl rfl | exact Or.inr (Or.inl rfl) | exact Or.inr (Or.inr rfl)) (hz1 : (z == ("__debug__" : Str)) = false := by decide) (hz2 : (z == ("__classdict__" : Str)) = false := by decide)
    (hN : X.N[i]? = some x := by rfl) (hx : Loc X.env.scope x := by first | exact Or.inl rfl | exact Or.inr rfl) (hf : X.fn x = true ∨ X.env.scope.names.lookup x = some .local := by first | exact .inl rfl | exact .inr rfl) (hj : j ≤ k := by decide) (hg : Gl X y := by rfl) (hdb : (y == ("__debug__" : Str)) = false := by decide)
    (he : starEach [.Name z pz] X.env = (false, eval (.Name z pz) X.env) :: starEach [] X.env := by rfl) (hpl : (backTo pos' (starEach [] X.env)).any (·.1) = false := by rfl) (hs : swapsWithSole [.Name x px] (.Call (.Name y py) [.Name z pz] [] pos') pos.line X.env = pure false := by rfl)
    (hw : swappedStores [.Name x px] (.Call (.Name y py) [.Name z pz] [] pos') X.env = pure none := by rfl) (h1 : (assignEach [.Name x px] X.env).map (·.2) = [assign (.Name x px) X.env] := by rfl) :
    CS K mg W X (.Assign [.Name x px] (.Call (.Name y py) [.Name z pz] [] pos') pos) (tAsg (tCallS (SpM K mg mf) (WE W) (tCons (tVar g) tNil)) (gName i)) (sAsgRV mf g i) :=
  ⟨ps_asg (pe_calM c F hj (pa_cons (pe_var hNg hvz hz1 hz2) pa_nil he) hg hdb he hpl) (pg_name c.nd hN hx hf) hs hw h1, evs_asgRV⟩
theorem css_spoil3 (j : Nat) {x y : Str} {n : Int} {rest : List Stmt} {u : TS} {g : En → Fl} {p1 p2 p3 p4 p5 p6 p7 p8 p9 p10 p11 p12 p13 p14 : Pos} {k0 k1 : Nat} (h : CSs K mg W X rest u g) (hx : X.N[i]? = some x := by rfl) (hy : X.N[j]? = some y := by rfl)
    (vx : Vis X.env.scope x := by first | exact Or.inl rfl | exact Or.inr (Or.inl rfl) | exact Or.inr (Or.inr rfl)) (vy : Vis X.env.scope y := by first | exact Or.inl rfl | exact Or.inr (Or.inl rfl) | exact Or.inr (Or.inr rfl)) (ly : Loc X.env.scope y := by first | exact Or.inl rfl | exact Or.inr rfl)
    (fy : X.fn y = true ∨ X.env.scope.names.lookup y = some .local := by first | exact .inl rfl | exact .inr rfl) (d1 : (x == ("__debug__" : Str)) = false := by decide) (d2 : (x == ("__classdict__" : Str)) = false := by decide) (d3 : (y == ("__debug__" : Str)) = false := by decide) (d4 : (y == ("__classdict__" : Str)) = false := by decide)
    (s1 : swapsWithSole [.Name y p1] (.Subscript (.Name x p2) (.Constant (.int 0) k0 p3) p4) p5.line X.env = pure false := by rfl) (s2 : swappedStores [.Name y p1] (.Subscript (.Name x p2) (.Constant (.int 0) k0 p3) p4) X.env = pure none := by rfl) (s3 : (assignEach [.Name y p1] X.env).map (·.2) = [assign (.Name y p1) X.env] := by rfl)
    (b1 : attributeBase (.Name y p6) "append" X.env (eval (.Name y p6) X.env) = eval (.Name y p6) X.env := by rfl) (b2 : attributeBase (.Name x p11) "pop" X.env (eval (.Name x p11) X.env) = eval (.Name x p11) X.env := by rfl)
    (few : ((backTo p9 (starEach [.Constant (.int n) k1 p8] X.env)).all (fun x => !x.1) && (backToKw p9 (keywordEach [] X.env)).all (fun x => x.1.isSome) && decide ([Expr.Constant (.int n) k1 p8].length + ([] : List Keyword).length + (if ([] : List Keyword).isEmpty then 0 else 1) < 30)) = true := by rfl)
    (l1 : (p7.endLine == p9.line) = true := by rfl) (l2 : (p12.endLine == p13.line) = true := by rfl) (sa : starEach [.Constant (.int n) k1 p8] X.env = (false, eval (.Constant (.int n) k1 p8) X.env) :: starEach [] X.env := by rfl) (pl : (backTo p9 (starEach [] X.env)).any (·.1) = false := by rfl)
    (w1 : swapsWith (.Call (.Attribute (.Name y p6) "append" p7) [.Constant (.int n) k1 p8] [] p9) none p10.line X.env = pure false := by rfl) (w2 : swapsWith (.Call (.Attribute (.Name x p11) "pop" p12) [] [] p13) none p14.line X.env = pure false := by rfl) :
    CSs K mg W X (.Assign [.Name y p1] (.Subscript (.Name x p2) (.Constant (.int 0) k0 p3) p4) p5 :: .Expr (.Call (.Attribute (.Name y p6) "append" p7) [.Constant (.int n) k1 p8] [] p9) p10 :: .Expr (.Call (.Attribute (.Name x p11) "pop" p12) [] [] p13) p14 :: rest)
      (tSeq (tAsg (tOp (rIx K) (tVar i) (tC (.int 0))) (gName j)) (tSeq (tDrop (tBM K "list" rAppend (tVar j) (tCons (tC (.int n)) tNil))) (tSeq (tDrop (tBM0 K "list" rPop (tVar i))) u))) (sSeq (sSpoil3 i j) g) := by
  refine ⟨?_, fun Z G H σ env D hd q => evs_seq (evs_spoil3 (i := i) (j := j) (n := n)) h.2 Z G H σ env D hd q⟩
  have q1 : PS X (.Assign [.Name y p1] (.Subscript (.Name x p2) (.Constant (.int 0) k0 p3) p4) p5) (tAsg (tOp (rIx K) (tVar i) (tC (.int 0))) (gName j)) := ps_asg (pe_ix (by have := ix_seq (X := X); rw [c.K] at this; exact this) (pe_var hx vx d1 d2) pe_int (by intro _ _; rfl)) (pg_name c.nd hy ly fy) s1 s2 s3
  have q2 : PS X (.Expr (.Call (.Attribute (.Name y p6) "append" p7) [.Constant (.int n) k1 p8] [] p9) p10) (tDrop (tBM K "list" rAppend (tVar j) (tCons (tC (.int n)) tNil))) :=
    ps_expr (by have := pe_bm (X := X) (apos := p7) PySem.F.plainAttrs_list PySem.F.slot_list_append PySem.F.type_list_append mt_append (pe_var hy vy d3 d4) (pa_cons pe_int pa_nil sa) b1 few l1 sa pl; rw [c.K] at this; exact this) w1
  have q3 : PS X (.Expr (.Call (.Attribute (.Name x p11) "pop" p12) [] [] p13) p14) (tDrop (tBM0 K "list" rPop (tVar i))) :=
    ps_expr (by have := pe_bm0 (X := X) (apos := p12) (cpos := p13) PySem.F.plainAttrs_list PySem.F.slot_list_pop PySem.F.type_list_pop mt_pop (pe_var hx vx d1 d2) b2 l2; rw [c.K] at this; exact this) w2
  exact pss_cons q1 (pss_cons q2 (pss_cons q3 h.1))
end
end
end Cv
end

section
set_option Elab.async false
set_option linter.all false
set_option maxRecDepth 100000
set_option maxHeartbeats 4000000
set_option autoImplicit false
/-! CvW: a def that calls the lambda it got; the end of a law whose defs make lambdas. -/
namespace Cv
open PySem L2 PyProof.Rows PySem.Spec
section
variable [TbT] {P : Program} {w : World} {K : PySem.W.Frag} {mg : Str → Option Value} {base : Heap}
/-- what is known of the lambda in the def's context Z -/
def ActM (K : PySem.W.Frag) (mg : Str → Option Value) (Z : Cx) (a : Str) (f : Addr) (R : Hp) (r : RP D) (tw : WX → TE) : Prop :=
  ∀ (W : WX) (pn : List (Addr × Obj)) (xe : Value → Shared → Prop) (p1 p2 : Pos), Takes (Z.tr pn xe) W → CP K mg W (Z.tr pn xe) (.Call (.Name a p1) [] [] p2) (tw W) (eRun f R r)
theorem LamM.of {x a : Str} {st : Stmt} {N ps : List Str} {j np n : Nat} {mb : Addr → Hp → RP D → En → Fl} (F : FnT K mg x st (a :: ps)) (S : FnScope N (a :: ps) (defScope st)) (hN : N[0]? = some a) (hv : Vis (defScope st) a) (hnp : np = ps.length + 1) (hn : n = N.length)
    (hbody : ∀ (g f : Addr) (R : Hp) (r : RP D) (cdv : Value) (A : Around) (outer : List Env) (s : Shared) (H : Hp) (E : XK), Cc P w K mg base (fun cls d _ H => E cls d H) (cxOf (L2.CX P w) P w K mg base N x (defScope st) g cdv A outer s H E) j →
      ∀ tw, ActM K mg (cxOf (L2.CX P w) P w K mg base N x (defScope st) g cdv A outer s H E) a f R r tw → ∃ t, CSs K mg (fun cls d _ H => E cls d H) (cxOf (L2.CX P w) P w K mg base N x (defScope st) g cdv A outer s H E) (defBody st) t (mb f R r))
    (h1 : (a == ("__debug__" : Str)) = false := by decide) (h2 : (a == ("__classdict__" : Str)) = false := by decide) : LamM P w K mg base j x (fun f R r => mDef np n (mb f R r)) := by
  obtain ⟨g, fd, k1, k2, k3⟩ := F.ex
  subst hnp
  subst hn
  exact ⟨g, fd, st, a, ps, N, mb, k1, k2, k3, S, hN, hv, h1, h2, fun _ _ _ => rfl, fun f R r cdv A outer s H E c ⟨tw, h⟩ => hbody g f R r cdv A outer s H E c tw h⟩
end
/-- the law's promise, wherever tables stand -/
def spLawT (T : List (Addr × Str)) (K : PySem.W.Frag) : Sp := fun vs H Q E => ∃ Wp : Addr → Prop, @spLaw ⟨T, Wp⟩ K vs H Q E
theorem fn_anyW {P : Program} {w : World} {K : PySem.W.Frag} {mg : Str → Option Value} {base : Heap} {CX : CXT} {k : Nat} {f : Addr} {fd : FuncData} {ps : List Str} {T : List (Addr × Str)} (h : ∀ Wp : Addr → Prop, FnOk P w K mg base CX k f fd ps (@spLaw ⟨T, Wp⟩ K)) : FnOk P w K mg base CX k f fd ps (spLawT T K) :=
  ⟨fun vs H Q E ⟨Wp, z⟩ => (h Wp).len vs H Q E z, fun A outer s H args us vs Q E hr e0 b r ⟨Wp, z⟩ => (h Wp).run A outer s H args us vs Q E hr e0 b r z⟩
/-- the goal that the head leaves, with tables -/
theorem walk_ofXT {l : PySem.W.OpenLaw} {k : Nat} {q : Program} {loose : List Str} {XP : (Str → Option Value) → Heap → Prop} {YP : World → Heap → Prop} {d : DefRec} {K : Params → PySem.W.Frag} {x : Str}
    (hn : l.most = some 63) (hdf : d.params.defaults = []) (hr : Room k callerA) (hY : ∀ (w : World) (h : Heap), YP w h → (K w.params).In h)
    (F : ∀ (w : World) (mg : Str → Option Value) (fa : Addr) (h : Heap), XP mg h → (K w.params).In h → h.Ns mainGlobals mg → mg d.name = some (.ref fa) →
      (∀ (e : DefRec) (y : Str) (c P : Addr), (PyProof.Rows.recsOf q).find? (fun r => r.name == y) = some e → PySem.W.tabIn (K w.params) y = some (c, P) → PySem.W.CodeHd h c P ∧ h.get? P = some (PySem.W.tabObj #[])) →
      ∃ (fd : FuncData) (cs : List (Addr × Addr)) (T : List (Addr × Str)), (∀ p ∈ cs, PySem.W.CodeHd h p.1 p.2 ∧ h.get? p.2 = some (PySem.W.tabObj #[])) ∧ (∀ p ∈ cs, (K w.params).lookup p.2 = none) ∧ (∀ p ∈ T, ∃ c, (c, p.1) ∈ cs) ∧ (∀ (s : Shared) (u : Value), BindsTo s fd ⟨[u], []⟩ [(x, u)]) ∧
        ∀ base : Heap, (K w.params).In base → base.Ns mainGlobals mg → (∀ p ∈ cs, LamX.TabB base mg p.1 p.2) → ∀ Wp : Addr → Prop, FnOk l.prog w (K w.params) mg base (L2.CX l.prog w) k fa fd [x] (@spLaw ⟨T, Wp⟩ (K w.params))) :
    PySem.W.WalkO q loose XP YP l.row.toRowW d [] (fun f vs => PySem.call f vs) := by
  refine Att.attach_call hn hdf fun w s₀ s₁ mg mb fa o pm cd doc a vs ns Gr Y ho hd hcd hmg hobj hints hlen hg => ?_
  have KX := hY w _ Y
  obtain ⟨fd, cs, T, h1, h2, h3, hb, hF⟩ := F w mg fa _ Gr.X KX Gr.T.g hmg fun e y c P a b => PySem.W.tab_of Gr.T KX a b
  have l63 : ns.length ≤ sizeLine := by rw [PySem.sizeLine_eq]; omega
  refine LamX.law_callTs (cs := cs) (sp := spLawT T (K w.params)) KX Gr.T.g Gr.T.b Gr.T.builtins Gr.T.nolimit hg (fun p hp => (h1 p hp).2) h2 (fun p hp => (h1 p hp).1) Gr.T.bmain hobj hints l63 hr (fun base kb nb tb => fn_anyW (hF base kb nb tb)) hb (fun H hH hS => ?_) fun H e s' z => ?_
  rotate_left
  · obtain ⟨_, _, _, _, _, _, _, _, _, _, _, _, z⟩ := z
    exact z
  refine ⟨fun b => ∃ ps, H b = some (.tbl ps), a, ns, rfl, hS, hlen, ⟨fun p hp => ?_, fun b => Iff.rfl⟩, fun _ => rfl⟩
  obtain ⟨c, hc⟩ := h3 p hp
  exact LamX.TabS.nil (hH _ hc)
end Cv
end

section
set_option Elab.async false
set_option linter.all false
set_option maxRecDepth 100000
set_option maxHeartbeats 4000000
set_option autoImplicit false
/-! CvT: defs that make lambdas. -/
namespace Cv
open PySem L2 PyProof.Rows PySem.Spec
/-- the name of a def's lambdas -/
abbrev lamN (x : Str) (st : Stmt) : Str := (envOfC x (defScope st) 0 0 .none).qual ++ "<lambda>"
/-- a def of the module, its code object known -/
structure FnC (K : PySem.W.Frag) (mg : Str → Option Value) (x : Str) (st : Stmt) (ps : List Str) (c0 : Addr) : Prop where
  ex : ∃ (f : Addr) (oc : Value) (od : Option Addr) (kV doc pm : Value) (an : Option Addr) (ct : Value) (osl : Array (Option Value)), K.lookup f = some ⟨oc, od, .func (PySem.W.fnOf x x (defArgs st) (defBody st) (defScope st) .none kV doc pm an (.ref c0) ct), osl⟩ ∧ PySem.W.codeIn K (.ref c0) x = true ∧
    PySem.W.keepIn K (.ref f) = true ∧ mg x = some (.ref f) ∧ Binds K (PySem.W.fnOf x x (defArgs st) (defBody st) (defScope st) .none kV doc pm an (.ref c0) ct) ps []
section
variable [TbT] {P : Program} {w : World} {K : PySem.W.Frag} {mg : Str → Option Value} {base : Heap}
theorem CalM.ofC {x : Str} {st : Stmt} {N ps : List Str} {c0 : Addr} {k np n : Nat} {mb : En → Fl} (F : FnC K mg x st ps c0) (S : FnScope N ps (defScope st)) (hnp : np = ps.length) (hn : n = N.length)
    (hbody : ∀ (f : Addr) (A : Around) (outer : List Env) (s : Shared) (H : Hp) (E : XK), Cc P w K mg base (fun cls d _ H => E cls d H) (cxOf (L2.CX P w) P w K mg base N x (defScope st) f (.ref c0) A outer s H E) k →
      ∃ t, CSs K mg (fun cls d _ H => E cls d H) (cxOf (L2.CX P w) P w K mg base N x (defScope st) f (.ref c0) A outer s H E) (defBody st) t mb) : CalM P w K mg base (k + 1) x (mDef np n mb) := by
  obtain ⟨f, oc, od, kV, doc, pm, an, ct, osl, lk, hcd, kp, hm, hb⟩ := F.ex
  refine ⟨f, _, ps, fn_of lk hcd S (fun vs H Q E h => ?_) fun A outer s H vs Q E hr h => ?_, hm, kp, hb⟩
  · obtain ⟨G, as, hd, imp, po⟩ := h
    have hl : vs.length = as.length := by have := hd.len; simpa using this
    unfold mDef at po
    by_cases c : as.length = np
    · rw [hl, c, hnp]
    · rw [if_neg c] at po; exact po.elim
  · obtain ⟨G, as, hd, imp, po⟩ := h
    obtain ⟨t, h1, h2⟩ := hbody f A outer s H E ⟨rfl, rfl, rfl, rfl, rfl, rfl, takes_of rfl rfl rfl rfl, hr, passes_of rfl, S.nd⟩
    exact ⟨t, h1, spM_run hd imp hn h2 po⟩
end
end Cv
end

section
set_option Elab.async false
set_option linter.all false
set_option maxRecDepth 100000
set_option maxHeartbeats 4000000
set_option autoImplicit false
/-! the mirrors -/
namespace Lw
open PySem L2 Cv
/-- is_whole -/
noncomputable def b_is_whole : En → Fl := (sRet (liftP (pAnd (p1 (dIsi "int") (pVar 0)) (p1 dNot (p1 (dIsi "bool") (pVar 0))))))
noncomputable def m_is_whole : En → RD := mDef 1 1 b_is_whole
/-- whole_from -/
noncomputable def b_whole_from : En → Fl := (sRet (liftP (pAnd (pCall m_is_whole (pCons (pVar 0) pNil)) (p2 dGe (pVar 0) (pVar 1)))))
noncomputable def m_whole_from : En → RD := mDef 2 2 b_whole_from
/-- check_calendar -/
noncomputable def b_check_calendar : En → Fl := (sFor (iR1 (vCons (liftP (pN dLen (pCons (pVar 0) pNil))) vNil)) (gN 2) (sIf (liftT (qOr (qNot (qB (pCall m_whole_from (pCons (p2 dIx (pVar 0) (pVar 2)) (pCons (pC (.int 0)) pNil))))) (qB (p2 dGt (p2 dIx (pVar 0) (pVar 2)) (pVar 1))))) (sRaise "BadCalendar" "place" (liftP (p2 dAdd (pVar 2) (pC (.int 1))))) sNext))
noncomputable def m_check_calendar : En → RD := mDef 2 3 b_check_calendar
/-- check_most -/
noncomputable def b_check_most : En → Fl := (sIf (liftT (qAnd (qB (p1 (dIsi "int") (pVar 1))) (qAnd (qNot (qB (p1 (dIsi "bool") (pVar 1)))) (qB (p2 dGt (pVar 1) (pVar 2)))))) (sRaise "TooMany" "what" (eVar 0)) sNext)
noncomputable def m_check_most : En → RD := mDef 3 3 b_check_most
/-- check_word -/
noncomputable def b_check_word : En → Fl := (sSeq (sDrop (eCall m_check_most (aV (liftP (pC (.str "calendar"))) (aV (liftP (pN dLen (pCons (pVar 0) pNil))) (aV (liftP (pC (.int 400))) aNil)))))
  (sSeq (sIf (liftT (qB (p2 dEq (pN dLen (pCons (pVar 0) pNil)) (pC (.int 0))))) (sRaise "BadCalendar" "place" (liftP (pC (.int 0)))) sNext)
  (sDrop (eCall m_check_calendar (aV (eVar 0) (aV (liftP (pC (.int 9))) aNil))))))
noncomputable def m_check_word : En → RD := mDef 1 1 b_check_word
/-- turn_at -/
noncomputable def b_turn_at : En → Fl := (sRetF (fOfK (kCat (kU (uCut (uVar 0) (oI (pVar 1)) oNo)) (kU (uCut (uVar 0) oNo (oI (pVar 1)))))))
noncomputable def m_turn_at : En → RD := mDef 2 2 b_turn_at
/-- turns_of -/
noncomputable def b_turns_of : En → Fl := (sSeq (sDrop (eCall m_check_word (aV (eVar 0) aNil)))
  (sRetF (fLc (iR1 (vCons (liftP (pN dLen (pCons (pVar 0) pNil))) vNil)) [1] (gN 1) tYesm (eCall m_turn_at (aV (eVar 0) (aV (eVar 1) aNil))))))
noncomputable def m_turns_of : En → RD := mDef 1 2 b_turns_of
/-- first_unlike -/
noncomputable def b_first_unlike : En → Fl := (sSeq (sFor (iR1 (vCons (liftP (pN dMin2 (pCons (pN dLen (pCons (pVar 0) pNil)) (pCons (pN dLen (pCons (pVar 1) pNil)) pNil)))) vNil)) (gN 2) (sIf (liftT (qB (p2 dNe (p2 dIx (pVar 0) (pVar 2)) (p2 dIx (pVar 1) (pVar 2))))) (sRet (eVar 2)) sNext))
  (sRet (liftP (pC .non))))
noncomputable def m_first_unlike : En → RD := mDef 2 3 b_first_unlike
/-- row_below -/
noncomputable def b_row_below : En → Fl := (sSeq (sAsg (liftP (pCall m_first_unlike (pCons (pVar 0) (pCons (pVar 1) pNil)))) (gN 2))
  (sRet (liftP (pAnd (p2 dNotN (pVar 2) (pC .non)) (p2 dLt (p2 dIx (pVar 0) (pVar 2)) (p2 dIx (pVar 1) (pVar 2)))))))
noncomputable def m_row_below : En → RD := mDef 2 3 b_row_below
/-- is_lyndon -/
noncomputable def b_is_lyndon : En → Fl := (sSeq (sDrop (eCall m_check_word (aV (eVar 0) aNil)))
  (sSeq (sFor (iR2 (vCons (liftP (pC (.int 1))) (vCons (liftP (pN dLen (pCons (pVar 0) pNil))) vNil))) (gN 1) (sIf (liftT (qNot (qB (pCall m_row_below (pCons (pVar 0) (pCons (pCall m_turn_at (pCons (pVar 0) (pCons (pVar 1) pNil))) pNil)))))) (sRet (liftP (pC (.bl false)))) sNext))
  (sRet (liftP (pC (.bl true))))))
noncomputable def m_is_lyndon : En → RD := mDef 1 2 b_is_lyndon
/-- _law_purse -/
noncomputable def b__law_purse : En → Fl := (sSeq (sAsg (eIf (liftT (qB (p2 dLt (pVar 1) (pN dLen (pCons (pVar 0) pNil))))) (liftP (pN dInt (pCons (p2 dIx (pVar 0) (pVar 1)) pNil))) (e2 dMul (liftP (pC (.int 31))) (cS sSum (cOfF (fLc (iLst (eOfF (fCut (cVar 0) oNo (oI (pC (.int 4)))))) [4] (gN 4) tYesm (liftP (pN dInt (pCons (pVar 4) pNil)))))))) (gN 2))
  (sSeq (sAsg (liftP (p2 dAdd (p2 dMul (pC (.int 2)) (pN dAbs (pCons (pVar 2) pNil))) (pIf (qB (p2 dLt (pVar 2) (pC (.int 0)))) (pC (.int 1)) (pC (.int 0))))) (gN 3))
  (sRetF (fLst (vCons (liftP (pIf (qB (p2 dGe (pVar 3) (p2 dPow (pC (.int 10)) (pC (.int 18))))) (pVar 3) (pC (.int 0)))) (vCons (liftP (p2 dMod (pN dInt (pCons (p2 dAdd (p2 dAdd (pVar 3) (p2 dMul (pVar 1) (pC (.int 104729)))) (pC (.int 12345))) pNil)) (pC (.int 2147483629)))) (vCons (eVar 1) vNil)))))))
noncomputable def m__law_purse : En → RD := mDef 2 5 b__law_purse
/-- _law_draw -/
noncomputable def b__law_draw : En → Fl := (sSeq (sIf (liftT (qB (p2 dGt (p2 dIx (pVar 0) (pC (.int 0))) (pC (.int 0))))) (sSeq (sAsg (liftP (p2 dMod (pN dInt (pCons (p2 dIx (pVar 0) (pC (.int 0))) pNil)) (pVar 1))) (gN 2))
  (sSeq (sSetIx 0 (pC (.int 0)) (liftP (p2 dFdiv (p2 dIx (pVar 0) (pC (.int 0))) (pVar 1))))
  (sRet (eVar 2)))) sNext)
  (sSeq (sAugIx (fun i j => i + j) 0 (pC (.int 2)) (pC (.int 1)))
  (sSeq (sSetIx 0 (pC (.int 1)) (liftP (p2 dMod (pN dInt (pCons (p2 dAdd (p2 dMul (p2 dIx (pVar 0) (pC (.int 1))) (pC (.int 48271))) (p2 dMul (p2 dIx (pVar 0) (pC (.int 2))) (pC (.int 69621)))) pNil)) (pC (.int 2147483647)))))
  (sRet (liftP (p2 dMod (p2 dFdiv (p2 dMod (pN dInt (pCons (p2 dAdd (p2 dMul (p2 dIx (pVar 0) (pC (.int 1))) (pC (.int 16807))) (p2 dMul (p2 dIx (pVar 0) (pC (.int 2))) (pC (.int 7919)))) pNil)) (pC (.int 2147483629))) (pC (.int 8))) (pVar 1)))))))
noncomputable def m__law_draw : En → RD := mDef 2 3 b__law_draw
/-- _law_whole -/
noncomputable def b__law_whole : En → Fl := (sRet (liftP (pAnd (p1 (dIsi "int") (pVar 0)) (p1 dNot (p1 (dIsi "bool") (pVar 0))))))
noncomputable def m__law_whole : En → RD := mDef 1 1 b__law_whole
/-- _law_number_is -/
noncomputable def b__law_number_is : En → Fl := (sRet (liftP (pAnd (pCall m__law_whole (pCons (pVar 0) pNil)) (p2 dEq (pVar 0) (pVar 1)))))
noncomputable def m__law_number_is : En → RD := mDef 2 2 b__law_number_is
/-- _law_row_is -/
noncomputable def b__law_row_is : En → Fl := (sSeq (sIf (liftT (qOr (qNot (qB (p1 (dIsi "list") (pVar 0)))) (qB (p2 dNe (pN dLen (pCons (pVar 0) pNil)) (pN dLen (pCons (pVar 1) pNil)))))) (sRet (liftP (pC (.bl false)))) sNext)
  (sSeq (sFor (iR1 (vCons (liftP (pN dLen (pCons (pVar 1) pNil))) vNil)) (gN 2) (sIf (liftT (qOr (qNot (qB (pCall m__law_whole (pCons (p2 dIx (pVar 0) (pVar 2)) pNil)))) (qB (p2 dNe (p2 dIx (pVar 0) (pVar 2)) (p2 dIx (pVar 1) (pVar 2)))))) (sRet (liftP (pC (.bl false)))) sNext))
  (sRet (liftP (pC (.bl true))))))
noncomputable def m__law_row_is : En → RD := mDef 2 3 b__law_row_is
/-- _law_refused -/
def dis__law_refused (x n : Str) : Bool := (x == "BadCalendar" && n == "TooMany") || (x == "BadCalendar" && n == "BadHouse") || (x == "TooMany" && n == "BadHouse") || (x == "BadCalendar" && n == "BadTable") || (x == "TooMany" && n == "BadTable") || (x == "BadCalendar" && n == "BadShare") || (x == "TooMany" && n == "BadShare") || (x == "TooMany" && n == "BadCalendar") || (x == "BadCalendar" && n == "BadWeek") || (x == "TooMany" && n == "BadWeek")
noncomputable def b__law_refused (f : Addr) (R : Hp) (r : RP D) : En → Fl := (sSeq (sTry dis__law_refused (sDrop (liftP (eRun f R r))) (("TooMany", 3, suRet (fun x => (pAnd (p2 dEqS (pVar 1) (pC (.str "TooMany"))) (p2 dEqS (xFld x "what") (pVar 2))))) :: (("BadHouse", 3, suRet (fun x => (pAnd (p2 dEqS (pVar 1) (pC (.str "BadHouse"))) (p2 dEqS (xFld x "what") (pVar 2))))) :: (("BadTable", 3, suRet (fun x => (pAnd (p2 dEqS (pVar 1) (pC (.str "BadTable"))) (p2 dEqS (xFld x "what") (pVar 2))))) :: (("BadShare", 3, suRet (fun x => (pAnd (p2 dEqS (pVar 1) (pC (.str "BadShare"))) (p2 dEqS (xFld x "what") (pVar 2))))) :: (("BadCalendar", 3, suRet (fun x => (pAnd (p2 dEqS (pVar 1) (pC (.str "BadCalendar"))) (pCall m__law_number_is (pCons (xFld x "place") (pCons (pVar 2) pNil)))))) :: (("BadWeek", 3, suRet (fun x => (pAnd (p2 dEqS (pVar 1) (pC (.str "BadWeek"))) (pCall m__law_number_is (pCons (xFld x "day") (pCons (pVar 2) pNil)))))) :: [])))))))
  (sRet (liftP (pC (.bl false)))))
noncomputable def m__law_refused (f : Addr) (R : Hp) (r : RP D) : En → RD := mDef 3 4 (b__law_refused f R r)
/-- _law_rows -/
noncomputable def b__law_rows : En → Fl := (sSeq (sAsgF (fLst (vCons (eOfF (fLst vNil)) vNil)) 2)
  (sSeq (sFor (iR1 (vCons (eVar 1) vNil)) (gN 3) (sSeq (sAsgF (fLst vNil) 4)
  (sSeq (sFor (iLst (eVar 2)) (gN 5) (sAsgF (fCatV 4 (fLc (iR1 (vCons (liftP (p2 dAdd (pVar 0) (pC (.int 1)))) vNil)) [6] (gN 6) tYesm (eOfF (fOfK (kCat (kVar 5) (kLst (pCons (pVar 6) pNil))))))) 4))
  (sAsg (eVar 4) (gN 2)))))
  (sRet (eVar 2))))
noncomputable def m__law_rows : En → RD := mDef 2 7 b__law_rows
/-- _law_lyndon -/
noncomputable def b__law_lyndon : En → Fl := (sSeq (sFor (iR2 (vCons (liftP (pC (.int 1))) (vCons (liftP (pN dLen (pCons (pVar 0) pNil))) vNil))) (gN 1) (sIf (liftT (qNot (qB (p2 dLtD (pVar 0) (pK (kCat (kCut (kVar 0) (oI (pVar 1)) oNo) (kCut (kVar 0) oNo (oI (pVar 1))))))))) (sRet (liftP (pC (.bl false)))) sNext))
  (sRet (liftP (pC (.bl true)))))
noncomputable def m__law_lyndon : En → RD := mDef 1 2 b__law_lyndon
/-- _law_again -/
noncomputable def b__law_again : En → Fl := (sRetF (fLc (iR1 (vCons (eVar 2) vNil)) [3] (gN 3) tYesm (cIx (cVar 0) (p2 dMod (pN dInt (pCons (p2 dAdd (pVar 1) (pVar 3)) pNil)) (pN dLen (pCons (pVar 0) pNil))))))
noncomputable def m__law_again : En → RD := mDef 3 4 b__law_again
/-- _law_odd -/
noncomputable def b__law_odd : En → Fl := (sRet (eIx (eOfF (fLst (vCons (liftP (p2 dAdd (pVar 1) (pC (.int 1)))) (vCons (liftP (p1 dNeg (pC (.int 1)))) (vCons (liftP (pC (.bl true))) (vCons (liftP (pC .non)) vNil)))))) (eCall m__law_draw (aS 0 (aV (liftP (pC (.int 4))) aNil)))))
noncomputable def m__law_odd : En → RD := mDef 2 2 b__law_odd
/-- _law_rows_are -/
noncomputable def b__law_rows_are : En → Fl := (sSeq (sIf (liftT (qOr (qNot (qB (p1 (dIsi "list") (pVar 0)))) (qB (p2 dNe (pN dLen (pCons (pVar 0) pNil)) (pN dLen (pCons (pVar 1) pNil)))))) (sRet (liftP (pC (.bl false)))) sNext)
  (sSeq (sFor (iR1 (vCons (liftP (pN dLen (pCons (pVar 1) pNil))) vNil)) (gN 2) (sIf (liftT (qNot (qB (pCall m__law_row_is (pCons (p2 dIx (pVar 0) (pVar 2)) (pCons (p2 dIx (pVar 1) (pVar 2)) pNil)))))) (sRet (liftP (pC (.bl false)))) sNext))
  (sRet (liftP (pC (.bl true))))))
noncomputable def m__law_rows_are : En → RD := mDef 2 3 b__law_rows_are
/-- _law_turns -/
noncomputable def b__law_turns : En → Fl := (sRetF (fLc (iR1 (vCons (liftP (pN dLen (pCons (pVar 0) pNil))) vNil)) [1] (gN 1) tYesm (eOfF (fOfK (kCat (kCut (kVar 0) (oI (pVar 1)) oNo) (kCut (kVar 0) oNo (oI (pVar 1))))))))
noncomputable def m__law_turns : En → RD := mDef 1 2 b__law_turns
/-- _law_said -/
noncomputable def b__law_said : En → Fl := (sSeq (sAsgF (cL lAll (cVar 0)) 1)
  (sSeq (sAsg (liftP (pCall m_is_lyndon (pCons (pVar 1) pNil))) (gN 2))
  (sRet (liftP (pAnd (p1 (dIsi "bool") (pVar 2)) (pAnd (p2 dEq (pVar 2) (pCall m__law_lyndon (pCons (pVar 0) pNil))) (p2 dEq (pVar 1) (pVar 0))))))))
noncomputable def m__law_said : En → RD := mDef 1 3 b__law_said
/-- _law_turned -/
noncomputable def b__law_turned : En → Fl := (sSeq (sAsgFre (cL lAll (cVar 0)) 1)
  (sSeq (sAsgF (fCall m__law_turns (aV (eVar 0) aNil)) 2)
  (sSeq (sAsgRV m_turns_of 1 3)
  (sSeq (sIf (liftT (qOr (qNot (qB (pCall m__law_rows_are (pCons (pVar 3) (pCons (pVar 2) pNil))))) (qB (p2 dNe (pVar 1) (pVar 0))))) (sRet (liftP (pC (.bl false)))) sNext)
  (sSeq (sSpoil3 3 4)
  (sRet (liftP (pCall m__law_rows_are (pCons (pCall m_turns_of (pCons (pTupL (uVar 0)) pNil)) (pCons (pVar 2) pNil))))))))))
noncomputable def m__law_turned : En → RD := mDef 1 5 b__law_turned
/-- _law_small -/
noncomputable def b__law_small : En → Fl := (sSeq (sAsg (e2 dAdd (liftP (pC (.int 1))) (eCall m__law_draw (aS 0 (aV (liftP (pC (.int 2))) aNil)))) (gN 1))
  (sSeq (sAsg (e2 dAdd (liftP (pC (.int 1))) (eCall m__law_draw (aS 0 (aV (liftP (pIf (qB (p2 dEq (pVar 1) (pC (.int 1)))) (pC (.int 7)) (pC (.int 4)))) aNil)))) (gN 2))
  (sSeq (sAsg (eCall m__law_rows (aV (eVar 1) (aV (eVar 2) aNil))) (gN 3))
  (sSeq (sFor (iLst (eVar 3)) (gN 4) (sIf (liftT (qNot (qB (pCall m__law_said (pCons (pVar 4) pNil))))) (sRet (liftP (pC (.bl false)))) sNext))
  (sRet (eCall m__law_turned (aV (eIx (eVar 3) (eCall m__law_draw (aS 0 (aV (liftP (pN dLen (pCons (pVar 3) pNil))) aNil)))) aNil)))))))
noncomputable def m__law_small : En → RD := mDef 1 5 b__law_small
/-- _law_long_word -/
noncomputable def b__law_long_word : En → Fl := (sSeq (sAsg (eIf (tBm (e2 dEq (eCall m__law_draw (aS 0 (aV (liftP (pC (.int 12))) aNil))) (liftP (pC (.int 0))))) (liftP (pC (.int 400))) (e2 dAdd (liftP (pC (.int 1))) (eCall m__law_draw (aS 0 (aV (liftP (pC (.int 30))) aNil))))) (gN 1))
  (sSeq (sAsg (eIx (eOfF (fLst (vCons (liftP (pC (.int 1))) (vCons (liftP (pC (.int 2))) (vCons (liftP (pC (.int 9))) vNil))))) (eCall m__law_draw (aS 0 (aV (liftP (pC (.int 3))) aNil)))) (gN 2))
  (sSeq (sAsgF (fLc (iR1 (vCons (eVar 1) vNil)) [5] (gN 5) tYesm (eCall m__law_draw (aS 0 (aV (liftP (p2 dAdd (pVar 2) (pC (.int 1)))) aNil)))) 3)
  (sSeq (sAsg (eCall m__law_draw (aS 0 (aV (liftP (pC (.int 4))) aNil))) (gN 4))
  (sSeq (sIf (liftT (qB (p2 dLt (pVar 4) (pC (.int 2))))) (sRet (cSd sMinD (cOfF (fCall m__law_turns (aV (eVar 3) aNil))))) sNext)
  (sRet (eIf (liftT (qB (p2 dEq (pVar 4) (pC (.int 2))))) (eCall m__law_again (aV (eOfF (fCut (cVar 3) oNo (oI (p2 dAdd (pC (.int 1)) (p2 dFdiv (pVar 1) (pC (.int 3))))))) (aV (liftP (pC (.int 0))) (aV (eVar 1) aNil)))) (eVar 3))))))))
noncomputable def m__law_long_word : En → RD := mDef 1 6 b__law_long_word
/-- _law_wrong -/
noncomputable def b__law_wrong : En → Fl := (sSeq (sAsg (eCall m__law_draw (aS 0 (aV (liftP (pN dLen (pCons (pVar 1) pNil))) aNil))) (gN 2))
  (sSeq (sAsgF (cL lAll (cVar 1)) 3)
  (sSeq (sSetIx 3 (pVar 2) (eCall m__law_odd (aS 0 (aV (liftP (pC (.int 9))) aNil))))
  (sSeq (sIf (liftT (qNot (qB (pLam m__law_refused (pCall m_is_lyndon (pCons (pK (kU (uVar 3))) pNil)) (pCons (pC (.str "BadCalendar")) (pCons (p2 dAdd (pVar 2) (pC (.int 1))) pNil)))))) (sRet (liftP (pC (.bl false)))) sNext)
  (sSeq (sIf (liftT (qNot (qB (pLam m__law_refused (pCall m_turns_of (pCons (pK (kU (uVar 3))) pNil)) (pCons (pC (.str "BadCalendar")) (pCons (p2 dAdd (pVar 2) (pC (.int 1))) pNil)))))) (sRet (liftP (pC (.bl false)))) sNext)
  (sSeq (sAsgF (fOfK (kCat (kVar 3) (kRep (kLst (pCons (pC (.int 1)) pNil)) (p2 dSub (pC (.int 401)) (pN dLen (pCons (pVar 3) pNil)))))) 4)
  (sSeq (sIf (liftT (qNot (qB (pLam m__law_refused (pCall m_is_lyndon (pCons (pK (kU (uVar 4))) pNil)) (pCons (pC (.str "TooMany")) (pCons (pC (.str "calendar")) pNil)))))) (sRet (liftP (pC (.bl false)))) sNext)
  (sSeq (sIf (liftT (qNot (qB (pLam m__law_refused (pCall m_turns_of (pCons (pK (kRep (kLst (pCons (pC (.int 0)) pNil)) (pC (.int 401)))) pNil)) (pCons (pC (.str "TooMany")) (pCons (pC (.str "calendar")) pNil)))))) (sRet (liftP (pC (.bl false)))) sNext)
  (sSeq (sIf (liftT (qNot (qB (pLam m__law_refused (pCall m_is_lyndon (pCons (pLst pNil) pNil)) (pCons (pC (.str "BadCalendar")) (pCons (pC (.int 0)) pNil)))))) (sRet (liftP (pC (.bl false)))) sNext)
  (sRet (liftP (pLam m__law_refused (pCall m_turns_of (pCons (pLst pNil) pNil)) (pCons (pC (.str "BadCalendar")) (pCons (pC (.int 0)) pNil))))))))))))))
noncomputable def m__law_wrong : En → RD := mDef 2 5 b__law_wrong
/-- law -/
noncomputable def b_law : En → Fl := (sSeq (sFor (iR1 (vCons (liftP (pC (.int 2))) vNil)) (gN 1) (sIf (tNotm (tBm (eOfW (wCallT m__law_small (fCall m__law_purse (aV (eVar 0) (aV (eVar 1) aNil))) aNil)))) (sRet (liftP (pC (.bl false)))) sNext))
  (sSeq (sAsgF (fCall m__law_purse (aV (eVar 0) (aV (liftP (pC (.int 2))) aNil))) 2)
  (sSeq (sAsg (eCall m__law_long_word (aS 2 aNil)) (gN 3))
  (sSeq (sIf (liftT (qOr (qNot (qB (pCall m__law_said (pCons (pVar 3) pNil)))) (qOr (qNot (qB (pCall m__law_said (pCons (pLst (pCons (p2 dIx (pVar 3) (pC (.int 0))) pNil)) pNil)))) (qNot (qB (pCall m__law_said (pCons (pLst (pCons (p2 dIx (pVar 3) (pC (.int 0))) (pCons (p2 dIx (pVar 3) (pC (.int 0))) pNil))) pNil))))))) (sRet (liftP (pC (.bl false)))) sNext)
  (sRet (eAnd (liftP (pCall m__law_turned (pCons (pK (kCut (kVar 3) oNo (oI (pC (.int 40))))) pNil))) (eAnd (eCall m__law_wrong (aS 2 (aV (eVar 3) aNil))) (liftP (pCall m__law_said (pCons (pVar 3) pNil))))))))))
noncomputable def m_law : En → RD := mDef 1 4 b_law
end Lw
end

section
set_option Elab.async false
set_option linter.all false
set_option maxRecDepth 100000
set_option maxHeartbeats 4000000
set_option autoImplicit false
/-! the walks -/
namespace Lw
open PySem L2 Cv PyProof.Rows
def top (i : Nat) : Stmt := PySem.Challenge.pw_seldomenough_k28_lyndon_words_and_turns.main.body.getD i (.Pass ⟨0, 0, 0, 0⟩)
variable [TbT]
structure Txt (P : Program) (w : World) (K : PySem.W.Frag) (mg : Str → Option Value) (base : Heap) (C : Nat → Addr) : Prop where
  n_abs : mg "abs" = none
  n_bool : mg "bool" = none
  n_int : mg "int" = none
  n_isinstance : mg "isinstance" = none
  n_len : mg "len" = none
  n_list : mg "list" = none
  n_min : mg "min" = none
  n_range : mg "range" = none
  n_sum : mg "sum" = none
  n_tuple : mg "tuple" = none
  k_CALENDAR : ∃ t, mg "CALENDAR" = some (.int 400 t)
  k_DIGITS : ∃ t, mg "DIGITS" = some (.int 9 t)
  x_BadCalendar : ExM P w K mg base 2 "BadCalendar" "place" (C 0)
  x_BadHouse : ExM P w K mg base 2 "BadHouse" "what" (C 1)
  x_BadShare : ExM P w K mg base 2 "BadShare" "what" (C 2)
  x_BadTable : ExM P w K mg base 2 "BadTable" "what" (C 3)
  x_BadWeek : ExM P w K mg base 2 "BadWeek" "day" (C 4)
  x_TooMany : ExM P w K mg base 2 "TooMany" "what" (C 5)
  ex_BadCalendar_BadHouse : PySem.W.exmOne K (.ref (C 0)) (.ref (C 1)) = some false
  ex_BadCalendar_BadShare : PySem.W.exmOne K (.ref (C 0)) (.ref (C 2)) = some false
  ex_BadCalendar_BadTable : PySem.W.exmOne K (.ref (C 0)) (.ref (C 3)) = some false
  ex_BadCalendar_BadWeek : PySem.W.exmOne K (.ref (C 0)) (.ref (C 4)) = some false
  ex_BadCalendar_TooMany : PySem.W.exmOne K (.ref (C 0)) (.ref (C 5)) = some false
  ex_TooMany_BadCalendar : PySem.W.exmOne K (.ref (C 5)) (.ref (C 0)) = some false
  ex_TooMany_BadHouse : PySem.W.exmOne K (.ref (C 5)) (.ref (C 1)) = some false
  ex_TooMany_BadShare : PySem.W.exmOne K (.ref (C 5)) (.ref (C 2)) = some false
  ex_TooMany_BadTable : PySem.W.exmOne K (.ref (C 5)) (.ref (C 3)) = some false
  ex_TooMany_BadWeek : PySem.W.exmOne K (.ref (C 5)) (.ref (C 4)) = some false
section
variable {P : Program} {w : World} {K : PySem.W.Frag} {mg : Str → Option Value} {base : Heap} {C : Nat → Addr}
abbrev s_is_whole : Stmt := top 9
theorem sc_is_whole : FnScope ["value"] ["value"] (defScope s_is_whole) := ⟨rfl, rfl, rfl, by decide +kernel, rfl, by decide +kernel, by decide +kernel⟩
theorem ok_is_whole (T : Txt P w K mg base C) (F : FnT K mg "is_whole" s_is_whole ["value"])  : CalM P w K mg base 1 "is_whole" m_is_whole := by
  exact CalM.of F sc_is_whole rfl rfl fun f cdv A outer s H E c => ⟨_, (css_one (cs_ret (ce_p (cp_and (cp_isi c "int" T.n_isinstance T.n_int bb_int (cp_var 0)) (cp_one (cp_not (cp_isi c "bool" T.n_isinstance T.n_bool bb_bool (cp_var 0))))))))⟩
abbrev s_whole_from : Stmt := top 10
theorem sc_whole_from : FnScope ["value", "least"] ["value", "least"] (defScope s_whole_from) := ⟨rfl, rfl, rfl, by decide +kernel, rfl, by decide +kernel, by decide +kernel⟩
theorem ok_whole_from (T : Txt P w K mg base C) (F : FnT K mg "whole_from" s_whole_from ["value", "least"]) (f_is_whole : CalM P w K mg base 1 "is_whole" m_is_whole) : CalM P w K mg base 2 "whole_from" m_whole_from := by
  exact CalM.of F sc_whole_from rfl rfl fun f cdv A outer s H E c => ⟨_, (css_one (cs_ret (ce_p (cp_and (cp_call c f_is_whole (cap_cons (cp_var 0) cap_nil)) (cp_one (cp_ge (cp_var 0) (cp_var 1)))))))⟩
abbrev s_check_calendar : Stmt := top 11
theorem sc_check_calendar : FnScope ["digits", "most", "place"] ["digits", "most"] (defScope s_check_calendar) := ⟨rfl, rfl, rfl, by decide +kernel, rfl, by decide +kernel, by decide +kernel⟩
theorem ok_check_calendar (T : Txt P w K mg base C) (F : FnT K mg "check_calendar" s_check_calendar ["digits", "most"]) (f_whole_from : CalM P w K mg base 2 "whole_from" m_whole_from) : CalM P w K mg base 4 "check_calendar" m_check_calendar := by
  exact CalM.of F sc_check_calendar rfl rfl fun f cdv A outer s H E c => ⟨_, (css_one (cs_for c (ci_r1 c T.n_range (cv_cons (ce_p (cp_len c T.n_len (cap_cons (cp_var 0) cap_nil))) cv_nil)) (cg_name 2 c) (css_one (cs_if (ct_p (ctp_w (ctpw_or (ctp_not (ctp_val (cp_call c f_whole_from (cap_cons (cp_ix c (cp_var 0) (cp_var 2)) (cap_cons cp_int cap_nil))))) (ctpw_or1 (ctp_gt (cp_ix c (cp_var 0) (cp_var 2)) (cp_var 1)))))) (css_one (cs_raise c T.x_BadCalendar (ce_p (cp_add (cp_var 2) cp_int)))) css_nil))))⟩
abbrev s_check_most : Stmt := top 15
theorem sc_check_most : FnScope ["what", "many", "most"] ["what", "many", "most"] (defScope s_check_most) := ⟨rfl, rfl, rfl, by decide +kernel, rfl, by decide +kernel, by decide +kernel⟩
theorem ok_check_most (T : Txt P w K mg base C) (F : FnT K mg "check_most" s_check_most ["what", "many", "most"])  : CalM P w K mg base 4 "check_most" m_check_most := by
  exact CalM.of F sc_check_most rfl rfl fun f cdv A outer s H E c => ⟨_, (css_one (cs_if (ct_p (ctp_w (ctpw_and (ctp_val (cp_isi c "int" T.n_isinstance T.n_int bb_int (cp_var 1))) (ctpw_and (ctp_not (ctp_val (cp_isi c "bool" T.n_isinstance T.n_bool bb_bool (cp_var 1)))) (ctpw_and1 (ctp_gt (cp_var 1) (cp_var 2))))))) (css_one (cs_raise c T.x_TooMany (ce_var 0))) css_nil))⟩
abbrev s_check_word : Stmt := top 17
theorem sc_check_word : FnScope ["word"] ["word"] (defScope s_check_word) := ⟨rfl, rfl, rfl, by decide +kernel, rfl, by decide +kernel, by decide +kernel⟩
theorem ok_check_word (T : Txt P w K mg base C) (F : FnT K mg "check_word" s_check_word ["word"]) (f_check_calendar : CalM P w K mg base 4 "check_calendar" m_check_calendar) (f_check_most : CalM P w K mg base 4 "check_most" m_check_most) : CalM P w K mg base 5 "check_word" m_check_word := by
  exact CalM.of F sc_check_word rfl rfl fun f cdv A outer s H E c => ⟨_, (css_cons (cs_expr (ce_call c f_check_most (ca_v (ce_p cp_str) (ca_v (ce_p (cp_len c T.n_len (cap_cons (cp_var 0) cap_nil))) (ca_v (ce_p (cp_gint c T.k_CALENDAR)) ca_nil)))))
      (css_cons (cs_if (ct_p (ctp_eq c (cp_len c T.n_len (cap_cons (cp_var 0) cap_nil)) cp_int)) (css_one (cs_raise c T.x_BadCalendar (ce_p cp_int))) css_nil)
      (css_one (cs_expr (ce_call c f_check_calendar (ca_v (ce_var 0) (ca_v (ce_p (cp_gint c T.k_DIGITS)) ca_nil)))))))⟩
abbrev s_turn_at : Stmt := top 18
theorem sc_turn_at : FnScope ["word", "place"] ["word", "place"] (defScope s_turn_at) := ⟨rfl, rfl, rfl, by decide +kernel, rfl, by decide +kernel, by decide +kernel⟩
theorem ok_turn_at (T : Txt P w K mg base C) (F : FnT K mg "turn_at" s_turn_at ["word", "place"])  : CalM P w K mg base 1 "turn_at" m_turn_at := by
  exact CalM.of F sc_turn_at rfl rfl fun f cdv A outer s H E c => ⟨_, (css_one (cs_retF (cf_cat (ck_list c (cu_cut c (cu_var 0) (co_i (cp_var 1)) co_no) T.n_list) (ck_list c (cu_cut c (cu_var 0) co_no (co_i (cp_var 1))) T.n_list))))⟩
abbrev s_turns_of : Stmt := top 19
theorem sc_turns_of : FnScope ["word", "place"] ["word"] (defScope s_turns_of) := ⟨rfl, rfl, rfl, by decide +kernel, rfl, by decide +kernel, by decide +kernel⟩
theorem ok_turns_of (T : Txt P w K mg base C) (F : FnT K mg "turns_of" s_turns_of ["word"]) (f_check_word : CalM P w K mg base 5 "check_word" m_check_word) (f_turn_at : CalM P w K mg base 1 "turn_at" m_turn_at) : CalM P w K mg base 6 "turns_of" m_turns_of := by
  exact CalM.of F sc_turns_of rfl rfl fun f cdv A outer s H E c => ⟨_, (css_cons (cs_expr (ce_call c f_check_word (ca_v (ce_var 0) ca_nil)))
      (css_one (cs_retF (cf_lc c [("place", 1)] (ci_r1 c T.n_range (cv_cons (ce_p (cp_len c T.n_len (cap_cons (cp_var 0) cap_nil))) cv_nil)) (fun _ _ _ _ _ c1 => (cgv_name 1 c1)) (fun _ _ _ _ _ c1 => cts_nil) (fun _ _ _ _ _ c1 => (ce_call c1 f_turn_at (ca_v (ce_var 0) (ca_v (ce_var 1) ca_nil))))))))⟩
abbrev s_first_unlike : Stmt := top 20
theorem sc_first_unlike : FnScope ["one", "other", "place"] ["one", "other"] (defScope s_first_unlike) := ⟨rfl, rfl, rfl, by decide +kernel, rfl, by decide +kernel, by decide +kernel⟩
theorem ok_first_unlike (T : Txt P w K mg base C) (F : FnT K mg "first_unlike" s_first_unlike ["one", "other"])  : CalM P w K mg base 1 "first_unlike" m_first_unlike := by
  exact CalM.of F sc_first_unlike rfl rfl fun f cdv A outer s H E c => ⟨_, (css_cons (cs_for c (ci_r1 c T.n_range (cv_cons (ce_p (cp_min2 c T.n_min (cap_cons (cp_len c T.n_len (cap_cons (cp_var 0) cap_nil)) (cap_cons (cp_len c T.n_len (cap_cons (cp_var 1) cap_nil)) cap_nil)))) cv_nil)) (cg_name 2 c) (css_one (cs_if (ct_p (ctp_ne c (cp_ix c (cp_var 0) (cp_var 2)) (cp_ix c (cp_var 1) (cp_var 2)))) (css_one (cs_ret (ce_var 2))) css_nil)))
      (css_one (cs_ret (ce_p cp_non))))⟩
abbrev s_row_below : Stmt := top 21
theorem sc_row_below : FnScope ["one", "other", "place"] ["one", "other"] (defScope s_row_below) := ⟨rfl, rfl, rfl, by decide +kernel, rfl, by decide +kernel, by decide +kernel⟩
theorem ok_row_below (T : Txt P w K mg base C) (F : FnT K mg "row_below" s_row_below ["one", "other"]) (f_first_unlike : CalM P w K mg base 1 "first_unlike" m_first_unlike) : CalM P w K mg base 2 "row_below" m_row_below := by
  exact CalM.of F sc_row_below rfl rfl fun f cdv A outer s H E c => ⟨_, (css_cons (cs_asg (ce_p (cp_call c f_first_unlike (cap_cons (cp_var 0) (cap_cons (cp_var 1) cap_nil)))) (cg_name 2 c))
      (css_one (cs_ret (ce_p (cp_and (cp_notN (cp_var 2) cp_non) (cp_one (cp_lt (cp_ix c (cp_var 0) (cp_var 2)) (cp_ix c (cp_var 1) (cp_var 2)))))))))⟩
abbrev s_is_lyndon : Stmt := top 22
theorem sc_is_lyndon : FnScope ["word", "place"] ["word"] (defScope s_is_lyndon) := ⟨rfl, rfl, rfl, by decide +kernel, rfl, by decide +kernel, by decide +kernel⟩
theorem ok_is_lyndon (T : Txt P w K mg base C) (F : FnT K mg "is_lyndon" s_is_lyndon ["word"]) (f_check_word : CalM P w K mg base 5 "check_word" m_check_word) (f_row_below : CalM P w K mg base 2 "row_below" m_row_below) (f_turn_at : CalM P w K mg base 1 "turn_at" m_turn_at) : CalM P w K mg base 6 "is_lyndon" m_is_lyndon := by
  exact CalM.of F sc_is_lyndon rfl rfl fun f cdv A outer s H E c => ⟨_, (css_cons (cs_expr (ce_call c f_check_word (ca_v (ce_var 0) ca_nil)))
      (css_cons (cs_for c (ci_r2 c T.n_range (cv_cons (ce_p cp_int) (cv_cons (ce_p (cp_len c T.n_len (cap_cons (cp_var 0) cap_nil))) cv_nil))) (cg_name 1 c) (css_one (cs_if (ct_p (ctp_not (ctp_val (cp_call c f_row_below (cap_cons (cp_var 0) (cap_cons (cp_call c f_turn_at (cap_cons (cp_var 0) (cap_cons (cp_var 1) cap_nil))) cap_nil)))))) (css_one (cs_ret (ce_p cp_bl))) css_nil)))
      (css_one (cs_ret (ce_p cp_bl)))))⟩
abbrev s__law_purse : Stmt := top 24
theorem sc__law_purse : FnScope ["script", "at", "cell", "size", "one"] ["script", "at"] (defScope s__law_purse) := ⟨rfl, rfl, rfl, by decide +kernel, rfl, by decide +kernel, by decide +kernel⟩
theorem ok__law_purse (T : Txt P w K mg base C) (F : FnT K mg "_law_purse" s__law_purse ["script", "at"])  : CalM P w K mg base 1 "_law_purse" m__law_purse := by
  exact CalM.of F sc__law_purse rfl rfl fun f cdv A outer s H E c => ⟨_, (css_cons (cs_asg (ce_if (ct_p (ctp_lt (cp_var 1) (cp_len c T.n_len (cap_cons (cp_var 0) cap_nil)))) (ce_p (cp_toint c T.n_int (cap_cons (cp_ix c (cp_var 0) (cp_var 1)) cap_nil))) (ce_mul (ce_p cp_int) (ce_sum c (cc_f (cf_lc c [("one", 4)] (ci_lstF c (cf_cut c (cc_var 0) co_no (co_i cp_int))) (fun _ _ _ _ _ c1 => (cgv_name 4 c1)) (fun _ _ _ _ _ c1 => cts_nil) (fun _ _ _ _ _ c1 => (ce_p (cp_toint c1 T.n_int (cap_cons (cp_var 4) cap_nil)))))) T.n_sum))) (cg_name 2 c))
      (css_cons (cs_asg (ce_p (cp_add (cp_mul cp_int (cp_abs c T.n_abs (cap_cons (cp_var 2) cap_nil))) (cp_if (ctp_lt (cp_var 2) cp_int) cp_int cp_int))) (cg_name 3 c))
      (css_one (cs_retF (cf_lst (cv_cons (ce_p (cp_if (ctp_ge (cp_var 3) (cp_pow cp_int cp_int)) (cp_var 3) cp_int)) (cv_cons (ce_p (cp_mod (cp_toint c T.n_int (cap_cons (cp_add (cp_add (cp_var 3) (cp_mul (cp_var 1) cp_int)) cp_int) cap_nil)) cp_int)) (cv_cons (ce_var 1) cv_nil))))))))⟩
abbrev s__law_draw : Stmt := top 25
theorem sc__law_draw : FnScope ["purse", "many", "found"] ["purse", "many"] (defScope s__law_draw) := ⟨rfl, rfl, rfl, by decide +kernel, rfl, by decide +kernel, by decide +kernel⟩
theorem ok__law_draw (T : Txt P w K mg base C) (F : FnT K mg "_law_draw" s__law_draw ["purse", "many"])  : CalM P w K mg base 1 "_law_draw" m__law_draw := by
  exact CalM.of F sc__law_draw rfl rfl fun f cdv A outer s H E c => ⟨_, (css_cons (cs_if (ct_p (ctp_gt (cp_ix c (cp_var 0) cp_int) cp_int)) (css_cons (cs_asg (ce_p (cp_mod (cp_toint c T.n_int (cap_cons (cp_ix c (cp_var 0) cp_int) cap_nil)) (cp_var 1))) (cg_name 2 c))
      (css_cons (cs_setIx 0 (ce_p (cp_fdiv (cp_ix c (cp_var 0) cp_int) (cp_var 1))) cp_int)
      (css_one (cs_ret (ce_var 2))))) css_nil)
      (css_cons (cs_augIx 0 c ip_add cp_int cp_int)
      (css_cons (cs_setIx 0 (ce_p (cp_mod (cp_toint c T.n_int (cap_cons (cp_add (cp_mul (cp_ix c (cp_var 0) cp_int) cp_int) (cp_mul (cp_ix c (cp_var 0) cp_int) cp_int)) cap_nil)) cp_int)) cp_int)
      (css_one (cs_ret (ce_p (cp_mod (cp_fdiv (cp_mod (cp_toint c T.n_int (cap_cons (cp_add (cp_mul (cp_ix c (cp_var 0) cp_int) cp_int) (cp_mul (cp_ix c (cp_var 0) cp_int) cp_int)) cap_nil)) cp_int) cp_int) (cp_var 1))))))))⟩
abbrev s__law_whole : Stmt := top 26
theorem sc__law_whole : FnScope ["value"] ["value"] (defScope s__law_whole) := ⟨rfl, rfl, rfl, by decide +kernel, rfl, by decide +kernel, by decide +kernel⟩
theorem ok__law_whole (T : Txt P w K mg base C) (F : FnT K mg "_law_whole" s__law_whole ["value"])  : CalM P w K mg base 1 "_law_whole" m__law_whole := by
  exact CalM.of F sc__law_whole rfl rfl fun f cdv A outer s H E c => ⟨_, (css_one (cs_ret (ce_p (cp_and (cp_isi c "int" T.n_isinstance T.n_int bb_int (cp_var 0)) (cp_one (cp_not (cp_isi c "bool" T.n_isinstance T.n_bool bb_bool (cp_var 0))))))))⟩
theorem okq__law_whole (T : Txt P w K mg base C) (F : FnT K mg "_law_whole" s__law_whole ["value"])  : CalQ P w K mg base 1 "_law_whole" m__law_whole := by
  exact CalQ.of F sc__law_whole rfl rfl fun f cdv A outer s H E p c => ⟨_, (css_one (cs_ret (ce_p (cp_and (cpq_isi c "int" T.n_isinstance T.n_int bb_int (cp_var 0)) (cp_one (cp_not (cpq_isi c "bool" T.n_isinstance T.n_bool bb_bool (cp_var 0))))))))⟩
abbrev s__law_number_is : Stmt := top 27
theorem sc__law_number_is : FnScope ["told", "due"] ["told", "due"] (defScope s__law_number_is) := ⟨rfl, rfl, rfl, by decide +kernel, rfl, by decide +kernel, by decide +kernel⟩
theorem ok__law_number_is (T : Txt P w K mg base C) (F : FnT K mg "_law_number_is" s__law_number_is ["told", "due"]) (f__law_whole : CalM P w K mg base 1 "_law_whole" m__law_whole) : CalM P w K mg base 2 "_law_number_is" m__law_number_is := by
  exact CalM.of F sc__law_number_is rfl rfl fun f cdv A outer s H E c => ⟨_, (css_one (cs_ret (ce_p (cp_and (cp_call c f__law_whole (cap_cons (cp_var 0) cap_nil)) (cp_one (cp_eq c (cp_var 0) (cp_var 1)))))))⟩
theorem okq__law_number_is (T : Txt P w K mg base C) (F : FnT K mg "_law_number_is" s__law_number_is ["told", "due"]) (h__law_whole : CalQ P w K mg base 1 "_law_whole" m__law_whole) : CalQ P w K mg base 2 "_law_number_is" m__law_number_is := by
  exact CalQ.of F sc__law_number_is rfl rfl fun f cdv A outer s H E p c => ⟨_, (css_one (cs_ret (ce_p (cp_and (cpq_call c h__law_whole (cap_cons (cp_var 0) cap_nil)) (cp_one (cpq_eq c (cp_var 0) (cp_var 1)))))))⟩
abbrev s__law_row_is : Stmt := top 28
theorem sc__law_row_is : FnScope ["told", "due", "place"] ["told", "due"] (defScope s__law_row_is) := ⟨rfl, rfl, rfl, by decide +kernel, rfl, by decide +kernel, by decide +kernel⟩
theorem ok__law_row_is (T : Txt P w K mg base C) (F : FnT K mg "_law_row_is" s__law_row_is ["told", "due"]) (f__law_whole : CalM P w K mg base 1 "_law_whole" m__law_whole) : CalM P w K mg base 2 "_law_row_is" m__law_row_is := by
  exact CalM.of F sc__law_row_is rfl rfl fun f cdv A outer s H E c => ⟨_, (css_cons (cs_if (ct_p (ctp_w (ctpw_or (ctp_not (ctp_val (cp_isi c "list" T.n_isinstance T.n_list bb_list (cp_var 0)))) (ctpw_or1 (ctp_ne c (cp_len c T.n_len (cap_cons (cp_var 0) cap_nil)) (cp_len c T.n_len (cap_cons (cp_var 1) cap_nil))))))) (css_one (cs_ret (ce_p cp_bl))) css_nil)
      (css_cons (cs_for c (ci_r1 c T.n_range (cv_cons (ce_p (cp_len c T.n_len (cap_cons (cp_var 1) cap_nil))) cv_nil)) (cg_name 2 c) (css_one (cs_if (ct_p (ctp_w (ctpw_or (ctp_not (ctp_val (cp_call c f__law_whole (cap_cons (cp_ix c (cp_var 0) (cp_var 2)) cap_nil)))) (ctpw_or1 (ctp_ne c (cp_ix c (cp_var 0) (cp_var 2)) (cp_ix c (cp_var 1) (cp_var 2))))))) (css_one (cs_ret (ce_p cp_bl))) css_nil)))
      (css_one (cs_ret (ce_p cp_bl)))))⟩
abbrev s__law_refused : Stmt := top 29
theorem sc__law_refused : FnScope ["run", "name", "value", "e"] ["run", "name", "value"] (defScope s__law_refused) := ⟨rfl, rfl, rfl, by decide +kernel, rfl, by decide +kernel, by decide +kernel⟩
theorem hdis__law_refused (T : Txt P w K mg base C) : ∀ x n C C', dis__law_refused x n = true → mg x = some (.ref C) → mg n = some (.ref C') → PySem.W.exmOne K (.ref C) (.ref C') = some false := by
  intro x n A B h h1 h2
  unfold dis__law_refused at h
  simp only [Bool.or_eq_true, Bool.and_eq_true, beq_iff_eq] at h
  rcases h with (((((((((⟨rfl, rfl⟩) | ⟨rfl, rfl⟩) | ⟨rfl, rfl⟩) | ⟨rfl, rfl⟩) | ⟨rfl, rfl⟩) | ⟨rfl, rfl⟩) | ⟨rfl, rfl⟩) | ⟨rfl, rfl⟩) | ⟨rfl, rfl⟩) | ⟨rfl, rfl⟩
  · rw [T.x_BadCalendar.hm] at h1; rw [T.x_TooMany.hm] at h2; cases h1; cases h2; exact T.ex_BadCalendar_TooMany
  · rw [T.x_BadCalendar.hm] at h1; rw [T.x_BadHouse.hm] at h2; cases h1; cases h2; exact T.ex_BadCalendar_BadHouse
  · rw [T.x_TooMany.hm] at h1; rw [T.x_BadHouse.hm] at h2; cases h1; cases h2; exact T.ex_TooMany_BadHouse
  · rw [T.x_BadCalendar.hm] at h1; rw [T.x_BadTable.hm] at h2; cases h1; cases h2; exact T.ex_BadCalendar_BadTable
  · rw [T.x_TooMany.hm] at h1; rw [T.x_BadTable.hm] at h2; cases h1; cases h2; exact T.ex_TooMany_BadTable
  · rw [T.x_BadCalendar.hm] at h1; rw [T.x_BadShare.hm] at h2; cases h1; cases h2; exact T.ex_BadCalendar_BadShare
  · rw [T.x_TooMany.hm] at h1; rw [T.x_BadShare.hm] at h2; cases h1; cases h2; exact T.ex_TooMany_BadShare
  · rw [T.x_TooMany.hm] at h1; rw [T.x_BadCalendar.hm] at h2; cases h1; cases h2; exact T.ex_TooMany_BadCalendar
  · rw [T.x_BadCalendar.hm] at h1; rw [T.x_BadWeek.hm] at h2; cases h1; cases h2; exact T.ex_BadCalendar_BadWeek
  · rw [T.x_TooMany.hm] at h1; rw [T.x_BadWeek.hm] at h2; cases h1; cases h2; exact T.ex_TooMany_BadWeek
theorem ok__law_refused (T : Txt P w K mg base C) (F : FnT K mg "_law_refused" s__law_refused ["run", "name", "value"]) (h__law_number_is : CalQ P w K mg base 2 "_law_number_is" m__law_number_is) : LamM P w K mg base 7 "_law_refused" m__law_refused := by
  exact LamM.of F sc__law_refused rfl (by first | exact Or.inl rfl | exact Or.inr (Or.inl rfl)) rfl rfl fun g f R r cdv A outer s H E c tw act => ⟨_, (css_cons (cs_try c ⟨rfl, rfl⟩ (fun _ _ z c1 => by obtain ⟨_, _, rfl⟩ := z; exact (css_one (cs_expr (ce_p (act _ _ _ _ _ c1.tk))))) (chs_cons c 3 T.x_TooMany (csu_ret (fun _ _ _ _ _ hz hf => (cx_and (cx_cmp op_eq o_eqS (cx_p (cp_var 1)) (cx_p cp_str)) (cx_one (cx_cmp op_eq o_eqS (cx_fld c T.x_TooMany hz hf) (cx_p (cp_var 2))))))) (chs_cons c 3 T.x_BadHouse (csu_ret (fun _ _ _ _ _ hz hf => (cx_and (cx_cmp op_eq o_eqS (cx_p (cp_var 1)) (cx_p cp_str)) (cx_one (cx_cmp op_eq o_eqS (cx_fld c T.x_BadHouse hz hf) (cx_p (cp_var 2))))))) (chs_cons c 3 T.x_BadTable (csu_ret (fun _ _ _ _ _ hz hf => (cx_and (cx_cmp op_eq o_eqS (cx_p (cp_var 1)) (cx_p cp_str)) (cx_one (cx_cmp op_eq o_eqS (cx_fld c T.x_BadTable hz hf) (cx_p (cp_var 2))))))) (chs_cons c 3 T.x_BadShare (csu_ret (fun _ _ _ _ _ hz hf => (cx_and (cx_cmp op_eq o_eqS (cx_p (cp_var 1)) (cx_p cp_str)) (cx_one (cx_cmp op_eq o_eqS (cx_fld c T.x_BadShare hz hf) (cx_p (cp_var 2))))))) (chs_cons c 3 T.x_BadCalendar (csu_ret (fun _ _ _ _ _ hz hf => (cx_and (cx_cmp op_eq o_eqS (cx_p (cp_var 1)) (cx_p cp_str)) (cx_one (cx_call c h__law_number_is (cxa_cons (cx_fld c T.x_BadCalendar hz hf) (cxa_cons (cx_p (cp_var 2)) cxa_nil))))))) (chs_cons c 3 T.x_BadWeek (csu_ret (fun _ _ _ _ _ hz hf => (cx_and (cx_cmp op_eq o_eqS (cx_p (cp_var 1)) (cx_p cp_str)) (cx_one (cx_call c h__law_number_is (cxa_cons (cx_fld c T.x_BadWeek hz hf) (cxa_cons (cx_p (cp_var 2)) cxa_nil))))))) chs_nil)))))) (hdis__law_refused T))
      (css_one (cs_ret (ce_p cp_bl))))⟩
abbrev s__law_rows : Stmt := top 30
theorem sc__law_rows : FnScope ["most", "length", "rows", "turn", "longer", "row", "digit"] ["most", "length"] (defScope s__law_rows) := ⟨rfl, rfl, rfl, by decide +kernel, rfl, by decide +kernel, by decide +kernel⟩
theorem ok__law_rows (T : Txt P w K mg base C) (F : FnT K mg "_law_rows" s__law_rows ["most", "length"])  : CalM P w K mg base 1 "_law_rows" m__law_rows := by
  exact CalM.of F sc__law_rows rfl rfl fun f cdv A outer s H E c => ⟨_, (css_cons (cs_asgF 2 c (cf_lst (cv_cons (ce_f (cf_lst cv_nil)) cv_nil)))
      (css_cons (cs_for c (ci_r1 c T.n_range (cv_cons (ce_var 1) cv_nil)) (cg_name 3 c) (css_cons (cs_asgF 4 c (cf_lst cv_nil))
      (css_cons (cs_for c (ci_lst c (ce_var 2)) (cg_name 5 c) (css_one (cs_asgF 4 c (cf_catV 4 (cf_lc c [("digit", 6)] (ci_r1 c T.n_range (cv_cons (ce_p (cp_add (cp_var 0) cp_int)) cv_nil)) (fun _ _ _ _ _ c1 => (cgv_name 6 c1)) (fun _ _ _ _ _ c1 => cts_nil) (fun _ _ _ _ _ c1 => (ce_f (cf_cat (ck_var 5) (ck_lst (cap_cons (cp_var 6) cap_nil))))))))))
      (css_one (cs_asg (ce_var 4) (cg_name 2 c))))))
      (css_one (cs_ret (ce_var 2)))))⟩
abbrev s__law_lyndon : Stmt := top 31
theorem sc__law_lyndon : FnScope ["word", "place"] ["word"] (defScope s__law_lyndon) := ⟨rfl, rfl, rfl, by decide +kernel, rfl, by decide +kernel, by decide +kernel⟩
theorem ok__law_lyndon (T : Txt P w K mg base C) (F : FnT K mg "_law_lyndon" s__law_lyndon ["word"])  : CalM P w K mg base 1 "_law_lyndon" m__law_lyndon := by
  exact CalM.of F sc__law_lyndon rfl rfl fun f cdv A outer s H E c => ⟨_, (css_cons (cs_for c (ci_r2 c T.n_range (cv_cons (ce_p cp_int) (cv_cons (ce_p (cp_len c T.n_len (cap_cons (cp_var 0) cap_nil))) cv_nil))) (cg_name 1 c) (css_one (cs_if (ct_p (ctp_not (ctp_ltD c (cp_var 0) (cp_k (ck_cat (ck_cut c (ck_var 0) (co_i (cp_var 1)) co_no) (ck_cut c (ck_var 0) co_no (co_i (cp_var 1)))))))) (css_one (cs_ret (ce_p cp_bl))) css_nil)))
      (css_one (cs_ret (ce_p cp_bl))))⟩
abbrev s__law_again : Stmt := top 32
theorem sc__law_again : FnScope ["word", "first", "many", "place"] ["word", "first", "many"] (defScope s__law_again) := ⟨rfl, rfl, rfl, by decide +kernel, rfl, by decide +kernel, by decide +kernel⟩
theorem ok__law_again (T : Txt P w K mg base C) (F : FnT K mg "_law_again" s__law_again ["word", "first", "many"])  : CalM P w K mg base 1 "_law_again" m__law_again := by
  exact CalM.of F sc__law_again rfl rfl fun f cdv A outer s H E c => ⟨_, (css_one (cs_retF (cf_lc c [("place", 3)] (ci_r1 c T.n_range (cv_cons (ce_var 2) cv_nil)) (fun _ _ _ _ _ c1 => (cgv_name 3 c1)) (fun _ _ _ _ _ c1 => cts_nil) (fun _ _ _ _ _ c1 => (ce_ixC c1 (cc_var 0) (cp_mod (cp_toint c1 T.n_int (cap_cons (cp_add (cp_var 1) (cp_var 3)) cap_nil)) (cp_len c1 T.n_len (cap_cons (cp_var 0) cap_nil))))))))⟩
abbrev s__law_odd : Stmt := top 33
theorem sc__law_odd : FnScope ["purse", "most"] ["purse", "most"] (defScope s__law_odd) := ⟨rfl, rfl, rfl, by decide +kernel, rfl, by decide +kernel, by decide +kernel⟩
theorem ok__law_odd (T : Txt P w K mg base C) (F : FnT K mg "_law_odd" s__law_odd ["purse", "most"]) (f__law_draw : CalM P w K mg base 1 "_law_draw" m__law_draw) : CalM P w K mg base 2 "_law_odd" m__law_odd := by
  exact CalM.of F sc__law_odd rfl rfl fun f cdv A outer s H E c => ⟨_, (css_one (cs_ret (ce_ix c (ce_f (cf_lst (cv_cons (ce_p (cp_add (cp_var 1) cp_int)) (cv_cons (ce_p (cp_neg cp_int)) (cv_cons (ce_p cp_bl) (cv_cons (ce_p cp_non) cv_nil)))))) (ce_call c f__law_draw (ca_s 0 (ca_v (ce_p cp_int) ca_nil))))))⟩
abbrev s__law_rows_are : Stmt := top 34
theorem sc__law_rows_are : FnScope ["told", "due", "place"] ["told", "due"] (defScope s__law_rows_are) := ⟨rfl, rfl, rfl, by decide +kernel, rfl, by decide +kernel, by decide +kernel⟩
theorem ok__law_rows_are (T : Txt P w K mg base C) (F : FnT K mg "_law_rows_are" s__law_rows_are ["told", "due"]) (f__law_row_is : CalM P w K mg base 2 "_law_row_is" m__law_row_is) : CalM P w K mg base 3 "_law_rows_are" m__law_rows_are := by
  exact CalM.of F sc__law_rows_are rfl rfl fun f cdv A outer s H E c => ⟨_, (css_cons (cs_if (ct_p (ctp_w (ctpw_or (ctp_not (ctp_val (cp_isi c "list" T.n_isinstance T.n_list bb_list (cp_var 0)))) (ctpw_or1 (ctp_ne c (cp_len c T.n_len (cap_cons (cp_var 0) cap_nil)) (cp_len c T.n_len (cap_cons (cp_var 1) cap_nil))))))) (css_one (cs_ret (ce_p cp_bl))) css_nil)
      (css_cons (cs_for c (ci_r1 c T.n_range (cv_cons (ce_p (cp_len c T.n_len (cap_cons (cp_var 1) cap_nil))) cv_nil)) (cg_name 2 c) (css_one (cs_if (ct_p (ctp_not (ctp_val (cp_call c f__law_row_is (cap_cons (cp_ix c (cp_var 0) (cp_var 2)) (cap_cons (cp_ix c (cp_var 1) (cp_var 2)) cap_nil)))))) (css_one (cs_ret (ce_p cp_bl))) css_nil)))
      (css_one (cs_ret (ce_p cp_bl)))))⟩
abbrev s__law_turns : Stmt := top 35
theorem sc__law_turns : FnScope ["word", "place"] ["word"] (defScope s__law_turns) := ⟨rfl, rfl, rfl, by decide +kernel, rfl, by decide +kernel, by decide +kernel⟩
theorem ok__law_turns (T : Txt P w K mg base C) (F : FnT K mg "_law_turns" s__law_turns ["word"])  : CalM P w K mg base 1 "_law_turns" m__law_turns := by
  exact CalM.of F sc__law_turns rfl rfl fun f cdv A outer s H E c => ⟨_, (css_one (cs_retF (cf_lc c [("place", 1)] (ci_r1 c T.n_range (cv_cons (ce_p (cp_len c T.n_len (cap_cons (cp_var 0) cap_nil))) cv_nil)) (fun _ _ _ _ _ c1 => (cgv_name 1 c1)) (fun _ _ _ _ _ c1 => cts_nil) (fun _ _ _ _ _ c1 => (ce_f (cf_cat (ck_cut c1 (ck_var 0) (co_i (cp_var 1)) co_no) (ck_cut c1 (ck_var 0) co_no (co_i (cp_var 1)))))))))⟩
abbrev s__law_said : Stmt := top 36
theorem sc__law_said : FnScope ["word", "given", "told"] ["word"] (defScope s__law_said) := ⟨rfl, rfl, rfl, by decide +kernel, rfl, by decide +kernel, by decide +kernel⟩
theorem ok__law_said (T : Txt P w K mg base C) (F : FnT K mg "_law_said" s__law_said ["word"]) (f__law_lyndon : CalM P w K mg base 1 "_law_lyndon" m__law_lyndon) (f_is_lyndon : CalM P w K mg base 6 "is_lyndon" m_is_lyndon) : CalM P w K mg base 7 "_law_said" m__law_said := by
  exact CalM.of F sc__law_said rfl rfl fun f cdv A outer s H E c => ⟨_, (css_cons (cs_asgF 1 c (cf_list c (cc_var 0) T.n_list))
      (css_cons (cs_asg (ce_p (cp_call c f_is_lyndon (cap_cons (cp_var 1) cap_nil))) (cg_name 2 c))
      (css_one (cs_ret (ce_p (cp_and (cp_isi c "bool" T.n_isinstance T.n_bool bb_bool (cp_var 2)) (cp_and (cp_eq c (cp_var 2) (cp_call c f__law_lyndon (cap_cons (cp_var 0) cap_nil))) (cp_one (cp_eq c (cp_var 1) (cp_var 0))))))))))⟩
abbrev s__law_turned : Stmt := top 37
theorem sc__law_turned : FnScope ["word", "given", "due", "told", "first"] ["word"] (defScope s__law_turned) := ⟨rfl, rfl, rfl, by decide +kernel, rfl, by decide +kernel, by decide +kernel⟩
theorem ok__law_turned (T : Txt P w K mg base C) (F : FnT K mg "_law_turned" s__law_turned ["word"]) (f__law_rows_are : CalM P w K mg base 3 "_law_rows_are" m__law_rows_are) (f__law_turns : CalM P w K mg base 1 "_law_turns" m__law_turns) (f_turns_of : CalM P w K mg base 6 "turns_of" m_turns_of) : CalM P w K mg base 7 "_law_turned" m__law_turned := by
  exact CalM.of F sc__law_turned rfl rfl fun f cdv A outer s H E c => ⟨_, (css_cons (cs_asgFre 1 c (cf_list c (cc_var 0) T.n_list))
      (css_cons (cs_asgF 2 c (cf_call c f__law_turns (ca_v (ce_var 0) ca_nil)))
      (css_cons (cs_asgRV 3 c 1 f_turns_of)
      (css_cons (cs_if (ct_p (ctp_w (ctpw_or (ctp_not (ctp_val (cp_call c f__law_rows_are (cap_cons (cp_var 3) (cap_cons (cp_var 2) cap_nil))))) (ctpw_or1 (ctp_ne c (cp_var 1) (cp_var 0)))))) (css_one (cs_ret (ce_p cp_bl))) css_nil)
      (css_spoil3 3 c 4
      (css_one (cs_ret (ce_p (cp_call c f__law_rows_are (cap_cons (cp_call c f_turns_of (cap_cons (cp_tupL c (cu_var 0) T.n_tuple) cap_nil)) (cap_cons (cp_var 2) cap_nil)))))))))))⟩
abbrev s__law_small : Stmt := top 38
theorem sc__law_small : FnScope ["purse", "most", "size", "rows", "word"] ["purse"] (defScope s__law_small) := ⟨rfl, rfl, rfl, by decide +kernel, rfl, by decide +kernel, by decide +kernel⟩
theorem ok__law_small (T : Txt P w K mg base C) (F : FnT K mg "_law_small" s__law_small ["purse"]) (f__law_draw : CalM P w K mg base 1 "_law_draw" m__law_draw) (f__law_rows : CalM P w K mg base 1 "_law_rows" m__law_rows) (f__law_said : CalM P w K mg base 7 "_law_said" m__law_said) (f__law_turned : CalM P w K mg base 7 "_law_turned" m__law_turned) : CalM P w K mg base 8 "_law_small" m__law_small := by
  exact CalM.of F sc__law_small rfl rfl fun f cdv A outer s H E c => ⟨_, (css_cons (cs_asg (ce_add (ce_p cp_int) (ce_call c f__law_draw (ca_s 0 (ca_v (ce_p cp_int) ca_nil)))) (cg_name 1 c))
      (css_cons (cs_asg (ce_add (ce_p cp_int) (ce_call c f__law_draw (ca_s 0 (ca_v (ce_p (cp_if (ctp_eq c (cp_var 1) cp_int) cp_int cp_int)) ca_nil)))) (cg_name 2 c))
      (css_cons (cs_asg (ce_call c f__law_rows (ca_v (ce_var 1) (ca_v (ce_var 2) ca_nil))) (cg_name 3 c))
      (css_cons (cs_for c (ci_lst c (ce_var 3)) (cg_name 4 c) (css_one (cs_if (ct_p (ctp_not (ctp_val (cp_call c f__law_said (cap_cons (cp_var 4) cap_nil))))) (css_one (cs_ret (ce_p cp_bl))) css_nil)))
      (css_one (cs_ret (ce_call c f__law_turned (ca_v (ce_ix c (ce_var 3) (ce_call c f__law_draw (ca_s 0 (ca_v (ce_p (cp_len c T.n_len (cap_cons (cp_var 3) cap_nil))) ca_nil)))) ca_nil))))))))⟩
abbrev s__law_long_word : Stmt := top 39
theorem sc__law_long_word : FnScope ["purse", "size", "most", "word", "style", "turn"] ["purse"] (defScope s__law_long_word) := ⟨rfl, rfl, rfl, by decide +kernel, rfl, by decide +kernel, by decide +kernel⟩
theorem ok__law_long_word (T : Txt P w K mg base C) (F : FnT K mg "_law_long_word" s__law_long_word ["purse"]) (f__law_again : CalM P w K mg base 1 "_law_again" m__law_again) (f__law_draw : CalM P w K mg base 1 "_law_draw" m__law_draw) (f__law_turns : CalM P w K mg base 1 "_law_turns" m__law_turns) : CalM P w K mg base 2 "_law_long_word" m__law_long_word := by
  exact CalM.of F sc__law_long_word rfl rfl fun f cdv A outer s H E c => ⟨_, (css_cons (cs_asg (ce_if (ct_eq c (ce_call c f__law_draw (ca_s 0 (ca_v (ce_p cp_int) ca_nil))) (ce_p cp_int)) (ce_p cp_int) (ce_add (ce_p cp_int) (ce_call c f__law_draw (ca_s 0 (ca_v (ce_p cp_int) ca_nil))))) (cg_name 1 c))
      (css_cons (cs_asg (ce_ix c (ce_f (cf_lst (cv_cons (ce_p cp_int) (cv_cons (ce_p cp_int) (cv_cons (ce_p cp_int) cv_nil))))) (ce_call c f__law_draw (ca_s 0 (ca_v (ce_p cp_int) ca_nil)))) (cg_name 2 c))
      (css_cons (cs_asgLc 3 c [("turn", 5)] (ci_r1 c T.n_range (cv_cons (ce_var 1) cv_nil)) (fun _ _ _ _ _ c1 => (cgv_name 5 c1)) (fun _ _ _ _ _ c1 => cts_nil) (fun _ _ _ _ _ c1 => (ce_call c1 f__law_draw (ca_s 0 (ca_v (ce_p (cp_add (cp_var 2) cp_int)) ca_nil)))))
      (css_cons (cs_asg (ce_call c f__law_draw (ca_s 0 (ca_v (ce_p cp_int) ca_nil))) (cg_name 4 c))
      (css_cons (cs_if (ct_p (ctp_lt (cp_var 4) cp_int)) (css_one (cs_ret (ce_minD c (cc_f (cf_call c f__law_turns (ca_v (ce_var 3) ca_nil))) T.n_min))) css_nil)
      (css_one (cs_ret (ce_if (ct_p (ctp_eq c (cp_var 4) cp_int)) (ce_call c f__law_again (ca_v (ce_f (cf_cut c (cc_var 3) co_no (co_i (cp_add cp_int (cp_fdiv (cp_var 1) cp_int))))) (ca_v (ce_p cp_int) (ca_v (ce_var 1) ca_nil)))) (ce_var 3)))))))))⟩
abbrev s__law_wrong : Stmt := top 40
theorem sc__law_wrong : FnScope ["purse", "word", "place", "bad", "long"] ["purse", "word"] (defScope s__law_wrong) := ⟨rfl, rfl, rfl, by decide +kernel, rfl, by decide +kernel, by decide +kernel⟩
theorem ok__law_wrong {c0 P0 : Addr} (T : Txt P w K mg base C) (F : FnC K mg "_law_wrong" s__law_wrong ["purse", "word"] c0) (TB : LamX.TabB base mg c0 P0) (mT : (P0, lamN "_law_wrong" s__law_wrong) ∈ TbT.T) (uT : ∀ p ∈ TbT.T, p.1 = P0 → p.2 = lamN "_law_wrong" s__law_wrong) (f__law_draw : CalM P w K mg base 1 "_law_draw" m__law_draw) (f__law_odd : CalM P w K mg base 2 "_law_odd" m__law_odd) (f__law_refused : LamM P w K mg base 7 "_law_refused" m__law_refused) (f_is_lyndon : CalM P w K mg base 6 "is_lyndon" m_is_lyndon) (f_turns_of : CalM P w K mg base 6 "turns_of" m_turns_of) : CalM P w K mg base 9 "_law_wrong" m__law_wrong := by
  exact CalM.ofC F sc__law_wrong rfl rfl fun f A outer s H E c => ⟨_, (css_cons (cs_asg (ce_call c f__law_draw (ca_s 0 (ca_v (ce_p (cp_len c T.n_len (cap_cons (cp_var 1) cap_nil))) ca_nil))) (cg_name 2 c))
      (css_cons (cs_asgF 3 c (cf_list c (cc_var 1) T.n_list))
      (css_cons (cs_setIx 3 (ce_call c f__law_odd (ca_s 0 (ca_v (ce_p cp_int) ca_nil))) (cp_var 2))
      (css_cons (cs_if (ct_p (ctp_not (ctp_val (Classical.choose_spec (cp_lam c f__law_refused TB mT uT rfl (fun _ _ _ _ _ _ _ c1 => ⟨_, (cp_call c1 f_is_lyndon (cap_cons (cp_k (ck_list c1 (cu_var 3) T.n_list)) cap_nil))⟩) (cap_cons cp_str (cap_cons (cp_add (cp_var 2) cp_int) cap_nil))))))) (css_one (cs_ret (ce_p cp_bl))) css_nil)
      (css_cons (cs_if (ct_p (ctp_not (ctp_val (Classical.choose_spec (cp_lam c f__law_refused TB mT uT rfl (fun _ _ _ _ _ _ _ c1 => ⟨_, (cp_call c1 f_turns_of (cap_cons (cp_k (ck_list c1 (cu_var 3) T.n_list)) cap_nil))⟩) (cap_cons cp_str (cap_cons (cp_add (cp_var 2) cp_int) cap_nil))))))) (css_one (cs_ret (ce_p cp_bl))) css_nil)
      (css_cons (cs_asgF 4 c (cf_cat (ck_var 3) (ck_rep (ck_lst (cap_cons cp_int cap_nil)) (cp_sub cp_int (cp_len c T.n_len (cap_cons (cp_var 3) cap_nil))))))
      (css_cons (cs_if (ct_p (ctp_not (ctp_val (Classical.choose_spec (cp_lam c f__law_refused TB mT uT rfl (fun _ _ _ _ _ _ _ c1 => ⟨_, (cp_call c1 f_is_lyndon (cap_cons (cp_k (ck_list c1 (cu_var 4) T.n_list)) cap_nil))⟩) (cap_cons cp_str (cap_cons cp_str cap_nil))))))) (css_one (cs_ret (ce_p cp_bl))) css_nil)
      (css_cons (cs_if (ct_p (ctp_not (ctp_val (Classical.choose_spec (cp_lam c f__law_refused TB mT uT rfl (fun _ _ _ _ _ _ _ c1 => ⟨_, (cp_call c1 f_turns_of (cap_cons (cp_k (ck_rep (ck_lst (cap_cons cp_int cap_nil)) cp_int)) cap_nil))⟩) (cap_cons cp_str (cap_cons cp_str cap_nil))))))) (css_one (cs_ret (ce_p cp_bl))) css_nil)
      (css_cons (cs_if (ct_p (ctp_not (ctp_val (Classical.choose_spec (cp_lam c f__law_refused TB mT uT rfl (fun _ _ _ _ _ _ _ c1 => ⟨_, (cp_call c1 f_is_lyndon (cap_cons (cp_lst cap_nil) cap_nil))⟩) (cap_cons cp_str (cap_cons cp_int cap_nil))))))) (css_one (cs_ret (ce_p cp_bl))) css_nil)
      (css_one (cs_ret (ce_p (Classical.choose_spec (cp_lam c f__law_refused TB mT uT rfl (fun _ _ _ _ _ _ _ c1 => ⟨_, (cp_call c1 f_turns_of (cap_cons (cp_lst cap_nil) cap_nil))⟩) (cap_cons cp_str (cap_cons cp_int cap_nil))))))))))))))))⟩
abbrev s_law : Stmt := top 41
theorem sc_law : FnScope ["script", "turn", "purse", "word"] ["script"] (defScope s_law) := ⟨rfl, rfl, rfl, by decide +kernel, rfl, by decide +kernel, by decide +kernel⟩
theorem ok_law {f : Addr} {fd : FuncData} (T : Txt P w K mg base C) (F : Fun K "law" "law" s_law f fd) (f__law_long_word : CalM P w K mg base 2 "_law_long_word" m__law_long_word) (f__law_purse : CalM P w K mg base 1 "_law_purse" m__law_purse) (f__law_said : CalM P w K mg base 7 "_law_said" m__law_said) (f__law_small : CalM P w K mg base 8 "_law_small" m__law_small) (f__law_turned : CalM P w K mg base 7 "_law_turned" m__law_turned) (f__law_wrong : CalM P w K mg base 9 "_law_wrong" m__law_wrong) : FnOk P w K mg base (L2.CX P w) 10 f fd ["script"] (SpM K mg m_law) := by
  exact FnM.of F sc_law rfl rfl fun cdv A outer s H E c => ⟨_, (css_cons (cs_for c (ci_r1 c T.n_range (cv_cons (ce_p cp_int) cv_nil)) (cg_name 1 c) (css_one (cs_if (ct_not (ct_val (ce_w (cw_callT c f__law_small (cf_call c f__law_purse (ca_v (ce_var 0) (ca_v (ce_var 1) ca_nil))) ca_nil)))) (css_one (cs_ret (ce_p cp_bl))) css_nil)))
      (css_cons (cs_asgF 2 c (cf_call c f__law_purse (ca_v (ce_var 0) (ca_v (ce_p cp_int) ca_nil))))
      (css_cons (cs_asg (ce_call c f__law_long_word (ca_s 2 ca_nil)) (cg_name 3 c))
      (css_cons (cs_if (ct_p (ctp_w (ctpw_or (ctp_not (ctp_val (cp_call c f__law_said (cap_cons (cp_var 3) cap_nil)))) (ctpw_or (ctp_not (ctp_val (cp_call c f__law_said (cap_cons (cp_lst (cap_cons (cp_ix c (cp_var 3) cp_int) cap_nil)) cap_nil)))) (ctpw_or1 (ctp_not (ctp_val (cp_call c f__law_said (cap_cons (cp_lst (cap_cons (cp_ix c (cp_var 3) cp_int) (cap_cons (cp_ix c (cp_var 3) cp_int) cap_nil))) cap_nil))))))))) (css_one (cs_ret (ce_p cp_bl))) css_nil)
      (css_one (cs_ret (ce_and (ce_p (cp_call c f__law_turned (cap_cons (cp_k (ck_cut c (ck_var 3) co_no (co_i cp_int))) cap_nil))) (ce_and (ce_call c f__law_wrong (ca_s 2 (ca_v (ce_var 3) ca_nil))) (ce_one (ce_p (cp_call c f__law_said (cap_cons (cp_var 3) cap_nil))))))))))))⟩
end
end Lw
end

section
set_option Elab.async false
set_option linter.all false
set_option maxRecDepth 100000
set_option maxHeartbeats 4000000
set_option autoImplicit false
/-! what the top has written -/
namespace Lw
open PySem L2 Cv PyProof.Rows
variable [TbT]
abbrev i_BadCalendar : Stmt := inClass (top 4) 0
theorem si_BadCalendar : FnScope ["self", "place"] ["self", "place"] (defScope i_BadCalendar) := ⟨rfl, rfl, rfl, by decide +kernel, rfl, by decide +kernel, by decide +kernel⟩
theorem oki_BadCalendar {P : Program} {w : World} {K : PySem.W.Frag} {mg : Str → Option Value} {base : Heap} {fI C C0 : Addr} {fd : FuncData} (hm : mg "SeldomError" = some (.ref C0)) (B : BaseI K C0) (F : Fun K "__init__" "BadCalendar.__init__" i_BadCalendar fI fd) (hno : PySem.W.findIn K (.ref C) "place" = some none) (T : OexC K C) : FnOk P w K mg base (L2.CX P w) 2 fI fd ["self", "place"] (spEx C "place") :=
  ex_init (z := "a digit of a calendar is not allowed") F T hno si_BadCalendar rfl fun cdv A outer s H E => pss_cons (ps_expr (pe_baseinit rfl hm B (pa_cons (pv 0) (pa_cons pe_str pa_nil)))) (pss_one (ps_ost (pv 0) (pv 1)))
abbrev i_BadHouse : Stmt := inClass (top 3) 0
theorem si_BadHouse : FnScope ["self", "what"] ["self", "what"] (defScope i_BadHouse) := ⟨rfl, rfl, rfl, by decide +kernel, rfl, by decide +kernel, by decide +kernel⟩
theorem oki_BadHouse {P : Program} {w : World} {K : PySem.W.Frag} {mg : Str → Option Value} {base : Heap} {fI C C0 : Addr} {fd : FuncData} (hm : mg "SeldomError" = some (.ref C0)) (B : BaseI K C0) (F : Fun K "__init__" "BadHouse.__init__" i_BadHouse fI fd) (hno : PySem.W.findIn K (.ref C) "what" = some none) (T : OexC K C) : FnOk P w K mg base (L2.CX P w) 2 fI fd ["self", "what"] (spEx C "what") :=
  ex_init (z := "a house is not allowed") F T hno si_BadHouse rfl fun cdv A outer s H E => pss_cons (ps_expr (pe_baseinit rfl hm B (pa_cons (pv 0) (pa_cons pe_str pa_nil)))) (pss_one (ps_ost (pv 0) (pv 1)))
abbrev i_BadShare : Stmt := inClass (top 6) 0
theorem si_BadShare : FnScope ["self", "what"] ["self", "what"] (defScope i_BadShare) := ⟨rfl, rfl, rfl, by decide +kernel, rfl, by decide +kernel, by decide +kernel⟩
theorem oki_BadShare {P : Program} {w : World} {K : PySem.W.Frag} {mg : Str → Option Value} {base : Heap} {fI C C0 : Addr} {fd : FuncData} (hm : mg "SeldomError" = some (.ref C0)) (B : BaseI K C0) (F : Fun K "__init__" "BadShare.__init__" i_BadShare fI fd) (hno : PySem.W.findIn K (.ref C) "what" = some none) (T : OexC K C) : FnOk P w K mg base (L2.CX P w) 2 fI fd ["self", "what"] (spEx C "what") :=
  ex_init (z := "a share is not allowed") F T hno si_BadShare rfl fun cdv A outer s H E => pss_cons (ps_expr (pe_baseinit rfl hm B (pa_cons (pv 0) (pa_cons pe_str pa_nil)))) (pss_one (ps_ost (pv 0) (pv 1)))
abbrev i_BadTable : Stmt := inClass (top 5) 0
theorem si_BadTable : FnScope ["self", "what"] ["self", "what"] (defScope i_BadTable) := ⟨rfl, rfl, rfl, by decide +kernel, rfl, by decide +kernel, by decide +kernel⟩
theorem oki_BadTable {P : Program} {w : World} {K : PySem.W.Frag} {mg : Str → Option Value} {base : Heap} {fI C C0 : Addr} {fd : FuncData} (hm : mg "SeldomError" = some (.ref C0)) (B : BaseI K C0) (F : Fun K "__init__" "BadTable.__init__" i_BadTable fI fd) (hno : PySem.W.findIn K (.ref C) "what" = some none) (T : OexC K C) : FnOk P w K mg base (L2.CX P w) 2 fI fd ["self", "what"] (spEx C "what") :=
  ex_init (z := "a table is not allowed") F T hno si_BadTable rfl fun cdv A outer s H E => pss_cons (ps_expr (pe_baseinit rfl hm B (pa_cons (pv 0) (pa_cons pe_str pa_nil)))) (pss_one (ps_ost (pv 0) (pv 1)))
abbrev i_BadWeek : Stmt := inClass (top 7) 0
theorem si_BadWeek : FnScope ["self", "day"] ["self", "day"] (defScope i_BadWeek) := ⟨rfl, rfl, rfl, by decide +kernel, rfl, by decide +kernel, by decide +kernel⟩
theorem oki_BadWeek {P : Program} {w : World} {K : PySem.W.Frag} {mg : Str → Option Value} {base : Heap} {fI C C0 : Addr} {fd : FuncData} (hm : mg "SeldomError" = some (.ref C0)) (B : BaseI K C0) (F : Fun K "__init__" "BadWeek.__init__" i_BadWeek fI fd) (hno : PySem.W.findIn K (.ref C) "day" = some none) (T : OexC K C) : FnOk P w K mg base (L2.CX P w) 2 fI fd ["self", "day"] (spEx C "day") :=
  ex_init (z := "a price of a week is not allowed") F T hno si_BadWeek rfl fun cdv A outer s H E => pss_cons (ps_expr (pe_baseinit rfl hm B (pa_cons (pv 0) (pa_cons pe_str pa_nil)))) (pss_one (ps_ost (pv 0) (pv 1)))
abbrev i_TooMany : Stmt := inClass (top 2) 0
theorem si_TooMany : FnScope ["self", "what"] ["self", "what"] (defScope i_TooMany) := ⟨rfl, rfl, rfl, by decide +kernel, rfl, by decide +kernel, by decide +kernel⟩
theorem oki_TooMany {P : Program} {w : World} {K : PySem.W.Frag} {mg : Str → Option Value} {base : Heap} {fI C C0 : Addr} {fd : FuncData} (hm : mg "SeldomError" = some (.ref C0)) (B : BaseI K C0) (F : Fun K "__init__" "TooMany.__init__" i_TooMany fI fd) (hno : PySem.W.findIn K (.ref C) "what" = some none) (T : OexC K C) : FnOk P w K mg base (L2.CX P w) 2 fI fd ["self", "what"] (spEx C "what") :=
  ex_init (z := "an argument passes a bound of the package") F T hno si_TooMany rfl fun cdv A outer s H E => pss_cons (ps_expr (pe_baseinit rfl hm B (pa_cons (pv 0) (pa_cons pe_str pa_nil)))) (pss_one (ps_ost (pv 0) (pv 1)))
omit [TbT] in
theorem all_mk {l : PySem.W.OpenLaw} {w : World} {K : PySem.W.Frag} {h : Heap} {mg : Str → Option Value} {fa : Addr} (X : K.In h) (G : h.Ns mainGlobals mg) (hfa : mg "law" = some (.ref fa)) {qq : Program} (htab : ∀ (e : DefRec) (y : Str) (c P : Addr), (PyProof.Rows.recsOf qq).find? (fun r => r.name == y) = some e → PySem.W.tabIn K y = some (c, P) → PySem.W.CodeHd h c P ∧ h.get? P = some (PySem.W.tabObj #[])) 
    {f0 f1 f2 f3 f4 f5 f6 f7 f8 f9 f10 f11 f12 f13 f14 f15 f16 f17 f18 f19 f20 f21 f22 f23 f24 f25 f26 f27 : Addr}
    {od0 an0 od1 an1 od2 an2 od3 an3 od4 an4 od5 an5 od6 an6 od7 an7 od8 an8 od9 an9 od10 an10 od11 an11 od12 an12 od13 an13 od14 an14 od15 an15 od16 an16 od17 an17 od18 an18 od19 an19 od20 an20 od21 an21 od22 an22 od23 an23 od24 an24 od25 an25 od26 an26 od27 an27 : Option Addr} {sl0 sl1 sl2 sl3 sl4 sl5 sl6 sl7 sl8 sl9 sl10 sl11 sl12 sl13 sl14 sl15 sl16 sl17 sl18 sl19 sl20 sl21 sl22 sl23 sl24 sl25 sl26 sl27 : Array (Option Value)} {oc0 kV0 dc0 pm0 cd0 ct0 oc1 kV1 dc1 pm1 cd1 ct1 oc2 kV2 dc2 pm2 cd2 ct2 oc3 kV3 dc3 pm3 cd3 ct3 oc4 kV4 dc4 pm4 cd4 ct4 oc5 kV5 dc5 pm5 cd5 ct5 oc6 kV6 dc6 pm6 cd6 ct6 oc7 kV7 dc7 pm7 cd7 ct7 oc8 kV8 dc8 pm8 cd8 ct8 oc9 kV9 dc9 pm9 cd9 ct9 oc10 kV10 dc10 pm10 cd10 ct10 oc11 kV11 dc11 pm11 cd11 ct11 oc12 kV12 dc12 pm12 cd12 ct12 oc13 kV13 dc13 pm13 cd13 ct13 oc14 kV14 dc14 pm14 cd14 ct14 oc15 kV15 dc15 pm15 cd15 ct15 oc16 kV16 dc16 pm16 cd16 ct16 oc17 kV17 dc17 pm17 cd17 ct17 oc18 kV18 dc18 pm18 cd18 ct18 oc19 kV19 dc19 pm19 cd19 ct19 oc20 kV20 dc20 pm20 cd20 ct20 oc21 kV21 dc21 pm21 cd21 ct21 oc22 kV22 dc22 pm22 cd22 ct22 oc23 kV23 dc23 pm23 cd23 ct23 oc24 kV24 dc24 pm24 cd24 ct24 oc25 kV25 dc25 pm25 cd25 ct25 oc26 kV26 dc26 pm26 ct26 oc27 kV27 dc27 pm27 cd27 ct27 : Value}
    {cc26 pp26 : Addr}
    {ol26 : Value} {dl26 : Option Addr} {vs26 : Array Value} {zl26 : Array (Option Value)}
    {t_CALENDAR : Tok}
    {t_DIGITS : Tok}
    {C0 : Addr}
    {C_x0 fI_x0 : Addr} {nm_x0 q_x0 : Str} {N_x0 : Addr} {bs_x0 : List Value} {sn_x0 : List Str} {sub_x0 : List Value} {ab_x0 : Bool} {col_x0 : Option Bool} {dd_x0 : Option Addr} {m0_x0 m1_x0 m2_x0 m3_x0 m5_x0 : Option Value} {od_x0 an_x0 : Option Addr} {sl_x0 : Array (Option Value)} {oc_x0 kV_x0 dc_x0 pm_x0 cd_x0 ct_x0 : Value}
    {C_x1 fI_x1 : Addr} {nm_x1 q_x1 : Str} {N_x1 : Addr} {bs_x1 : List Value} {sn_x1 : List Str} {sub_x1 : List Value} {ab_x1 : Bool} {col_x1 : Option Bool} {dd_x1 : Option Addr} {m0_x1 m1_x1 m2_x1 m3_x1 m5_x1 : Option Value} {od_x1 an_x1 : Option Addr} {sl_x1 : Array (Option Value)} {oc_x1 kV_x1 dc_x1 pm_x1 cd_x1 ct_x1 : Value}
    {C_x2 fI_x2 : Addr} {nm_x2 q_x2 : Str} {N_x2 : Addr} {bs_x2 : List Value} {sn_x2 : List Str} {sub_x2 : List Value} {ab_x2 : Bool} {col_x2 : Option Bool} {dd_x2 : Option Addr} {m0_x2 m1_x2 m2_x2 m3_x2 m5_x2 : Option Value} {od_x2 an_x2 : Option Addr} {sl_x2 : Array (Option Value)} {oc_x2 kV_x2 dc_x2 pm_x2 cd_x2 ct_x2 : Value}
    {C_x3 fI_x3 : Addr} {nm_x3 q_x3 : Str} {N_x3 : Addr} {bs_x3 : List Value} {sn_x3 : List Str} {sub_x3 : List Value} {ab_x3 : Bool} {col_x3 : Option Bool} {dd_x3 : Option Addr} {m0_x3 m1_x3 m2_x3 m3_x3 m5_x3 : Option Value} {od_x3 an_x3 : Option Addr} {sl_x3 : Array (Option Value)} {oc_x3 kV_x3 dc_x3 pm_x3 cd_x3 ct_x3 : Value}
    {C_x4 fI_x4 : Addr} {nm_x4 q_x4 : Str} {N_x4 : Addr} {bs_x4 : List Value} {sn_x4 : List Str} {sub_x4 : List Value} {ab_x4 : Bool} {col_x4 : Option Bool} {dd_x4 : Option Addr} {m0_x4 m1_x4 m2_x4 m3_x4 m5_x4 : Option Value} {od_x4 an_x4 : Option Addr} {sl_x4 : Array (Option Value)} {oc_x4 kV_x4 dc_x4 pm_x4 cd_x4 ct_x4 : Value}
    {C_x5 fI_x5 : Addr} {nm_x5 q_x5 : Str} {N_x5 : Addr} {bs_x5 : List Value} {sn_x5 : List Str} {sub_x5 : List Value} {ab_x5 : Bool} {col_x5 : Option Bool} {dd_x5 : Option Addr} {m0_x5 m1_x5 m2_x5 m3_x5 m5_x5 : Option Value} {od_x5 an_x5 : Option Addr} {sl_x5 : Array (Option Value)} {oc_x5 kV_x5 dc_x5 pm_x5 cd_x5 ct_x5 : Value}
    (a0 : PySem.W.nsIn K mainGlobals "is_whole" = some (some (.ref f0)))
    (l0 : K.lookup f0 = some ⟨oc0, od0, .func (PySem.W.fnOf "is_whole" "is_whole" (defArgs s_is_whole) (defBody s_is_whole) (defScope s_is_whole) .none kV0 dc0 pm0 an0 cd0 ct0), sl0⟩)
    (c0 : PySem.W.codeIn K cd0 "is_whole" = true)
    (k0 : PySem.W.keepIn K (.ref f0) = true)
    (a1 : PySem.W.nsIn K mainGlobals "whole_from" = some (some (.ref f1)))
    (l1 : K.lookup f1 = some ⟨oc1, od1, .func (PySem.W.fnOf "whole_from" "whole_from" (defArgs s_whole_from) (defBody s_whole_from) (defScope s_whole_from) .none kV1 dc1 pm1 an1 cd1 ct1), sl1⟩)
    (c1 : PySem.W.codeIn K cd1 "whole_from" = true)
    (k1 : PySem.W.keepIn K (.ref f1) = true)
    (a2 : PySem.W.nsIn K mainGlobals "check_calendar" = some (some (.ref f2)))
    (l2 : K.lookup f2 = some ⟨oc2, od2, .func (PySem.W.fnOf "check_calendar" "check_calendar" (defArgs s_check_calendar) (defBody s_check_calendar) (defScope s_check_calendar) .none kV2 dc2 pm2 an2 cd2 ct2), sl2⟩)
    (c2 : PySem.W.codeIn K cd2 "check_calendar" = true)
    (k2 : PySem.W.keepIn K (.ref f2) = true)
    (a3 : PySem.W.nsIn K mainGlobals "check_most" = some (some (.ref f3)))
    (l3 : K.lookup f3 = some ⟨oc3, od3, .func (PySem.W.fnOf "check_most" "check_most" (defArgs s_check_most) (defBody s_check_most) (defScope s_check_most) .none kV3 dc3 pm3 an3 cd3 ct3), sl3⟩)
    (c3 : PySem.W.codeIn K cd3 "check_most" = true)
    (k3 : PySem.W.keepIn K (.ref f3) = true)
    (a4 : PySem.W.nsIn K mainGlobals "check_word" = some (some (.ref f4)))
    (l4 : K.lookup f4 = some ⟨oc4, od4, .func (PySem.W.fnOf "check_word" "check_word" (defArgs s_check_word) (defBody s_check_word) (defScope s_check_word) .none kV4 dc4 pm4 an4 cd4 ct4), sl4⟩)
    (c4 : PySem.W.codeIn K cd4 "check_word" = true)
    (k4 : PySem.W.keepIn K (.ref f4) = true)
    (a5 : PySem.W.nsIn K mainGlobals "turn_at" = some (some (.ref f5)))
    (l5 : K.lookup f5 = some ⟨oc5, od5, .func (PySem.W.fnOf "turn_at" "turn_at" (defArgs s_turn_at) (defBody s_turn_at) (defScope s_turn_at) .none kV5 dc5 pm5 an5 cd5 ct5), sl5⟩)
    (c5 : PySem.W.codeIn K cd5 "turn_at" = true)
    (k5 : PySem.W.keepIn K (.ref f5) = true)
    (a6 : PySem.W.nsIn K mainGlobals "turns_of" = some (some (.ref f6)))
    (l6 : K.lookup f6 = some ⟨oc6, od6, .func (PySem.W.fnOf "turns_of" "turns_of" (defArgs s_turns_of) (defBody s_turns_of) (defScope s_turns_of) .none kV6 dc6 pm6 an6 cd6 ct6), sl6⟩)
    (c6 : PySem.W.codeIn K cd6 "turns_of" = true)
    (k6 : PySem.W.keepIn K (.ref f6) = true)
    (a7 : PySem.W.nsIn K mainGlobals "first_unlike" = some (some (.ref f7)))
    (l7 : K.lookup f7 = some ⟨oc7, od7, .func (PySem.W.fnOf "first_unlike" "first_unlike" (defArgs s_first_unlike) (defBody s_first_unlike) (defScope s_first_unlike) .none kV7 dc7 pm7 an7 cd7 ct7), sl7⟩)
    (c7 : PySem.W.codeIn K cd7 "first_unlike" = true)
    (k7 : PySem.W.keepIn K (.ref f7) = true)
    (a8 : PySem.W.nsIn K mainGlobals "row_below" = some (some (.ref f8)))
    (l8 : K.lookup f8 = some ⟨oc8, od8, .func (PySem.W.fnOf "row_below" "row_below" (defArgs s_row_below) (defBody s_row_below) (defScope s_row_below) .none kV8 dc8 pm8 an8 cd8 ct8), sl8⟩)
    (c8 : PySem.W.codeIn K cd8 "row_below" = true)
    (k8 : PySem.W.keepIn K (.ref f8) = true)
    (a9 : PySem.W.nsIn K mainGlobals "is_lyndon" = some (some (.ref f9)))
    (l9 : K.lookup f9 = some ⟨oc9, od9, .func (PySem.W.fnOf "is_lyndon" "is_lyndon" (defArgs s_is_lyndon) (defBody s_is_lyndon) (defScope s_is_lyndon) .none kV9 dc9 pm9 an9 cd9 ct9), sl9⟩)
    (c9 : PySem.W.codeIn K cd9 "is_lyndon" = true)
    (k9 : PySem.W.keepIn K (.ref f9) = true)
    (a10 : PySem.W.nsIn K mainGlobals "_law_purse" = some (some (.ref f10)))
    (l10 : K.lookup f10 = some ⟨oc10, od10, .func (PySem.W.fnOf "_law_purse" "_law_purse" (defArgs s__law_purse) (defBody s__law_purse) (defScope s__law_purse) .none kV10 dc10 pm10 an10 cd10 ct10), sl10⟩)
    (c10 : PySem.W.codeIn K cd10 "_law_purse" = true)
    (k10 : PySem.W.keepIn K (.ref f10) = true)
    (a11 : PySem.W.nsIn K mainGlobals "_law_draw" = some (some (.ref f11)))
    (l11 : K.lookup f11 = some ⟨oc11, od11, .func (PySem.W.fnOf "_law_draw" "_law_draw" (defArgs s__law_draw) (defBody s__law_draw) (defScope s__law_draw) .none kV11 dc11 pm11 an11 cd11 ct11), sl11⟩)
    (c11 : PySem.W.codeIn K cd11 "_law_draw" = true)
    (k11 : PySem.W.keepIn K (.ref f11) = true)
    (a12 : PySem.W.nsIn K mainGlobals "_law_whole" = some (some (.ref f12)))
    (l12 : K.lookup f12 = some ⟨oc12, od12, .func (PySem.W.fnOf "_law_whole" "_law_whole" (defArgs s__law_whole) (defBody s__law_whole) (defScope s__law_whole) .none kV12 dc12 pm12 an12 cd12 ct12), sl12⟩)
    (c12 : PySem.W.codeIn K cd12 "_law_whole" = true)
    (k12 : PySem.W.keepIn K (.ref f12) = true)
    (a13 : PySem.W.nsIn K mainGlobals "_law_number_is" = some (some (.ref f13)))
    (l13 : K.lookup f13 = some ⟨oc13, od13, .func (PySem.W.fnOf "_law_number_is" "_law_number_is" (defArgs s__law_number_is) (defBody s__law_number_is) (defScope s__law_number_is) .none kV13 dc13 pm13 an13 cd13 ct13), sl13⟩)
    (c13 : PySem.W.codeIn K cd13 "_law_number_is" = true)
    (k13 : PySem.W.keepIn K (.ref f13) = true)
    (a14 : PySem.W.nsIn K mainGlobals "_law_row_is" = some (some (.ref f14)))
    (l14 : K.lookup f14 = some ⟨oc14, od14, .func (PySem.W.fnOf "_law_row_is" "_law_row_is" (defArgs s__law_row_is) (defBody s__law_row_is) (defScope s__law_row_is) .none kV14 dc14 pm14 an14 cd14 ct14), sl14⟩)
    (c14 : PySem.W.codeIn K cd14 "_law_row_is" = true)
    (k14 : PySem.W.keepIn K (.ref f14) = true)
    (a15 : PySem.W.nsIn K mainGlobals "_law_refused" = some (some (.ref f15)))
    (l15 : K.lookup f15 = some ⟨oc15, od15, .func (PySem.W.fnOf "_law_refused" "_law_refused" (defArgs s__law_refused) (defBody s__law_refused) (defScope s__law_refused) .none kV15 dc15 pm15 an15 cd15 ct15), sl15⟩)
    (c15 : PySem.W.codeIn K cd15 "_law_refused" = true)
    (k15 : PySem.W.keepIn K (.ref f15) = true)
    (a16 : PySem.W.nsIn K mainGlobals "_law_rows" = some (some (.ref f16)))
    (l16 : K.lookup f16 = some ⟨oc16, od16, .func (PySem.W.fnOf "_law_rows" "_law_rows" (defArgs s__law_rows) (defBody s__law_rows) (defScope s__law_rows) .none kV16 dc16 pm16 an16 cd16 ct16), sl16⟩)
    (c16 : PySem.W.codeIn K cd16 "_law_rows" = true)
    (k16 : PySem.W.keepIn K (.ref f16) = true)
    (a17 : PySem.W.nsIn K mainGlobals "_law_lyndon" = some (some (.ref f17)))
    (l17 : K.lookup f17 = some ⟨oc17, od17, .func (PySem.W.fnOf "_law_lyndon" "_law_lyndon" (defArgs s__law_lyndon) (defBody s__law_lyndon) (defScope s__law_lyndon) .none kV17 dc17 pm17 an17 cd17 ct17), sl17⟩)
    (c17 : PySem.W.codeIn K cd17 "_law_lyndon" = true)
    (k17 : PySem.W.keepIn K (.ref f17) = true)
    (a18 : PySem.W.nsIn K mainGlobals "_law_again" = some (some (.ref f18)))
    (l18 : K.lookup f18 = some ⟨oc18, od18, .func (PySem.W.fnOf "_law_again" "_law_again" (defArgs s__law_again) (defBody s__law_again) (defScope s__law_again) .none kV18 dc18 pm18 an18 cd18 ct18), sl18⟩)
    (c18 : PySem.W.codeIn K cd18 "_law_again" = true)
    (k18 : PySem.W.keepIn K (.ref f18) = true)
    (a19 : PySem.W.nsIn K mainGlobals "_law_odd" = some (some (.ref f19)))
    (l19 : K.lookup f19 = some ⟨oc19, od19, .func (PySem.W.fnOf "_law_odd" "_law_odd" (defArgs s__law_odd) (defBody s__law_odd) (defScope s__law_odd) .none kV19 dc19 pm19 an19 cd19 ct19), sl19⟩)
    (c19 : PySem.W.codeIn K cd19 "_law_odd" = true)
    (k19 : PySem.W.keepIn K (.ref f19) = true)
    (a20 : PySem.W.nsIn K mainGlobals "_law_rows_are" = some (some (.ref f20)))
    (l20 : K.lookup f20 = some ⟨oc20, od20, .func (PySem.W.fnOf "_law_rows_are" "_law_rows_are" (defArgs s__law_rows_are) (defBody s__law_rows_are) (defScope s__law_rows_are) .none kV20 dc20 pm20 an20 cd20 ct20), sl20⟩)
    (c20 : PySem.W.codeIn K cd20 "_law_rows_are" = true)
    (k20 : PySem.W.keepIn K (.ref f20) = true)
    (a21 : PySem.W.nsIn K mainGlobals "_law_turns" = some (some (.ref f21)))
    (l21 : K.lookup f21 = some ⟨oc21, od21, .func (PySem.W.fnOf "_law_turns" "_law_turns" (defArgs s__law_turns) (defBody s__law_turns) (defScope s__law_turns) .none kV21 dc21 pm21 an21 cd21 ct21), sl21⟩)
    (c21 : PySem.W.codeIn K cd21 "_law_turns" = true)
    (k21 : PySem.W.keepIn K (.ref f21) = true)
    (a22 : PySem.W.nsIn K mainGlobals "_law_said" = some (some (.ref f22)))
    (l22 : K.lookup f22 = some ⟨oc22, od22, .func (PySem.W.fnOf "_law_said" "_law_said" (defArgs s__law_said) (defBody s__law_said) (defScope s__law_said) .none kV22 dc22 pm22 an22 cd22 ct22), sl22⟩)
    (c22 : PySem.W.codeIn K cd22 "_law_said" = true)
    (k22 : PySem.W.keepIn K (.ref f22) = true)
    (a23 : PySem.W.nsIn K mainGlobals "_law_turned" = some (some (.ref f23)))
    (l23 : K.lookup f23 = some ⟨oc23, od23, .func (PySem.W.fnOf "_law_turned" "_law_turned" (defArgs s__law_turned) (defBody s__law_turned) (defScope s__law_turned) .none kV23 dc23 pm23 an23 cd23 ct23), sl23⟩)
    (c23 : PySem.W.codeIn K cd23 "_law_turned" = true)
    (k23 : PySem.W.keepIn K (.ref f23) = true)
    (a24 : PySem.W.nsIn K mainGlobals "_law_small" = some (some (.ref f24)))
    (l24 : K.lookup f24 = some ⟨oc24, od24, .func (PySem.W.fnOf "_law_small" "_law_small" (defArgs s__law_small) (defBody s__law_small) (defScope s__law_small) .none kV24 dc24 pm24 an24 cd24 ct24), sl24⟩)
    (c24 : PySem.W.codeIn K cd24 "_law_small" = true)
    (k24 : PySem.W.keepIn K (.ref f24) = true)
    (a25 : PySem.W.nsIn K mainGlobals "_law_long_word" = some (some (.ref f25)))
    (l25 : K.lookup f25 = some ⟨oc25, od25, .func (PySem.W.fnOf "_law_long_word" "_law_long_word" (defArgs s__law_long_word) (defBody s__law_long_word) (defScope s__law_long_word) .none kV25 dc25 pm25 an25 cd25 ct25), sl25⟩)
    (c25 : PySem.W.codeIn K cd25 "_law_long_word" = true)
    (k25 : PySem.W.keepIn K (.ref f25) = true)
    (a26 : PySem.W.nsIn K mainGlobals "_law_wrong" = some (some (.ref f26)))
    (l26 : K.lookup f26 = some ⟨oc26, od26, .func (PySem.W.fnOf "_law_wrong" "_law_wrong" (defArgs s__law_wrong) (defBody s__law_wrong) (defScope s__law_wrong) .none kV26 dc26 pm26 an26 (.ref cc26) ct26), sl26⟩)
    (c26 : PySem.W.codeIn K (.ref cc26) "_law_wrong" = true)
    (k26 : PySem.W.keepIn K (.ref f26) = true)
    (a27 : PySem.W.nsIn K mainGlobals "law" = some (some (.ref f27)))
    (l27 : K.lookup f27 = some ⟨oc27, od27, .func (PySem.W.fnOf "law" "law" (defArgs s_law) (defBody s_law) (defScope s_law) .none kV27 dc27 pm27 an27 cd27 ct27), sl27⟩)
    (c27 : PySem.W.codeIn K cd27 "law" = true)
    (k27 : PySem.W.keepIn K (.ref f27) = true)
    (lc26 : K.lookup cc26 = some ⟨ol26, dl26, .fields vs26, zl26⟩)
    (vp26 : (vs26[11]? : Option Value) = some (.ref pp26))
    (tn26 : K.lookup pp26 = none)
    (tr26 : ∃ e, (PyProof.Rows.recsOf qq).find? (fun r => r.name == ("_law_wrong" : Str)) = some e)
    (z_abs : PySem.W.nsIn K mainGlobals "abs" = some none)
    (z_bool : PySem.W.nsIn K mainGlobals "bool" = some none)
    (z_int : PySem.W.nsIn K mainGlobals "int" = some none)
    (z_isinstance : PySem.W.nsIn K mainGlobals "isinstance" = some none)
    (z_len : PySem.W.nsIn K mainGlobals "len" = some none)
    (z_list : PySem.W.nsIn K mainGlobals "list" = some none)
    (z_min : PySem.W.nsIn K mainGlobals "min" = some none)
    (z_range : PySem.W.nsIn K mainGlobals "range" = some none)
    (z_sum : PySem.W.nsIn K mainGlobals "sum" = some none)
    (z_tuple : PySem.W.nsIn K mainGlobals "tuple" = some none)
    (v_CALENDAR : PySem.W.nsIn K mainGlobals "CALENDAR" = some (some (.int 400 t_CALENDAR)))
    (v_DIGITS : PySem.W.nsIn K mainGlobals "DIGITS" = some (some (.int 9 t_DIGITS)))
    (aS : PySem.W.nsIn K mainGlobals "SeldomError" = some (some (.ref C0)))
    (b1 : PySem.W.readsIn K C0 (.type "type") = true)
    (b2 : PySem.W.specialIn K (.ref C0) "__getattribute__" = some (some (.builtin "type.__getattribute__")))
    (b3 : PySem.W.findCls K (.ref C0) (.type "type") "__init__" = some (.val (.builtin "ValueError.__init__")))
    (cg : PySem.W.specialIn K (.builtin "object.__class__") "__get__" = some (some (.builtin "getset_descriptor.__get__")))
    (cT : PySem.W.takesIn K (.builtin "object.__class__") = some true)
    (aCx0 : PySem.W.nsIn K mainGlobals "BadCalendar" = some (some (.ref C_x0)))
    (lkx0 : K.lookup C_x0 = some (excClassObj nm_x0 q_x0 C_x0 N_x0 bs_x0 [.ref C0, .type "ValueError", .type "Exception", .type "BaseException", .type "object"] true sn_x0 sub_x0 ab_x0 col_x0 dd_x0 m0_x0 m1_x0 m2_x0 m3_x0 m5_x0 "ValueError.__new__"))
    (sax0 : PySem.W.findIn K (.ref C_x0) "__setattr__" = some (some (.builtin "object.__setattr__")))
    (eCx0 : PySem.W.subIn K (.ref C_x0) (.type "BaseException") = some true)
    (tCx0 : PySem.W.typeIn K (.ref C_x0) = some (.type "type"))
    (kCx0 : PySem.W.keepIn K (.ref C_x0) = true)
    (gax0 : PySem.W.findIn K (.ref C_x0) "__getattribute__" = some (some (.builtin "BaseException.__getattribute__")))
    (ggx0 : PySem.W.findIn K (.ref C_x0) "__getattr__" = some none)
    (hdx0 : PySem.W.hasDictIn K C_x0 = true)
    (cax0 : PySem.W.findIn K (.ref C_x0) "__class__" = some (some (.builtin "object.__class__")))
    (mox0 : PySem.W.mroIn K C_x0 (.type "object") = some true)
    (nfx0 : PySem.W.findIn K (.ref C_x0) "place" = some none)
    (sfx0 : PySem.W.subIn K (.ref C_x0) (.ref C_x0) = some true)
    (iCx0 : PySem.W.findIn K (.ref C_x0) "__init__" = some (some (.ref fI_x0)))
    (tIx0 : PySem.W.typeIn K (.ref fI_x0) = some (.type "function"))
    (lix0 : K.lookup fI_x0 = some ⟨oc_x0, od_x0, .func (PySem.W.fnOf "__init__" "BadCalendar.__init__" (defArgs i_BadCalendar) (defBody i_BadCalendar) (defScope i_BadCalendar) .none kV_x0 dc_x0 pm_x0 an_x0 cd_x0 ct_x0), sl_x0⟩)
    (cix0 : PySem.W.codeIn K cd_x0 "BadCalendar.__init__" = true)
    (kix0 : PySem.W.keepIn K (.ref fI_x0) = true)
    (aCx1 : PySem.W.nsIn K mainGlobals "BadHouse" = some (some (.ref C_x1)))
    (lkx1 : K.lookup C_x1 = some (excClassObj nm_x1 q_x1 C_x1 N_x1 bs_x1 [.ref C0, .type "ValueError", .type "Exception", .type "BaseException", .type "object"] true sn_x1 sub_x1 ab_x1 col_x1 dd_x1 m0_x1 m1_x1 m2_x1 m3_x1 m5_x1 "ValueError.__new__"))
    (sax1 : PySem.W.findIn K (.ref C_x1) "__setattr__" = some (some (.builtin "object.__setattr__")))
    (eCx1 : PySem.W.subIn K (.ref C_x1) (.type "BaseException") = some true)
    (tCx1 : PySem.W.typeIn K (.ref C_x1) = some (.type "type"))
    (kCx1 : PySem.W.keepIn K (.ref C_x1) = true)
    (gax1 : PySem.W.findIn K (.ref C_x1) "__getattribute__" = some (some (.builtin "BaseException.__getattribute__")))
    (ggx1 : PySem.W.findIn K (.ref C_x1) "__getattr__" = some none)
    (hdx1 : PySem.W.hasDictIn K C_x1 = true)
    (cax1 : PySem.W.findIn K (.ref C_x1) "__class__" = some (some (.builtin "object.__class__")))
    (mox1 : PySem.W.mroIn K C_x1 (.type "object") = some true)
    (nfx1 : PySem.W.findIn K (.ref C_x1) "what" = some none)
    (sfx1 : PySem.W.subIn K (.ref C_x1) (.ref C_x1) = some true)
    (iCx1 : PySem.W.findIn K (.ref C_x1) "__init__" = some (some (.ref fI_x1)))
    (tIx1 : PySem.W.typeIn K (.ref fI_x1) = some (.type "function"))
    (lix1 : K.lookup fI_x1 = some ⟨oc_x1, od_x1, .func (PySem.W.fnOf "__init__" "BadHouse.__init__" (defArgs i_BadHouse) (defBody i_BadHouse) (defScope i_BadHouse) .none kV_x1 dc_x1 pm_x1 an_x1 cd_x1 ct_x1), sl_x1⟩)
    (cix1 : PySem.W.codeIn K cd_x1 "BadHouse.__init__" = true)
    (kix1 : PySem.W.keepIn K (.ref fI_x1) = true)
    (aCx2 : PySem.W.nsIn K mainGlobals "BadShare" = some (some (.ref C_x2)))
    (lkx2 : K.lookup C_x2 = some (excClassObj nm_x2 q_x2 C_x2 N_x2 bs_x2 [.ref C0, .type "ValueError", .type "Exception", .type "BaseException", .type "object"] true sn_x2 sub_x2 ab_x2 col_x2 dd_x2 m0_x2 m1_x2 m2_x2 m3_x2 m5_x2 "ValueError.__new__"))
    (sax2 : PySem.W.findIn K (.ref C_x2) "__setattr__" = some (some (.builtin "object.__setattr__")))
    (eCx2 : PySem.W.subIn K (.ref C_x2) (.type "BaseException") = some true)
    (tCx2 : PySem.W.typeIn K (.ref C_x2) = some (.type "type"))
    (kCx2 : PySem.W.keepIn K (.ref C_x2) = true)
    (gax2 : PySem.W.findIn K (.ref C_x2) "__getattribute__" = some (some (.builtin "BaseException.__getattribute__")))
    (ggx2 : PySem.W.findIn K (.ref C_x2) "__getattr__" = some none)
    (hdx2 : PySem.W.hasDictIn K C_x2 = true)
    (cax2 : PySem.W.findIn K (.ref C_x2) "__class__" = some (some (.builtin "object.__class__")))
    (mox2 : PySem.W.mroIn K C_x2 (.type "object") = some true)
    (nfx2 : PySem.W.findIn K (.ref C_x2) "what" = some none)
    (sfx2 : PySem.W.subIn K (.ref C_x2) (.ref C_x2) = some true)
    (iCx2 : PySem.W.findIn K (.ref C_x2) "__init__" = some (some (.ref fI_x2)))
    (tIx2 : PySem.W.typeIn K (.ref fI_x2) = some (.type "function"))
    (lix2 : K.lookup fI_x2 = some ⟨oc_x2, od_x2, .func (PySem.W.fnOf "__init__" "BadShare.__init__" (defArgs i_BadShare) (defBody i_BadShare) (defScope i_BadShare) .none kV_x2 dc_x2 pm_x2 an_x2 cd_x2 ct_x2), sl_x2⟩)
    (cix2 : PySem.W.codeIn K cd_x2 "BadShare.__init__" = true)
    (kix2 : PySem.W.keepIn K (.ref fI_x2) = true)
    (aCx3 : PySem.W.nsIn K mainGlobals "BadTable" = some (some (.ref C_x3)))
    (lkx3 : K.lookup C_x3 = some (excClassObj nm_x3 q_x3 C_x3 N_x3 bs_x3 [.ref C0, .type "ValueError", .type "Exception", .type "BaseException", .type "object"] true sn_x3 sub_x3 ab_x3 col_x3 dd_x3 m0_x3 m1_x3 m2_x3 m3_x3 m5_x3 "ValueError.__new__"))
    (sax3 : PySem.W.findIn K (.ref C_x3) "__setattr__" = some (some (.builtin "object.__setattr__")))
    (eCx3 : PySem.W.subIn K (.ref C_x3) (.type "BaseException") = some true)
    (tCx3 : PySem.W.typeIn K (.ref C_x3) = some (.type "type"))
    (kCx3 : PySem.W.keepIn K (.ref C_x3) = true)
    (gax3 : PySem.W.findIn K (.ref C_x3) "__getattribute__" = some (some (.builtin "BaseException.__getattribute__")))
    (ggx3 : PySem.W.findIn K (.ref C_x3) "__getattr__" = some none)
    (hdx3 : PySem.W.hasDictIn K C_x3 = true)
    (cax3 : PySem.W.findIn K (.ref C_x3) "__class__" = some (some (.builtin "object.__class__")))
    (mox3 : PySem.W.mroIn K C_x3 (.type "object") = some true)
    (nfx3 : PySem.W.findIn K (.ref C_x3) "what" = some none)
    (sfx3 : PySem.W.subIn K (.ref C_x3) (.ref C_x3) = some true)
    (iCx3 : PySem.W.findIn K (.ref C_x3) "__init__" = some (some (.ref fI_x3)))
    (tIx3 : PySem.W.typeIn K (.ref fI_x3) = some (.type "function"))
    (lix3 : K.lookup fI_x3 = some ⟨oc_x3, od_x3, .func (PySem.W.fnOf "__init__" "BadTable.__init__" (defArgs i_BadTable) (defBody i_BadTable) (defScope i_BadTable) .none kV_x3 dc_x3 pm_x3 an_x3 cd_x3 ct_x3), sl_x3⟩)
    (cix3 : PySem.W.codeIn K cd_x3 "BadTable.__init__" = true)
    (kix3 : PySem.W.keepIn K (.ref fI_x3) = true)
    (aCx4 : PySem.W.nsIn K mainGlobals "BadWeek" = some (some (.ref C_x4)))
    (lkx4 : K.lookup C_x4 = some (excClassObj nm_x4 q_x4 C_x4 N_x4 bs_x4 [.ref C0, .type "ValueError", .type "Exception", .type "BaseException", .type "object"] true sn_x4 sub_x4 ab_x4 col_x4 dd_x4 m0_x4 m1_x4 m2_x4 m3_x4 m5_x4 "ValueError.__new__"))
    (sax4 : PySem.W.findIn K (.ref C_x4) "__setattr__" = some (some (.builtin "object.__setattr__")))
    (eCx4 : PySem.W.subIn K (.ref C_x4) (.type "BaseException") = some true)
    (tCx4 : PySem.W.typeIn K (.ref C_x4) = some (.type "type"))
    (kCx4 : PySem.W.keepIn K (.ref C_x4) = true)
    (gax4 : PySem.W.findIn K (.ref C_x4) "__getattribute__" = some (some (.builtin "BaseException.__getattribute__")))
    (ggx4 : PySem.W.findIn K (.ref C_x4) "__getattr__" = some none)
    (hdx4 : PySem.W.hasDictIn K C_x4 = true)
    (cax4 : PySem.W.findIn K (.ref C_x4) "__class__" = some (some (.builtin "object.__class__")))
    (mox4 : PySem.W.mroIn K C_x4 (.type "object") = some true)
    (nfx4 : PySem.W.findIn K (.ref C_x4) "day" = some none)
    (sfx4 : PySem.W.subIn K (.ref C_x4) (.ref C_x4) = some true)
    (iCx4 : PySem.W.findIn K (.ref C_x4) "__init__" = some (some (.ref fI_x4)))
    (tIx4 : PySem.W.typeIn K (.ref fI_x4) = some (.type "function"))
    (lix4 : K.lookup fI_x4 = some ⟨oc_x4, od_x4, .func (PySem.W.fnOf "__init__" "BadWeek.__init__" (defArgs i_BadWeek) (defBody i_BadWeek) (defScope i_BadWeek) .none kV_x4 dc_x4 pm_x4 an_x4 cd_x4 ct_x4), sl_x4⟩)
    (cix4 : PySem.W.codeIn K cd_x4 "BadWeek.__init__" = true)
    (kix4 : PySem.W.keepIn K (.ref fI_x4) = true)
    (aCx5 : PySem.W.nsIn K mainGlobals "TooMany" = some (some (.ref C_x5)))
    (lkx5 : K.lookup C_x5 = some (excClassObj nm_x5 q_x5 C_x5 N_x5 bs_x5 [.ref C0, .type "ValueError", .type "Exception", .type "BaseException", .type "object"] true sn_x5 sub_x5 ab_x5 col_x5 dd_x5 m0_x5 m1_x5 m2_x5 m3_x5 m5_x5 "ValueError.__new__"))
    (sax5 : PySem.W.findIn K (.ref C_x5) "__setattr__" = some (some (.builtin "object.__setattr__")))
    (eCx5 : PySem.W.subIn K (.ref C_x5) (.type "BaseException") = some true)
    (tCx5 : PySem.W.typeIn K (.ref C_x5) = some (.type "type"))
    (kCx5 : PySem.W.keepIn K (.ref C_x5) = true)
    (gax5 : PySem.W.findIn K (.ref C_x5) "__getattribute__" = some (some (.builtin "BaseException.__getattribute__")))
    (ggx5 : PySem.W.findIn K (.ref C_x5) "__getattr__" = some none)
    (hdx5 : PySem.W.hasDictIn K C_x5 = true)
    (cax5 : PySem.W.findIn K (.ref C_x5) "__class__" = some (some (.builtin "object.__class__")))
    (mox5 : PySem.W.mroIn K C_x5 (.type "object") = some true)
    (nfx5 : PySem.W.findIn K (.ref C_x5) "what" = some none)
    (sfx5 : PySem.W.subIn K (.ref C_x5) (.ref C_x5) = some true)
    (iCx5 : PySem.W.findIn K (.ref C_x5) "__init__" = some (some (.ref fI_x5)))
    (tIx5 : PySem.W.typeIn K (.ref fI_x5) = some (.type "function"))
    (lix5 : K.lookup fI_x5 = some ⟨oc_x5, od_x5, .func (PySem.W.fnOf "__init__" "TooMany.__init__" (defArgs i_TooMany) (defBody i_TooMany) (defScope i_TooMany) .none kV_x5 dc_x5 pm_x5 an_x5 cd_x5 ct_x5), sl_x5⟩)
    (cix5 : PySem.W.codeIn K cd_x5 "TooMany.__init__" = true)
    (kix5 : PySem.W.keepIn K (.ref fI_x5) = true)
    (sb_x0_x1 : PySem.W.subIn K (.ref C_x0) (.ref C_x1) = some false)
    (sb_x0_x2 : PySem.W.subIn K (.ref C_x0) (.ref C_x2) = some false)
    (sb_x0_x3 : PySem.W.subIn K (.ref C_x0) (.ref C_x3) = some false)
    (sb_x0_x4 : PySem.W.subIn K (.ref C_x0) (.ref C_x4) = some false)
    (sb_x0_x5 : PySem.W.subIn K (.ref C_x0) (.ref C_x5) = some false)
    (sb_x5_x0 : PySem.W.subIn K (.ref C_x5) (.ref C_x0) = some false)
    (sb_x5_x1 : PySem.W.subIn K (.ref C_x5) (.ref C_x1) = some false)
    (sb_x5_x2 : PySem.W.subIn K (.ref C_x5) (.ref C_x2) = some false)
    (sb_x5_x3 : PySem.W.subIn K (.ref C_x5) (.ref C_x3) = some false)
    (sb_x5_x4 : PySem.W.subIn K (.ref C_x5) (.ref C_x4) = some false)
    (hlaw : ∀ ns : List Int, ns.length ≤ 63 → ∃ o, m_law [.imm (.rls (ns.map .int))] = .ok (.imm (.bl true)) o) :
    ∃ (fd : FuncData) (cs : List (Addr × Addr)) (T : List (Addr × Str)), (∀ p ∈ cs, PySem.W.CodeHd h p.1 p.2 ∧ h.get? p.2 = some (PySem.W.tabObj #[])) ∧ (∀ p ∈ cs, K.lookup p.2 = none) ∧ (∀ p ∈ T, ∃ c, (c, p.1) ∈ cs) ∧ (∀ (s : Shared) (v : Value), BindsTo s fd ⟨[v], []⟩ [("script", v)]) ∧ ∀ base : Heap, K.In base → base.Ns mainGlobals mg → (∀ p ∈ cs, LamX.TabB base mg p.1 p.2) → ∀ Wp : Addr → Prop, FnOk l.prog w K mg base (L2.CX l.prog w) 10 fa fd ["script"] (@spLaw ⟨T, Wp⟩ K) := by
  have e := hfa.symm.trans (PySem.W.mg_of X G a27)
  cases e
  haveI i0 : TbT := ⟨[], fun _ => False⟩
  have hS := PySem.W.mg_of X G aS
  have B : BaseI K C0 := ⟨b1, b2, b3⟩
  have FI_x0 := fun_mk (st := i_BadCalendar) lix0 cix0 kix0
  have BI_x0 := FI_x0.binds (ps := ["self", "place"]) fun _ _ _ _ _ _ us hl => match us, hl with | [_, _], _ => rfl
  have X_x0 : ∀ base : Heap, ExM l.prog w K mg base 2 "BadCalendar" "place" C_x0 := fun base => ExM.of_facts (PySem.W.mg_of X G aCx0) lkx0 (by rfl) sax0 eCx0 tCx0 kCx0 gax0 ggx0 hdx0 cax0 cg cT mox0 nfx0 sfx0 iCx0 tIx0 (oki_BadCalendar hS B FI_x0 nfx0) BI_x0
  have FI_x1 := fun_mk (st := i_BadHouse) lix1 cix1 kix1
  have BI_x1 := FI_x1.binds (ps := ["self", "what"]) fun _ _ _ _ _ _ us hl => match us, hl with | [_, _], _ => rfl
  have X_x1 : ∀ base : Heap, ExM l.prog w K mg base 2 "BadHouse" "what" C_x1 := fun base => ExM.of_facts (PySem.W.mg_of X G aCx1) lkx1 (by rfl) sax1 eCx1 tCx1 kCx1 gax1 ggx1 hdx1 cax1 cg cT mox1 nfx1 sfx1 iCx1 tIx1 (oki_BadHouse hS B FI_x1 nfx1) BI_x1
  have FI_x2 := fun_mk (st := i_BadShare) lix2 cix2 kix2
  have BI_x2 := FI_x2.binds (ps := ["self", "what"]) fun _ _ _ _ _ _ us hl => match us, hl with | [_, _], _ => rfl
  have X_x2 : ∀ base : Heap, ExM l.prog w K mg base 2 "BadShare" "what" C_x2 := fun base => ExM.of_facts (PySem.W.mg_of X G aCx2) lkx2 (by rfl) sax2 eCx2 tCx2 kCx2 gax2 ggx2 hdx2 cax2 cg cT mox2 nfx2 sfx2 iCx2 tIx2 (oki_BadShare hS B FI_x2 nfx2) BI_x2
  have FI_x3 := fun_mk (st := i_BadTable) lix3 cix3 kix3
  have BI_x3 := FI_x3.binds (ps := ["self", "what"]) fun _ _ _ _ _ _ us hl => match us, hl with | [_, _], _ => rfl
  have X_x3 : ∀ base : Heap, ExM l.prog w K mg base 2 "BadTable" "what" C_x3 := fun base => ExM.of_facts (PySem.W.mg_of X G aCx3) lkx3 (by rfl) sax3 eCx3 tCx3 kCx3 gax3 ggx3 hdx3 cax3 cg cT mox3 nfx3 sfx3 iCx3 tIx3 (oki_BadTable hS B FI_x3 nfx3) BI_x3
  have FI_x4 := fun_mk (st := i_BadWeek) lix4 cix4 kix4
  have BI_x4 := FI_x4.binds (ps := ["self", "day"]) fun _ _ _ _ _ _ us hl => match us, hl with | [_, _], _ => rfl
  have X_x4 : ∀ base : Heap, ExM l.prog w K mg base 2 "BadWeek" "day" C_x4 := fun base => ExM.of_facts (PySem.W.mg_of X G aCx4) lkx4 (by rfl) sax4 eCx4 tCx4 kCx4 gax4 ggx4 hdx4 cax4 cg cT mox4 nfx4 sfx4 iCx4 tIx4 (oki_BadWeek hS B FI_x4 nfx4) BI_x4
  have FI_x5 := fun_mk (st := i_TooMany) lix5 cix5 kix5
  have BI_x5 := FI_x5.binds (ps := ["self", "what"]) fun _ _ _ _ _ _ us hl => match us, hl with | [_, _], _ => rfl
  have X_x5 : ∀ base : Heap, ExM l.prog w K mg base 2 "TooMany" "what" C_x5 := fun base => ExM.of_facts (PySem.W.mg_of X G aCx5) lkx5 (by rfl) sax5 eCx5 tCx5 kCx5 gax5 ggx5 hdx5 cax5 cg cT mox5 nfx5 sfx5 iCx5 tIx5 (oki_TooMany hS B FI_x5 nfx5) BI_x5
  have T : ∀ base : Heap, Txt l.prog w K mg base (fun i => if i = 0 then C_x0 else if i = 1 then C_x1 else if i = 2 then C_x2 else if i = 3 then C_x3 else if i = 4 then C_x4 else if i = 5 then C_x5 else 0) := fun base => {
    n_abs := PySem.W.mg_none_of X G z_abs
    n_bool := PySem.W.mg_none_of X G z_bool
    n_int := PySem.W.mg_none_of X G z_int
    n_isinstance := PySem.W.mg_none_of X G z_isinstance
    n_len := PySem.W.mg_none_of X G z_len
    n_list := PySem.W.mg_none_of X G z_list
    n_min := PySem.W.mg_none_of X G z_min
    n_range := PySem.W.mg_none_of X G z_range
    n_sum := PySem.W.mg_none_of X G z_sum
    n_tuple := PySem.W.mg_none_of X G z_tuple
    k_CALENDAR := ⟨_, PySem.W.mg_of X G v_CALENDAR⟩
    k_DIGITS := ⟨_, PySem.W.mg_of X G v_DIGITS⟩
    x_BadCalendar := X_x0 base
    x_BadHouse := X_x1 base
    x_BadShare := X_x2 base
    x_BadTable := X_x3 base
    x_BadWeek := X_x4 base
    x_TooMany := X_x5 base
    ex_BadCalendar_BadHouse := PySem.W.exm_ref eCx1 hdx1 tCx1 sb_x0_x1
    ex_BadCalendar_BadShare := PySem.W.exm_ref eCx2 hdx2 tCx2 sb_x0_x2
    ex_BadCalendar_BadTable := PySem.W.exm_ref eCx3 hdx3 tCx3 sb_x0_x3
    ex_BadCalendar_BadWeek := PySem.W.exm_ref eCx4 hdx4 tCx4 sb_x0_x4
    ex_BadCalendar_TooMany := PySem.W.exm_ref eCx5 hdx5 tCx5 sb_x0_x5
    ex_TooMany_BadCalendar := PySem.W.exm_ref eCx0 hdx0 tCx0 sb_x5_x0
    ex_TooMany_BadHouse := PySem.W.exm_ref eCx1 hdx1 tCx1 sb_x5_x1
    ex_TooMany_BadShare := PySem.W.exm_ref eCx2 hdx2 tCx2 sb_x5_x2
    ex_TooMany_BadTable := PySem.W.exm_ref eCx3 hdx3 tCx3 sb_x5_x3
    ex_TooMany_BadWeek := PySem.W.exm_ref eCx4 hdx4 tCx4 sb_x5_x4
  }
  have F0 := fun_mk (st := s_is_whole) l0 c0 k0
  have N0 : FnT K mg "is_whole" s_is_whole ["value"] := ⟨f0, _, F0, PySem.W.mg_of X G a0, F0.binds (ps := ["value"]) fun _ _ _ _ _ _ us hl => match us, hl with | [_], _ => rfl⟩
  have F1 := fun_mk (st := s_whole_from) l1 c1 k1
  have N1 : FnT K mg "whole_from" s_whole_from ["value", "least"] := ⟨f1, _, F1, PySem.W.mg_of X G a1, F1.binds (ps := ["value", "least"]) fun _ _ _ _ _ _ us hl => match us, hl with | [_, _], _ => rfl⟩
  have F2 := fun_mk (st := s_check_calendar) l2 c2 k2
  have N2 : FnT K mg "check_calendar" s_check_calendar ["digits", "most"] := ⟨f2, _, F2, PySem.W.mg_of X G a2, F2.binds (ps := ["digits", "most"]) fun _ _ _ _ _ _ us hl => match us, hl with | [_, _], _ => rfl⟩
  have F3 := fun_mk (st := s_check_most) l3 c3 k3
  have N3 : FnT K mg "check_most" s_check_most ["what", "many", "most"] := ⟨f3, _, F3, PySem.W.mg_of X G a3, F3.binds (ps := ["what", "many", "most"]) fun _ _ _ _ _ _ us hl => match us, hl with | [_, _, _], _ => rfl⟩
  have F4 := fun_mk (st := s_check_word) l4 c4 k4
  have N4 : FnT K mg "check_word" s_check_word ["word"] := ⟨f4, _, F4, PySem.W.mg_of X G a4, F4.binds (ps := ["word"]) fun _ _ _ _ _ _ us hl => match us, hl with | [_], _ => rfl⟩
  have F5 := fun_mk (st := s_turn_at) l5 c5 k5
  have N5 : FnT K mg "turn_at" s_turn_at ["word", "place"] := ⟨f5, _, F5, PySem.W.mg_of X G a5, F5.binds (ps := ["word", "place"]) fun _ _ _ _ _ _ us hl => match us, hl with | [_, _], _ => rfl⟩
  have F6 := fun_mk (st := s_turns_of) l6 c6 k6
  have N6 : FnT K mg "turns_of" s_turns_of ["word"] := ⟨f6, _, F6, PySem.W.mg_of X G a6, F6.binds (ps := ["word"]) fun _ _ _ _ _ _ us hl => match us, hl with | [_], _ => rfl⟩
  have F7 := fun_mk (st := s_first_unlike) l7 c7 k7
  have N7 : FnT K mg "first_unlike" s_first_unlike ["one", "other"] := ⟨f7, _, F7, PySem.W.mg_of X G a7, F7.binds (ps := ["one", "other"]) fun _ _ _ _ _ _ us hl => match us, hl with | [_, _], _ => rfl⟩
  have F8 := fun_mk (st := s_row_below) l8 c8 k8
  have N8 : FnT K mg "row_below" s_row_below ["one", "other"] := ⟨f8, _, F8, PySem.W.mg_of X G a8, F8.binds (ps := ["one", "other"]) fun _ _ _ _ _ _ us hl => match us, hl with | [_, _], _ => rfl⟩
  have F9 := fun_mk (st := s_is_lyndon) l9 c9 k9
  have N9 : FnT K mg "is_lyndon" s_is_lyndon ["word"] := ⟨f9, _, F9, PySem.W.mg_of X G a9, F9.binds (ps := ["word"]) fun _ _ _ _ _ _ us hl => match us, hl with | [_], _ => rfl⟩
  have F10 := fun_mk (st := s__law_purse) l10 c10 k10
  have N10 : FnT K mg "_law_purse" s__law_purse ["script", "at"] := ⟨f10, _, F10, PySem.W.mg_of X G a10, F10.binds (ps := ["script", "at"]) fun _ _ _ _ _ _ us hl => match us, hl with | [_, _], _ => rfl⟩
  have F11 := fun_mk (st := s__law_draw) l11 c11 k11
  have N11 : FnT K mg "_law_draw" s__law_draw ["purse", "many"] := ⟨f11, _, F11, PySem.W.mg_of X G a11, F11.binds (ps := ["purse", "many"]) fun _ _ _ _ _ _ us hl => match us, hl with | [_, _], _ => rfl⟩
  have F12 := fun_mk (st := s__law_whole) l12 c12 k12
  have N12 : FnT K mg "_law_whole" s__law_whole ["value"] := ⟨f12, _, F12, PySem.W.mg_of X G a12, F12.binds (ps := ["value"]) fun _ _ _ _ _ _ us hl => match us, hl with | [_], _ => rfl⟩
  have F13 := fun_mk (st := s__law_number_is) l13 c13 k13
  have N13 : FnT K mg "_law_number_is" s__law_number_is ["told", "due"] := ⟨f13, _, F13, PySem.W.mg_of X G a13, F13.binds (ps := ["told", "due"]) fun _ _ _ _ _ _ us hl => match us, hl with | [_, _], _ => rfl⟩
  have F14 := fun_mk (st := s__law_row_is) l14 c14 k14
  have N14 : FnT K mg "_law_row_is" s__law_row_is ["told", "due"] := ⟨f14, _, F14, PySem.W.mg_of X G a14, F14.binds (ps := ["told", "due"]) fun _ _ _ _ _ _ us hl => match us, hl with | [_, _], _ => rfl⟩
  have F15 := fun_mk (st := s__law_refused) l15 c15 k15
  have N15 : FnT K mg "_law_refused" s__law_refused ["run", "name", "value"] := ⟨f15, _, F15, PySem.W.mg_of X G a15, F15.binds (ps := ["run", "name", "value"]) fun _ _ _ _ _ _ us hl => match us, hl with | [_, _, _], _ => rfl⟩
  have F16 := fun_mk (st := s__law_rows) l16 c16 k16
  have N16 : FnT K mg "_law_rows" s__law_rows ["most", "length"] := ⟨f16, _, F16, PySem.W.mg_of X G a16, F16.binds (ps := ["most", "length"]) fun _ _ _ _ _ _ us hl => match us, hl with | [_, _], _ => rfl⟩
  have F17 := fun_mk (st := s__law_lyndon) l17 c17 k17
  have N17 : FnT K mg "_law_lyndon" s__law_lyndon ["word"] := ⟨f17, _, F17, PySem.W.mg_of X G a17, F17.binds (ps := ["word"]) fun _ _ _ _ _ _ us hl => match us, hl with | [_], _ => rfl⟩
  have F18 := fun_mk (st := s__law_again) l18 c18 k18
  have N18 : FnT K mg "_law_again" s__law_again ["word", "first", "many"] := ⟨f18, _, F18, PySem.W.mg_of X G a18, F18.binds (ps := ["word", "first", "many"]) fun _ _ _ _ _ _ us hl => match us, hl with | [_, _, _], _ => rfl⟩
  have F19 := fun_mk (st := s__law_odd) l19 c19 k19
  have N19 : FnT K mg "_law_odd" s__law_odd ["purse", "most"] := ⟨f19, _, F19, PySem.W.mg_of X G a19, F19.binds (ps := ["purse", "most"]) fun _ _ _ _ _ _ us hl => match us, hl with | [_, _], _ => rfl⟩
  have F20 := fun_mk (st := s__law_rows_are) l20 c20 k20
  have N20 : FnT K mg "_law_rows_are" s__law_rows_are ["told", "due"] := ⟨f20, _, F20, PySem.W.mg_of X G a20, F20.binds (ps := ["told", "due"]) fun _ _ _ _ _ _ us hl => match us, hl with | [_, _], _ => rfl⟩
  have F21 := fun_mk (st := s__law_turns) l21 c21 k21
  have N21 : FnT K mg "_law_turns" s__law_turns ["word"] := ⟨f21, _, F21, PySem.W.mg_of X G a21, F21.binds (ps := ["word"]) fun _ _ _ _ _ _ us hl => match us, hl with | [_], _ => rfl⟩
  have F22 := fun_mk (st := s__law_said) l22 c22 k22
  have N22 : FnT K mg "_law_said" s__law_said ["word"] := ⟨f22, _, F22, PySem.W.mg_of X G a22, F22.binds (ps := ["word"]) fun _ _ _ _ _ _ us hl => match us, hl with | [_], _ => rfl⟩
  have F23 := fun_mk (st := s__law_turned) l23 c23 k23
  have N23 : FnT K mg "_law_turned" s__law_turned ["word"] := ⟨f23, _, F23, PySem.W.mg_of X G a23, F23.binds (ps := ["word"]) fun _ _ _ _ _ _ us hl => match us, hl with | [_], _ => rfl⟩
  have F24 := fun_mk (st := s__law_small) l24 c24 k24
  have N24 : FnT K mg "_law_small" s__law_small ["purse"] := ⟨f24, _, F24, PySem.W.mg_of X G a24, F24.binds (ps := ["purse"]) fun _ _ _ _ _ _ us hl => match us, hl with | [_], _ => rfl⟩
  have F25 := fun_mk (st := s__law_long_word) l25 c25 k25
  have N25 : FnT K mg "_law_long_word" s__law_long_word ["purse"] := ⟨f25, _, F25, PySem.W.mg_of X G a25, F25.binds (ps := ["purse"]) fun _ _ _ _ _ _ us hl => match us, hl with | [_], _ => rfl⟩
  have tb26 : PySem.W.tabIn K "_law_wrong" = some (cc26, pp26) := by
    unfold PySem.W.tabIn
    simp only [a26, l26, lc26, vp26, PySem.W.fnOf]
  obtain ⟨e26, tr26⟩ := tr26
  have th26 := htab e26 "_law_wrong" cc26 pp26 tr26 tb26
  have N26 : FnC K mg "_law_wrong" s__law_wrong ["purse", "word"] cc26 := ⟨f26, _, _, _, _, _, _, _, _, l26, c26, k26, PySem.W.mg_of X G a26, (fun_mk (st := s__law_wrong) l26 c26 k26).binds (ps := ["purse", "word"]) fun _ _ _ _ _ _ us hl => match us, hl with | [_, _], _ => rfl⟩
  refine ⟨PySem.W.fnOf "law" "law" (defArgs s_law) (defBody s_law) (defScope s_law) .none kV27 dc27 pm27 an27 cd27 ct27, [(cc26, pp26)], [(pp26, lamN "_law_wrong" s__law_wrong)], fun p hp => by rw [List.mem_singleton.mp hp]; exact th26, fun p hp => by rw [List.mem_singleton.mp hp]; exact tn26, fun p hp => by rw [List.mem_singleton.mp hp]; exact ⟨_, List.mem_cons_self⟩, fun s v => .of_eq rfl, fun base _ _ TB Wp => ?_⟩
  clear i0
  letI i1 : TbT := ⟨[(pp26, lamN "_law_wrong" s__law_wrong)], Wp⟩
  have mT26 : (pp26, lamN "_law_wrong" s__law_wrong) ∈ TbT.T := List.mem_cons_self
  have uT26 : ∀ p ∈ TbT.T, p.1 = pp26 → p.2 = lamN "_law_wrong" s__law_wrong := fun p hp _ => by rw [List.mem_singleton.mp hp]
  have TB26 := TB _ List.mem_cons_self
  have O_is_whole := ok_is_whole (T base) N0 
  have O_turn_at := ok_turn_at (T base) N5 
  have O_first_unlike := ok_first_unlike (T base) N7 
  have O__law_purse := ok__law_purse (T base) N10 
  have O__law_draw := ok__law_draw (T base) N11 
  have O__law_whole := ok__law_whole (T base) N12 
  have Q__law_whole := okq__law_whole (T base) N12 
  have O__law_rows := ok__law_rows (T base) N16 
  have O__law_lyndon := ok__law_lyndon (T base) N17 
  have O__law_again := ok__law_again (T base) N18 
  have O__law_turns := ok__law_turns (T base) N21 
  have O_whole_from := ok_whole_from (T base) N1 O_is_whole
  have O_row_below := ok_row_below (T base) N8 O_first_unlike
  have O__law_number_is := ok__law_number_is (T base) N13 O__law_whole
  have Q__law_number_is := okq__law_number_is (T base) N13 Q__law_whole
  have O__law_row_is := ok__law_row_is (T base) N14 O__law_whole
  have O__law_odd := ok__law_odd (T base) N19 O__law_draw
  have O__law_long_word := ok__law_long_word (T base) N25 O__law_again O__law_draw O__law_turns
  have O__law_rows_are := ok__law_rows_are (T base) N20 O__law_row_is
  have O_check_calendar := ok_check_calendar (T base) N2 O_whole_from
  have O_check_most := ok_check_most (T base) N3 
  have O_check_word := ok_check_word (T base) N4 O_check_calendar O_check_most
  have O_turns_of := ok_turns_of (T base) N6 O_check_word O_turn_at
  have O_is_lyndon := ok_is_lyndon (T base) N9 O_check_word O_row_below O_turn_at
  have O__law_refused := ok__law_refused (T base) N15 Q__law_number_is
  have O__law_said := ok__law_said (T base) N22 O__law_lyndon O_is_lyndon
  have O__law_turned := ok__law_turned (T base) N23 O__law_rows_are O__law_turns O_turns_of
  have O__law_small := ok__law_small (T base) N24 O__law_draw O__law_rows O__law_said O__law_turned
  have O__law_wrong := ok__law_wrong (T base) N26 TB26 mT26 uT26 O__law_draw O__law_odd O__law_refused O_is_lyndon O_turns_of
  exact (ok_law (T base) (fun_mk (st := s_law) l27 c27 k27) O__law_long_word O__law_purse O__law_said O__law_small O__law_turned O__law_wrong).imp (law_end hlaw)
end Lw
end

section
set_option Elab.async false
set_option linter.all false
set_option maxRecDepth 100000
set_option maxHeartbeats 4000000
set_option autoImplicit false
open PySem L2 Cv
namespace Lw
variable [TbT]
/-- a purse -/
abbrev pu (a b c : Int) : D := .lst [.int a, .int b, .int c]
theorem r_draw (a b c many : Int) (hm : 0 < many) (hs : many < 18446744073709551616) : ∃ r a' b' c', 0 ≤ r ∧ r < many ∧
    m__law_draw [.par (.lst [.int a, .int b, .int c]), .imm (.int many)] = .ok (.imm (.int r)) [.par (.lst [.int a', .int b', .int c']), .imm (.int many)] := by
  by_cases h : 0 < a
  · refine ⟨a % many, a / many, b, c, Int.emod_nonneg _ (by omega), Int.emod_lt_of_pos _ hm, ?_⟩
    simp [m__law_draw, b__law_draw, uVar, uCut, uTup, uK, kU, pK, pTupL, fCatV, itemsM, eRun, sAsgFre, MO.flatL, sAsgRV, sSpoil3, dEqS, pLam, mDef, outsOf, sSeq, sIf, sDrop, sRet, sRetN, sRetF, sRetO, sAsg, sAsgF, sAsgR, sPar, sSetIx, sAugIx, sAug, sRaise, sNext, sBrk, sCont, sFor, sSpoilA, sSpoilP, sTry, sHand, Fl.clr, suRet, suRetT, xFld, xC, liftP, liftT, okF, Res.bind, RP.bind, Res.of, RP.of, pVar, pC, p1, p2, pN, pAnd, pOr, pIf, pNil, pCons, pTup, pLst, pCall, qB, qAnd, qOr, qNot, dNot, eVar, Cv.e1, Cv.e2, eAnd, eOr, eIf, tBm, tAndm, tOrm, tNotm, vNil, vCons, aNil, aV, aS, eTup, fLst, eOfF, cOfF, cOfE, cVar, rNil, rE, rF, td_lst, mf_lst, dSub, dAdd, dFdiv, dMod, dNeg, dLt, dLe, dGt, dGe, dIsN, dNotN, dInt, dAbs, dMin2, dMax2, dLen, tyName, dIsi, dIx, eIx, cIx, cS, cL, sLen, sSum, lAll, kVar, kLst, kRep, kCat, kCut, fOfK, fCut, oNo, oI, fListP, itemsD, Sl.mo, Sl.put, ownL, setL, eApp, ePop, ePopAt, gN, gT, gsNil, gsCons, iR1, iR2, iLst, iTupl, eCall, fCall, slotsOf, argSl, putB, wCallT, eOfW, fOfW, unfre, qVar, qIx, freAt, lstOf, fl_non, fl_bl, fl_int, fl_str, fl_lst, fl_tup, fl_rls, tYesm, atI, ixN, h, hm, cdivW_of hm hs]
  · refine ⟨((b * 48271 + (c + 1) * 69621) % 2147483647 * 16807 + (c + 1) * 7919) % 2147483629 / 8 % many, a, (b * 48271 + (c + 1) * 69621) % 2147483647, c + 1, Int.emod_nonneg _ (by omega), Int.emod_lt_of_pos _ hm, ?_⟩
    simp [m__law_draw, b__law_draw, uVar, uCut, uTup, uK, kU, pK, pTupL, fCatV, itemsM, eRun, sAsgFre, MO.flatL, sAsgRV, sSpoil3, dEqS, pLam, mDef, outsOf, sSeq, sIf, sDrop, sRet, sRetN, sRetF, sRetO, sAsg, sAsgF, sAsgR, sPar, sSetIx, sAugIx, sAug, sRaise, sNext, sBrk, sCont, sFor, sSpoilA, sSpoilP, sTry, sHand, Fl.clr, suRet, suRetT, xFld, xC, liftP, liftT, okF, Res.bind, RP.bind, Res.of, RP.of, pVar, pC, p1, p2, pN, pAnd, pOr, pIf, pNil, pCons, pTup, pLst, pCall, qB, qAnd, qOr, qNot, dNot, eVar, Cv.e1, Cv.e2, eAnd, eOr, eIf, tBm, tAndm, tOrm, tNotm, vNil, vCons, aNil, aV, aS, eTup, fLst, eOfF, cOfF, cOfE, cVar, rNil, rE, rF, td_lst, mf_lst, dSub, dAdd, dFdiv, dMod, dNeg, dLt, dLe, dGt, dGe, dIsN, dNotN, dInt, dAbs, dMin2, dMax2, dLen, tyName, dIsi, dIx, eIx, cIx, cS, cL, sLen, sSum, lAll, kVar, kLst, kRep, kCat, kCut, fOfK, fCut, oNo, oI, fListP, itemsD, Sl.mo, Sl.put, ownL, setL, eApp, ePop, ePopAt, gN, gT, gsNil, gsCons, iR1, iR2, iLst, iTupl, eCall, fCall, slotsOf, argSl, putB, wCallT, eOfW, fOfW, unfre, qVar, qIx, freAt, lstOf, fl_non, fl_bl, fl_int, fl_str, fl_lst, fl_tup, fl_rls, tYesm, atI, ixN, h, hm, dMul_r, cdivW_of]
theorem cut_ints (ns : List Int) (lo hi : Option Int) : ∃ ms : List Int, cutD (ns.map .int) lo hi = ms.map .int ∧ ms.length ≤ ns.length := by
  refine ⟨(ns.drop (HT.sIx (ns.map D.int).length 0 lo)).take (HT.sIx (ns.map D.int).length (ns.map D.int).length hi - HT.sIx (ns.map D.int).length 0 lo), ?_, ?_⟩
  · unfold cutD; rw [List.map_take, List.map_drop]
  · rw [List.length_take, List.length_drop]; omega
theorem r_cell (ns : List Int) (hn : ns.length ≤ 63) (t : Nat) : ∃ cell : Int, (eIf (liftT (qB (p2 dLt (pVar 1) (pN dLen (pCons (pVar 0) pNil))))) (liftP (pN dInt (pCons (p2 dIx (pVar 0) (pVar 1)) pNil))) (e2 dMul (liftP (pC (.int 31))) (cS sSum (cOfF (fLc (iLst (eOfF (fCut (cVar 0) oNo (oI (pC (.int 4)))))) [4] (gN 4) tYesm (liftP (pN dInt (pCons (pVar 4) pNil)))))))) [.imm (.rls (ns.map .int)), .imm (.int t), .none, .none, .none] = .ok (.int cell) [.imm (.rls (ns.map .int)), .imm (.int t), .none, .none, .none] := by
  by_cases h : t < ns.length
  · have hx : atI (ns.map D.int) (t : Int) = some (.int ns[t]) := atI_of rfl (by simp [h])
    exact ⟨ns[t], by simp [uVar, uCut, uTup, uK, kU, pK, pTupL, fCatV, itemsM, eRun, sAsgFre, MO.flatL, sAsgRV, sSpoil3, dEqS, pLam, mDef, outsOf, sSeq, sIf, sDrop, sRet, sRetN, sRetF, sRetO, sAsg, sAsgF, sAsgR, sPar, sSetIx, sAugIx, sAug, sRaise, sNext, sBrk, sCont, sFor, sSpoilA, sSpoilP, sTry, sHand, Fl.clr, suRet, suRetT, xFld, xC, liftP, liftT, okF, Res.bind, RP.bind, Res.of, RP.of, pVar, pC, p1, p2, pN, pAnd, pOr, pIf, pNil, pCons, pTup, pLst, pCall, qB, qAnd, qOr, qNot, dNot, eVar, Cv.e1, Cv.e2, eAnd, eOr, eIf, tBm, tAndm, tOrm, tNotm, vNil, vCons, aNil, aV, aS, eTup, fLst, eOfF, cOfF, cOfE, cVar, rNil, rE, rF, td_lst, mf_lst, dSub, dAdd, dFdiv, dMod, dNeg, dLt, dLe, dGt, dGe, dIsN, dNotN, dInt, dAbs, dMin2, dMax2, dLen, tyName, dIsi, dIx, eIx, cIx, cS, cL, sLen, sSum, lAll, kVar, kLst, kRep, kCat, kCut, fOfK, fCut, oNo, oI, fListP, itemsD, Sl.mo, Sl.put, ownL, setL, eApp, ePop, ePopAt, gN, gT, gsNil, gsCons, iR1, iR2, iLst, iTupl, eCall, fCall, slotsOf, argSl, putB, wCallT, eOfW, fOfW, unfre, qVar, qIx, freAt, lstOf, fl_non, fl_bl, fl_int, fl_str, fl_lst, fl_tup, fl_rls, tYesm, h, hx]⟩
  · obtain ⟨ms, e1, e2⟩ := cut_ints ns none (some 4)
    have hc := fLc_map (vs := [4]) (src := iLst (eOfF (fCut (cVar 0) oNo (oI (pC (.int 4)))))) (tg := gN 4) (test := tYesm) (elt := liftP (pN dInt (pCons (pVar 4) pNil))) (e := [.imm (.rls (ns.map .int)), .imm (.int t), .none, .none, .none]) (e1 := [.imm (.rls (ns.map .int)), .imm (.int t), .none, .none, .none]) (ds := ms.map .int) (fun d => d)
      (by simp [uVar, uCut, uTup, uK, kU, pK, pTupL, fCatV, itemsM, eRun, sAsgFre, MO.flatL, sAsgRV, sSpoil3, dEqS, pLam, mDef, outsOf, sSeq, sIf, sDrop, sRet, sRetN, sRetF, sRetO, sAsg, sAsgF, sAsgR, sPar, sSetIx, sAugIx, sAug, sRaise, sNext, sBrk, sCont, sFor, sSpoilA, sSpoilP, sTry, sHand, Fl.clr, suRet, suRetT, xFld, xC, liftP, liftT, okF, Res.bind, RP.bind, Res.of, RP.of, pVar, pC, p1, p2, pN, pAnd, pOr, pIf, pNil, pCons, pTup, pLst, pCall, qB, qAnd, qOr, qNot, dNot, eVar, Cv.e1, Cv.e2, eAnd, eOr, eIf, tBm, tAndm, tOrm, tNotm, vNil, vCons, aNil, aV, aS, eTup, fLst, eOfF, cOfF, cOfE, cVar, rNil, rE, rF, td_lst, mf_lst, dSub, dAdd, dFdiv, dMod, dNeg, dLt, dLe, dGt, dGe, dIsN, dNotN, dInt, dAbs, dMin2, dMax2, dLen, tyName, dIsi, dIx, eIx, cIx, cS, cL, sLen, sSum, lAll, kVar, kLst, kRep, kCat, kCut, fOfK, fCut, oNo, oI, fListP, itemsD, Sl.mo, Sl.put, ownL, setL, eApp, ePop, ePopAt, gN, gT, gsNil, gsCons, iR1, iR2, iLst, iTupl, eCall, fCall, slotsOf, argSl, putB, wCallT, eOfW, fOfW, unfre, qVar, qIx, freAt, lstOf, fl_non, fl_bl, fl_int, fl_str, fl_lst, fl_tup, fl_rls, tYesm, e1]) rfl (fun d hd => by
        obtain ⟨i, _, rfl⟩ := List.mem_map.mp hd
        exact ⟨_, rfl, rfl, rfl, rfl, rfl⟩) (le_line (by simp; omega))
    refine ⟨31 * ms.sum, ?_⟩
    simp only [List.map_id'] at hc
    simp [uVar, uCut, uTup, uK, kU, pK, pTupL, fCatV, itemsM, eRun, sAsgFre, MO.flatL, sAsgRV, sSpoil3, dEqS, pLam, mDef, outsOf, sSeq, sIf, sDrop, sRet, sRetN, sRetF, sRetO, sAsg, sAsgF, sAsgR, sPar, sSetIx, sAugIx, sAug, sRaise, sNext, sBrk, sCont, sFor, sSpoilA, sSpoilP, sTry, sHand, Fl.clr, suRet, suRetT, xFld, xC, liftP, liftT, okF, Res.bind, RP.bind, Res.of, RP.of, pVar, pC, p1, p2, pN, pAnd, pOr, pIf, pNil, pCons, pTup, pLst, pCall, qB, qAnd, qOr, qNot, dNot, eVar, Cv.e1, Cv.e2, eAnd, eOr, eIf, tBm, tAndm, tOrm, tNotm, vNil, vCons, aNil, aV, aS, eTup, fLst, eOfF, cOfF, cOfE, cVar, rNil, rE, rF, td_lst, mf_lst, dSub, dAdd, dFdiv, dMod, dNeg, dLt, dLe, dGt, dGe, dIsN, dNotN, dInt, dAbs, dMin2, dMax2, dLen, tyName, dIsi, dIx, eIx, cIx, cS, cL, sLen, sSum, lAll, kVar, kLst, kRep, kCat, kCut, fOfK, fCut, oNo, oI, fListP, itemsD, Sl.mo, Sl.put, ownL, setL, eApp, ePop, ePopAt, gN, gT, gsNil, gsCons, iR1, iR2, iLst, iTupl, eCall, fCall, slotsOf, argSl, putB, wCallT, eOfW, fOfW, unfre, qVar, qIx, freAt, lstOf, fl_non, fl_bl, fl_int, fl_str, fl_lst, fl_tup, fl_rls, tYesm, h, hc, Cv.rest, wipeE, intsD_map, dMul_l]
theorem r_size (c t : Int) (x : D) : ∃ s : Int, (liftP (p2 dAdd (p2 dMul (pC (.int 2)) (pN dAbs (pCons (pVar 2) pNil))) (pIf (qB (p2 dLt (pVar 2) (pC (.int 0)))) (pC (.int 1)) (pC (.int 0))))) [.imm x, .imm (.int t), .imm (.int c), .none, .none] = .ok (.int s) [.imm x, .imm (.int t), .imm (.int c), .none, .none] := by
  by_cases h : c < 0
  · exact ⟨2 * -c + 1, by simp [uVar, uCut, uTup, uK, kU, pK, pTupL, fCatV, itemsM, eRun, sAsgFre, MO.flatL, sAsgRV, sSpoil3, dEqS, pLam, mDef, outsOf, sSeq, sIf, sDrop, sRet, sRetN, sRetF, sRetO, sAsg, sAsgF, sAsgR, sPar, sSetIx, sAugIx, sAug, sRaise, sNext, sBrk, sCont, sFor, sSpoilA, sSpoilP, sTry, sHand, Fl.clr, suRet, suRetT, xFld, xC, liftP, liftT, okF, Res.bind, RP.bind, Res.of, RP.of, pVar, pC, p1, p2, pN, pAnd, pOr, pIf, pNil, pCons, pTup, pLst, pCall, qB, qAnd, qOr, qNot, dNot, eVar, Cv.e1, Cv.e2, eAnd, eOr, eIf, tBm, tAndm, tOrm, tNotm, vNil, vCons, aNil, aV, aS, eTup, fLst, eOfF, cOfF, cOfE, cVar, rNil, rE, rF, td_lst, mf_lst, dSub, dAdd, dFdiv, dMod, dNeg, dLt, dLe, dGt, dGe, dIsN, dNotN, dInt, dAbs, dMin2, dMax2, dLen, tyName, dIsi, dIx, eIx, cIx, cS, cL, sLen, sSum, lAll, kVar, kLst, kRep, kCat, kCut, fOfK, fCut, oNo, oI, fListP, itemsD, Sl.mo, Sl.put, ownL, setL, eApp, ePop, ePopAt, gN, gT, gsNil, gsCons, iR1, iR2, iLst, iTupl, eCall, fCall, slotsOf, argSl, putB, wCallT, eOfW, fOfW, unfre, qVar, qIx, freAt, lstOf, fl_non, fl_bl, fl_int, fl_str, fl_lst, fl_tup, fl_rls, tYesm, dMul_l, h]⟩
  · exact ⟨2 * c, by simp [uVar, uCut, uTup, uK, kU, pK, pTupL, fCatV, itemsM, eRun, sAsgFre, MO.flatL, sAsgRV, sSpoil3, dEqS, pLam, mDef, outsOf, sSeq, sIf, sDrop, sRet, sRetN, sRetF, sRetO, sAsg, sAsgF, sAsgR, sPar, sSetIx, sAugIx, sAug, sRaise, sNext, sBrk, sCont, sFor, sSpoilA, sSpoilP, sTry, sHand, Fl.clr, suRet, suRetT, xFld, xC, liftP, liftT, okF, Res.bind, RP.bind, Res.of, RP.of, pVar, pC, p1, p2, pN, pAnd, pOr, pIf, pNil, pCons, pTup, pLst, pCall, qB, qAnd, qOr, qNot, dNot, eVar, Cv.e1, Cv.e2, eAnd, eOr, eIf, tBm, tAndm, tOrm, tNotm, vNil, vCons, aNil, aV, aS, eTup, fLst, eOfF, cOfF, cOfE, cVar, rNil, rE, rF, td_lst, mf_lst, dSub, dAdd, dFdiv, dMod, dNeg, dLt, dLe, dGt, dGe, dIsN, dNotN, dInt, dAbs, dMin2, dMax2, dLen, tyName, dIsi, dIx, eIx, cIx, cS, cL, sLen, sSum, lAll, kVar, kLst, kRep, kCat, kCut, fOfK, fCut, oNo, oI, fListP, itemsD, Sl.mo, Sl.put, ownL, setL, eApp, ePop, ePopAt, gN, gT, gsNil, gsCons, iR1, iR2, iLst, iTupl, eCall, fCall, slotsOf, argSl, putB, wCallT, eOfW, fOfW, unfre, qVar, qIx, freAt, lstOf, fl_non, fl_bl, fl_int, fl_str, fl_lst, fl_tup, fl_rls, tYesm, dMul_l, h]⟩
theorem r_first (s : Int) : ∃ a : Int, ∀ e : En, e[3]? = some (.imm (.int s)) → (liftP (pIf (qB (p2 dGe (pVar 3) (p2 dPow (pC (.int 10)) (pC (.int 18))))) (pVar 3) (pC (.int 0)))) e = .ok (.int a) e := by
  have h0 : ∀ e : En, e[3]? = some (.imm (.int s)) → (p2 dGe (pVar 3) (p2 dPow (pC (.int 10)) (pC (.int 18)))) e = .ok (.bl (decide ((10 : Int) ^ (18 : Int).toNat ≤ s))) := fun e h => by
    simp [p2, RP.bind, pVar, h, pC, RP.of, dPow_ok (i := 10) (j := 18) (by decide), dGe]
  by_cases g : (10 : Int) ^ (18 : Int).toNat ≤ s
  · exact ⟨s, fun e h => by simp only [liftP, pIf, qB, h0 e h, RP.bind, decide_eq_true g, if_true]; simp [pVar, h, okF, fl_int]⟩
  · exact ⟨0, fun e h => by simp only [liftP, pIf, qB, h0 e h, RP.bind, decide_eq_false g]; simp [pC, okF, fl_int]⟩
theorem r_second (s c t : Int) (x : D) : (liftP (p2 dMod (pN dInt (pCons (p2 dAdd (p2 dAdd (pVar 3) (p2 dMul (pVar 1) (pC (.int 104729)))) (pC (.int 12345))) pNil)) (pC (.int 2147483629)))) [.imm x, .imm (.int t), .imm (.int c), .imm (.int s), .none] = .ok (.int ((s + t * 104729 + 12345) % 2147483629)) [.imm x, .imm (.int t), .imm (.int c), .imm (.int s), .none] := by simp [uVar, uCut, uTup, uK, kU, pK, pTupL, fCatV, itemsM, eRun, sAsgFre, MO.flatL, sAsgRV, sSpoil3, dEqS, pLam, mDef, outsOf, sSeq, sIf, sDrop, sRet, sRetN, sRetF, sRetO, sAsg, sAsgF, sAsgR, sPar, sSetIx, sAugIx, sAug, sRaise, sNext, sBrk, sCont, sFor, sSpoilA, sSpoilP, sTry, sHand, Fl.clr, suRet, suRetT, xFld, xC, liftP, liftT, okF, Res.bind, RP.bind, Res.of, RP.of, pVar, pC, p1, p2, pN, pAnd, pOr, pIf, pNil, pCons, pTup, pLst, pCall, qB, qAnd, qOr, qNot, dNot, eVar, Cv.e1, Cv.e2, eAnd, eOr, eIf, tBm, tAndm, tOrm, tNotm, vNil, vCons, aNil, aV, aS, eTup, fLst, eOfF, cOfF, cOfE, cVar, rNil, rE, rF, td_lst, mf_lst, dSub, dAdd, dFdiv, dMod, dNeg, dLt, dLe, dGt, dGe, dIsN, dNotN, dInt, dAbs, dMin2, dMax2, dLen, tyName, dIsi, dIx, eIx, cIx, cS, cL, sLen, sSum, lAll, kVar, kLst, kRep, kCat, kCut, fOfK, fCut, oNo, oI, fListP, itemsD, Sl.mo, Sl.put, ownL, setL, eApp, ePop, ePopAt, gN, gT, gsNil, gsCons, iR1, iR2, iLst, iTupl, eCall, fCall, slotsOf, argSl, putB, wCallT, eOfW, fOfW, unfre, qVar, qIx, freAt, lstOf, fl_non, fl_bl, fl_int, fl_str, fl_lst, fl_tup, fl_rls, tYesm, dMul_r]
theorem r_purse (ns : List Int) (hn : ns.length ≤ 63) (t : Int) (ht : 0 ≤ t) : ∃ a b c : Int, m__law_purse [.imm (.rls (ns.map .int)), .imm (.int t)] = .ok (.own (.lst [.int a, .int b, .int c])) [.imm (.rls (ns.map .int)), .imm (.int t)] := by
  obtain ⟨n, hnt⟩ := Int.eq_ofNat_of_zero_le ht
  obtain ⟨cell, hcell⟩ := r_cell ns hn n
  rw [← hnt] at hcell
  clear hnt
  obtain ⟨s, hs⟩ := r_size cell t (.rls (ns.map .int))
  obtain ⟨a, ha⟩ := r_first s
  have st : b__law_purse [.imm (.rls (ns.map .int)), .imm (.int t), .none, .none, .none] = _ := (seq_next (asg_ok hcell rfl)).trans (seq_next (asg_ok hs rfl))
  refine ⟨a, (s + t * 104729 + 12345) % 2147483629, t, ?_⟩
  rw [show m__law_purse [.imm (.rls (ns.map .int)), .imm (.int t)] = _ from mDef_go rfl rfl st]
  have h1 := ha [.imm (.rls (ns.map .int)), .imm (.int t), .imm (.int cell), .imm (.int s), .none] rfl
  have h2 := r_second s cell t (.rls (ns.map .int))
  have h3 : (eVar 1) [.imm (.rls (ns.map .int)), .imm (.int t), .imm (.int cell), .imm (.int s), .none] = .ok (.int t) [.imm (.rls (ns.map .int)), .imm (.int t), .imm (.int cell), .imm (.int s), .none] := rfl
  have h4 : ∀ x y z : D, [x, y, z].length ≤ sizeLine := fun x y z => le_line (by simp)
  simp only [sRetF, fLst, vCons, vNil, List.set_cons_succ, List.set_cons_zero, h1, h2, h3, Res.bind, if_pos (h4 _ _ _), fin, outsOf, Option.map]
/-- what a draw keeps, as a promise over abstract f -/
def Drw (f : En → RD) : Prop := ∀ (a b c many : Int), 0 < many → many < 18446744073709551616 → ∃ r a' b' c', 0 ≤ r ∧ r < many ∧
    f [.par (.lst [.int a, .int b, .int c]), .imm (.int many)] = .ok (.imm (.int r)) [.par (.lst [.int a', .int b', .int c']), .imm (.int many)]
theorem drw : Drw m__law_draw := r_draw
/-- a draw in a def's body: slot 0 holds the purse -/
theorem e_draw {f : En → RD} (hf : Drw f) {m : En → Res D} {a b c many : Int} {rest : En} (h0 : 0 < many) (h1 : many < 18446744073709551616) {s : Sl} (hs : s = .par (.lst [.int a, .int b, .int c]))
    (hm : m (s :: rest) = .ok (.int many) (s :: rest)) : ∃ r a' b' c', 0 ≤ r ∧ r < many ∧ eCall f (aS 0 (aV m aNil)) (s :: rest) = .ok (.int r) (.par (.lst [.int a', .int b', .int c']) :: rest) := by
  subst hs
  obtain ⟨r, a', b', c', k1, k2, k3⟩ := hf a b c many h0 h1
  refine ⟨r, a', b', c', k1, k2, ?_⟩
  unfold eCall aS aV
  simp only [List.getElem?_cons_zero, hm, Res.bind, aNil, slotsOf, argSl, Option.map, List.nodup_cons, List.not_mem_nil, not_false_eq_true, List.nodup_nil, and_self, if_true, k3, putB, Sl.put, List.set_cons_zero]
theorem d_draw {f : En → RD} (hf : Drw f) (k : Int) (h0 : 0 < k) (h1 : k < 18446744073709551616) (a b c : Int) (tl : En) : ∃ r a' b' c', 0 ≤ r ∧ r < k ∧ eCall f (aS 0 (aV (liftP (pC (.int k))) aNil)) (.par (.lst [.int a, .int b, .int c]) :: tl) = .ok (.int r) (.par (.lst [.int a', .int b', .int c']) :: tl) :=
  e_draw hf h0 h1 rfl rfl
theorem asg_p {m : En → Res D} {g : D → En → Option En} {e e2 : En} {d : D} (h : m e = .ok d e) (hg : g d e = some e2) : sAsg m g e = .next e2 := asg_ok h hg
theorem if_tp {c : En → Res Bool} {a b : En → Fl} {e : En} (h : c e = .ok true e) : sIf c a b e = a e := if_t h
theorem if_fp {c : En → Res Bool} {a b : En → Fl} {e : En} (h : c e = .ok false e) : sIf c a b e = b e := if_f h
theorem seq_two {a b c : En → Fl} {e e1 : En} (h : sSeq a b e = .next e1) : sSeq a (sSeq b c) e = c e1 := by
  unfold sSeq at h ⊢
  cases q : a e with
  | next e2 => rw [q] at h; dsimp only at h ⊢; rw [h]
  | _ => rw [q] at h; cases h
end Lw
end

section
set_option Elab.async false
set_option linter.all false
set_option maxRecDepth 100000
set_option maxHeartbeats 4000000
set_option autoImplicit false
open PySem L2 Cv
namespace Lw
variable [TbT]
theorem r_is_whole (i : Int) : m_is_whole [.imm (.int i)] = .ok (.imm (.bl true)) [.imm (.int i)] := by simp [m_is_whole, b_is_whole, uVar, uCut, uTup, uK, kU, pK, pTupL, fCatV, itemsM, eRun, sAsgFre, MO.flatL, sAsgRV, sSpoil3, dEqS, pLam, mDef, outsOf, sSeq, sIf, sDrop, sRet, sRetN, sRetF, sRetO, sAsg, sAsgF, sAsgR, sPar, sSetIx, sAugIx, sAug, sRaise, sNext, sBrk, sCont, sFor, sSpoilA, sSpoilP, sTry, sHand, Fl.clr, suRet, suRetT, xFld, xC, liftP, liftT, okF, Res.bind, RP.bind, Res.of, RP.of, pVar, pC, p1, p2, pN, pAnd, pOr, pIf, pNil, pCons, pTup, pLst, pCall, qB, qAnd, qOr, qNot, dNot, eVar, Cv.e1, Cv.e2, eAnd, eOr, eIf, tBm, tAndm, tOrm, tNotm, vNil, vCons, aNil, aV, aS, eTup, fLst, eOfF, cOfF, cOfE, cVar, rNil, rE, rF, td_lst, mf_lst, dSub, dAdd, dFdiv, dMod, dNeg, dLt, dLe, dGt, dGe, dIsN, dNotN, dInt, dAbs, dMin2, dMax2, dLen, tyName, dIsi, dIx, eIx, cIx, cS, cL, sLen, sSum, lAll, kVar, kLst, kRep, kCat, kCut, fOfK, fCut, oNo, oI, fListP, itemsD, Sl.mo, Sl.put, ownL, setL, eApp, ePop, ePopAt, gN, gT, gsNil, gsCons, iR1, iR2, iLst, iTupl, eCall, fCall, slotsOf, argSl, putB, wCallT, eOfW, fOfW, unfre, qVar, qIx, freAt, lstOf, fl_non, fl_bl, fl_int, fl_str, fl_lst, fl_tup, fl_rls, tYesm, kb1, kb2]
theorem r_is_whole_b (i : Bool) : m_is_whole [.imm (.bl i)] = .ok (.imm (.bl false)) [.imm (.bl i)] := by simp [m_is_whole, b_is_whole, uVar, uCut, uTup, uK, kU, pK, pTupL, fCatV, itemsM, eRun, sAsgFre, MO.flatL, sAsgRV, sSpoil3, dEqS, pLam, mDef, outsOf, sSeq, sIf, sDrop, sRet, sRetN, sRetF, sRetO, sAsg, sAsgF, sAsgR, sPar, sSetIx, sAugIx, sAug, sRaise, sNext, sBrk, sCont, sFor, sSpoilA, sSpoilP, sTry, sHand, Fl.clr, suRet, suRetT, xFld, xC, liftP, liftT, okF, Res.bind, RP.bind, Res.of, RP.of, pVar, pC, p1, p2, pN, pAnd, pOr, pIf, pNil, pCons, pTup, pLst, pCall, qB, qAnd, qOr, qNot, dNot, eVar, Cv.e1, Cv.e2, eAnd, eOr, eIf, tBm, tAndm, tOrm, tNotm, vNil, vCons, aNil, aV, aS, eTup, fLst, eOfF, cOfF, cOfE, cVar, rNil, rE, rF, td_lst, mf_lst, dSub, dAdd, dFdiv, dMod, dNeg, dLt, dLe, dGt, dGe, dIsN, dNotN, dInt, dAbs, dMin2, dMax2, dLen, tyName, dIsi, dIx, eIx, cIx, cS, cL, sLen, sSum, lAll, kVar, kLst, kRep, kCat, kCut, fOfK, fCut, oNo, oI, fListP, itemsD, Sl.mo, Sl.put, ownL, setL, eApp, ePop, ePopAt, gN, gT, gsNil, gsCons, iR1, iR2, iLst, iTupl, eCall, fCall, slotsOf, argSl, putB, wCallT, eOfW, fOfW, unfre, qVar, qIx, freAt, lstOf, fl_non, fl_bl, fl_int, fl_str, fl_lst, fl_tup, fl_rls, tYesm, kb3, kb4]
theorem r_is_whole_n : m_is_whole [.imm .non] = .ok (.imm (.bl false)) [.imm .non] := by simp [m_is_whole, b_is_whole, uVar, uCut, uTup, uK, kU, pK, pTupL, fCatV, itemsM, eRun, sAsgFre, MO.flatL, sAsgRV, sSpoil3, dEqS, pLam, mDef, outsOf, sSeq, sIf, sDrop, sRet, sRetN, sRetF, sRetO, sAsg, sAsgF, sAsgR, sPar, sSetIx, sAugIx, sAug, sRaise, sNext, sBrk, sCont, sFor, sSpoilA, sSpoilP, sTry, sHand, Fl.clr, suRet, suRetT, xFld, xC, liftP, liftT, okF, Res.bind, RP.bind, Res.of, RP.of, pVar, pC, p1, p2, pN, pAnd, pOr, pIf, pNil, pCons, pTup, pLst, pCall, qB, qAnd, qOr, qNot, dNot, eVar, Cv.e1, Cv.e2, eAnd, eOr, eIf, tBm, tAndm, tOrm, tNotm, vNil, vCons, aNil, aV, aS, eTup, fLst, eOfF, cOfF, cOfE, cVar, rNil, rE, rF, td_lst, mf_lst, dSub, dAdd, dFdiv, dMod, dNeg, dLt, dLe, dGt, dGe, dIsN, dNotN, dInt, dAbs, dMin2, dMax2, dLen, tyName, dIsi, dIx, eIx, cIx, cS, cL, sLen, sSum, lAll, kVar, kLst, kRep, kCat, kCut, fOfK, fCut, oNo, oI, fListP, itemsD, Sl.mo, Sl.put, ownL, setL, eApp, ePop, ePopAt, gN, gT, gsNil, gsCons, iR1, iR2, iLst, iTupl, eCall, fCall, slotsOf, argSl, putB, wCallT, eOfW, fOfW, unfre, qVar, qIx, freAt, lstOf, fl_non, fl_bl, fl_int, fl_str, fl_lst, fl_tup, fl_rls, tYesm, kb13]
theorem r_law_whole (i : Int) : m__law_whole [.imm (.int i)] = .ok (.imm (.bl true)) [.imm (.int i)] := by simp [m__law_whole, b__law_whole, uVar, uCut, uTup, uK, kU, pK, pTupL, fCatV, itemsM, eRun, sAsgFre, MO.flatL, sAsgRV, sSpoil3, dEqS, pLam, mDef, outsOf, sSeq, sIf, sDrop, sRet, sRetN, sRetF, sRetO, sAsg, sAsgF, sAsgR, sPar, sSetIx, sAugIx, sAug, sRaise, sNext, sBrk, sCont, sFor, sSpoilA, sSpoilP, sTry, sHand, Fl.clr, suRet, suRetT, xFld, xC, liftP, liftT, okF, Res.bind, RP.bind, Res.of, RP.of, pVar, pC, p1, p2, pN, pAnd, pOr, pIf, pNil, pCons, pTup, pLst, pCall, qB, qAnd, qOr, qNot, dNot, eVar, Cv.e1, Cv.e2, eAnd, eOr, eIf, tBm, tAndm, tOrm, tNotm, vNil, vCons, aNil, aV, aS, eTup, fLst, eOfF, cOfF, cOfE, cVar, rNil, rE, rF, td_lst, mf_lst, dSub, dAdd, dFdiv, dMod, dNeg, dLt, dLe, dGt, dGe, dIsN, dNotN, dInt, dAbs, dMin2, dMax2, dLen, tyName, dIsi, dIx, eIx, cIx, cS, cL, sLen, sSum, lAll, kVar, kLst, kRep, kCat, kCut, fOfK, fCut, oNo, oI, fListP, itemsD, Sl.mo, Sl.put, ownL, setL, eApp, ePop, ePopAt, gN, gT, gsNil, gsCons, iR1, iR2, iLst, iTupl, eCall, fCall, slotsOf, argSl, putB, wCallT, eOfW, fOfW, unfre, qVar, qIx, freAt, lstOf, fl_non, fl_bl, fl_int, fl_str, fl_lst, fl_tup, fl_rls, tYesm, kb1, kb2]
theorem r_whole_from (i j : Int) : m_whole_from [.imm (.int i), .imm (.int j)] = .ok (.imm (.bl (decide (j ≤ i)))) [.imm (.int i), .imm (.int j)] := by simp [m_whole_from, b_whole_from, uVar, uCut, uTup, uK, kU, pK, pTupL, fCatV, itemsM, eRun, sAsgFre, MO.flatL, sAsgRV, sSpoil3, dEqS, pLam, mDef, outsOf, sSeq, sIf, sDrop, sRet, sRetN, sRetF, sRetO, sAsg, sAsgF, sAsgR, sPar, sSetIx, sAugIx, sAug, sRaise, sNext, sBrk, sCont, sFor, sSpoilA, sSpoilP, sTry, sHand, Fl.clr, suRet, suRetT, xFld, xC, liftP, liftT, okF, Res.bind, RP.bind, Res.of, RP.of, pVar, pC, p1, p2, pN, pAnd, pOr, pIf, pNil, pCons, pTup, pLst, pCall, qB, qAnd, qOr, qNot, dNot, eVar, Cv.e1, Cv.e2, eAnd, eOr, eIf, tBm, tAndm, tOrm, tNotm, vNil, vCons, aNil, aV, aS, eTup, fLst, eOfF, cOfF, cOfE, cVar, rNil, rE, rF, td_lst, mf_lst, dSub, dAdd, dFdiv, dMod, dNeg, dLt, dLe, dGt, dGe, dIsN, dNotN, dInt, dAbs, dMin2, dMax2, dLen, tyName, dIsi, dIx, eIx, cIx, cS, cL, sLen, sSum, lAll, kVar, kLst, kRep, kCat, kCut, fOfK, fCut, oNo, oI, fListP, itemsD, Sl.mo, Sl.put, ownL, setL, eApp, ePop, ePopAt, gN, gT, gsNil, gsCons, iR1, iR2, iLst, iTupl, eCall, fCall, slotsOf, argSl, putB, wCallT, eOfW, fOfW, unfre, qVar, qIx, freAt, lstOf, fl_non, fl_bl, fl_int, fl_str, fl_lst, fl_tup, fl_rls, tYesm, r_is_whole]
theorem r_whole_from_b (i : Bool) (j : Int) : m_whole_from [.imm (.bl i), .imm (.int j)] = .ok (.imm (.bl false)) [.imm (.bl i), .imm (.int j)] := by simp [m_whole_from, b_whole_from, uVar, uCut, uTup, uK, kU, pK, pTupL, fCatV, itemsM, eRun, sAsgFre, MO.flatL, sAsgRV, sSpoil3, dEqS, pLam, mDef, outsOf, sSeq, sIf, sDrop, sRet, sRetN, sRetF, sRetO, sAsg, sAsgF, sAsgR, sPar, sSetIx, sAugIx, sAug, sRaise, sNext, sBrk, sCont, sFor, sSpoilA, sSpoilP, sTry, sHand, Fl.clr, suRet, suRetT, xFld, xC, liftP, liftT, okF, Res.bind, RP.bind, Res.of, RP.of, pVar, pC, p1, p2, pN, pAnd, pOr, pIf, pNil, pCons, pTup, pLst, pCall, qB, qAnd, qOr, qNot, dNot, eVar, Cv.e1, Cv.e2, eAnd, eOr, eIf, tBm, tAndm, tOrm, tNotm, vNil, vCons, aNil, aV, aS, eTup, fLst, eOfF, cOfF, cOfE, cVar, rNil, rE, rF, td_lst, mf_lst, dSub, dAdd, dFdiv, dMod, dNeg, dLt, dLe, dGt, dGe, dIsN, dNotN, dInt, dAbs, dMin2, dMax2, dLen, tyName, dIsi, dIx, eIx, cIx, cS, cL, sLen, sSum, lAll, kVar, kLst, kRep, kCat, kCut, fOfK, fCut, oNo, oI, fListP, itemsD, Sl.mo, Sl.put, ownL, setL, eApp, ePop, ePopAt, gN, gT, gsNil, gsCons, iR1, iR2, iLst, iTupl, eCall, fCall, slotsOf, argSl, putB, wCallT, eOfW, fOfW, unfre, qVar, qIx, freAt, lstOf, fl_non, fl_bl, fl_int, fl_str, fl_lst, fl_tup, fl_rls, tYesm, r_is_whole_b]
theorem r_whole_from_n (j : Int) : m_whole_from [.imm .non, .imm (.int j)] = .ok (.imm (.bl false)) [.imm .non, .imm (.int j)] := by simp [m_whole_from, b_whole_from, uVar, uCut, uTup, uK, kU, pK, pTupL, fCatV, itemsM, eRun, sAsgFre, MO.flatL, sAsgRV, sSpoil3, dEqS, pLam, mDef, outsOf, sSeq, sIf, sDrop, sRet, sRetN, sRetF, sRetO, sAsg, sAsgF, sAsgR, sPar, sSetIx, sAugIx, sAug, sRaise, sNext, sBrk, sCont, sFor, sSpoilA, sSpoilP, sTry, sHand, Fl.clr, suRet, suRetT, xFld, xC, liftP, liftT, okF, Res.bind, RP.bind, Res.of, RP.of, pVar, pC, p1, p2, pN, pAnd, pOr, pIf, pNil, pCons, pTup, pLst, pCall, qB, qAnd, qOr, qNot, dNot, eVar, Cv.e1, Cv.e2, eAnd, eOr, eIf, tBm, tAndm, tOrm, tNotm, vNil, vCons, aNil, aV, aS, eTup, fLst, eOfF, cOfF, cOfE, cVar, rNil, rE, rF, td_lst, mf_lst, dSub, dAdd, dFdiv, dMod, dNeg, dLt, dLe, dGt, dGe, dIsN, dNotN, dInt, dAbs, dMin2, dMax2, dLen, tyName, dIsi, dIx, eIx, cIx, cS, cL, sLen, sSum, lAll, kVar, kLst, kRep, kCat, kCut, fOfK, fCut, oNo, oI, fListP, itemsD, Sl.mo, Sl.put, ownL, setL, eApp, ePop, ePopAt, gN, gT, gsNil, gsCons, iR1, iR2, iLst, iTupl, eCall, fCall, slotsOf, argSl, putB, wCallT, eOfW, fOfW, unfre, qVar, qIx, freAt, lstOf, fl_non, fl_bl, fl_int, fl_str, fl_lst, fl_tup, fl_rls, tYesm, r_is_whole_n]
theorem r_check_most (w : Str) (i m : Int) : m_check_most [.imm (.str w), .imm (.int i), .imm (.int m)] = if m < i then .exc ⟨"TooMany", [("what", .str w)]⟩ [.imm (.str w), .imm (.int i), .imm (.int m)] else .ok (.imm .non) [.imm (.str w), .imm (.int i), .imm (.int m)] := by
  by_cases h : m < i <;> simp [m_check_most, b_check_most, uVar, uCut, uTup, uK, kU, pK, pTupL, fCatV, itemsM, eRun, sAsgFre, MO.flatL, sAsgRV, sSpoil3, dEqS, pLam, mDef, outsOf, sSeq, sIf, sDrop, sRet, sRetN, sRetF, sRetO, sAsg, sAsgF, sAsgR, sPar, sSetIx, sAugIx, sAug, sRaise, sNext, sBrk, sCont, sFor, sSpoilA, sSpoilP, sTry, sHand, Fl.clr, suRet, suRetT, xFld, xC, liftP, liftT, okF, Res.bind, RP.bind, Res.of, RP.of, pVar, pC, p1, p2, pN, pAnd, pOr, pIf, pNil, pCons, pTup, pLst, pCall, qB, qAnd, qOr, qNot, dNot, eVar, Cv.e1, Cv.e2, eAnd, eOr, eIf, tBm, tAndm, tOrm, tNotm, vNil, vCons, aNil, aV, aS, eTup, fLst, eOfF, cOfF, cOfE, cVar, rNil, rE, rF, td_lst, mf_lst, dSub, dAdd, dFdiv, dMod, dNeg, dLt, dLe, dGt, dGe, dIsN, dNotN, dInt, dAbs, dMin2, dMax2, dLen, tyName, dIsi, dIx, eIx, cIx, cS, cL, sLen, sSum, lAll, kVar, kLst, kRep, kCat, kCut, fOfK, fCut, oNo, oI, fListP, itemsD, Sl.mo, Sl.put, ownL, setL, eApp, ePop, ePopAt, gN, gT, gsNil, gsCons, iR1, iR2, iLst, iTupl, eCall, fCall, slotsOf, argSl, putB, wCallT, eOfW, fOfW, unfre, qVar, qIx, freAt, lstOf, fl_non, fl_bl, fl_int, fl_str, fl_lst, fl_tup, fl_rls, tYesm, kb1, kb2, h]
/-- a list or a tuple -/
def sq : Bool → List D → D
  | true, ds => .lst ds
  | false, ds => .tup ds
theorem len_sq (b : Bool) (ds : List D) : dLen [sq b ds] = some (.int ds.length) := by cases b <;> rfl
theorem ix_sq (b : Bool) (ds : List D) (i : Int) : dIx (sq b ds) (.int i) = atI ds i := by cases b <;> rfl
/-- a digit that is let -/
abbrev dg (n : Int) : Prop := 0 ≤ n ∧ n ≤ 9
def bad9 (d : D) : Prop := (∃ i, d = .int i ∧ ¬ dg i) ∨ (∃ b, d = .bl b) ∨ d = .non
theorem cal_q {S d : D} {i : Int} (hi : dIx S (.int i) = some d) (h : (∃ n, d = .int n ∧ dg n) ∨ bad9 d) : ∃ bb : Bool, (liftT (qOr (qNot (qB (pCall m_whole_from (pCons (p2 dIx (pVar 0) (pVar 2)) (pCons (pC (.int 0)) pNil))))) (qB (p2 dGt (p2 dIx (pVar 0) (pVar 2)) (pVar 1))))) [.imm S, .imm (.int 9), .imm (.int i)] = .ok bb [.imm S, .imm (.int 9), .imm (.int i)] ∧ ((∃ n, d = .int n ∧ dg n) → bb = false) ∧ (bad9 d → bb = true) := by
  have key : ∀ n : Int, d = .int n → (liftT (qOr (qNot (qB (pCall m_whole_from (pCons (p2 dIx (pVar 0) (pVar 2)) (pCons (pC (.int 0)) pNil))))) (qB (p2 dGt (p2 dIx (pVar 0) (pVar 2)) (pVar 1))))) [.imm S, .imm (.int 9), .imm (.int i)] = .ok (!decide (dg n)) [.imm S, .imm (.int 9), .imm (.int i)] := fun n hn => by
    subst hn
    by_cases h0 : 0 ≤ n
    · by_cases h1 : 9 < n
      · have h2 : ¬ dg n := fun z => by unfold dg at z; omega
        simp [uVar, uCut, uTup, uK, kU, pK, pTupL, fCatV, itemsM, eRun, sAsgFre, MO.flatL, sAsgRV, sSpoil3, dEqS, pLam, mDef, outsOf, sSeq, sIf, sDrop, sRet, sRetN, sRetF, sRetO, sAsg, sAsgF, sAsgR, sPar, sSetIx, sAugIx, sAug, sRaise, sNext, sBrk, sCont, sFor, sSpoilA, sSpoilP, sTry, sHand, Fl.clr, suRet, suRetT, xFld, xC, liftP, liftT, okF, Res.bind, RP.bind, Res.of, RP.of, pVar, pC, p1, p2, pN, pAnd, pOr, pIf, pNil, pCons, pTup, pLst, pCall, qB, qAnd, qOr, qNot, dNot, eVar, Cv.e1, Cv.e2, eAnd, eOr, eIf, tBm, tAndm, tOrm, tNotm, vNil, vCons, aNil, aV, aS, eTup, fLst, eOfF, cOfF, cOfE, cVar, rNil, rE, rF, td_lst, mf_lst, dSub, dAdd, dFdiv, dMod, dNeg, dLt, dLe, dGt, dGe, dIsN, dNotN, dInt, dAbs, dMin2, dMax2, tyName, dIsi, eIx, cIx, cS, cL, sLen, sSum, lAll, kVar, kLst, kRep, kCat, kCut, fOfK, fCut, oNo, oI, fListP, itemsD, Sl.mo, Sl.put, ownL, setL, eApp, ePop, ePopAt, gN, gT, gsNil, gsCons, iR1, iR2, iLst, iTupl, eCall, fCall, slotsOf, argSl, putB, wCallT, eOfW, fOfW, unfre, qVar, qIx, freAt, lstOf, fl_non, fl_bl, fl_int, fl_str, fl_lst, fl_tup, fl_rls, tYesm, hi, r_whole_from, h0, h1, h2]
      · have h2 : dg n := by unfold dg; omega
        simp [uVar, uCut, uTup, uK, kU, pK, pTupL, fCatV, itemsM, eRun, sAsgFre, MO.flatL, sAsgRV, sSpoil3, dEqS, pLam, mDef, outsOf, sSeq, sIf, sDrop, sRet, sRetN, sRetF, sRetO, sAsg, sAsgF, sAsgR, sPar, sSetIx, sAugIx, sAug, sRaise, sNext, sBrk, sCont, sFor, sSpoilA, sSpoilP, sTry, sHand, Fl.clr, suRet, suRetT, xFld, xC, liftP, liftT, okF, Res.bind, RP.bind, Res.of, RP.of, pVar, pC, p1, p2, pN, pAnd, pOr, pIf, pNil, pCons, pTup, pLst, pCall, qB, qAnd, qOr, qNot, dNot, eVar, Cv.e1, Cv.e2, eAnd, eOr, eIf, tBm, tAndm, tOrm, tNotm, vNil, vCons, aNil, aV, aS, eTup, fLst, eOfF, cOfF, cOfE, cVar, rNil, rE, rF, td_lst, mf_lst, dSub, dAdd, dFdiv, dMod, dNeg, dLt, dLe, dGt, dGe, dIsN, dNotN, dInt, dAbs, dMin2, dMax2, tyName, dIsi, eIx, cIx, cS, cL, sLen, sSum, lAll, kVar, kLst, kRep, kCat, kCut, fOfK, fCut, oNo, oI, fListP, itemsD, Sl.mo, Sl.put, ownL, setL, eApp, ePop, ePopAt, gN, gT, gsNil, gsCons, iR1, iR2, iLst, iTupl, eCall, fCall, slotsOf, argSl, putB, wCallT, eOfW, fOfW, unfre, qVar, qIx, freAt, lstOf, fl_non, fl_bl, fl_int, fl_str, fl_lst, fl_tup, fl_rls, tYesm, hi, r_whole_from, h0, h1, h2]
    · have h2 : ¬ dg n := fun z => by unfold dg at z; omega
      simp [uVar, uCut, uTup, uK, kU, pK, pTupL, fCatV, itemsM, eRun, sAsgFre, MO.flatL, sAsgRV, sSpoil3, dEqS, pLam, mDef, outsOf, sSeq, sIf, sDrop, sRet, sRetN, sRetF, sRetO, sAsg, sAsgF, sAsgR, sPar, sSetIx, sAugIx, sAug, sRaise, sNext, sBrk, sCont, sFor, sSpoilA, sSpoilP, sTry, sHand, Fl.clr, suRet, suRetT, xFld, xC, liftP, liftT, okF, Res.bind, RP.bind, Res.of, RP.of, pVar, pC, p1, p2, pN, pAnd, pOr, pIf, pNil, pCons, pTup, pLst, pCall, qB, qAnd, qOr, qNot, dNot, eVar, Cv.e1, Cv.e2, eAnd, eOr, eIf, tBm, tAndm, tOrm, tNotm, vNil, vCons, aNil, aV, aS, eTup, fLst, eOfF, cOfF, cOfE, cVar, rNil, rE, rF, td_lst, mf_lst, dSub, dAdd, dFdiv, dMod, dNeg, dLt, dLe, dGt, dGe, dIsN, dNotN, dInt, dAbs, dMin2, dMax2, tyName, dIsi, eIx, cIx, cS, cL, sLen, sSum, lAll, kVar, kLst, kRep, kCat, kCut, fOfK, fCut, oNo, oI, fListP, itemsD, Sl.mo, Sl.put, ownL, setL, eApp, ePop, ePopAt, gN, gT, gsNil, gsCons, iR1, iR2, iLst, iTupl, eCall, fCall, slotsOf, argSl, putB, wCallT, eOfW, fOfW, unfre, qVar, qIx, freAt, lstOf, fl_non, fl_bl, fl_int, fl_str, fl_lst, fl_tup, fl_rls, tYesm, hi, r_whole_from, h0, h2]
  rcases h with ⟨n, hn, hd⟩ | h
  · refine ⟨false, by rw [key n hn, decide_eq_true hd]; rfl, fun _ => rfl, fun z => ?_⟩
    subst hn
    rcases z with ⟨m, e, z⟩ | ⟨b, e⟩ | e
    · cases e; exact absurd hd z
    · cases e
    · cases e
  · refine ⟨true, ?_, fun ⟨m, e, z⟩ => ?_, fun _ => rfl⟩
    · rcases h with ⟨n, hn, hd⟩ | ⟨b, hb⟩ | hb
      · rw [key n hn, decide_eq_false hd]; rfl
      · subst hb; simp [uVar, uCut, uTup, uK, kU, pK, pTupL, fCatV, itemsM, eRun, sAsgFre, MO.flatL, sAsgRV, sSpoil3, dEqS, pLam, mDef, outsOf, sSeq, sIf, sDrop, sRet, sRetN, sRetF, sRetO, sAsg, sAsgF, sAsgR, sPar, sSetIx, sAugIx, sAug, sRaise, sNext, sBrk, sCont, sFor, sSpoilA, sSpoilP, sTry, sHand, Fl.clr, suRet, suRetT, xFld, xC, liftP, liftT, okF, Res.bind, RP.bind, Res.of, RP.of, pVar, pC, p1, p2, pN, pAnd, pOr, pIf, pNil, pCons, pTup, pLst, pCall, qB, qAnd, qOr, qNot, dNot, eVar, Cv.e1, Cv.e2, eAnd, eOr, eIf, tBm, tAndm, tOrm, tNotm, vNil, vCons, aNil, aV, aS, eTup, fLst, eOfF, cOfF, cOfE, cVar, rNil, rE, rF, td_lst, mf_lst, dSub, dAdd, dFdiv, dMod, dNeg, dLt, dLe, dGt, dGe, dIsN, dNotN, dInt, dAbs, dMin2, dMax2, tyName, dIsi, eIx, cIx, cS, cL, sLen, sSum, lAll, kVar, kLst, kRep, kCat, kCut, fOfK, fCut, oNo, oI, fListP, itemsD, Sl.mo, Sl.put, ownL, setL, eApp, ePop, ePopAt, gN, gT, gsNil, gsCons, iR1, iR2, iLst, iTupl, eCall, fCall, slotsOf, argSl, putB, wCallT, eOfW, fOfW, unfre, qVar, qIx, freAt, lstOf, fl_non, fl_bl, fl_int, fl_str, fl_lst, fl_tup, fl_rls, tYesm, hi, r_whole_from_b]
      · subst hb; simp [uVar, uCut, uTup, uK, kU, pK, pTupL, fCatV, itemsM, eRun, sAsgFre, MO.flatL, sAsgRV, sSpoil3, dEqS, pLam, mDef, outsOf, sSeq, sIf, sDrop, sRet, sRetN, sRetF, sRetO, sAsg, sAsgF, sAsgR, sPar, sSetIx, sAugIx, sAug, sRaise, sNext, sBrk, sCont, sFor, sSpoilA, sSpoilP, sTry, sHand, Fl.clr, suRet, suRetT, xFld, xC, liftP, liftT, okF, Res.bind, RP.bind, Res.of, RP.of, pVar, pC, p1, p2, pN, pAnd, pOr, pIf, pNil, pCons, pTup, pLst, pCall, qB, qAnd, qOr, qNot, dNot, eVar, Cv.e1, Cv.e2, eAnd, eOr, eIf, tBm, tAndm, tOrm, tNotm, vNil, vCons, aNil, aV, aS, eTup, fLst, eOfF, cOfF, cOfE, cVar, rNil, rE, rF, td_lst, mf_lst, dSub, dAdd, dFdiv, dMod, dNeg, dLt, dLe, dGt, dGe, dIsN, dNotN, dInt, dAbs, dMin2, dMax2, tyName, dIsi, eIx, cIx, cS, cL, sLen, sSum, lAll, kVar, kLst, kRep, kCat, kCut, fOfK, fCut, oNo, oI, fListP, itemsD, Sl.mo, Sl.put, ownL, setL, eApp, ePop, ePopAt, gN, gT, gsNil, gsCons, iR1, iR2, iLst, iTupl, eCall, fCall, slotsOf, argSl, putB, wCallT, eOfW, fOfW, unfre, qVar, qIx, freAt, lstOf, fl_non, fl_bl, fl_int, fl_str, fl_lst, fl_tup, fl_rls, tYesm, hi, r_whole_from_n]
    · subst e
      rcases h with ⟨n, hn, hd⟩ | ⟨b, hb⟩ | hb
      · cases hn; exact absurd z hd
      · cases hb
      · cases hb
def badCal (i : Int) : Exc := ⟨"BadCalendar", [("place", .int i)]⟩
def tooMany (w : Str) : Exc := ⟨"TooMany", [("what", .str w)]⟩
theorem cal_body {S d : D} {i : Int} (hi : dIx S (.int i) = some d) : (((∃ n, d = .int n ∧ dg n)) → (sIf (liftT (qOr (qNot (qB (pCall m_whole_from (pCons (p2 dIx (pVar 0) (pVar 2)) (pCons (pC (.int 0)) pNil))))) (qB (p2 dGt (p2 dIx (pVar 0) (pVar 2)) (pVar 1))))) (sRaise "BadCalendar" "place" (liftP (p2 dAdd (pVar 2) (pC (.int 1))))) sNext) [.imm S, .imm (.int 9), .imm (.int i)] = .next [.imm S, .imm (.int 9), .imm (.int i)]) ∧
    (bad9 d → (sIf (liftT (qOr (qNot (qB (pCall m_whole_from (pCons (p2 dIx (pVar 0) (pVar 2)) (pCons (pC (.int 0)) pNil))))) (qB (p2 dGt (p2 dIx (pVar 0) (pVar 2)) (pVar 1))))) (sRaise "BadCalendar" "place" (liftP (p2 dAdd (pVar 2) (pC (.int 1))))) sNext) [.imm S, .imm (.int 9), .imm (.int i)] = .exc (badCal (i + 1)) [.imm S, .imm (.int 9), .imm (.int i)]) := by
  refine ⟨fun h => ?_, fun h => ?_⟩
  · obtain ⟨bb, q, a, _⟩ := cal_q hi (.inl h)
    rw [a h] at q
    exact (if_fp q).trans rfl
  · obtain ⟨bb, q, _, a⟩ := cal_q hi (.inr h)
    rw [a h] at q
    exact (if_tp q).trans (by simp [uVar, uCut, uTup, uK, kU, pK, pTupL, fCatV, itemsM, eRun, sAsgFre, MO.flatL, sAsgRV, sSpoil3, dEqS, pLam, mDef, outsOf, sSeq, sIf, sDrop, sRet, sRetN, sRetF, sRetO, sAsg, sAsgF, sAsgR, sPar, sSetIx, sAugIx, sAug, sRaise, sNext, sBrk, sCont, sFor, sSpoilA, sSpoilP, sTry, sHand, Fl.clr, suRet, suRetT, xFld, xC, liftP, liftT, okF, Res.bind, RP.bind, Res.of, RP.of, pVar, pC, p1, p2, pN, pAnd, pOr, pIf, pNil, pCons, pTup, pLst, pCall, qB, qAnd, qOr, qNot, dNot, eVar, Cv.e1, Cv.e2, eAnd, eOr, eIf, tBm, tAndm, tOrm, tNotm, vNil, vCons, aNil, aV, aS, eTup, fLst, eOfF, cOfF, cOfE, cVar, rNil, rE, rF, td_lst, mf_lst, dSub, dAdd, dFdiv, dMod, dNeg, dLt, dLe, dGt, dGe, dIsN, dNotN, dInt, dAbs, dMin2, dMax2, dLen, tyName, dIsi, dIx, eIx, cIx, cS, cL, sLen, sSum, lAll, kVar, kLst, kRep, kCat, kCut, fOfK, fCut, oNo, oI, fListP, itemsD, Sl.mo, Sl.put, ownL, setL, eApp, ePop, ePopAt, gN, gT, gsNil, gsCons, iR1, iR2, iLst, iTupl, eCall, fCall, slotsOf, argSl, putB, wCallT, eOfW, fOfW, unfre, qVar, qIx, freAt, lstOf, fl_non, fl_bl, fl_int, fl_str, fl_lst, fl_tup, fl_rls, tYesm, badCal])
theorem r_cal_ok {b : Bool} {ds : List D} (hl : ds.length ≤ 1000) (h : ∀ d ∈ ds, ∃ n, d = .int n ∧ dg n) : m_check_calendar [.imm (sq b ds), .imm (.int 9)] = .ok (.imm .non) [.imm (sq b ds), .imm (.int 9)] := by
  have hrl : (rng 0 ds.length).length = ds.length := by rw [rng_eq, List.length_map, List.length_range]
  obtain ⟨e', h1, x, h2⟩ := forL_rel (tg := gN 2) (body := (sIf (liftT (qOr (qNot (qB (pCall m_whole_from (pCons (p2 dIx (pVar 0) (pVar 2)) (pCons (pC (.int 0)) pNil))))) (qB (p2 dGt (p2 dIx (pVar 0) (pVar 2)) (pVar 1))))) (sRaise "BadCalendar" "place" (liftP (p2 dAdd (pVar 2) (pC (.int 1))))) sNext)) (ds := rng 0 ds.length)
    (fun _ e => ∃ x : Sl, e = [.imm (sq b ds), .imm (.int 9), x]) (e := [.imm (sq b ds), .imm (.int 9), .none]) ⟨.none, rfl⟩ (fun i d e hd ⟨x, he⟩ => by
      subst he
      obtain ⟨hi, rfl⟩ := rng_get hd
      have hx : dIx (sq b ds) (.int (0 + (i : Int))) = some (ds[i]'hi) := by rw [ix_sq]; exact atI_of (by omega) (List.getElem?_eq_getElem hi)
      exact ⟨_, _, rfl, .inl ((cal_body hx).1 (h _ (List.getElem_mem hi))), _, rfl⟩)
  subst h2
  have ll := len_sq b ds
  have hh : (0 : Int) ≤ ds.length := by omega
  have hh2 : (ds.length : Int) ≤ 1000 := by omega
  have hn : (ds.length : Int).toNat = ds.length := by omega
  have st : b_check_calendar [.imm (sq b ds), .imm (.int 9), .none] = .next [.imm (sq b ds), .imm (.int 9), x] := by
    refine (for_ok (iR1_ok (j := ds.length) ?_ hh (Int.le_trans hh2 (by decide)) hn)).trans h1
    generalize (ds.length : Int) = z at *
    simp only [vCons, vNil, liftP, pN, pCons, pNil, pVar, RP.bind, RP.of, ll, okF, fl_int, if_true, Res.bind, List.getElem?_cons_zero]
  exact mDef_go (np := 2) (n := 3) (b := b_check_calendar) (as := [.imm (sq b ds), .imm (.int 9)]) (e := [.imm (sq b ds), .imm (.int 9), .none]) rfl rfl st
theorem r_cal_bad {b : Bool} {ds : List D} {j : Nat} {d : D} (hl : ds.length ≤ 1000) (hj : ds[j]? = some d) (hb : bad9 d) (h : ∀ (i : Nat) (d : D), i < j → ds[i]? = some d → ∃ n, d = .int n ∧ dg n) : m_check_calendar [.imm (sq b ds), .imm (.int 9)] = .exc (badCal (j + 1)) [.imm (sq b ds), .imm (.int 9)] := by
  have jl := (List.getElem?_eq_some_iff.mp hj).1
  have hrj : (rng 0 ds.length)[j]? = some (.int (0 + (j : Int))) := by
    unfold rng
    rw [List.getElem?_map, List.getElem?_range jl]
    rfl
  have lp : ∃ x : Sl, forL (gN 2) (sIf (liftT (qOr (qNot (qB (pCall m_whole_from (pCons (p2 dIx (pVar 0) (pVar 2)) (pCons (pC (.int 0)) pNil))))) (qB (p2 dGt (p2 dIx (pVar 0) (pVar 2)) (pVar 1))))) (sRaise "BadCalendar" "place" (liftP (p2 dAdd (pVar 2) (pC (.int 1))))) sNext) (rng 0 ds.length) [.imm (sq b ds), .imm (.int 9), .none] = .exc (badCal (j + 1)) [.imm (sq b ds), .imm (.int 9), x] :=
    forL_outR (R := fun r => ∃ x : Sl, r = .exc (badCal (j + 1)) [.imm (sq b ds), .imm (.int 9), x]) (fun e => ⟨(fun ⟨_, z⟩ => by cases z), (fun ⟨_, z⟩ => by cases z), (fun ⟨_, z⟩ => by cases z)⟩) (fun _ e => ∃ x : Sl, e = [.imm (sq b ds), .imm (.int 9), x]) ⟨.none, rfl⟩
      (fun i d e hi hd ⟨x, he⟩ => by
        subst he
        obtain ⟨hi', rfl⟩ := rng_get hd
        have hg : ds[i]? = some (ds[i]'hi') := List.getElem?_eq_getElem hi'
        have hx : dIx (sq b ds) (.int (0 + (i : Int))) = some (ds[i]'hi') := by rw [ix_sq]; exact atI_of (by omega) hg
        exact ⟨_, _, rfl, .inl ((cal_body hx).1 (h i _ hi hg)), _, rfl⟩) hrj
      (fun e ⟨x, he⟩ => by
        subst he
        have hx : dIx (sq b ds) (.int (0 + (j : Int))) = some d := by rw [ix_sq]; exact atI_of (by omega) hj
        refine ⟨_, rfl, .imm (.int (0 + (j : Int))), ?_⟩
        have := (cal_body hx).2 hb
        rw [Int.zero_add] at this ⊢
        exact this)
  obtain ⟨x, lp⟩ := lp
  have ll := len_sq b ds
  have hh : (0 : Int) ≤ ds.length := by omega
  have hh2 : (ds.length : Int) ≤ 1000 := by omega
  have hn : (ds.length : Int).toNat = ds.length := by omega
  have st : b_check_calendar [.imm (sq b ds), .imm (.int 9), .none] = .exc (badCal (j + 1)) [.imm (sq b ds), .imm (.int 9), x] := by
    refine (for_ok (iR1_ok (j := ds.length) ?_ hh (Int.le_trans hh2 (by decide)) hn)).trans lp
    generalize (ds.length : Int) = z at *
    simp only [vCons, vNil, liftP, pN, pCons, pNil, pVar, RP.bind, RP.of, ll, okF, fl_int, if_true, Res.bind, List.getElem?_cons_zero]
  exact mDef_go (np := 2) (n := 3) (b := b_check_calendar) (as := [.imm (sq b ds), .imm (.int 9)]) (e := [.imm (sq b ds), .imm (.int 9), .none]) rfl rfl st
end Lw
end

section
set_option Elab.async false
set_option linter.all false
set_option maxRecDepth 100000
set_option maxHeartbeats 4000000
set_option autoImplicit false
open PySem L2 Cv
namespace Lw
variable [TbT]
theorem cw_long {b : Bool} {ds : List D} (h : 400 < ds.length) : m_check_word [.imm (sq b ds)] = .exc (tooMany "calendar") [.imm (sq b ds)] := by
  have ll := len_sq b ds
  have h' : (400 : Int) < ds.length := by omega
  have r := r_check_most "calendar" (ds.length : Int) 400
  rw [if_pos h'] at r
  generalize (ds.length : Int) = z at *
  have st : b_check_word [.imm (sq b ds)] = .exc (tooMany "calendar") [.imm (sq b ds)] := seq_exc (drop_exc (by simp [uVar, uCut, uTup, uK, kU, pK, pTupL, fCatV, itemsM, eRun, sAsgFre, MO.flatL, sAsgRV, sSpoil3, dEqS, pLam, mDef, outsOf, sSeq, sIf, sDrop, sRet, sRetN, sRetF, sRetO, sAsg, sAsgF, sAsgR, sPar, sSetIx, sAugIx, sAug, sRaise, sNext, sBrk, sCont, sFor, sSpoilA, sSpoilP, sTry, sHand, Fl.clr, suRet, suRetT, xFld, xC, liftP, liftT, okF, Res.bind, RP.bind, Res.of, RP.of, pVar, pC, p1, p2, pN, pAnd, pOr, pIf, pNil, pCons, pTup, pLst, pCall, qB, qAnd, qOr, qNot, dNot, eVar, Cv.e1, Cv.e2, eAnd, eOr, eIf, tBm, tAndm, tOrm, tNotm, vNil, vCons, aNil, aV, aS, eTup, fLst, eOfF, cOfF, cOfE, cVar, rNil, rE, rF, td_lst, mf_lst, dSub, dAdd, dFdiv, dMod, dNeg, dLt, dLe, dGt, dGe, dIsN, dNotN, dInt, dAbs, dMin2, dMax2, tyName, dIsi, eIx, cIx, cS, cL, sLen, sSum, lAll, kVar, kLst, kRep, kCat, kCut, fOfK, fCut, oNo, oI, fListP, itemsD, Sl.mo, Sl.put, ownL, setL, eApp, ePop, ePopAt, gN, gT, gsNil, gsCons, iR1, iR2, iLst, iTupl, eCall, fCall, slotsOf, argSl, putB, wCallT, eOfW, fOfW, unfre, qVar, qIx, freAt, lstOf, fl_non, fl_bl, fl_int, fl_str, fl_lst, fl_tup, fl_rls, tYesm, ll, r, tooMany]))
  exact mDef_go (np := 1) (n := 1) (b := b_check_word) (as := [.imm (sq b ds)]) (e := [.imm (sq b ds)]) rfl rfl st
/-- the first check passed -/
theorem cw_one {b : Bool} {ds : List D} (h : ds.length ≤ 400) {rest : En → Fl} : sSeq (sDrop (eCall m_check_most (aV (liftP (pC (.str "calendar"))) (aV (liftP (pN dLen (pCons (pVar 0) pNil))) (aV (liftP (pC (.int 400))) aNil))))) rest [.imm (sq b ds)] = rest [.imm (sq b ds)] := by
  have ll := len_sq b ds
  have h' : ¬ ((400 : Int) < ds.length) := by omega
  have r := r_check_most "calendar" (ds.length : Int) 400
  rw [if_neg h'] at r
  generalize (ds.length : Int) = z at *
  exact seq_next (drop_ok (d := .non) (by simp [uVar, uCut, uTup, uK, kU, pK, pTupL, fCatV, itemsM, eRun, sAsgFre, MO.flatL, sAsgRV, sSpoil3, dEqS, pLam, mDef, outsOf, sSeq, sIf, sDrop, sRet, sRetN, sRetF, sRetO, sAsg, sAsgF, sAsgR, sPar, sSetIx, sAugIx, sAug, sRaise, sNext, sBrk, sCont, sFor, sSpoilA, sSpoilP, sTry, sHand, Fl.clr, suRet, suRetT, xFld, xC, liftP, liftT, okF, Res.bind, RP.bind, Res.of, RP.of, pVar, pC, p1, p2, pN, pAnd, pOr, pIf, pNil, pCons, pTup, pLst, pCall, qB, qAnd, qOr, qNot, dNot, eVar, Cv.e1, Cv.e2, eAnd, eOr, eIf, tBm, tAndm, tOrm, tNotm, vNil, vCons, aNil, aV, aS, eTup, fLst, eOfF, cOfF, cOfE, cVar, rNil, rE, rF, td_lst, mf_lst, dSub, dAdd, dFdiv, dMod, dNeg, dLt, dLe, dGt, dGe, dIsN, dNotN, dInt, dAbs, dMin2, dMax2, tyName, dIsi, eIx, cIx, cS, cL, sLen, sSum, lAll, kVar, kLst, kRep, kCat, kCut, fOfK, fCut, oNo, oI, fListP, itemsD, Sl.mo, Sl.put, ownL, setL, eApp, ePop, ePopAt, gN, gT, gsNil, gsCons, iR1, iR2, iLst, iTupl, eCall, fCall, slotsOf, argSl, putB, wCallT, eOfW, fOfW, unfre, qVar, qIx, freAt, lstOf, fl_non, fl_bl, fl_int, fl_str, fl_lst, fl_tup, fl_rls, tYesm, ll, r]))
theorem cw_none {b : Bool} : m_check_word [.imm (sq b [])] = .exc (badCal 0) [.imm (sq b [])] := by
  have ll := len_sq b []
  have st : b_check_word [.imm (sq b [])] = .exc (badCal 0) [.imm (sq b [])] := (cw_one (by simp)).trans (seq_exc (by simp [uVar, uCut, uTup, uK, kU, pK, pTupL, fCatV, itemsM, eRun, sAsgFre, MO.flatL, sAsgRV, sSpoil3, dEqS, pLam, mDef, outsOf, sSeq, sIf, sDrop, sRet, sRetN, sRetF, sRetO, sAsg, sAsgF, sAsgR, sPar, sSetIx, sAugIx, sAug, sRaise, sNext, sBrk, sCont, sFor, sSpoilA, sSpoilP, sTry, sHand, Fl.clr, suRet, suRetT, xFld, xC, liftP, liftT, okF, Res.bind, RP.bind, Res.of, RP.of, pVar, pC, p1, p2, pN, pAnd, pOr, pIf, pNil, pCons, pTup, pLst, pCall, qB, qAnd, qOr, qNot, dNot, eVar, Cv.e1, Cv.e2, eAnd, eOr, eIf, tBm, tAndm, tOrm, tNotm, vNil, vCons, aNil, aV, aS, eTup, fLst, eOfF, cOfF, cOfE, cVar, rNil, rE, rF, td_lst, mf_lst, dSub, dAdd, dFdiv, dMod, dNeg, dLt, dLe, dGt, dGe, dIsN, dNotN, dInt, dAbs, dMin2, dMax2, tyName, dIsi, eIx, cIx, cS, cL, sLen, sSum, lAll, kVar, kLst, kRep, kCat, kCut, fOfK, fCut, oNo, oI, fListP, itemsD, Sl.mo, Sl.put, ownL, setL, eApp, ePop, ePopAt, gN, gT, gsNil, gsCons, iR1, iR2, iLst, iTupl, eCall, fCall, slotsOf, argSl, putB, wCallT, eOfW, fOfW, unfre, qVar, qIx, freAt, lstOf, fl_non, fl_bl, fl_int, fl_str, fl_lst, fl_tup, fl_rls, tYesm, ll, dEq_int, badCal]))
  exact mDef_go (np := 1) (n := 1) (b := b_check_word) (as := [.imm (sq b [])]) (e := [.imm (sq b [])]) rfl rfl st
theorem cw_two {b : Bool} {ds : List D} (h : ds.length ≤ 400) (hne : ds ≠ []) : b_check_word [.imm (sq b ds)] = sDrop (eCall m_check_calendar (aV (eVar 0) (aV (liftP (pC (.int 9))) aNil))) [.imm (sq b ds)] := by
  have ll := len_sq b ds
  have h' : ¬ ((ds.length : Int) = 0) := by
    have := List.length_pos_iff.mpr hne
    omega
  refine (cw_one h).trans (seq_next ?_)
  generalize (ds.length : Int) = z at *
  exact (if_fp (by simp [uVar, uCut, uTup, uK, kU, pK, pTupL, fCatV, itemsM, eRun, sAsgFre, MO.flatL, sAsgRV, sSpoil3, dEqS, pLam, mDef, outsOf, sSeq, sIf, sDrop, sRet, sRetN, sRetF, sRetO, sAsg, sAsgF, sAsgR, sPar, sSetIx, sAugIx, sAug, sRaise, sNext, sBrk, sCont, sFor, sSpoilA, sSpoilP, sTry, sHand, Fl.clr, suRet, suRetT, xFld, xC, liftP, liftT, okF, Res.bind, RP.bind, Res.of, RP.of, pVar, pC, p1, p2, pN, pAnd, pOr, pIf, pNil, pCons, pTup, pLst, pCall, qB, qAnd, qOr, qNot, dNot, eVar, Cv.e1, Cv.e2, eAnd, eOr, eIf, tBm, tAndm, tOrm, tNotm, vNil, vCons, aNil, aV, aS, eTup, fLst, eOfF, cOfF, cOfE, cVar, rNil, rE, rF, td_lst, mf_lst, dSub, dAdd, dFdiv, dMod, dNeg, dLt, dLe, dGt, dGe, dIsN, dNotN, dInt, dAbs, dMin2, dMax2, tyName, dIsi, eIx, cIx, cS, cL, sLen, sSum, lAll, kVar, kLst, kRep, kCat, kCut, fOfK, fCut, oNo, oI, fListP, itemsD, Sl.mo, Sl.put, ownL, setL, eApp, ePop, ePopAt, gN, gT, gsNil, gsCons, iR1, iR2, iLst, iTupl, eCall, fCall, slotsOf, argSl, putB, wCallT, eOfW, fOfW, unfre, qVar, qIx, freAt, lstOf, fl_non, fl_bl, fl_int, fl_str, fl_lst, fl_tup, fl_rls, tYesm, ll, dEq_int, h'])).trans rfl
theorem cw_ok {b : Bool} {ds : List D} (h : ds.length ≤ 400) (hne : ds ≠ []) (hd : ∀ d ∈ ds, ∃ n, d = .int n ∧ dg n) : m_check_word [.imm (sq b ds)] = .ok (.imm .non) [.imm (sq b ds)] := by
  have r := r_cal_ok (b := b) (by omega) hd
  have st : b_check_word [.imm (sq b ds)] = .next [.imm (sq b ds)] := (cw_two h hne).trans (drop_ok (d := .non) (by simp [uVar, uCut, uTup, uK, kU, pK, pTupL, fCatV, itemsM, eRun, sAsgFre, MO.flatL, sAsgRV, sSpoil3, dEqS, pLam, mDef, outsOf, sSeq, sIf, sDrop, sRet, sRetN, sRetF, sRetO, sAsg, sAsgF, sAsgR, sPar, sSetIx, sAugIx, sAug, sRaise, sNext, sBrk, sCont, sFor, sSpoilA, sSpoilP, sTry, sHand, Fl.clr, suRet, suRetT, xFld, xC, liftP, liftT, okF, Res.bind, RP.bind, Res.of, RP.of, pVar, pC, p1, p2, pN, pAnd, pOr, pIf, pNil, pCons, pTup, pLst, pCall, qB, qAnd, qOr, qNot, dNot, eVar, Cv.e1, Cv.e2, eAnd, eOr, eIf, tBm, tAndm, tOrm, tNotm, vNil, vCons, aNil, aV, aS, eTup, fLst, eOfF, cOfF, cOfE, cVar, rNil, rE, rF, td_lst, mf_lst, dSub, dAdd, dFdiv, dMod, dNeg, dLt, dLe, dGt, dGe, dIsN, dNotN, dInt, dAbs, dMin2, dMax2, tyName, dIsi, eIx, cIx, cS, cL, sLen, sSum, lAll, kVar, kLst, kRep, kCat, kCut, fOfK, fCut, oNo, oI, fListP, itemsD, Sl.mo, Sl.put, ownL, setL, eApp, ePop, ePopAt, gN, gT, gsNil, gsCons, iR1, iR2, iLst, iTupl, eCall, fCall, slotsOf, argSl, putB, wCallT, eOfW, fOfW, unfre, qVar, qIx, freAt, lstOf, fl_non, fl_bl, fl_int, fl_str, fl_lst, fl_tup, fl_rls, tYesm, r]))
  exact mDef_go (np := 1) (n := 1) (b := b_check_word) (as := [.imm (sq b ds)]) (e := [.imm (sq b ds)]) rfl rfl st
theorem cw_bad {b : Bool} {ds : List D} {j : Nat} {d : D} (hl : ds.length ≤ 400) (hj : ds[j]? = some d) (hb : bad9 d) (h : ∀ (i : Nat) (d : D), i < j → ds[i]? = some d → ∃ n, d = .int n ∧ dg n) : m_check_word [.imm (sq b ds)] = .exc (badCal (j + 1)) [.imm (sq b ds)] := by
  have r := r_cal_bad (b := b) (by omega) hj hb h
  have hne : ds ≠ [] := fun z => by rw [z] at hj; simp at hj
  generalize badCal ((j : Int) + 1) = x at *
  have st : b_check_word [.imm (sq b ds)] = .exc x [.imm (sq b ds)] := (cw_two hl hne).trans (drop_exc (by simp [uVar, uCut, uTup, uK, kU, pK, pTupL, fCatV, itemsM, eRun, sAsgFre, MO.flatL, sAsgRV, sSpoil3, dEqS, pLam, mDef, outsOf, sSeq, sIf, sDrop, sRet, sRetN, sRetF, sRetO, sAsg, sAsgF, sAsgR, sPar, sSetIx, sAugIx, sAug, sRaise, sNext, sBrk, sCont, sFor, sSpoilA, sSpoilP, sTry, sHand, Fl.clr, suRet, suRetT, xFld, xC, liftP, liftT, okF, Res.bind, RP.bind, Res.of, RP.of, pVar, pC, p1, p2, pN, pAnd, pOr, pIf, pNil, pCons, pTup, pLst, pCall, qB, qAnd, qOr, qNot, dNot, eVar, Cv.e1, Cv.e2, eAnd, eOr, eIf, tBm, tAndm, tOrm, tNotm, vNil, vCons, aNil, aV, aS, eTup, fLst, eOfF, cOfF, cOfE, cVar, rNil, rE, rF, td_lst, mf_lst, dSub, dAdd, dFdiv, dMod, dNeg, dLt, dLe, dGt, dGe, dIsN, dNotN, dInt, dAbs, dMin2, dMax2, tyName, dIsi, eIx, cIx, cS, cL, sLen, sSum, lAll, kVar, kLst, kRep, kCat, kCut, fOfK, fCut, oNo, oI, fListP, itemsD, Sl.mo, Sl.put, ownL, setL, eApp, ePop, ePopAt, gN, gT, gsNil, gsCons, iR1, iR2, iLst, iTupl, eCall, fCall, slotsOf, argSl, putB, wCallT, eOfW, fOfW, unfre, qVar, qIx, freAt, lstOf, fl_non, fl_bl, fl_int, fl_str, fl_lst, fl_tup, fl_rls, tYesm, r]))
  exact mDef_go (np := 1) (n := 1) (b := b_check_word) (as := [.imm (sq b ds)]) (e := [.imm (sq b ds)]) rfl rfl st
/-! ### turns -/
def rot {α : Type} (ds : List α) (i : Nat) : List α := ds.drop i ++ ds.take i
theorem cut_lo {ds : List D} {i : Nat} (h : i ≤ ds.length) : cutD ds (some (i : Int)) none = ds.drop i := by
  unfold cutD
  rw [HT.sIx_nat, Nat.min_eq_left h]
  show (ds.drop i).take (ds.length - i) = ds.drop i
  rw [List.take_of_length_le (by rw [List.length_drop]; omega)]
theorem cut_hi {ds : List D} {i : Nat} (h : i ≤ ds.length) : cutD ds none (some (i : Int)) = ds.take i := by
  unfold cutD
  rw [HT.sIx_nat, Nat.min_eq_left h]
  show (ds.drop 0).take (i - 0) = ds.take i
  simp
theorem uVar_sq {b : Bool} {ds : List D} {r : En} : uVar 0 (.imm (sq b ds) :: r) = .ok (b, ds) := by cases b <;> rfl
theorem rot_len {α : Type} (ds : List α) {i : Nat} (h : i ≤ ds.length) : (rot ds i).length = ds.length := by unfold rot; simp; omega
theorem r_turn {b : Bool} {ds : List D} {i : Nat} (h : i ≤ ds.length) (hl : ds.length ≤ 1000) : m_turn_at [.imm (sq b ds), .imm (.int i)] = .ok (.own (.lst (rot ds i))) [.imm (sq b ds), .imm (.int i)] := by
  have c1 := cut_lo h
  have c2 := cut_hi h
  have l : (ds.drop i).length + (ds.take i).length ≤ sizeLine := le_line (by simp; omega)
  have e : rot ds i = ds.drop i ++ ds.take i := rfl
  generalize (i : Int) = w at *
  have st : b_turn_at [.imm (sq b ds), .imm (.int w)] = .ret (.own (.lst (rot ds i))) [.imm (sq b ds), .imm (.int w)] := by
    rw [e]
    simp only [b_turn_at, sRetF, fOfK, kCat, kU, uCut, uVar_sq, oI, oNo, pVar, RP.bind, List.getElem?_cons_zero, List.getElem?_cons_succ, c1, c2, if_pos l]
  exact mDef_go (np := 2) (n := 2) (b := b_turn_at) (as := [.imm (sq b ds), .imm (.int w)]) (e := [.imm (sq b ds), .imm (.int w)]) rfl rfl st
/-- lists of lists -/
def LL (ls : List (List D)) : D := .lst (ls.map .lst)
def turnsD (ds : List D) : List (List D) := (List.range ds.length).map (rot ds)
def rotD (ds : List D) : D → D
  | .int i => .lst (rot ds i.toNat)
  | d => d
theorem rng_rot (ds : List D) : (rng 0 ds.length).map (rotD ds) = (turnsD ds).map .lst := by
  unfold turnsD
  rw [rng_eq, List.map_map, List.map_map]
  apply List.map_congr_left
  intro i _
  simp [rotD]
theorem turns_comp {b : Bool} {ds : List D} (hl : ds.length ≤ 1000) : fLc (iR1 (vCons (liftP (pN dLen (pCons (pVar 0) pNil))) vNil)) [1] (gN 1) tYesm (eCall m_turn_at (aV (eVar 0) (aV (eVar 1) aNil))) [.imm (sq b ds), .none] = .ok (.lst ((turnsD ds).map .lst)) [.imm (sq b ds), .none] := by
  have ll := len_sq b ds
  have hh : (0 : Int) ≤ ds.length := by omega
  have hh2 : (ds.length : Int) ≤ 1000 := by omega
  have hn : (ds.length : Int).toNat = ds.length := by omega
  have hs : (iR1 (vCons (liftP (pN dLen (pCons (pVar 0) pNil))) vNil)) [.imm (sq b ds), .none] = .ok (rng 0 ds.length) [.imm (sq b ds), .none] := by
    refine iR1_ok (j := ds.length) ?_ hh (Int.le_trans hh2 (by decide)) hn
    generalize (ds.length : Int) = z at *
    simp only [vCons, vNil, liftP, pN, pCons, pNil, pVar, RP.bind, RP.of, ll, okF, fl_int, if_true, Res.bind, List.getElem?_cons_zero]
  have hc := fLc_map (vs := [1]) (tg := gN 1) (test := tYesm) (elt := eCall m_turn_at (aV (eVar 0) (aV (eVar 1) aNil))) (rotD ds) hs rfl (fun d hd => by
    obtain ⟨i, hi⟩ := List.getElem?_of_mem hd
    obtain ⟨hlt, rfl⟩ := rng_get hi
    refine ⟨[.imm (sq b ds), .imm (.int (0 + (i : Int)))], rfl, rfl, ?_, rfl, rfl⟩
    have r := r_turn (b := b) (i := i) (Nat.le_of_lt hlt) hl
    have e : rotD ds (.int (0 + (i : Int))) = .lst (rot ds i) := by simp [rotD]
    rw [e, Int.zero_add]
    generalize (i : Int) = w at *
    simp only [eCall, aV, aNil, eVar, Res.bind, slotsOf, argSl, Option.map, List.nodup_nil, if_true, r, putB, td_lst, List.getElem?_cons_zero, List.getElem?_cons_succ]) (le_line (by rw [rng_eq]; simp; omega))
  rw [rng_rot] at hc
  exact hc
theorem r_turns {b : Bool} {ds : List D} (h : m_check_word [.imm (sq b ds)] = .ok (.imm .non) [.imm (sq b ds)]) (hl : ds.length ≤ 1000) : m_turns_of [.imm (sq b ds)] = .ok (.own (.lst ((turnsD ds).map .lst))) [.imm (sq b ds)] := by
  have c := turns_comp (b := b) hl
  have hv : eVar 0 [.imm (sq b ds), .none] = .ok (sq b ds) [.imm (sq b ds), .none] := rfl
  have st : b_turns_of [.imm (sq b ds), .none] = .ret (.own (.lst ((turnsD ds).map .lst))) [.imm (sq b ds), .none] := by
    refine (seq_next (e1 := [.imm (sq b ds), .none]) (drop_ok (d := .non) ?_)).trans ?_
    · simp only [eCall, aV, aNil, hv, Res.bind, slotsOf, argSl, Option.map, List.nodup_nil, if_true, h, putB]
    · unfold sRetF; rw [c]
  exact mDef_go (np := 1) (n := 2) (b := b_turns_of) (as := [.imm (sq b ds)]) (e := [.imm (sq b ds), .none]) rfl rfl st
theorem r_turns_x {b : Bool} {ds : List D} {x : Exc} (h : m_check_word [.imm (sq b ds)] = .exc x [.imm (sq b ds)]) : m_turns_of [.imm (sq b ds)] = .exc x [.imm (sq b ds)] := by
  have hv : eVar 0 [.imm (sq b ds), .none] = .ok (sq b ds) [.imm (sq b ds), .none] := rfl
  have st : b_turns_of [.imm (sq b ds), .none] = .exc x [.imm (sq b ds), .none] := by
    refine seq_exc (drop_exc ?_)
    simp only [eCall, aV, aNil, hv, Res.bind, slotsOf, argSl, Option.map, List.nodup_nil, if_true, h, putB]
  exact mDef_go (np := 1) (n := 2) (b := b_turns_of) (as := [.imm (sq b ds)]) (e := [.imm (sq b ds), .none]) rfl rfl st
theorem r_lyn_x {b : Bool} {ds : List D} {x : Exc} (h : m_check_word [.imm (sq b ds)] = .exc x [.imm (sq b ds)]) : m_is_lyndon [.imm (sq b ds)] = .exc x [.imm (sq b ds)] := by
  have hv : eVar 0 [.imm (sq b ds), .none] = .ok (sq b ds) [.imm (sq b ds), .none] := rfl
  have st : b_is_lyndon [.imm (sq b ds), .none] = .exc x [.imm (sq b ds), .none] := by
    refine seq_exc (drop_exc ?_)
    simp only [eCall, aV, aNil, hv, Res.bind, slotsOf, argSl, Option.map, List.nodup_nil, if_true, h, putB]
  exact mDef_go (np := 1) (n := 2) (b := b_is_lyndon) (as := [.imm (sq b ds)]) (e := [.imm (sq b ds), .none]) rfl rfl st
end Lw
end

section
set_option Elab.async false
set_option linter.all false
set_option maxRecDepth 100000
set_option maxHeartbeats 4000000
set_option autoImplicit false
open PySem L2 Cv
namespace Lw
variable [TbT]
theorem atI_map {ns : List Int} {i : Int} {j : Nat} {n : Int} (hj : i = (j : Int)) (h : ns[j]? = some n) : atI (ns.map D.int) i = some (.int n) := atI_of hj (by rw [List.getElem?_map, h]; rfl)
def wd (ns : List Int) : D := .lst (ns.map .int)
def fu : List Int → List Int → Option Nat
  | x :: xs, y :: ys => if x = y then (fu xs ys).map (· + 1) else some 0
  | _, _ => none
omit [TbT] in
theorem fu_some : ∀ {xs ys : List Int} {j : Nat}, fu xs ys = some j → ∃ a b, xs[j]? = some a ∧ ys[j]? = some b ∧ a ≠ b ∧ (∀ (i : Nat) (a b : Int), i < j → xs[i]? = some a → ys[i]? = some b → a = b) ∧ (xs < ys ↔ a < b)
  | [], _, j, h => by cases h
  | _ :: _, [], j, h => by cases h
  | x :: xs, y :: ys, j, h => by
    unfold fu at h
    by_cases c : x = y
    · rw [if_pos c] at h
      subst c
      cases q : fu xs ys with
      | none => rw [q] at h; cases h
      | some k =>
        rw [q] at h
        cases h
        obtain ⟨a, b, h1, h2, h3, h4, h5⟩ := fu_some q
        refine ⟨a, b, by simpa using h1, by simpa using h2, h3, fun i u v hi hu hv => ?_, ?_⟩
        · cases i with
          | zero => simp at hu hv; rw [← hu, ← hv]
          | succ i => exact h4 i u v (by have hi : i + 1 < k + 1 := hi; omega) (by simpa using hu) (by simpa using hv)
        · rw [List.cons_lt_cons_iff]
          constructor
          · rintro (z | ⟨_, z⟩)
            · omega
            · exact h5.mp z
          · intro z
            exact .inr ⟨rfl, h5.mpr z⟩
    · rw [if_neg c] at h
      cases h
      refine ⟨x, y, rfl, rfl, c, fun i u v hi => by omega, ?_⟩
      rw [List.cons_lt_cons_iff]
      constructor
      · rintro (z | ⟨z, _⟩)
        · exact z
        · exact absurd z c
      · exact fun z => .inl z
omit [TbT] in
theorem fu_none : ∀ {xs ys : List Int}, xs.length = ys.length → fu xs ys = none → xs = ys
  | [], [], _, _ => rfl
  | [], _ :: _, h, _ => by simp at h
  | _ :: _, [], h, _ => by simp at h
  | x :: xs, y :: ys, h, e => by
    unfold fu at e
    by_cases c : x = y
    · rw [if_pos c] at e
      cases q : fu xs ys with
      | some k => rw [q] at e; cases e
      | none => rw [c, fu_none (by simpa using h) q]
    · rw [if_neg c] at e; cases e
theorem fu_body {xs ys : List Int} {i : Nat} {a b : Int} (ha : xs[i]? = some a) (hb : ys[i]? = some b) : (sIf (liftT (qB (p2 dNe (p2 dIx (pVar 0) (pVar 2)) (p2 dIx (pVar 1) (pVar 2))))) (sRet (eVar 2)) sNext) [.imm (wd xs), .imm (wd ys), .imm (.int i)] =
    if a = b then .next [.imm (wd xs), .imm (wd ys), .imm (.int i)] else .ret (.imm (.int i)) [.imm (wd xs), .imm (wd ys), .imm (.int i)] := by
  have x1 : dIx (wd xs) (.int i) = some (.int a) := atI_map rfl ha
  have x2 : dIx (wd ys) (.int i) = some (.int b) := atI_map rfl hb
  generalize (i : Int) = w at *
  by_cases c : a = b
  · rw [if_pos c]
    exact (if_fp (by simp only [liftT, qB, p2, pVar, RP.bind, RP.of, x1, x2, dNe_int, decide_eq_true c, Bool.not_true, List.getElem?_cons_zero, List.getElem?_cons_succ])).trans rfl
  · rw [if_neg c]
    exact (if_tp (by simp only [liftT, qB, p2, pVar, RP.bind, RP.of, x1, x2, dNe_int, decide_eq_false c, Bool.not_false, List.getElem?_cons_zero, List.getElem?_cons_succ])).trans rfl
theorem len_wd (ns : List Int) : dLen [wd ns] = some (.int ns.length) := by show some (D.int ((ns.map D.int).length : Int)) = _; rw [List.length_map]
def fuD (xs ys : List Int) : D := match fu xs ys with
  | some j => .int j
  | none => .non
theorem r_fu {xs ys : List Int} (h : xs.length = ys.length) (hl : xs.length ≤ 1000) : m_first_unlike [.imm (wd xs), .imm (wd ys)] = .ok (.imm (fuD xs ys)) [.imm (wd xs), .imm (wd ys)] := by
  have hrl : (rng 0 xs.length).length = xs.length := by rw [rng_eq, List.length_map, List.length_range]
  have l1 := len_wd xs
  have l2 := len_wd ys
  rw [← h] at l2
  have hh : (0 : Int) ≤ xs.length := by omega
  have hh2 : (xs.length : Int) ≤ 1000 := by omega
  have hn : (xs.length : Int).toNat = xs.length := by omega
  have src : (iR1 (vCons (liftP (pN dMin2 (pCons (pN dLen (pCons (pVar 0) pNil)) (pCons (pN dLen (pCons (pVar 1) pNil)) pNil)))) vNil)) [.imm (wd xs), .imm (wd ys), .none] = .ok (rng 0 xs.length) [.imm (wd xs), .imm (wd ys), .none] := by
    refine iR1_ok (j := xs.length) ?_ hh (Int.le_trans hh2 (by decide)) hn
    generalize (xs.length : Int) = z at *
    simp only [vCons, vNil, liftP, pN, pCons, pNil, pVar, RP.bind, RP.of, l1, l2, dMin2, Int.lt_irrefl, if_false, okF, fl_int, if_true, Res.bind, List.getElem?_cons_zero, List.getElem?_cons_succ]
  cases q : fu xs ys with
  | none =>
    have e := fu_none h q
    subst e
    obtain ⟨e', h1, x, h2⟩ := forL_rel (tg := gN 2) (body := (sIf (liftT (qB (p2 dNe (p2 dIx (pVar 0) (pVar 2)) (p2 dIx (pVar 1) (pVar 2))))) (sRet (eVar 2)) sNext)) (ds := rng 0 xs.length)
      (fun _ e => ∃ x : Sl, e = [.imm (wd xs), .imm (wd xs), x]) (e := [.imm (wd xs), .imm (wd xs), .none]) ⟨.none, rfl⟩ (fun i d e hd ⟨x, he⟩ => by
        subst he
        obtain ⟨hi, rfl⟩ := rng_get hd
        rw [Int.zero_add]
        have hg : xs[i]? = some (xs[i]'hi) := List.getElem?_eq_getElem hi
        have := fu_body hg hg
        rw [if_pos rfl] at this
        exact ⟨_, _, rfl, .inl this, _, rfl⟩)
    subst h2
    have st : b_first_unlike [.imm (wd xs), .imm (wd xs), .none] = .ret (.imm .non) [.imm (wd xs), .imm (wd xs), x] := (seq_next ((for_ok src).trans h1)).trans rfl
    have e : fuD xs xs = .non := by unfold fuD; rw [q]
    rw [e]
    exact mDef_go (np := 2) (n := 3) (b := b_first_unlike) (as := [.imm (wd xs), .imm (wd xs)]) (e := [.imm (wd xs), .imm (wd xs), .none]) rfl rfl st
  | some j =>
    obtain ⟨a, b, ha, hb, hab, hf, _⟩ := fu_some q
    have jl := (List.getElem?_eq_some_iff.mp ha).1
    have hrj : (rng 0 xs.length)[j]? = some (.int (0 + (j : Int))) := by
      unfold rng
      rw [List.getElem?_map, List.getElem?_range jl]
      rfl
    have lp : ∃ x : Sl, forL (gN 2) (sIf (liftT (qB (p2 dNe (p2 dIx (pVar 0) (pVar 2)) (p2 dIx (pVar 1) (pVar 2))))) (sRet (eVar 2)) sNext) (rng 0 xs.length) [.imm (wd xs), .imm (wd ys), .none] = .ret (.imm (.int j)) [.imm (wd xs), .imm (wd ys), x] :=
      forL_outR (R := fun r => ∃ x : Sl, r = .ret (.imm (.int j)) [.imm (wd xs), .imm (wd ys), x]) (fun e => ⟨(fun ⟨_, z⟩ => by cases z), (fun ⟨_, z⟩ => by cases z), (fun ⟨_, z⟩ => by cases z)⟩) (fun _ e => ∃ x : Sl, e = [.imm (wd xs), .imm (wd ys), x]) ⟨.none, rfl⟩
        (fun i d e hi hd ⟨x, he⟩ => by
          subst he
          obtain ⟨hi', rfl⟩ := rng_get hd
          rw [Int.zero_add]
          have g1 : xs[i]? = some (xs[i]'hi') := List.getElem?_eq_getElem hi'
          have g2 : ys[i]? = some (ys[i]'(by omega)) := List.getElem?_eq_getElem (by omega)
          have := fu_body g1 g2
          rw [if_pos (hf i _ _ hi g1 g2)] at this
          exact ⟨_, _, rfl, .inl this, _, rfl⟩) hrj
        (fun e ⟨x, he⟩ => by
          subst he
          rw [Int.zero_add]
          have := fu_body ha hb
          rw [if_neg hab] at this
          exact ⟨_, rfl, _, this⟩)
    obtain ⟨x, lp⟩ := lp
    have st : b_first_unlike [.imm (wd xs), .imm (wd ys), .none] = .ret (.imm (.int j)) [.imm (wd xs), .imm (wd ys), x] := seq_ret ((for_ok src).trans lp)
    have e : fuD xs ys = .int j := by unfold fuD; rw [q]
    rw [e]
    exact mDef_go (np := 2) (n := 3) (b := b_first_unlike) (as := [.imm (wd xs), .imm (wd ys)]) (e := [.imm (wd xs), .imm (wd ys), .none]) rfl rfl st
/-- the place found, abstract: what row_below tells of it -/
theorem rb_step {f : En → RD} {X Y r : D} {bb : Bool} (h : f [.imm X, .imm Y] = .ok (.imm r) [.imm X, .imm Y]) (hf : flat r = true) (hr : (r = .non ∧ bb = false) ∨ ∃ j a b, r = .int j ∧ dIx X (.int j) = some (.int a) ∧ dIx Y (.int j) = some (.int b) ∧ bb = decide (a < b)) :
    sSeq (sAsg (liftP (pCall f (pCons (pVar 0) (pCons (pVar 1) pNil)))) (gN 2)) (sRet (liftP (pAnd (p2 dNotN (pVar 2) (pC .non)) (p2 dLt (p2 dIx (pVar 0) (pVar 2)) (p2 dIx (pVar 1) (pVar 2)))))) [.imm X, .imm Y, .none] = .ret (.imm (.bl bb)) [.imm X, .imm Y, .imm r] := by
  refine (seq_next (e1 := [.imm X, .imm Y, .imm r]) (asg_p (d := r) ?_ rfl)).trans (ret_ok ?_)
  · simp only [liftP, pCall, pCons, pNil, pVar, RP.bind, List.map_cons, List.map_nil, h, okF, hf, if_true, List.getElem?_cons_zero, List.getElem?_cons_succ]
  · rcases hr with ⟨rfl, rfl⟩ | ⟨j, a, b, rfl, h1, h2, rfl⟩
    · simp [uVar, uCut, uTup, uK, kU, pK, pTupL, fCatV, itemsM, eRun, sAsgFre, MO.flatL, sAsgRV, sSpoil3, dEqS, pLam, mDef, outsOf, sSeq, sIf, sDrop, sRet, sRetN, sRetF, sRetO, sAsg, sAsgF, sAsgR, sPar, sSetIx, sAugIx, sAug, sRaise, sNext, sBrk, sCont, sFor, sSpoilA, sSpoilP, sTry, sHand, Fl.clr, suRet, suRetT, xFld, xC, liftP, liftT, okF, Res.bind, RP.bind, Res.of, RP.of, pVar, pC, p1, p2, pN, pAnd, pOr, pIf, pNil, pCons, pTup, pLst, pCall, qB, qAnd, qOr, qNot, dNot, eVar, Cv.e1, Cv.e2, eAnd, eOr, eIf, tBm, tAndm, tOrm, tNotm, vNil, vCons, aNil, aV, aS, eTup, fLst, eOfF, cOfF, cOfE, cVar, rNil, rE, rF, td_lst, mf_lst, dSub, dAdd, dFdiv, dMod, dNeg, dLt, dLe, dGt, dGe, dIsN, dNotN, dInt, dAbs, dMin2, dMax2, dLen, tyName, dIsi, dIx, eIx, cIx, cS, cL, sLen, sSum, lAll, kVar, kLst, kRep, kCat, kCut, fOfK, fCut, oNo, oI, fListP, itemsD, Sl.mo, Sl.put, ownL, setL, eApp, ePop, ePopAt, gN, gT, gsNil, gsCons, iR1, iR2, iLst, iTupl, eCall, fCall, slotsOf, argSl, putB, wCallT, eOfW, fOfW, unfre, qVar, qIx, freAt, lstOf, fl_non, fl_bl, fl_int, fl_str, fl_lst, fl_tup, fl_rls, tYesm]
    · simp only [liftP, pAnd, p2, pVar, pC, RP.bind, RP.of, dNotN, dIsN, dNot, Option.bind, h1, h2, dLt, okF, fl_bl, if_true, List.getElem?_cons_zero, List.getElem?_cons_succ, Bool.not_false]
theorem r_below {xs ys : List Int} (h : xs.length = ys.length) (hl : xs.length ≤ 1000) : m_row_below [.imm (wd xs), .imm (wd ys)] = .ok (.imm (.bl (decide (xs < ys)))) [.imm (wd xs), .imm (wd ys)] := by
  have r := r_fu h hl
  have st : b_row_below [.imm (wd xs), .imm (wd ys), .none] = .ret (.imm (.bl (decide (xs < ys)))) [.imm (wd xs), .imm (wd ys), .imm (fuD xs ys)] := by
    refine rb_step r ?_ ?_
    · unfold fuD; cases fu xs ys <;> rfl
    · unfold fuD
      cases q : fu xs ys with
      | none =>
        have e := fu_none h q
        subst e
        exact .inl ⟨rfl, decide_eq_false (List.lt_irrefl _)⟩
      | some j =>
        obtain ⟨a, b, ha, hb, _, _, hi⟩ := fu_some q
        refine .inr ⟨j, a, b, rfl, atI_map rfl ha, atI_map rfl hb, ?_⟩
        by_cases c : xs < ys
        · rw [decide_eq_true c, decide_eq_true (hi.mp c)]
        · rw [decide_eq_false c, decide_eq_false fun z => c (hi.mpr z)]
  exact mDef_go (np := 2) (n := 3) (b := b_row_below) (as := [.imm (wd xs), .imm (wd ys)]) (e := [.imm (wd xs), .imm (wd ys), .none]) rfl rfl st
end Lw
end

section
set_option Elab.async false
set_option linter.all false
set_option maxRecDepth 100000
set_option maxHeartbeats 4000000
set_option autoImplicit false
open PySem L2 Cv
namespace Lw
variable [TbT]
/-- a loop that asks one thing of each place -/
theorem loop_all {k : Nat} {body : En → Fl} {p : Nat → Bool} {lo : Int} {n : Nat} {e : Sl → En} {x0 : Sl} (hg : ∀ (d : D) (x : Sl), gN k d (e x) = some (e (.imm d)))
    (hb : ∀ i, i < n → body (e (.imm (.int (lo + i)))) = if p i = true then .next (e (.imm (.int (lo + i)))) else .ret (.imm (.bl false)) (e (.imm (.int (lo + i))))) :
    ∃ x : Sl, forL (gN k) body (rng lo n) (e x0) = if (List.range n).all p = true then .next (e x) else .ret (.imm (.bl false)) (e x) := by
  have hrl : (rng lo n).length = n := by unfold rng; rw [List.length_map, List.length_range]
  by_cases c : (List.range n).all p = true
  · simp only [if_pos c]
    rw [List.all_eq_true] at c
    obtain ⟨e', h1, x, h2⟩ := forL_rel (tg := gN k) (body := body) (ds := rng lo n) (fun _ e' => ∃ x : Sl, e' = e x) (e := e x0) ⟨x0, rfl⟩ (fun i d e' hd ⟨x, he⟩ => by
      subst he
      obtain ⟨hi, rfl⟩ := rng_get hd
      have := hb i hi
      rw [if_pos (c i (List.mem_range.mpr hi))] at this
      exact ⟨_, _, hg _ _, .inl this, _, rfl⟩)
    subst h2
    exact ⟨x, h1⟩
  · simp only [if_neg c]
    have hex : ∃ i ∈ List.range n, ¬ p i = true := by
      apply Classical.byContradiction
      intro no
      apply c
      rw [List.all_eq_true]
      intro i hi
      apply Classical.byContradiction
      intro z
      exact no ⟨i, hi, z⟩
    obtain ⟨j, x, hj, hx, hf⟩ := first_ix hex
    have jx : j < n ∧ x = j := by
      have := List.getElem?_eq_some_iff.mp hj
      obtain ⟨l, e⟩ := this
      rw [List.length_range] at l
      rw [List.getElem_range] at e
      exact ⟨l, e.symm⟩
    obtain ⟨jn, rfl⟩ := jx
    have hrj : (rng lo n)[x]? = some (.int (lo + (x : Int))) := by
      unfold rng
      rw [List.getElem?_map, List.getElem?_range jn]
      rfl
    have lp : ∃ y : Sl, forL (gN k) body (rng lo n) (e x0) = .ret (.imm (.bl false)) (e y) :=
      forL_outR (R := fun r => ∃ y : Sl, r = .ret (.imm (.bl false)) (e y)) (fun e => ⟨(fun ⟨_, z⟩ => by cases z), (fun ⟨_, z⟩ => by cases z), (fun ⟨_, z⟩ => by cases z)⟩) (fun _ e' => ∃ y : Sl, e' = e y) ⟨x0, rfl⟩
        (fun i d e' hi hd ⟨y, he⟩ => by
          subst he
          obtain ⟨hi', rfl⟩ := rng_get hd
          have := hb i hi'
          have pi : p i = true := by
            have g : (List.range n)[i]? = some i := by rw [List.getElem?_range hi']
            have := hf i i hi g
            exact Classical.byContradiction fun z => this z
          rw [if_pos pi] at this
          exact ⟨_, _, hg _ _, .inl this, _, rfl⟩) hrj
        (fun e' ⟨y, he⟩ => by
          subst he
          have := hb x jn
          rw [if_neg hx] at this
          exact ⟨_, hg _ _, _, this⟩)
    exact lp
/-! ### the order of lists of numbers -/
theorem toPyL_ints (ns : List Int) : toPyL (ns.map .int) = some (ns.map .int) := by
  induction ns with
  | nil => rfl
  | cons n r ih => rw [List.map_cons, List.map_cons, toPyL, ih]; rfl
theorem alike_ints : ∀ (xs ys : List Int), PySem.W.alikeAll (xs.map .int) (ys.map .int) = true
  | [], _ => by simp [PySem.W.alikeAll]
  | _ :: _, [] => by simp [PySem.W.alikeAll]
  | x :: xs, y :: ys => by rw [List.map_cons, List.map_cons, PySem.W.alikeAll, alike_ints xs ys]; rfl
theorem depth_ints : ∀ xs : List Int, PyData.depthAll (xs.map .int) = 0
  | [] => rfl
  | x :: xs => by rw [List.map_cons, PyData.depthAll, depth_ints xs]; rfl
theorem dLtD_wd (xs ys : List Int) : dLtD (wd xs) (wd ys) = some (.bl (decide (xs < ys))) := by
  have p1 : toPy (wd xs) = some (.list (xs.map .int)) := by unfold wd toPy; rw [toPyL_ints]; rfl
  have p2 : toPy (wd ys) = some (.list (ys.map .int)) := by unfold wd toPy; rw [toPyL_ints]; rfl
  have c : cmpOk (.list (xs.map .int)) (.list (ys.map .int)) = true := by
    unfold cmpOk
    have a : PySem.W.alike (.list (xs.map .int)) (.list (ys.map .int)) = true := by rw [PySem.W.alike]; exact alike_ints xs ys
    have d : (PyData.list (xs.map .int)).depth = 1 := by rw [PyData.depth, depth_ints]
    rw [a, d]
    rfl
  unfold dLtD
  rw [p1, p2]
  simp only [Option.bind_some]
  rw [if_pos c, PySem.W.dataLt_list]
  exact congrArg (fun b => some (D.bl b)) (PySem.W.dataLt_ints xs ys)
end Lw
end

section
set_option Elab.async false
set_option linter.all false
set_option maxRecDepth 100000
set_option maxHeartbeats 4000000
set_option autoImplicit false
open PySem L2 Cv
namespace Lw
variable [TbT]
/-- a word that is let -/
structure Vw (ns : List Int) : Prop where
  dg : ∀ n ∈ ns, dg n
  ne : ns ≠ []
  len : ns.length ≤ 400
theorem cw_word {b : Bool} {ns : List Int} (v : Vw ns) : m_check_word [.imm (sq b (ns.map .int))] = .ok (.imm .non) [.imm (sq b (ns.map .int))] :=
  cw_ok (by rw [List.length_map]; exact v.len) (fun z => v.ne (List.map_eq_nil_iff.mp z)) (fun d hd => by
    obtain ⟨n, hn, rfl⟩ := List.mem_map.mp hd
    exact ⟨n, rfl, v.dg n hn⟩)
theorem rot_map (ns : List Int) (i : Nat) : rot (ns.map D.int) i = (rot ns i).map .int := by unfold rot; rw [List.map_append, List.map_drop, List.map_take]
theorem rot_mem {α : Type} {ns : List α} {i : Nat} {x : α} (h : x ∈ rot ns i) : x ∈ ns := by
  unfold rot at h
  rcases List.mem_append.mp h with z | z
  · exact List.mem_of_mem_drop z
  · exact List.mem_of_mem_take z
def lyB (ns : List Int) : Bool := (List.range (ns.length - 1)).all fun i => decide (ns < rot ns (1 + i))
theorem turn_call {ns : List Int} {i : Nat} (h : i ≤ ns.length) (hl : ns.length ≤ 400) : (pCall m_turn_at (pCons (pVar 0) (pCons (pVar 1) pNil))) [.imm (wd ns), .imm (.int i)] = .ok (wd (rot ns i)) := by
  have r := r_turn (b := true) (ds := ns.map .int) (i := i) (by rw [List.length_map]; exact h) (by rw [List.length_map]; omega)
  rw [rot_map] at r
  have r : m_turn_at [.imm (wd ns), .imm (.int i)] = .ok (.own (.lst ((rot ns i).map .int))) [.imm (wd ns), .imm (.int i)] := r
  generalize (i : Int) = w at *
  simp only [pCall, pCons, pNil, pVar, RP.bind, List.map_cons, List.map_nil, r, MO.toD, List.getElem?_cons_zero, List.getElem?_cons_succ]
  rfl
/-- the turn, abstract: what is_lyndon asks of it -/
theorem ly_q {f : En → RD} {t : En → RP D} {X Y w : D} {bb : Bool} (ht : t [.imm X, .imm w] = .ok Y) (h : f [.imm X, .imm Y] = .ok (.imm (.bl bb)) [.imm X, .imm Y]) : sIf (liftT (qNot (qB (pCall f (pCons (pVar 0) (pCons t pNil)))))) (sRet (liftP (pC (.bl false)))) sNext [.imm X, .imm w] = if bb = true then .next [.imm X, .imm w] else .ret (.imm (.bl false)) [.imm X, .imm w] := by
  have q : (liftT (qNot (qB (pCall f (pCons (pVar 0) (pCons t pNil)))))) [.imm X, .imm w] = .ok (!bb) [.imm X, .imm w] := by
    simp only [liftT, qNot, qB, pCall, pCons, pNil, pVar, RP.bind, ht, List.map_cons, List.map_nil, h, List.getElem?_cons_zero]
  cases bb with
  | true => exact (if_fp q).trans rfl
  | false => exact (if_tp q).trans rfl
theorem iR2_len {ns : List Int} {x : Sl} (hne : ns ≠ []) (hl : ns.length ≤ 400) : (iR2 (vCons (liftP (pC (.int 1))) (vCons (liftP (pN dLen (pCons (pVar 0) pNil))) vNil))) [.imm (wd ns), x] = .ok (rng 1 (ns.length - 1)) [.imm (wd ns), x] := by
  have ll := len_wd ns
  have hp := List.length_pos_iff.mpr hne
  have h0 : (0 : Int) ≤ ns.length := by omega
  have h1 : (ns.length : Int) ≤ 400 := by omega
  have hn : ((ns.length : Int) - 1).toNat = ns.length - 1 := by omega
  refine iR2_ok (i := 1) (j := ns.length) ?_ h0 (Int.le_trans h1 (by decide)) (by decide) (by decide) hn
  generalize (ns.length : Int) = z at *
  simp only [vCons, vNil, liftP, pC, pN, pCons, pNil, pVar, RP.bind, RP.of, ll, okF, fl_int, if_true, Res.bind, List.getElem?_cons_zero]
theorem r_lyn {ns : List Int} (v : Vw ns) : m_is_lyndon [.imm (wd ns)] = .ok (.imm (.bl (lyB ns))) [.imm (wd ns)] := by
  have c : m_check_word [.imm (wd ns)] = .ok (.imm .non) [.imm (wd ns)] := cw_word (b := true) v
  have hl := v.len
  have hp := List.length_pos_iff.mpr v.ne
  obtain ⟨x, lp⟩ := loop_all (k := 1) (body := (sIf (liftT (qNot (qB (pCall m_row_below (pCons (pVar 0) (pCons (pCall m_turn_at (pCons (pVar 0) (pCons (pVar 1) pNil))) pNil)))))) (sRet (liftP (pC (.bl false)))) sNext)) (p := fun i => decide (ns < rot ns (1 + i))) (lo := 1) (n := ns.length - 1) (e := fun x => [.imm (wd ns), x]) (x0 := .none)
    (fun d x => rfl) (fun i hi => by
      have e : (1 : Int) + (i : Int) = ((1 + i : Nat) : Int) := by omega
      rw [e]
      exact ly_q (turn_call (by omega) hl) (r_below (by rw [rot_len ns (by omega)]) (by omega)))
  have hv : eVar 0 [.imm (wd ns), .none] = .ok (wd ns) [.imm (wd ns), .none] := rfl
  have st : b_is_lyndon [.imm (wd ns), .none] = .ret (.imm (.bl (lyB ns))) [.imm (wd ns), x] := by
    refine (seq_next (e1 := [.imm (wd ns), .none]) (drop_ok (d := .non) ?_)).trans ?_
    · simp only [eCall, aV, aNil, hv, Res.bind, slotsOf, argSl, Option.map, List.nodup_nil, if_true, c, putB]
    · have l := (for_ok (tg := gN 1) (b := (sIf (liftT (qNot (qB (pCall m_row_below (pCons (pVar 0) (pCons (pCall m_turn_at (pCons (pVar 0) (pCons (pVar 1) pNil))) pNil)))))) (sRet (liftP (pC (.bl false)))) sNext)) (iR2_len (x := .none) v.ne hl)).trans lp
      by_cases b : lyB ns = true
      · rw [b]
        have b' : (List.range (ns.length - 1)).all (fun i => decide (ns < rot ns (1 + i))) = true := b
        rw [if_pos b'] at l
        exact (seq_next l).trans rfl
      · have b' : ¬ (List.range (ns.length - 1)).all (fun i => decide (ns < rot ns (1 + i))) = true := b
        rw [if_neg b'] at l
        rw [Bool.eq_false_iff.mpr b]
        exact seq_ret l
  exact mDef_go (np := 1) (n := 2) (b := b_is_lyndon) (as := [.imm (wd ns)]) (e := [.imm (wd ns), .none]) rfl rfl st
theorem law_q {ns : List Int} {i : Nat} (h : i ≤ ns.length) (hl : ns.length ≤ 400) : sIf (liftT (qNot (qB (p2 dLtD (pVar 0) (pK (kCat (kCut (kVar 0) (oI (pVar 1)) oNo) (kCut (kVar 0) oNo (oI (pVar 1))))))))) (sRet (liftP (pC (.bl false)))) sNext [.imm (wd ns), .imm (.int i)] =
    if decide (ns < rot ns i) = true then .next [.imm (wd ns), .imm (.int i)] else .ret (.imm (.bl false)) [.imm (wd ns), .imm (.int i)] := by
  have c1 := cut_lo (ds := ns.map .int) (i := i) (by rw [List.length_map]; exact h)
  have c2 := cut_hi (ds := ns.map .int) (i := i) (by rw [List.length_map]; exact h)
  have l : ((ns.map D.int).drop i).length + ((ns.map D.int).take i).length ≤ sizeLine := le_line (by simp; omega)
  have e : ((ns.map D.int).drop i) ++ ((ns.map D.int).take i) = (rot ns i).map .int := rot_map ns i
  have lt := dLtD_wd ns (rot ns i)
  have kv : kVar 0 [.imm (wd ns), .imm (.int (i : Int))] = .ok (ns.map .int) := rfl
  have t : (pK (kCat (kCut (kVar 0) (oI (pVar 1)) oNo) (kCut (kVar 0) oNo (oI (pVar 1))))) [.imm (wd ns), .imm (.int i)] = .ok (wd (rot ns i)) := by
    generalize (i : Int) = w at *
    simp only [pK, kCat, kCut, kv, oI, oNo, pVar, RP.bind, List.getElem?_cons_zero, List.getElem?_cons_succ, c1, c2, if_pos l, e]
    rfl
  generalize (i : Int) = w at *
  generalize decide (ns < rot ns i) = bb at *
  have q : (liftT (qNot (qB (p2 dLtD (pVar 0) (pK (kCat (kCut (kVar 0) (oI (pVar 1)) oNo) (kCut (kVar 0) oNo (oI (pVar 1))))))))) [.imm (wd ns), .imm (.int w)] = .ok (!bb) [.imm (wd ns), .imm (.int w)] := by
    unfold liftT qNot qB p2
    rw [t]
    simp only [pVar, RP.bind, RP.of, lt, List.getElem?_cons_zero]
  cases bb with
  | true => exact (if_fp q).trans rfl
  | false => exact (if_tp q).trans rfl
theorem r_law_lyn {ns : List Int} (v : Vw ns) : m__law_lyndon [.imm (wd ns)] = .ok (.imm (.bl (lyB ns))) [.imm (wd ns)] := by
  have hl := v.len
  have hp := List.length_pos_iff.mpr v.ne
  obtain ⟨x, lp⟩ := loop_all (k := 1) (body := (sIf (liftT (qNot (qB (p2 dLtD (pVar 0) (pK (kCat (kCut (kVar 0) (oI (pVar 1)) oNo) (kCut (kVar 0) oNo (oI (pVar 1))))))))) (sRet (liftP (pC (.bl false)))) sNext)) (p := fun i => decide (ns < rot ns (1 + i))) (lo := 1) (n := ns.length - 1) (e := fun x => [.imm (wd ns), x]) (x0 := .none)
    (fun d x => rfl) (fun i hi => by
      have e : (1 : Int) + (i : Int) = ((1 + i : Nat) : Int) := by omega
      rw [e]
      exact law_q (by omega) hl)
  have st : b__law_lyndon [.imm (wd ns), .none] = .ret (.imm (.bl (lyB ns))) [.imm (wd ns), x] := by
    have l := (for_ok (tg := gN 1) (b := (sIf (liftT (qNot (qB (p2 dLtD (pVar 0) (pK (kCat (kCut (kVar 0) (oI (pVar 1)) oNo) (kCut (kVar 0) oNo (oI (pVar 1))))))))) (sRet (liftP (pC (.bl false)))) sNext)) (iR2_len (x := .none) v.ne hl)).trans lp
    by_cases b : lyB ns = true
    · rw [b]
      have b' : (List.range (ns.length - 1)).all (fun i => decide (ns < rot ns (1 + i))) = true := b
      rw [if_pos b'] at l
      exact (seq_next l).trans rfl
    · have b' : ¬ (List.range (ns.length - 1)).all (fun i => decide (ns < rot ns (1 + i))) = true := b
      rw [if_neg b'] at l
      rw [Bool.eq_false_iff.mpr b]
      exact seq_ret l
  exact mDef_go (np := 1) (n := 2) (b := b__law_lyndon) (as := [.imm (wd ns)]) (e := [.imm (wd ns), .none]) rfl rfl st
theorem okD_wd (ns : List Int) : okD 64 (wd ns) = true := by
  unfold wd
  rw [okD]
  exact okDL_ints 63 ns
/-- the two answers, abstract -/
theorem said_ret {f : En → RD} {X : D} {bb : Bool} {M : MO} (hM : M.toD = X) (h : f [.imm X] = .ok (.imm (.bl bb)) [.imm X]) (he : dEq X X = some (.bl true)) : (sRet (liftP (pAnd (p1 (dIsi "bool") (pVar 2)) (pAnd (p2 dEq (pVar 2) (pCall f (pCons (pVar 0) pNil))) (p2 dEq (pVar 1) (pVar 0)))))) [.imm X, .own M, .imm (.bl bb)] = .ret (.imm (.bl true)) [.imm X, .own M, .imm (.bl bb)] := by
  refine ret_ok ?_
  have b4 : dIsi "bool" (.bl bb) = some (.bl true) := by simp [dIsi, tyName, kb4]
  have eb : dEq (.bl bb) (.bl bb) = some (.bl true) := by rw [dEq_bl]; simp
  simp only [liftP, pAnd, p1, p2, pVar, pCall, pCons, pNil, RP.bind, RP.of, b4, eb, h, hM, he, List.map_cons, List.map_nil, okF, fl_bl, if_true, List.getElem?_cons_zero, List.getElem?_cons_succ]
theorem r_said {ns : List Int} (v : Vw ns) : m__law_said [.imm (wd ns)] = .ok (.imm (.bl true)) [.imm (wd ns)] := by
  have r1 := r_lyn v
  have r2 := r_law_lyn v
  have he := dEq_refl (okD_wd ns)
  have fl : (ns.map D.int).all flat = true := flat_ints ns
  have l : (ns.map D.int).length ≤ sizeLine := le_line (by rw [List.length_map]; have := v.len; omega)
  have st : b__law_said [.imm (wd ns), .none, .none] = .ret (.imm (.bl true)) [.imm (wd ns), .own (.lst (ns.map .int)), .imm (.bl (lyB ns))] := by
    refine (seq_next (e1 := [.imm (wd ns), .own (.lst (ns.map .int)), .none]) ?_).trans ((seq_next (e1 := [.imm (wd ns), .own (.lst (ns.map .int)), .imm (.bl (lyB ns))]) ?_).trans (said_ret rfl r2 he))
    · unfold wd; simp [uVar, uCut, uTup, uK, kU, pK, pTupL, fCatV, itemsM, eRun, sAsgFre, MO.flatL, sAsgRV, sSpoil3, dEqS, pLam, mDef, outsOf, sSeq, sIf, sDrop, sRet, sRetN, sRetF, sRetO, sAsg, sAsgF, sAsgR, sPar, sSetIx, sAugIx, sAug, sRaise, sNext, sBrk, sCont, sFor, sSpoilA, sSpoilP, sTry, sHand, Fl.clr, suRet, suRetT, xFld, xC, liftP, liftT, okF, Res.bind, RP.bind, Res.of, RP.of, pVar, pC, p1, p2, pN, pAnd, pOr, pIf, pNil, pCons, pTup, pLst, pCall, qB, qAnd, qOr, qNot, dNot, eVar, Cv.e1, Cv.e2, eAnd, eOr, eIf, tBm, tAndm, tOrm, tNotm, vNil, vCons, aNil, aV, aS, eTup, fLst, eOfF, cOfF, cOfE, cVar, rNil, rE, rF, td_lst, mf_lst, dSub, dAdd, dFdiv, dMod, dNeg, dLt, dLe, dGt, dGe, dIsN, dNotN, dInt, dAbs, dMin2, dMax2, dLen, tyName, dIsi, dIx, eIx, cIx, cS, cL, sLen, sSum, lAll, kVar, kLst, kRep, kCat, kCut, fOfK, fCut, oNo, oI, fListP, itemsD, Sl.mo, Sl.put, ownL, setL, eApp, ePop, ePopAt, gN, gT, gsNil, gsCons, iR1, iR2, iLst, iTupl, eCall, fCall, slotsOf, argSl, putB, wCallT, eOfW, fOfW, unfre, qVar, qIx, freAt, lstOf, fl_non, fl_bl, fl_int, fl_str, fl_lst, fl_tup, fl_rls, tYesm, fl, l]
    · refine asg_p (d := .bl (lyB ns)) ?_ rfl
      have r1 : m_is_lyndon [.imm (MO.toD (.lst (ns.map .int)))] = _ := r1
      simp only [liftP, pCall, pCons, pNil, pVar, RP.bind, List.map_cons, List.map_nil, r1, okF, fl_bl, if_true, List.getElem?_cons_zero, List.getElem?_cons_succ]
  exact mDef_go (np := 1) (n := 3) (b := b__law_said) (as := [.imm (wd ns)]) (e := [.imm (wd ns), .none, .none]) rfl rfl st
end Lw
end

section
set_option Elab.async false
set_option linter.all false
set_option maxRecDepth 100000
set_option maxHeartbeats 4000000
set_option autoImplicit false
open PySem L2 Cv
namespace Lw
variable [TbT]
def turnsI (ns : List Int) : List (List Int) := (List.range ns.length).map (rot ns)
def LW (ls : List (List Int)) : D := .lst (ls.map wd)
theorem turnsD_wd (ns : List Int) : (turnsD (ns.map .int)).map D.lst = (turnsI ns).map wd := by
  unfold turnsD turnsI
  rw [List.map_map, List.map_map, List.length_map]
  apply List.map_congr_left
  intro i _
  show D.lst (rot (ns.map D.int) i) = wd (rot ns i)
  rw [rot_map]; rfl
theorem iR1_lenAt {X : D} {n : Nat} {e : En} {i : Nat} (hX : pVar i e = .ok X) (hl : dLen [X] = some (.int n)) (hn : n ≤ 1000) : (iR1 (vCons (liftP (pN dLen (pCons (pVar i) pNil))) vNil)) e = .ok (rng 0 n) e := by
  have h0 : (0 : Int) ≤ n := by omega
  have h1 : (n : Int) ≤ 1000 := by omega
  have hk : (n : Int).toNat = n := by omega
  refine iR1_ok (j := n) ?_ h0 (Int.le_trans h1 (by decide)) hk
  generalize (n : Int) = z at *
  simp only [vCons, vNil, liftP, pN, pCons, pNil, hX, RP.bind, RP.of, hl, okF, fl_int, if_true, Res.bind]
theorem retF_ok {m : En → Res MO} {e e1 : En} {d : MO} (h : m e = .ok d e1) : sRetF m e = .ret (.own d) e1 := by unfold sRetF; rw [h]
theorem law_comp {ns : List Int} (hl : ns.length ≤ 400) : fLc (iR1 (vCons (liftP (pN dLen (pCons (pVar 0) pNil))) vNil)) [1] (gN 1) tYesm (eOfF (fOfK (kCat (kCut (kVar 0) (oI (pVar 1)) oNo) (kCut (kVar 0) oNo (oI (pVar 1)))))) [.imm (wd ns), .none] = .ok (.lst ((turnsI ns).map wd)) [.imm (wd ns), .none] := by
  have hc := fLc_map (vs := [1]) (tg := gN 1) (test := tYesm) (elt := eOfF (fOfK (kCat (kCut (kVar 0) (oI (pVar 1)) oNo) (kCut (kVar 0) oNo (oI (pVar 1)))))) (rotD (ns.map .int)) (iR1_lenAt (X := wd ns) (i := 0) (e := [.imm (wd ns), .none]) rfl (len_wd ns) (by omega)) rfl (fun d hd => by
    obtain ⟨i, hi⟩ := List.getElem?_of_mem hd
    obtain ⟨hlt, rfl⟩ := rng_get hi
    refine ⟨[.imm (wd ns), .imm (.int (0 + (i : Int)))], rfl, rfl, ?_, rfl, rfl⟩
    have c1 := cut_lo (ds := ns.map .int) (i := i) (by rw [List.length_map]; omega)
    have c2 := cut_hi (ds := ns.map .int) (i := i) (by rw [List.length_map]; omega)
    have l : ((ns.map D.int).drop i).length + ((ns.map D.int).take i).length ≤ sizeLine := le_line (by simp; omega)
    have e : rotD (ns.map .int) (.int (0 + (i : Int))) = .lst ((ns.map D.int).drop i ++ (ns.map D.int).take i) := by simp [rotD, rot]
    have kv : ∀ x : Sl, kVar 0 [.imm (wd ns), x] = .ok (ns.map .int) := fun _ => rfl
    rw [e, Int.zero_add]
    generalize (i : Int) = w at *
    simp only [eOfF, fOfK, kCat, kCut, kv, oI, oNo, pVar, RP.bind, Res.bind, List.getElem?_cons_zero, List.getElem?_cons_succ, c1, c2, if_pos l, MO.toD]) (le_line (by rw [rng_eq]; simp; omega))
  have e2 : (rng 0 ns.length).map (rotD (ns.map .int)) = (turnsI ns).map wd := by
    have := rng_rot (ns.map .int)
    rw [List.length_map, turnsD_wd] at this
    exact this
  rw [e2] at hc
  exact hc
/-- the law's turns -/
theorem r_law_turns {ns : List Int} (hl : ns.length ≤ 400) : m__law_turns [.imm (wd ns)] = .ok (.own (.lst ((turnsI ns).map wd))) [.imm (wd ns)] :=
  mDef_go (np := 1) (n := 2) (b := b__law_turns) (as := [.imm (wd ns)]) (e := [.imm (wd ns), .none]) rfl rfl (retF_ok (law_comp hl))
/-! ### rows compared -/
theorem loop_yes {k : Nat} {body : En → Fl} {n : Nat} {e : Sl → En} {x0 : Sl} (hg : ∀ (d : D) (x : Sl), gN k d (e x) = some (e (.imm d))) (hb : ∀ i : Nat, i < n → body (e (.imm (.int i))) = .next (e (.imm (.int i)))) : ∃ x : Sl, forL (gN k) body (rng 0 n) (e x0) = .next (e x) := by
  obtain ⟨e', h1, x, h2⟩ := forL_rel (tg := gN k) (body := body) (ds := rng 0 n) (fun _ e' => ∃ x : Sl, e' = e x) (e := e x0) ⟨x0, rfl⟩ (fun i d e' hd ⟨x, he⟩ => by
    subst he
    obtain ⟨hi, rfl⟩ := rng_get hd
    rw [Int.zero_add]
    exact ⟨_, _, hg _ _, .inl (hb i hi), _, rfl⟩)
  subst h2
  exact ⟨x, h1⟩
theorem ri_head {ds es : List D} (h : ds.length = es.length) : (sIf (liftT (qOr (qNot (qB (p1 (dIsi "list") (pVar 0)))) (qB (p2 dNe (pN dLen (pCons (pVar 0) pNil)) (pN dLen (pCons (pVar 1) pNil)))))) (sRet (liftP (pC (.bl false)))) sNext) [.imm (.lst ds), .imm (.lst es), .none] = .next [.imm (.lst ds), .imm (.lst es), .none] := by
  have l1 : dLen [.lst ds] = some (.int ds.length) := rfl
  have l2 : dLen [.lst es] = some (.int ds.length) := by rw [h]; rfl
  have k : dIsi "list" (.lst ds) = some (.bl true) := by simp [dIsi, tyName, kb6]
  generalize (ds.length : Int) = z at *
  have ez : dNe (.int z) (.int z) = some (.bl false) := by rw [dNe_int]; simp
  refine (if_fp ?_).trans rfl
  simp only [liftT, qOr, qNot, qB, p1, p2, pN, pCons, pNil, pVar, RP.bind, RP.of, k, l1, l2, ez, Bool.not_true, Bool.false_eq_true, if_false, List.getElem?_cons_zero, List.getElem?_cons_succ]
theorem r_row_is {xs : List Int} (hl : xs.length ≤ 1000) : m__law_row_is [.imm (wd xs), .imm (wd xs)] = .ok (.imm (.bl true)) [.imm (wd xs), .imm (wd xs)] := by
  obtain ⟨x, lp⟩ := loop_yes (k := 2) (body := (sIf (liftT (qOr (qNot (qB (pCall m__law_whole (pCons (p2 dIx (pVar 0) (pVar 2)) pNil)))) (qB (p2 dNe (p2 dIx (pVar 0) (pVar 2)) (p2 dIx (pVar 1) (pVar 2)))))) (sRet (liftP (pC (.bl false)))) sNext)) (n := xs.length) (e := fun x => [.imm (wd xs), .imm (wd xs), x]) (x0 := .none) (fun d x => rfl) (fun i hi => by
    have hx : dIx (wd xs) (.int i) = some (.int (xs[i]'hi)) := atI_map rfl (List.getElem?_eq_getElem hi)
    generalize xs[i]'hi = a at *
    generalize (i : Int) = w at *
    have r := r_law_whole a
    have ez : dNe (.int a) (.int a) = some (.bl false) := by rw [dNe_int]; simp
    refine (if_fp ?_).trans rfl
    simp only [liftT, qOr, qNot, qB, p2, pCall, pCons, pNil, pVar, RP.bind, RP.of, hx, r, ez, List.map_cons, List.map_nil, Bool.not_true, Bool.false_eq_true, if_false, List.getElem?_cons_zero, List.getElem?_cons_succ])
  have st : b__law_row_is [.imm (wd xs), .imm (wd xs), .none] = .ret (.imm (.bl true)) [.imm (wd xs), .imm (wd xs), x] := by
    refine (seq_next (ri_head rfl)).trans ((seq_next ((for_ok (iR1_lenAt (X := wd xs) rfl (len_wd xs) hl)).trans lp)).trans rfl)
  exact mDef_go (np := 2) (n := 3) (b := b__law_row_is) (as := [.imm (wd xs), .imm (wd xs)]) (e := [.imm (wd xs), .imm (wd xs), .none]) rfl rfl st
theorem rows_body {f : En → RD} {X r w : D} (hx : dIx X w = some r) (h : f [.imm r, .imm r] = .ok (.imm (.bl true)) [.imm r, .imm r]) : sIf (liftT (qNot (qB (pCall f (pCons (p2 dIx (pVar 0) (pVar 2)) (pCons (p2 dIx (pVar 1) (pVar 2)) pNil)))))) (sRet (liftP (pC (.bl false)))) sNext [.imm X, .imm X, .imm w] = .next [.imm X, .imm X, .imm w] := by
  refine (if_fp ?_).trans rfl
  simp only [liftT, qNot, qB, p2, pCall, pCons, pNil, pVar, RP.bind, RP.of, hx, h, List.map_cons, List.map_nil, Bool.not_true, List.getElem?_cons_zero, List.getElem?_cons_succ]
theorem r_rows_are {ls : List (List Int)} (hl : ls.length ≤ 1000) (hs : ∀ l ∈ ls, l.length ≤ 1000) : m__law_rows_are [.imm (LW ls), .imm (LW ls)] = .ok (.imm (.bl true)) [.imm (LW ls), .imm (LW ls)] := by
  have ll : dLen [LW ls] = some (.int ls.length) := by show some (D.int ((ls.map wd).length : Int)) = _; rw [List.length_map]
  obtain ⟨x, lp⟩ := loop_yes (k := 2) (body := (sIf (liftT (qNot (qB (pCall m__law_row_is (pCons (p2 dIx (pVar 0) (pVar 2)) (pCons (p2 dIx (pVar 1) (pVar 2)) pNil)))))) (sRet (liftP (pC (.bl false)))) sNext)) (n := ls.length) (e := fun x => [.imm (LW ls), .imm (LW ls), x]) (x0 := .none) (fun d x => rfl) (fun i hi => by
    have hx : dIx (LW ls) (.int i) = some (wd (ls[i]'hi)) := atI_of rfl (by rw [List.getElem?_map, List.getElem?_eq_getElem hi]; rfl)
    exact rows_body hx (r_row_is (hs _ (List.getElem_mem hi))))
  have st : b__law_rows_are [.imm (LW ls), .imm (LW ls), .none] = .ret (.imm (.bl true)) [.imm (LW ls), .imm (LW ls), x] := by
    refine (seq_next (ri_head rfl)).trans ((seq_next ((for_ok (iR1_lenAt (X := LW ls) rfl ll hl)).trans lp)).trans rfl)
  exact mDef_go (np := 2) (n := 3) (b := b__law_rows_are) (as := [.imm (LW ls), .imm (LW ls)]) (e := [.imm (LW ls), .imm (LW ls), .none]) rfl rfl st
/-! ### the turns, asked twice -/
theorem turnsI_len (ns : List Int) : (turnsI ns).length = ns.length := by unfold turnsI; simp
theorem turnsI_mem {ns l : List Int} (h : l ∈ turnsI ns) : l.length = ns.length ∧ ∀ x ∈ l, x ∈ ns := by
  unfold turnsI at h
  obtain ⟨i, hi, rfl⟩ := List.mem_map.mp h
  have := List.mem_range.mp hi
  exact ⟨rot_len ns (by omega), fun x hx => rot_mem hx⟩
theorem t_if {g : En → RD} {X W : D} {M : MO} (hM : M.toD = X) (h : g [.imm X, .imm X] = .ok (.imm (.bl true)) [.imm X, .imm X]) (hw : dNe W W = some (.bl false)) : sIf (liftT (qOr (qNot (qB (pCall g (pCons (pVar 3) (pCons (pVar 2) pNil))))) (qB (p2 dNe (pVar 1) (pVar 0))))) (sRet (liftP (pC (.bl false)))) sNext [.imm W, .fre W, .own M, .fre X, .none] = .next [.imm W, .fre W, .own M, .fre X, .none] := by
  refine (if_fp ?_).trans rfl
  simp only [liftT, qOr, qNot, qB, p2, pCall, pCons, pNil, pVar, RP.bind, RP.of, hM, h, hw, List.map_cons, List.map_nil, Bool.not_true, Bool.false_eq_true, if_false, List.getElem?_cons_zero, List.getElem?_cons_succ]
theorem t_ret {f g : En → RD} {X : D} {M N : MO} {ds : List D} (hM : M.toD = X) (hN : N.toD = X) (hf : f [.imm (.tup ds)] = .ok (.own N) [.imm (.tup ds)]) (h : g [.imm X, .imm X] = .ok (.imm (.bl true)) [.imm X, .imm X]) : (sRet (liftP (pCall g (pCons (pCall f (pCons (pTupL (uVar 0)) pNil)) (pCons (pVar 2) pNil))))) [.imm (.lst ds), .none, .own M, .none, .none] = .ret (.imm (.bl true)) [.imm (.lst ds), .none, .own M, .none, .none] := by
  refine ret_ok ?_
  simp only [liftP, pCall, pCons, pNil, pTupL, uVar, pVar, RP.bind, hM, hN, hf, h, List.map_cons, List.map_nil, okF, fl_bl, if_true, List.getElem?_cons_zero, List.getElem?_cons_succ]
theorem fcall1 {f : En → RD} {m : En → Res D} {X : D} {N : MO} {e e1 : En} (h0 : m e = .ok X e1) (h : f [.imm X] = .ok (.own N) [.imm X]) : fCall f (aV m aNil) e = .ok N e1 := by
  simp only [fCall, aV, aNil, h0, Res.bind, slotsOf, argSl, Option.map, List.nodup_nil, if_true, h, putB]
theorem ecall1 {f : En → RD} {m : En → Res D} {X r : D} {e e1 : En} (h0 : m e = .ok X e1) (h : f [.imm X] = .ok (.imm r) [.imm X]) : eCall f (aV m aNil) e = .ok r e1 := by
  simp only [eCall, aV, aNil, h0, Res.bind, slotsOf, argSl, Option.map, List.nodup_nil, if_true, h, putB]
theorem r_turned {ns : List Int} (v : Vw ns) : m__law_turned [.imm (wd ns)] = .ok (.imm (.bl true)) [.imm (wd ns)] := by
  have hl := v.len
  have hp := List.length_pos_iff.mpr v.ne
  have q1 := r_law_turns (ns := ns) hl
  have q2 := r_turns (b := true) (ds := ns.map .int) (cw_word v) (by rw [List.length_map]; omega)
  have q3 := r_turns (b := false) (ds := ns.map .int) (cw_word v) (by rw [List.length_map]; omega)
  rw [turnsD_wd] at q2 q3
  have q4 := r_rows_are (ls := turnsI ns) (by rw [turnsI_len]; omega) (fun l h => by rw [(turnsI_mem h).1]; omega)
  have hw := dNe_refl (okD_wd ns)
  have fl : (ns.map D.int).all flat = true := flat_ints ns
  have l : (ns.map D.int).length ≤ sizeLine := le_line (by rw [List.length_map]; omega)
  have h0 : ∃ t r, (turnsI ns).map wd = .lst t :: r ∧ t.length < sizeLine := by
    cases e : turnsI ns with
    | nil => have := turnsI_len ns; rw [e] at this; simp at this; omega
    | cons t r =>
      refine ⟨t.map .int, r.map wd, rfl, lt_line ?_⟩
      have := (turnsI_mem (ns := ns) (l := t) (by rw [e]; simp)).1
      rw [List.length_map]; omega
  obtain ⟨t, r, e0, ht⟩ := h0
  have q2 : m_turns_of [.imm (wd ns)] = .ok (.own (.lst ((turnsI ns).map wd))) [.imm (wd ns)] := q2
  have q3 : m_turns_of [.imm (.tup (ns.map .int))] = .ok (.own (.lst ((turnsI ns).map wd))) [.imm (.tup (ns.map .int))] := q3
  unfold LW at q4
  generalize (turnsI ns).map wd = T at *
  have st : b__law_turned [.imm (wd ns), .none, .none, .none, .none] = .ret (.imm (.bl true)) [.imm (wd ns), .none, .own (.lst T), .none, .none] := by
    refine (seq_next (e1 := [.imm (wd ns), .fre (wd ns), .none, .none, .none]) ?_).trans ((seq_next (e1 := [.imm (wd ns), .fre (wd ns), .own (.lst T), .none, .none]) ?_).trans ((seq_next (e1 := [.imm (wd ns), .fre (wd ns), .own (.lst T), .fre (.lst T), .none]) ?_).trans ((seq_next (t_if (M := .lst T) rfl q4 hw)).trans ((seq_next (e1 := [.imm (wd ns), .none, .own (.lst T), .none, .none]) ?_).trans (t_ret (ds := ns.map .int) (M := .lst T) (N := .lst T) rfl rfl q3 q4)))))
    · unfold wd; simp [uVar, uCut, uTup, uK, kU, pK, pTupL, fCatV, itemsM, eRun, sAsgFre, MO.flatL, sAsgRV, sSpoil3, dEqS, pLam, mDef, outsOf, sSeq, sIf, sDrop, sRet, sRetN, sRetF, sRetO, sAsg, sAsgF, sAsgR, sPar, sSetIx, sAugIx, sAug, sRaise, sNext, sBrk, sCont, sFor, sSpoilA, sSpoilP, sTry, sHand, Fl.clr, suRet, suRetT, xFld, xC, liftP, liftT, okF, Res.bind, RP.bind, Res.of, RP.of, pVar, pC, p1, p2, pN, pAnd, pOr, pIf, pNil, pCons, pTup, pLst, pCall, qB, qAnd, qOr, qNot, dNot, eVar, Cv.e1, Cv.e2, eAnd, eOr, eIf, tBm, tAndm, tOrm, tNotm, vNil, vCons, aNil, aV, aS, eTup, fLst, eOfF, cOfF, cOfE, cVar, rNil, rE, rF, td_lst, mf_lst, dSub, dAdd, dFdiv, dMod, dNeg, dLt, dLe, dGt, dGe, dIsN, dNotN, dInt, dAbs, dMin2, dMax2, dLen, tyName, dIsi, dIx, eIx, cIx, cS, cL, sLen, sSum, lAll, kVar, kLst, kRep, kCat, kCut, fOfK, fCut, oNo, oI, fListP, itemsD, Sl.mo, Sl.put, ownL, setL, eApp, ePop, ePopAt, gN, gT, gsNil, gsCons, iR1, iR2, iLst, iTupl, eCall, fCall, slotsOf, argSl, putB, wCallT, eOfW, fOfW, unfre, qVar, qIx, freAt, lstOf, fl_non, fl_bl, fl_int, fl_str, fl_lst, fl_tup, fl_rls, tYesm, fl, l]
    · refine (asgF_ok (d := .lst T) (e1 := [.imm (wd ns), .fre (wd ns), .none, .none, .none]) ?_ (by simp)).trans rfl
      exact fcall1 rfl q1
    · simp only [sAsgRV, freAt, q2, MO.toD, List.length_cons, List.length_nil, Nat.zero_add, Nat.reduceAdd, Nat.reduceLT, if_true, List.getElem?_cons_zero, List.getElem?_cons_succ, List.set_cons_succ, List.set_cons_zero]
    · rw [e0]
      have c : 4 < [Sl.imm (wd ns), .fre (wd ns), .own (.lst (.lst t :: r)), .fre (.lst (.lst t :: r)), .none].length ∧ (4 : Nat) ≠ 3 ∧ t.length < sizeLine := ⟨by simp, by decide, ht⟩
      simp only [sSpoil3, freAt, td_lst, List.getElem?_cons_zero, List.getElem?_cons_succ, if_pos c]
      rfl
  exact mDef_go (np := 1) (n := 5) (b := b__law_turned) (as := [.imm (wd ns)]) (e := [.imm (wd ns), .none, .none, .none, .none]) rfl rfl st
end Lw
end

section
set_option Elab.async false
set_option linter.all false
set_option maxRecDepth 100000
set_option maxHeartbeats 4000000
set_option autoImplicit false
open PySem L2 Cv
namespace Lw
variable [TbT]
/-- rows of so many digits -/
structure Rw (M : Int) (t b : Nat) (ls : List (List Int)) : Prop where
  len : ∀ l ∈ ls, l.length = t
  dg : ∀ l ∈ ls, ∀ x ∈ l, 0 ≤ x ∧ x ≤ M
  ne : ls ≠ []
  many : ls.length ≤ b
def more (l : List Int) (n : Nat) : List (List Int) := (List.range n).map fun (d : Nat) => l ++ [(d : Int)]
def moreD (l : List Int) : D → D
  | .int i => wd (l ++ [i])
  | d => d
theorem more_map (l : List Int) (n : Nat) : (rng 0 n).map (moreD l) = (more l n).map wd := by
  unfold more
  rw [rng_eq, List.map_map, List.map_map]
  rfl
theorem more_comp {M : Int} {n : Nat} {l : List Int} {A s2 s3 s4 : Sl} (hM : M + 1 = n) (hn : n ≤ 10) (hl : l.length ≤ 100) : fLc (iR1 (vCons (liftP (p2 dAdd (pVar 0) (pC (.int 1)))) vNil)) [6] (gN 6) tYesm (eOfF (fOfK (kCat (kVar 5) (kLst (pCons (pVar 6) pNil))))) [.imm (.int M), A, s2, s3, s4, .imm (wd l), .none] = .ok (.lst ((more l n).map wd)) [.imm (.int M), A, s2, s3, s4, .imm (wd l), .none] := by
  have hs : (iR1 (vCons (liftP (p2 dAdd (pVar 0) (pC (.int 1)))) vNil)) [.imm (.int M), A, s2, s3, s4, .imm (wd l), .none] = .ok (rng 0 n) [.imm (.int M), A, s2, s3, s4, .imm (wd l), .none] := by
    refine iR1_ok (j := M + 1) ?_ (by omega) (by omega) (by omega)
    simp only [vCons, vNil, liftP, p2, pC, pVar, RP.bind, RP.of, dAdd, okF, fl_int, if_true, Res.bind, List.getElem?_cons_zero]
  have hc := fLc_map (vs := [6]) (tg := gN 6) (test := tYesm) (elt := eOfF (fOfK (kCat (kVar 5) (kLst (pCons (pVar 6) pNil))))) (moreD l) hs rfl (fun d hd => by
    obtain ⟨i, hi⟩ := List.getElem?_of_mem hd
    obtain ⟨hlt, rfl⟩ := rng_get hi
    refine ⟨[.imm (.int M), A, s2, s3, s4, .imm (wd l), .imm (.int (0 + (i : Int)))], rfl, rfl, ?_, rfl, rfl⟩
    generalize (0 + (i : Int)) = w at *
    have kv : kVar 5 [.imm (.int M), A, s2, s3, s4, .imm (wd l), .imm (.int w)] = .ok (l.map .int) := rfl
    have l1 : ([D.int w].all flat = true ∧ [D.int w].length ≤ sizeLine) := ⟨rfl, le_line (by simp)⟩
    have l2 : (l.map D.int).length + [D.int w].length ≤ sizeLine := le_line (by simp; omega)
    have e : moreD l (.int w) = .lst (l.map D.int ++ [.int w]) := by show D.lst ((l ++ [w]).map D.int) = _; rw [List.map_append]; rfl
    rw [e]
    simp only [eOfF, fOfK, kCat, kLst, pCons, pNil, pVar, kv, RP.bind, Res.bind, if_pos l1, if_pos l2, MO.toD, List.getElem?_cons_zero, List.getElem?_cons_succ]) (le_line (by rw [rng_eq]; simp; omega))
  rw [more_map] at hc
  exact hc
theorem cat_own {f : En → Res MO} {e : En} {xs ys : List D} {i : Nat} (hk : kVar i e = .ok xs) (hf : f e = .ok (.lst ys) e) (hl : xs.length + ys.length ≤ sizeLine) (hi : i < e.length) : sAsgF (fCatV i f) i e = .next (e.set i (.own (.lst (xs ++ ys)))) := by
  refine asgF_ok ?_ hi
  simp only [fCatV, hk, hf, Res.bind, itemsM, if_pos hl]
theorem Rw.more {M : Int} {t : Nat} {l : List Int} {n : Nat} (hM : M + 1 = n) (hl : l.length = t) (hd : ∀ x ∈ l, 0 ≤ x ∧ x ≤ M) : ∀ k ∈ Lw.more l n, k.length = t + 1 ∧ ∀ x ∈ k, 0 ≤ x ∧ x ≤ M := fun k hk => by
  unfold Lw.more at hk
  obtain ⟨d, hd', rfl⟩ := List.mem_map.mp hk
  have := List.mem_range.mp hd'
  refine ⟨by simp [hl], fun x hx => ?_⟩
  rcases List.mem_append.mp hx with z | z
  · exact hd x z
  · rw [List.mem_singleton.mp z]; omega
/-- one turn: all rows one digit longer -/
theorem rows_inner {M : Int} {n t b : Nat} {A s3 : Sl} {ls : List (List Int)} (hM : M + 1 = n) (hn : 1 ≤ n) (hn3 : n ≤ 3) (h : Rw M t b ls) (hb : b ≤ 3000) (ht : t ≤ 50) {s5 : Sl} :
    ∃ (ks : List (List Int)) (s5' : Sl), Rw M (t + 1) (3 * b) ks ∧ forL (gN 5) (sAsgF (fCatV 4 (fLc (iR1 (vCons (liftP (p2 dAdd (pVar 0) (pC (.int 1)))) vNil)) [6] (gN 6) tYesm (eOfF (fOfK (kCat (kVar 5) (kLst (pCons (pVar 6) pNil))))))) 4) (ls.map wd) [.imm (.int M), A, .imm (LW ls), s3, .own (.lst []), s5, .none] =
      .next [.imm (.int M), A, .imm (LW ls), s3, .own (.lst (ks.map wd)), s5', .none] := by
  have hml : (ls.map wd).length = ls.length := List.length_map _
  obtain ⟨e', h1, ks, s5', h2, h3, h4, h5⟩ := forL_rel (tg := gN 5) (body := (sAsgF (fCatV 4 (fLc (iR1 (vCons (liftP (p2 dAdd (pVar 0) (pC (.int 1)))) vNil)) [6] (gN 6) tYesm (eOfF (fOfK (kCat (kVar 5) (kLst (pCons (pVar 6) pNil))))))) 4)) (ds := ls.map wd)
    (fun i e => ∃ (ks : List (List Int)) (s5 : Sl), e = [.imm (.int M), A, .imm (LW ls), s3, .own (.lst (ks.map wd)), s5, .none] ∧ (∀ k ∈ ks, k.length = t + 1 ∧ ∀ x ∈ k, 0 ≤ x ∧ x ≤ M) ∧ ks.length = n * i ∧ (0 < i → ks ≠ []))
    (e := [.imm (.int M), A, .imm (LW ls), s3, .own (.lst []), s5, .none]) ⟨[], s5, rfl, by simp, by simp, by simp⟩
    (fun i d e hd ⟨ks, s5, he, k1, k2, k3⟩ => by
      subst he
      obtain ⟨l, hl, rfl⟩ := List.mem_map.mp (List.mem_of_getElem? hd)
      have hlt : i < ls.length := by rw [← hml]; exact (List.getElem?_eq_some_iff.mp hd).1
      have hin : i ≤ b := Nat.le_trans (Nat.le_of_lt hlt) h.many
      have hkl : n * i ≤ 3 * b := Nat.mul_le_mul hn3 hin
      have mc := more_comp (A := A) (s2 := .imm (LW ls)) (s3 := s3) (s4 := .own (.lst (ks.map wd))) hM (by omega) (l := l) (by rw [h.len l hl]; omega)
      have lm : (more l n).length = n := by unfold more; simp
      have mk := Rw.more hM (h.len l hl) (h.dg l hl)
      have st := cat_own (i := 4) (xs := ks.map wd) rfl mc (le_line (by rw [List.length_map, List.length_map, lm, k2]; omega)) (by simp)
      refine ⟨_, _, rfl, .inl st, ks ++ more l n, .imm (wd l), ?_, fun k hk => ?_, ?_, fun _ => ?_⟩
      · rw [List.map_append]; rfl
      · rcases List.mem_append.mp hk with z | z
        · exact k1 k z
        · exact mk k z
      · rw [List.length_append, k2, lm, Nat.mul_succ]
      · intro z
        have := congrArg List.length z
        rw [List.length_append, lm] at this
        simp at this; omega)
  subst h2
  rw [hml] at h4 h5
  have hp := List.length_pos_iff.mpr h.ne
  have := h.many
  exact ⟨ks, s5', ⟨fun k hk => (h3 k hk).1, fun k hk => (h3 k hk).2, h5 hp, by rw [h4]; exact Nat.mul_le_mul hn3 this⟩, h1⟩
theorem rows_loop {M : Int} {n : Nat} {Z : D} (hM : M + 1 = n) (hn : 1 ≤ n) (hn3 : n ≤ 3) {k : Nat} (hk : k ≤ 7) : ∃ (ls : List (List Int)) (s2 s3 s4 s5 : Sl), (s2 = .own (.lst (ls.map wd)) ∨ s2 = .imm (LW ls)) ∧ Rw M k (3 ^ k) ls ∧
    forL (gN 3) (sSeq (sAsgF (fLst vNil) 4) (sSeq (sFor (iLst (eVar 2)) (gN 5) (sAsgF (fCatV 4 (fLc (iR1 (vCons (liftP (p2 dAdd (pVar 0) (pC (.int 1)))) vNil)) [6] (gN 6) tYesm (eOfF (fOfK (kCat (kVar 5) (kLst (pCons (pVar 6) pNil))))))) 4)) (sAsg (eVar 4) (gN 2)))) (rng 0 k) [.imm (.int M), .imm Z, .own (.lst [.lst []]), .none, .none, .none, .none] =
      .next [.imm (.int M), .imm Z, s2, s3, s4, s5, .none] := by
  have hrl : (rng 0 k).length = k := by rw [rng_eq, List.length_map, List.length_range]
  obtain ⟨e', h1, ls, s2, s3, s4, s5, h2, h3, h4⟩ := forL_rel (tg := gN 3) (body := (sSeq (sAsgF (fLst vNil) 4) (sSeq (sFor (iLst (eVar 2)) (gN 5) (sAsgF (fCatV 4 (fLc (iR1 (vCons (liftP (p2 dAdd (pVar 0) (pC (.int 1)))) vNil)) [6] (gN 6) tYesm (eOfF (fOfK (kCat (kVar 5) (kLst (pCons (pVar 6) pNil))))))) 4)) (sAsg (eVar 4) (gN 2))))) (ds := rng 0 k)
    (fun i e => ∃ (ls : List (List Int)) (s2 s3 s4 s5 : Sl), e = [.imm (.int M), .imm Z, s2, s3, s4, s5, .none] ∧ (s2 = .own (.lst (ls.map wd)) ∨ s2 = .imm (LW ls)) ∧ Rw M i (3 ^ i) ls)
    (e := [.imm (.int M), .imm Z, .own (.lst [.lst []]), .none, .none, .none, .none]) ⟨[[]], _, _, _, _, rfl, .inl rfl, ⟨by simp, by simp, by simp, by simp⟩⟩
    (fun i d e hd ⟨ls, s2, s3, s4, s5, he, hs, hr⟩ => by
      subst he
      obtain ⟨hi, rfl⟩ := rng_get hd
      have hi6 : i ≤ 6 := by omega
      have hb : 3 ^ i ≤ 3000 := Nat.le_trans (Nat.pow_le_pow_right (by decide) hi6) (by decide)
      generalize (0 + (i : Int)) = w at *
      obtain ⟨ks, s5', hr', st⟩ := rows_inner (A := .imm Z) (s3 := .imm (.int w)) (s5 := s5) hM hn hn3 hr hb (by omega)
      refine ⟨_, _, rfl, .inl (Eq.trans (seq_next (e1 := [.imm (.int M), .imm Z, s2, .imm (.int w), .own (.lst []), s5, .none]) ?_) (Eq.trans (seq_next (Eq.trans (for_ok (e1 := [.imm (.int M), .imm Z, .imm (LW ls), .imm (.int w), .own (.lst []), s5, .none]) (ds := ls.map wd) ?_) st)) (asg_ok (d := LW ks) (e1 := [.imm (.int M), .imm Z, .imm (LW ls), .imm (.int w), .imm (LW ks), s5', .none]) rfl rfl))), ks, _, _, _, _, rfl, .inr rfl, ?_⟩
      · exact (asgF_ok (d := .lst []) (e1 := [.imm (.int M), .imm Z, s2, .imm (.int w), s4, s5, .none]) (by
          have l0 : (0 : Nat) ≤ sizeLine := le_line (by decide)
          simp only [fLst, vNil, Res.bind, List.length_nil, l0, if_true]; rfl) (by simp)).trans rfl
      · rcases hs with rfl | rfl <;> rfl
      · rw [Nat.pow_succ, Nat.mul_comm]; exact hr')
  rw [hrl] at h4
  subst h2
  exact ⟨ls, s2, s3, s4, s5, h3, h4, h1⟩
theorem r_rows {M : Int} {n k : Nat} (hM : M + 1 = n) (hn : 1 ≤ n) (hn3 : n ≤ 3) (hk : k ≤ 7) : ∃ ls : List (List Int), Rw M k (3 ^ k) ls ∧ m__law_rows [.imm (.int M), .imm (.int k)] = .ok (.imm (LW ls)) [.imm (.int M), .imm (.int k)] := by
  obtain ⟨ls, s2, s3, s4, s5, hs, hr, lp⟩ := rows_loop (Z := .int k) hM hn hn3 hk
  refine ⟨ls, hr, ?_⟩
  have h0 : (0 : Int) ≤ k := by omega
  have h1 : (k : Int) ≤ 7 := by omega
  have hk' : (k : Int).toNat = k := by omega
  have l1 : (1 : Nat) ≤ sizeLine := le_line (by decide)
  have l0 : (0 : Nat) ≤ sizeLine := le_line (by decide)
  have hret : ∃ e : En, sRet (eVar 2) [.imm (.int M), .imm (.int k), s2, s3, s4, s5, .none] = .ret (.imm (LW ls)) [.imm (.int M), .imm (.int k), .imm (LW ls), s3, s4, s5, .none] := by
    rcases hs with rfl | rfl <;> exact ⟨[], rfl⟩
  obtain ⟨_, hret⟩ := hret
  have st : b__law_rows [.imm (.int M), .imm (.int k), .none, .none, .none, .none, .none] = .ret (.imm (LW ls)) [.imm (.int M), .imm (.int k), .imm (LW ls), s3, s4, s5, .none] := by
    refine Eq.trans (seq_next (e1 := [.imm (.int M), .imm (.int k), .own (.lst [.lst []]), .none, .none, .none, .none]) ?_) (Eq.trans (seq_next (Eq.trans (for_ok (iR1_ok (j := k) (e1 := [.imm (.int M), .imm (.int k), .own (.lst [.lst []]), .none, .none, .none, .none]) ?_ h0 (Int.le_trans h1 (by decide)) hk')) lp)) hret)
    · refine (asgF_ok (d := .lst [.lst []]) (e1 := [.imm (.int M), .imm (.int k), .none, .none, .none, .none, .none]) ?_ (by simp)).trans rfl
      simp only [fLst, vCons, vNil, eOfF, Res.bind, MO.toD, List.length_nil, List.length_cons, Nat.zero_add, Nat.reduceAdd, l0, l1, if_true]
    · rfl
  exact mDef_go (np := 2) (n := 7) (b := b__law_rows) (as := [.imm (.int M), .imm (.int k)]) (e := [.imm (.int M), .imm (.int k), .none, .none, .none, .none, .none]) rfl rfl st
end Lw
end

section
set_option Elab.async false
set_option linter.all false
set_option maxRecDepth 100000
set_option maxHeartbeats 4000000
set_option autoImplicit false
open PySem L2 Cv
namespace Lw
variable [TbT]
abbrev pm (a b c : Int) : MO := .lst [.int a, .int b, .int c]
theorem add_lit {c : En → Res D} {e e1 : En} {k r : Int} (h : c e = .ok (.int r) e1) : Cv.e2 dAdd (liftP (pC (.int k))) c e = .ok (.int (k + r)) e1 := by
  simp only [Cv.e2, liftP, pC, okF, fl_int, if_true, Res.bind, h, dAdd]
theorem eIx_ok {a b : En → Res D} {e e1 e2 : En} {x y z : D} (ha : a e = .ok x e1) (hb : b e1 = .ok y e2) (hz : dIx x y = some z) : eIx a b e = .ok z e2 := by
  simp only [eIx, ha, hb, Res.bind, hz, Res.of]
theorem ecall2 {f : En → RD} {m n : En → Res D} {X Y r : D} {e e1 e2 : En} (h0 : m e = .ok X e1) (h1 : n e1 = .ok Y e2) (h : f [.imm X, .imm Y] = .ok (.imm r) [.imm X, .imm Y]) : eCall f (aV m (aV n aNil)) e = .ok r e2 := by
  simp only [eCall, aV, aNil, h0, h1, Res.bind, slotsOf, argSl, Option.map, List.nodup_nil, if_true, h, putB]
theorem if_call {f : En → RD} {X : D} {i : Nat} {e : En} (hX : pVar i e = .ok X) (h : f [.imm X] = .ok (.imm (.bl true)) [.imm X]) : sIf (liftT (qNot (qB (pCall f (pCons (pVar i) pNil))))) (sRet (liftP (pC (.bl false)))) sNext e = .next e := by
  refine (if_fp ?_).trans rfl
  simp only [liftT, qNot, qB, pCall, pCons, pNil, hX, RP.bind, List.map_cons, List.map_nil, h, Bool.not_true]
theorem said_loop {f : En → RD} {ls : List (List Int)} (h : ∀ l ∈ ls, f [.imm (wd l)] = .ok (.imm (.bl true)) [.imm (wd l)]) {a b c d x : Sl} :
    ∃ y : Sl, forL (gN 4) (sIf (liftT (qNot (qB (pCall f (pCons (pVar 4) pNil))))) (sRet (liftP (pC (.bl false)))) sNext) (ls.map wd) [a, b, c, d, x] = .next [a, b, c, d, y] := by
  obtain ⟨e', h1, y, h2⟩ := forL_rel (tg := gN 4) (body := (sIf (liftT (qNot (qB (pCall f (pCons (pVar 4) pNil))))) (sRet (liftP (pC (.bl false)))) sNext)) (ds := ls.map wd) (fun _ e' => ∃ y : Sl, e' = [a, b, c, d, y]) (e := [a, b, c, d, x]) ⟨x, rfl⟩ (fun i D e' hd ⟨y, he⟩ => by
    subst he
    obtain ⟨l, hl, rfl⟩ := List.mem_map.mp (List.mem_of_getElem? hd)
    exact ⟨_, _, rfl, .inl (if_call (i := 4) (X := wd l) rfl (h l hl)), .imm (wd l), rfl⟩)
  subst h2
  exact ⟨y, h1⟩
theorem Rw.vw {M : Int} {t b : Nat} {ls : List (List Int)} (h : Rw M t b ls) (hM : M ≤ 9) (ht : 1 ≤ t) (ht2 : t ≤ 400) {l : List Int} (hl : l ∈ ls) : Vw l :=
  ⟨fun n hn => ⟨(h.dg l hl n hn).1, Int.le_trans (h.dg l hl n hn).2 hM⟩, fun z => by have := h.len l hl; rw [z] at this; simp at this; omega, by rw [h.len l hl]; exact ht2⟩
theorem len_LW (ls : List (List Int)) : dLen [LW ls] = some (.int ls.length) := by show some (D.int ((ls.map wd).length : Int)) = _; rw [List.length_map]
theorem small_many (M : Int) (a : Sl) (h : M = 1 ∨ M = 2) (x y z : Sl) : ∃ many : Int, 0 < many ∧ many ≤ 7 ∧ (liftP (pIf (qB (p2 dEq (pVar 1) (pC (.int 1)))) (pC (.int 7)) (pC (.int 4)))) [a, .imm (.int M), x, y, z] = .ok (.int many) [a, .imm (.int M), x, y, z] := by
  rcases h with rfl | rfl
  · exact ⟨7, by decide, by decide, by simp [uVar, uCut, uTup, uK, kU, pK, pTupL, fCatV, itemsM, eRun, sAsgFre, MO.flatL, sAsgRV, sSpoil3, dEqS, pLam, mDef, outsOf, sSeq, sIf, sDrop, sRet, sRetN, sRetF, sRetO, sAsg, sAsgF, sAsgR, sPar, sSetIx, sAugIx, sAug, sRaise, sNext, sBrk, sCont, sFor, sSpoilA, sSpoilP, sTry, sHand, Fl.clr, suRet, suRetT, xFld, xC, liftP, liftT, okF, Res.bind, RP.bind, Res.of, RP.of, pVar, pC, p1, p2, pN, pAnd, pOr, pIf, pNil, pCons, pTup, pLst, pCall, qB, qAnd, qOr, qNot, dNot, eVar, Cv.e1, Cv.e2, eAnd, eOr, eIf, tBm, tAndm, tOrm, tNotm, vNil, vCons, aNil, aV, aS, eTup, fLst, eOfF, cOfF, cOfE, cVar, rNil, rE, rF, td_lst, mf_lst, dSub, dAdd, dFdiv, dMod, dNeg, dLt, dLe, dGt, dGe, dIsN, dNotN, dInt, dAbs, dMin2, dMax2, dLen, tyName, dIsi, dIx, eIx, cIx, cS, cL, sLen, sSum, lAll, kVar, kLst, kRep, kCat, kCut, fOfK, fCut, oNo, oI, fListP, itemsD, Sl.mo, Sl.put, ownL, setL, eApp, ePop, ePopAt, gN, gT, gsNil, gsCons, iR1, iR2, iLst, iTupl, eCall, fCall, slotsOf, argSl, putB, wCallT, eOfW, fOfW, unfre, qVar, qIx, freAt, lstOf, fl_non, fl_bl, fl_int, fl_str, fl_lst, fl_tup, fl_rls, tYesm, dEq_int]⟩
  · exact ⟨4, by decide, by decide, by simp [uVar, uCut, uTup, uK, kU, pK, pTupL, fCatV, itemsM, eRun, sAsgFre, MO.flatL, sAsgRV, sSpoil3, dEqS, pLam, mDef, outsOf, sSeq, sIf, sDrop, sRet, sRetN, sRetF, sRetO, sAsg, sAsgF, sAsgR, sPar, sSetIx, sAugIx, sAug, sRaise, sNext, sBrk, sCont, sFor, sSpoilA, sSpoilP, sTry, sHand, Fl.clr, suRet, suRetT, xFld, xC, liftP, liftT, okF, Res.bind, RP.bind, Res.of, RP.of, pVar, pC, p1, p2, pN, pAnd, pOr, pIf, pNil, pCons, pTup, pLst, pCall, qB, qAnd, qOr, qNot, dNot, eVar, Cv.e1, Cv.e2, eAnd, eOr, eIf, tBm, tAndm, tOrm, tNotm, vNil, vCons, aNil, aV, aS, eTup, fLst, eOfF, cOfF, cOfE, cVar, rNil, rE, rF, td_lst, mf_lst, dSub, dAdd, dFdiv, dMod, dNeg, dLt, dLe, dGt, dGe, dIsN, dNotN, dInt, dAbs, dMin2, dMax2, dLen, tyName, dIsi, dIx, eIx, cIx, cS, cL, sLen, sSum, lAll, kVar, kLst, kRep, kCat, kCut, fOfK, fCut, oNo, oI, fListP, itemsD, Sl.mo, Sl.put, ownL, setL, eApp, ePop, ePopAt, gN, gT, gsNil, gsCons, iR1, iR2, iLst, iTupl, eCall, fCall, slotsOf, argSl, putB, wCallT, eOfW, fOfW, unfre, qVar, qIx, freAt, lstOf, fl_non, fl_bl, fl_int, fl_str, fl_lst, fl_tup, fl_rls, tYesm, dEq_int]⟩
theorem small_walk {fd fr fs ft : En → RD} (hd : Drw fd) (hr : ∀ (M : Int) (n k : Nat), M + 1 = n → 1 ≤ n → n ≤ 3 → k ≤ 7 → ∃ ls : List (List Int), Rw M k (3 ^ k) ls ∧ fr [.imm (.int M), .imm (.int k)] = .ok (.imm (LW ls)) [.imm (.int M), .imm (.int k)])
    (hs : ∀ ns, Vw ns → fs [.imm (wd ns)] = .ok (.imm (.bl true)) [.imm (wd ns)]) (ht : ∀ ns, Vw ns → ft [.imm (wd ns)] = .ok (.imm (.bl true)) [.imm (wd ns)]) (a b c : Int) :
    ∃ (a' b' c' : Int) (s1 s2 s3 s4 : Sl), (sSeq (sAsg (Cv.e2 dAdd (liftP (pC (.int 1))) (eCall fd (aS 0 (aV (liftP (pC (.int 2))) aNil)))) (gN 1))
  (sSeq (sAsg (Cv.e2 dAdd (liftP (pC (.int 1))) (eCall fd (aS 0 (aV (liftP (pIf (qB (p2 dEq (pVar 1) (pC (.int 1)))) (pC (.int 7)) (pC (.int 4)))) aNil)))) (gN 2))
  (sSeq (sAsg (eCall fr (aV (eVar 1) (aV (eVar 2) aNil))) (gN 3))
  (sSeq (sFor (iLst (eVar 3)) (gN 4) (sIf (liftT (qNot (qB (pCall fs (pCons (pVar 4) pNil))))) (sRet (liftP (pC (.bl false)))) sNext))
  (sRet (eCall ft (aV (eIx (eVar 3) (eCall fd (aS 0 (aV (liftP (pN dLen (pCons (pVar 3) pNil))) aNil)))) aNil))))))) [.par (pm a b c), .none, .none, .none, .none] = .ret (.imm (.bl true)) [.par (pm a' b' c'), s1, s2, s3, s4] := by
  obtain ⟨r1, a1, b1, c1, k1, k2, d1⟩ := d_draw hd 2 (by decide) (by decide) a b c [.none, .none, .none, .none]
  obtain ⟨many, m1, m2, m3⟩ := small_many (1 + r1) (.par (pm a1 b1 c1)) (by omega) .none .none .none
  obtain ⟨r2, a2, b2, c2, k3, k4, d2⟩ := e_draw hd m1 (Int.lt_of_le_of_lt m2 (by decide)) rfl m3
  obtain ⟨k, hk⟩ := Int.eq_ofNat_of_zero_le (a := 1 + r2) (by omega)
  have kk : k ≤ 7 ∧ 1 ≤ k := by omega
  obtain ⟨n, hn⟩ := Int.eq_ofNat_of_zero_le (a := 1 + r1 + 1) (by omega)
  obtain ⟨ls, hl, q⟩ := hr (1 + r1) n k hn (by omega) (by omega) kk.1
  rw [← hk] at q
  have w1 : (eVar 1) [.par (pm a2 b2 c2), .imm (.int (1 + r1)), .imm (.int (1 + r2)), .none, .none] = .ok (.int (1 + r1)) [.par (pm a2 b2 c2), .imm (.int (1 + r1)), .imm (.int (1 + r2)), .none, .none] := rfl
  have w2 : (eVar 2) [.par (pm a2 b2 c2), .imm (.int (1 + r1)), .imm (.int (1 + r2)), .none, .none] = .ok (.int (1 + r2)) [.par (pm a2 b2 c2), .imm (.int (1 + r1)), .imm (.int (1 + r2)), .none, .none] := rfl
  have vw : ∀ l ∈ ls, Vw l := fun l h => hl.vw (by omega) kk.2 (by omega) h
  obtain ⟨y, lp⟩ := said_loop (f := fs) (ls := ls) (fun l h => hs l (vw l h)) (a := .par (pm a2 b2 c2)) (b := .imm (.int (1 + r1))) (c := .imm (.int (1 + r2))) (d := .imm (LW ls)) (x := .none)
  have lp0 := List.length_pos_iff.mpr hl.ne
  have lb : ls.length ≤ 2187 := Nat.le_trans hl.many (Nat.le_trans (Nat.pow_le_pow_right (by decide) kk.1) (by decide))
  have L0 : (0 : Int) < ls.length := by omega
  have L1 : (ls.length : Int) ≤ 2187 := by omega
  have ll := len_LW ls
  have hm : (liftP (pN dLen (pCons (pVar 3) pNil))) [.par (pm a2 b2 c2), .imm (.int (1 + r1)), .imm (.int (1 + r2)), .imm (LW ls), y] = .ok (.int ls.length) [.par (pm a2 b2 c2), .imm (.int (1 + r1)), .imm (.int (1 + r2)), .imm (LW ls), y] := by
    generalize (ls.length : Int) = z at *
    simp only [liftP, pN, pCons, pNil, pVar, RP.bind, RP.of, ll, okF, fl_int, if_true, List.getElem?_cons_zero, List.getElem?_cons_succ]
  obtain ⟨r3, a3, b3, c3, k5, k6, d3⟩ := e_draw hd L0 (Int.lt_of_le_of_lt L1 (by decide)) rfl hm
  obtain ⟨j, hj⟩ := Int.eq_ofNat_of_zero_le (a := r3) k5
  have jl : j < ls.length := by omega
  have hx : dIx (LW ls) (.int r3) = some (wd (ls[j]'jl)) := atI_of hj (by rw [List.getElem?_map, List.getElem?_eq_getElem jl]; rfl)
  refine ⟨a3, b3, c3, _, _, _, _, Eq.trans (seq_next (asg_ok (add_lit d1) rfl)) (Eq.trans (seq_next (asg_ok (add_lit d2) rfl)) (Eq.trans (seq_next (asg_ok (ecall2 w1 w2 q) rfl)) (Eq.trans (seq_next (Eq.trans (for_ok (e1 := [.par (pm a2 b2 c2), .imm (.int (1 + r1)), .imm (.int (1 + r2)), .imm (LW ls), .none]) (ds := ls.map wd) rfl) lp)) (ret_ok (ecall1 (eIx_ok (x := LW ls) rfl d3 hx) (ht _ (vw _ (List.getElem_mem jl))))))))⟩
theorem r_small (a b c : Int) : ∃ a' b' c' : Int, m__law_small [.par (pm a b c)] = .ok (.imm (.bl true)) [.par (pm a' b' c')] := by
  obtain ⟨a', b', c', s1, s2, s3, s4, st⟩ := small_walk drw (fr := m__law_rows) (fs := m__law_said) (ft := m__law_turned) (fun M n k h1 h2 h3 h4 => r_rows h1 h2 h3 h4) (fun ns v => r_said v) (fun ns v => r_turned v) a b c
  exact ⟨a', b', c', mDef_go (np := 1) (n := 5) (b := b__law_small) (as := [.par (pm a b c)]) (e := [.par (pm a b c), .none, .none, .none, .none]) rfl rfl st⟩
end Lw
end

section
set_option Elab.async false
set_option linter.all false
set_option maxRecDepth 100000
set_option maxHeartbeats 4000000
set_option autoImplicit false
open PySem L2 Cv
namespace Lw
variable [TbT]
/-- as many draws as there are turns -/
theorem lc_draws {fd : En → RD} (hd : Drw fd) {m : En → Res D} {many : Int} (h0 : 0 < many) (h1 : many < 18446744073709551616) {s1 s2 s3 s4 : Sl}
    (hm : ∀ (s x : Sl), m [s, s1, s2, s3, s4, x] = .ok (.int many) [s, s1, s2, s3, s4, x]) : ∀ (ds : List D) (acc : List Int) (a b c : Int), (∀ d ∈ ds, ∃ w, d = .int w) → ds.length + acc.length ≤ 100000 →
    ∃ (ys : List Int) (a' b' c' : Int), lcL [5] (gN 5) tYesm (eCall fd (aS 0 (aV m aNil))) ds (acc.map .int) [.par (pm a b c), s1, s2, s3, s4, .none] = .ok ((acc ++ ys).map .int) [.par (pm a' b' c'), s1, s2, s3, s4, .none] ∧ ys.length = ds.length ∧ ∀ y ∈ ys, 0 ≤ y ∧ y < many
  | [], acc, a, b, c, _, _ => ⟨[], a, b, c, by rw [List.append_nil]; rfl, rfl, by simp⟩
  | d :: r, acc, a, b, c, hi, hl => by
    obtain ⟨w, rfl⟩ := hi d (List.mem_cons_self ..)
    obtain ⟨y, a1, b1, c1, k1, k2, dd⟩ := e_draw hd h0 h1 (a := a) (b := b) (c := c) (s := .par (pm a b c)) rfl (hm (.par (pm a b c)) (.imm (.int w)))
    obtain ⟨ys, a', b', c', lc, l2, h2⟩ := lc_draws hd h0 h1 hm r (acc ++ [y]) a1 b1 c1 (fun d h => hi d (List.mem_cons_of_mem _ h)) (by simp at hl ⊢; omega)
    refine ⟨y :: ys, a', b', c', ?_, by simp [l2], ?_⟩
    · have ls : (acc.map D.int).length < sizeLine ∧ freeOf [.par (pm a1 b1 c1), s1, s2, s3, s4, .imm (.int w)] [5] = true := ⟨lt_line (by simp at hl ⊢; omega), rfl⟩
      unfold lcL
      have g : gN 5 (.int w) [.par (pm a b c), s1, s2, s3, s4, .none] = some [.par (pm a b c), s1, s2, s3, s4, .imm (.int w)] := rfl
      rw [g]
      dsimp only
      have t : ∀ e : En, tYesm e = .ok true e := fun _ => rfl
      rw [t]
      dsimp only
      rw [dd]
      dsimp only
      rw [if_pos ls]
      have wp : wipeE [.par (pm a1 b1 c1), s1, s2, s3, s4, .imm (.int w)] [5] = [.par (pm a1 b1 c1), s1, s2, s3, s4, .none] := rfl
      rw [wp]
      have e : acc.map D.int ++ [.int y] = (acc ++ [y]).map .int := by rw [List.map_append]; rfl
      rw [e, lc]
      simp
    · intro z hz
      rcases List.mem_cons.mp hz with rfl | hz
      · exact ⟨k1, k2⟩
      · exact h2 z hz
theorem fLc_own {src : En → Res (List D)} {elt : En → Res D} {e e1 e2 : En} {ds ys : List D} (hs : src e = .ok ds e1) (hf : freeOf e1 [5] = true) (h : lcL [5] (gN 5) tYesm elt ds [] (wipeE e1 [5]) = .ok ys e2) : fLc src [5] (gN 5) tYesm elt e = .ok (.lst ys) (rest e1 [5] e2) := by
  unfold fLc
  rw [hs]
  dsimp only
  rw [if_pos hf, h]
/-- the least of the turns -/
theorem toPyL_wds (ls : List (List Int)) : toPyL (ls.map wd) = some (ls.map fun l => .list (l.map .int)) := by
  induction ls with
  | nil => rfl
  | cons l r ih =>
    have p1 : toPy (wd l) = some (.list (l.map .int)) := by unfold wd toPy; rw [toPyL_ints]; rfl
    rw [List.map_cons, List.map_cons, toPyL, ih, p1]
    rfl
theorem depth_wds (ls : List (List Int)) : PyData.depthAll (ls.map fun l => .list (l.map .int)) ≤ 1 := by
  induction ls with
  | nil => rw [List.map_nil, PyData.depthAll]; omega
  | cons l r ih => rw [List.map_cons, PyData.depthAll, PyData.depth, depth_ints]; omega
theorem cmp_wds (ls : List (List Int)) : allCmp (ls.map fun l => .list (l.map .int)) = true := by
  unfold allCmp
  simp only [Bool.and_eq_true, List.all_eq_true, decide_eq_true_eq]
  refine ⟨⟨fun x hx y hy => ?_, fun x hx => ?_⟩, by have := depth_wds ls; omega⟩
  · obtain ⟨l, _, rfl⟩ := List.mem_map.mp hx
    obtain ⟨k, _, rfl⟩ := List.mem_map.mp hy
    rw [PySem.W.alike]
    exact alike_ints l k
  · obtain ⟨l, _, rfl⟩ := List.mem_map.mp hx
    rfl
theorem sMin_wds {ls : List (List Int)} (h : ls ≠ []) : ∃ l ∈ ls, sMinD true (ls.map wd) = some (wd l) := by
  cases ls with
  | nil => exact absurd rfl h
  | cons k r =>
    have m := minD_mem (.list (k.map .int)) (r.map fun l => .list (l.map .int))
    have c := cmp_wds (k :: r)
    have p := toPyL_wds (k :: r)
    rw [List.map_cons] at c
    rw [List.map_cons (f := fun l : List Int => PyData.list (l.map .int))] at p
    have m' : PySem.W.minD (.list (k.map .int)) (r.map fun l => .list (l.map .int)) ∈ (k :: r).map fun l => PyData.list (l.map .int) := m
    obtain ⟨l, hl, e⟩ := List.mem_map.mp m'
    refine ⟨l, hl, ?_⟩
    unfold sMinD
    rw [if_pos rfl, p]
    dsimp only
    rw [if_pos c, ← e]
    have p1 : toPy (wd l) = some (.list (l.map .int)) := by unfold wd toPy; rw [toPyL_ints]; rfl
    rw [ofPy_of p1]
def againD (ns : List Int) : D → D
  | .int i => match ns[(i % ns.length).toNat]? with
    | some n => .int n
    | none => .non
  | d => d
theorem again_comp {ns : List Int} {size : Nat} (hne : ns ≠ []) (hl : ns.length ≤ 1000) (hs : size ≤ 1000) : ∃ ms : List Int, ms.length = size ∧ (∀ m ∈ ms, m ∈ ns) ∧
    fLc (iR1 (vCons (eVar 2) vNil)) [3] (gN 3) tYesm (cIx (cVar 0) (p2 dMod (pN dInt (pCons (p2 dAdd (pVar 1) (pVar 3)) pNil)) (pN dLen (pCons (pVar 0) pNil)))) [.imm (wd ns), .imm (.int 0), .imm (.int size), .none] = .ok (.lst (ms.map .int)) [.imm (wd ns), .imm (.int 0), .imm (.int size), .none] := by
  have hp := List.length_pos_iff.mpr hne
  have key : ∀ i : Nat, ∃ (h : i % ns.length < ns.length), againD ns (.int (0 + (i : Int))) = .int (ns[i % ns.length]'h) := fun i => by
    have h : i % ns.length < ns.length := Nat.mod_lt _ hp
    refine ⟨h, ?_⟩
    have e : ((0 + (i : Int)) % (ns.length : Int)).toNat = i % ns.length := by
      rw [Int.zero_add, ← Int.natCast_emod, Int.toNat_natCast]
    unfold againD
    dsimp only
    rw [e, List.getElem?_eq_getElem h]
  refine ⟨(List.range size).map fun i => if h : i % ns.length < ns.length then ns[i % ns.length]'h else 0, by simp, fun m hm => ?_, ?_⟩
  · obtain ⟨i, _, rfl⟩ := List.mem_map.mp hm
    obtain ⟨h, _⟩ := key i
    rw [dif_pos h]
    exact List.getElem_mem h
  · have h0 : (0 : Int) ≤ size := by omega
    have h1 : (size : Int) ≤ 1000 := by omega
    have hc := fLc_map (vs := [3]) (tg := gN 3) (test := tYesm) (elt := (cIx (cVar 0) (p2 dMod (pN dInt (pCons (p2 dAdd (pVar 1) (pVar 3)) pNil)) (pN dLen (pCons (pVar 0) pNil))))) (e := [.imm (wd ns), .imm (.int 0), .imm (.int size), .none]) (e1 := [.imm (wd ns), .imm (.int 0), .imm (.int size), .none]) (src := iR1 (vCons (eVar 2) vNil)) (ds := rng 0 size) (againD ns) (iR1_ok (j := size) rfl h0 (Int.le_trans h1 (by decide)) (by omega)) rfl (fun d hd => by
      obtain ⟨i, hi⟩ := List.getElem?_of_mem hd
      obtain ⟨hlt, rfl⟩ := rng_get hi
      refine ⟨[.imm (wd ns), .imm (.int 0), .imm (.int size), .imm (.int (0 + (i : Int)))], rfl, rfl, ?_, rfl, rfl⟩
      obtain ⟨h, e⟩ := key i
      rw [e]
      have ll := len_wd ns
      have lp : (0 : Int) < ns.length := by omega
      have cv : ∀ x y z : Sl, cVar 0 [.imm (wd ns), x, y, z] = .ok (true, ns.map .int) [.imm (wd ns), x, y, z] := fun _ _ _ => rfl
      have ix : atI (ns.map D.int) ((0 + (0 + (i : Int))) % (ns.length : Int)) = some (.int (ns[i % ns.length]'h)) := atI_map (by rw [Int.zero_add, Int.zero_add, ← Int.natCast_emod]) (List.getElem?_eq_getElem h)
      have md := dMod_ok (i := 0 + (0 + (i : Int))) lp
      generalize ns[i % ns.length]'h = v at *
      generalize (ns.length : Int) = z at *
      generalize (0 + (i : Int)) = w at *
      simp only [cIx, cv, p2, pN, pCons, pNil, pVar, RP.bind, RP.of, Res.bind, Res.of, dAdd, dInt, ll, md, ix, List.getElem?_cons_zero, List.getElem?_cons_succ]) (le_line (by rw [rng_eq]; simp; omega))
    have e2 : (rng 0 size).map (againD ns) = ((List.range size).map fun i => if h : i % ns.length < ns.length then ns[i % ns.length]'h else 0).map .int := by
      rw [rng_eq, List.map_map, List.map_map]
      apply List.map_congr_left
      intro i _
      obtain ⟨h, e⟩ := key i
      rw [Int.zero_add] at e
      show againD ns (.int (i : Int)) = D.int _
      rw [e]
      dsimp only
      rw [dif_pos h]
    rw [e2] at hc
    exact hc
theorem r_again {ns : List Int} {size : Nat} (hne : ns ≠ []) (hl : ns.length ≤ 1000) (hs : size ≤ 1000) : ∃ ms : List Int, ms.length = size ∧ (∀ m ∈ ms, m ∈ ns) ∧
    m__law_again [.imm (wd ns), .imm (.int 0), .imm (.int size)] = .ok (.own (.lst (ms.map .int))) [.imm (wd ns), .imm (.int 0), .imm (.int size)] := by
  obtain ⟨ms, h1, h2, h3⟩ := again_comp hne hl hs
  exact ⟨ms, h1, h2, mDef_go (np := 3) (n := 4) (b := b__law_again) (as := [.imm (wd ns), .imm (.int 0), .imm (.int size)]) (e := [.imm (wd ns), .imm (.int 0), .imm (.int size), .none]) rfl rfl (retF_ok h3)⟩
end Lw
end

section
set_option Elab.async false
set_option linter.all false
set_option maxRecDepth 100000
set_option maxHeartbeats 4000000
set_option autoImplicit false
open PySem L2 Cv
namespace Lw
variable [TbT]
theorem long_size {fd : En → RD} (hd : Drw fd) (a b c : Int) (tl : En) : ∃ (n : Nat) (a' b' c' : Int), 1 ≤ n ∧ n ≤ 400 ∧ (eIf (tBm (Cv.e2 dEq (eCall fd (aS 0 (aV (liftP (pC (.int 12))) aNil))) (liftP (pC (.int 0))))) (liftP (pC (.int 400))) (Cv.e2 dAdd (liftP (pC (.int 1))) (eCall fd (aS 0 (aV (liftP (pC (.int 30))) aNil))))) (.par (pm a b c) :: tl) = .ok (.int n) (.par (pm a' b' c') :: tl) := by
  obtain ⟨r1, a1, b1, c1, k1, k2, d1⟩ := d_draw hd 12 (by decide) (by decide) a b c tl
  have q : ∀ t : Bool, (decide (r1 = 0)) = t → (tBm (Cv.e2 dEq (eCall fd (aS 0 (aV (liftP (pC (.int 12))) aNil))) (liftP (pC (.int 0))))) (.par (pm a b c) :: tl) = .ok t (.par (pm a1 b1 c1) :: tl) := fun t ht => by
    have e := dEq_int r1 0
    rw [ht] at e
    simp only [tBm, Cv.e2, d1, Res.bind, liftP, pC, okF, fl_int, fl_bl, if_true, e]
  by_cases h : r1 = 0
  · refine ⟨400, a1, b1, c1, by decide, by decide, ?_⟩
    simp only [eIf, q true (decide_eq_true h), Res.bind, if_true, liftP, pC, okF, fl_int]
    rfl
  · obtain ⟨r2, a2, b2, c2, k3, k4, d2⟩ := d_draw hd 30 (by decide) (by decide) a1 b1 c1 tl
    obtain ⟨k, hk⟩ := Int.eq_ofNat_of_zero_le (a := 1 + r2) (by omega)
    refine ⟨k, a2, b2, c2, by omega, by omega, ?_⟩
    rw [← hk]
    have ad := add_lit (k := 1) d2
    simp only [eIf, q false (decide_eq_false h), Res.bind, ad]
    rfl
theorem long_most {fd : En → RD} (hd : Drw fd) (a b c : Int) (tl : En) : ∃ (n a' b' c' : Int), 1 ≤ n ∧ n ≤ 9 ∧ (eIx (eOfF (fLst (vCons (liftP (pC (.int 1))) (vCons (liftP (pC (.int 2))) (vCons (liftP (pC (.int 9))) vNil))))) (eCall fd (aS 0 (aV (liftP (pC (.int 3))) aNil)))) (.par (pm a b c) :: tl) = .ok (.int n) (.par (pm a' b' c') :: tl) := by
  obtain ⟨r1, a1, b1, c1, k1, k2, d1⟩ := d_draw hd 3 (by decide) (by decide) a b c tl
  have l3 : [D.int 1, .int 2, .int 9].length ≤ sizeLine := le_line (by decide)
  have hl : (eOfF (fLst (vCons (liftP (pC (.int 1))) (vCons (liftP (pC (.int 2))) (vCons (liftP (pC (.int 9))) vNil))))) (.par (pm a b c) :: tl) = .ok (.lst [.int 1, .int 2, .int 9]) (.par (pm a b c) :: tl) := by
    simp only [eOfF, fLst, vCons, vNil, liftP, pC, okF, fl_int, if_true, Res.bind, if_pos l3, MO.toD]
  have : ∃ n : Int, 1 ≤ n ∧ n ≤ 9 ∧ dIx (.lst [.int 1, .int 2, .int 9]) (.int r1) = some (.int n) := by
    have : r1 = 0 ∨ r1 = 1 ∨ r1 = 2 := by omega
    rcases this with rfl | rfl | rfl
    · exact ⟨1, by decide, by decide, atI_of (j := 0) rfl rfl⟩
    · exact ⟨2, by decide, by decide, atI_of (j := 1) rfl rfl⟩
    · exact ⟨9, by decide, by decide, atI_of (j := 2) rfl rfl⟩
  obtain ⟨n, n1, n2, hx⟩ := this
  exact ⟨n, a1, b1, c1, n1, n2, eIx_ok hl d1 hx⟩
theorem long_row {fd : En → RD} (hd : Drw fd) (a b c : Int) (n : Nat) (hn : n ≤ 400) (m : Int) (h0 : 0 ≤ m) (h1 : m ≤ 9) : ∃ (ys : List Int) (a' b' c' : Int), ys.length = n ∧ (∀ y ∈ ys, 0 ≤ y ∧ y ≤ m) ∧
    fLc (iR1 (vCons (eVar 1) vNil)) [5] (gN 5) tYesm (eCall fd (aS 0 (aV (liftP (p2 dAdd (pVar 2) (pC (.int 1)))) aNil))) [.par (pm a b c), .imm (.int n), .imm (.int m), .none, .none, .none] = .ok (.lst (ys.map .int)) [.par (pm a' b' c'), .imm (.int n), .imm (.int m), .none, .none, .none] := by
  obtain ⟨ys, a', b', c', lc, l2, h2⟩ := lc_draws hd (m := liftP (p2 dAdd (pVar 2) (pC (.int 1)))) (many := m + 1) (s1 := .imm (.int n)) (s2 := .imm (.int m)) (s3 := .none) (s4 := .none) (by omega) (Int.lt_of_le_of_lt (b := 10) (by omega) (by decide)) (fun s x => by
    simp only [liftP, p2, pVar, pC, RP.bind, RP.of, dAdd, okF, fl_int, if_true, List.getElem?_cons_zero, List.getElem?_cons_succ]) (rng 0 n) [] a b c (fun d hd => by
      obtain ⟨i, hi⟩ := List.getElem?_of_mem hd
      obtain ⟨_, rfl⟩ := rng_get hi
      exact ⟨_, rfl⟩) (by rw [rng_eq]; simp; omega)
  refine ⟨ys, a', b', c', by rw [l2, rng_eq]; simp, fun y hy => ?_, ?_⟩
  · have := h2 y hy; omega
  · have z0 : (0 : Int) ≤ n := by omega
    have z1 : (n : Int) ≤ 400 := by omega
    have hs : (iR1 (vCons (eVar 1) vNil)) [.par (pm a b c), .imm (.int n), .imm (.int m), .none, .none, .none] = .ok (rng 0 n) [.par (pm a b c), .imm (.int n), .imm (.int m), .none, .none, .none] := iR1_ok (j := n) rfl z0 (Int.le_trans z1 (by decide)) (by omega)
    rw [List.nil_append, List.map_nil] at lc
    generalize (n : Int) = z at *
    exact (fLc_own hs rfl lc).trans rfl
/-- the word: one of three kinds -/
theorem long_walk {fd ft fa : En → RD} (hd : Drw fd) (ht : ∀ ns : List Int, ns.length ≤ 400 → ft [.imm (wd ns)] = .ok (.own (.lst ((turnsI ns).map wd))) [.imm (wd ns)])
    (ha : ∀ (ns : List Int) (size : Nat), ns ≠ [] → ns.length ≤ 1000 → size ≤ 1000 → ∃ ms : List Int, ms.length = size ∧ (∀ m ∈ ms, m ∈ ns) ∧ fa [.imm (wd ns), .imm (.int 0), .imm (.int size)] = .ok (.own (.lst (ms.map .int))) [.imm (wd ns), .imm (.int 0), .imm (.int size)]) (a b c : Int) :
    ∃ (w : List Int) (a' b' c' : Int) (s1 s2 s3 s4 s5 : Sl), Vw w ∧ (sSeq (sAsg (eIf (tBm (Cv.e2 dEq (eCall fd (aS 0 (aV (liftP (pC (.int 12))) aNil))) (liftP (pC (.int 0))))) (liftP (pC (.int 400))) (Cv.e2 dAdd (liftP (pC (.int 1))) (eCall fd (aS 0 (aV (liftP (pC (.int 30))) aNil))))) (gN 1))
  (sSeq (sAsg (eIx (eOfF (fLst (vCons (liftP (pC (.int 1))) (vCons (liftP (pC (.int 2))) (vCons (liftP (pC (.int 9))) vNil))))) (eCall fd (aS 0 (aV (liftP (pC (.int 3))) aNil)))) (gN 2))
  (sSeq (sAsgF (fLc (iR1 (vCons (eVar 1) vNil)) [5] (gN 5) tYesm (eCall fd (aS 0 (aV (liftP (p2 dAdd (pVar 2) (pC (.int 1)))) aNil)))) 3)
  (sSeq (sAsg (eCall fd (aS 0 (aV (liftP (pC (.int 4))) aNil))) (gN 4))
  (sSeq (sIf (liftT (qB (p2 dLt (pVar 4) (pC (.int 2))))) (sRet (cSd sMinD (cOfF (fCall ft (aV (eVar 3) aNil))))) sNext)
  (sRet (eIf (liftT (qB (p2 dEq (pVar 4) (pC (.int 2))))) (eCall fa (aV (eOfF (fCut (cVar 3) oNo (oI (p2 dAdd (pC (.int 1)) (p2 dFdiv (pVar 1) (pC (.int 3))))))) (aV (liftP (pC (.int 0))) (aV (eVar 1) aNil)))) (eVar 3)))))))) [.par (pm a b c), .none, .none, .none, .none, .none] = .ret (.imm (wd w)) [.par (pm a' b' c'), s1, s2, s3, s4, s5] := by
  obtain ⟨n, a1, b1, c1, n1, n2, w1⟩ := long_size hd a b c [.none, .none, .none, .none, .none]
  obtain ⟨m, a2, b2, c2, m1, m2, w2⟩ := long_most hd a1 b1 c1 [.imm (.int n), .none, .none, .none, .none]
  obtain ⟨ys, a3, b3, c3, y1, y2, w3⟩ := long_row hd a2 b2 c2 n n2 m (by omega) m2
  obtain ⟨st, a4, b4, c4, k1, k2, w4⟩ := d_draw hd 4 (by decide) (by decide) a3 b3 c3 [.imm (.int n), .imm (.int m), .own (.lst (ys.map .int)), .none, .none]
  have yne : ys ≠ [] := fun z => by rw [z] at y1; simp at y1; omega
  have yv : Vw ys := ⟨fun y hy => by have := y2 y hy; unfold dg; omega, yne, by omega⟩
  have sub : ∀ ms : List Int, (∀ m ∈ ms, m ∈ ys) → ms ≠ [] → ms.length ≤ 400 → Vw ms := fun ms h1 h2 h3 => ⟨fun y hy => yv.dg y (h1 y hy), h2, h3⟩
  have head : ∀ {rest : En → Fl}, (sSeq (sAsg (eIf (tBm (Cv.e2 dEq (eCall fd (aS 0 (aV (liftP (pC (.int 12))) aNil))) (liftP (pC (.int 0))))) (liftP (pC (.int 400))) (Cv.e2 dAdd (liftP (pC (.int 1))) (eCall fd (aS 0 (aV (liftP (pC (.int 30))) aNil))))) (gN 1))
  (sSeq (sAsg (eIx (eOfF (fLst (vCons (liftP (pC (.int 1))) (vCons (liftP (pC (.int 2))) (vCons (liftP (pC (.int 9))) vNil))))) (eCall fd (aS 0 (aV (liftP (pC (.int 3))) aNil)))) (gN 2))
  (sSeq (sAsgF (fLc (iR1 (vCons (eVar 1) vNil)) [5] (gN 5) tYesm (eCall fd (aS 0 (aV (liftP (p2 dAdd (pVar 2) (pC (.int 1)))) aNil)))) 3)
  (sSeq (sAsg (eCall fd (aS 0 (aV (liftP (pC (.int 4))) aNil))) (gN 4)) rest)))) [.par (pm a b c), .none, .none, .none, .none, .none] = rest [.par (pm a4 b4 c4), .imm (.int n), .imm (.int m), .own (.lst (ys.map .int)), .imm (.int st), .none] := fun {rest} =>
    Eq.trans (seq_next (asg_ok w1 rfl)) (Eq.trans (seq_next (asg_ok w2 rfl)) (Eq.trans (seq_next (asgF_ok w3 (by simp))) (seq_next (asg_ok w4 rfl))))
  by_cases h2 : st < 2
  · obtain ⟨l, hl, hm⟩ := sMin_wds (ls := turnsI ys) (fun z => by have := turnsI_len ys; rw [z] at this; simp at this; omega)
    obtain ⟨l1, l2⟩ := turnsI_mem hl
    have q : (liftT (qB (p2 dLt (pVar 4) (pC (.int 2))))) [.par (pm a4 b4 c4), .imm (.int n), .imm (.int m), .own (.lst (ys.map .int)), .imm (.int st), .none] = .ok true [.par (pm a4 b4 c4), .imm (.int n), .imm (.int m), .own (.lst (ys.map .int)), .imm (.int st), .none] := by
      simp only [liftT, qB, p2, pVar, pC, RP.bind, RP.of, dLt, decide_eq_true h2, List.getElem?_cons_zero, List.getElem?_cons_succ]
    have ev : (eVar 3) [.par (pm a4 b4 c4), .imm (.int n), .imm (.int m), .own (.lst (ys.map .int)), .imm (.int st), .none] = .ok (wd ys) [.par (pm a4 b4 c4), .imm (.int n), .imm (.int m), .imm (wd ys), .imm (.int st), .none] := rfl
    have fc := fcall1 (f := ft) ev (ht ys (by omega))
    refine ⟨l, a4, b4, c4, _, _, _, _, _, sub l l2 (fun z => by rw [z] at l1; simp at l1; omega) (by omega), Eq.trans head (seq_ret (Eq.trans (if_tp q) (ret_ok (e1 := [.par (pm a4 b4 c4), .imm (.int n), .imm (.int m), .imm (wd ys), .imm (.int st), .none]) ?_)))⟩
    simp only [cSd, cOfF, fc, Res.bind, hm]
  · have q : (liftT (qB (p2 dLt (pVar 4) (pC (.int 2))))) [.par (pm a4 b4 c4), .imm (.int n), .imm (.int m), .own (.lst (ys.map .int)), .imm (.int st), .none] = .ok false [.par (pm a4 b4 c4), .imm (.int n), .imm (.int m), .own (.lst (ys.map .int)), .imm (.int st), .none] := by
      simp only [liftT, qB, p2, pVar, pC, RP.bind, RP.of, dLt, decide_eq_false h2, List.getElem?_cons_zero, List.getElem?_cons_succ]
    have head2 : ∀ {A rest : En → Fl}, (sSeq (sIf (liftT (qB (p2 dLt (pVar 4) (pC (.int 2))))) A sNext) rest) [.par (pm a4 b4 c4), .imm (.int n), .imm (.int m), .own (.lst (ys.map .int)), .imm (.int st), .none] = rest [.par (pm a4 b4 c4), .imm (.int n), .imm (.int m), .own (.lst (ys.map .int)), .imm (.int st), .none] := fun {A rest} =>
      seq_next (Eq.trans (if_fp q) rfl)
    have t : ∀ b : Bool, decide (st = 2) = b → (liftT (qB (p2 dEq (pVar 4) (pC (.int 2))))) [.par (pm a4 b4 c4), .imm (.int n), .imm (.int m), .own (.lst (ys.map .int)), .imm (.int st), .none] = .ok b [.par (pm a4 b4 c4), .imm (.int n), .imm (.int m), .own (.lst (ys.map .int)), .imm (.int st), .none] := fun b hb => by
      have e := dEq_int st 2
      rw [hb] at e
      simp only [liftT, qB, p2, pVar, pC, RP.bind, RP.of, e, List.getElem?_cons_zero, List.getElem?_cons_succ]
    by_cases h : st = 2
    · obtain ⟨j, hj⟩ : ∃ j : Nat, j = 1 + n / 3 := ⟨_, rfl⟩
      have jn : j ≤ ys.length := by omega
      have tl : (ys.take j).length = j := by rw [List.length_take]; omega
      obtain ⟨ms, s1, s2, s3⟩ := ha (ys.take j) n (fun z => by rw [z] at tl; simp at tl; omega) (by omega) (by omega)
      have cv : (cVar 3) [.par (pm a4 b4 c4), .imm (.int n), .imm (.int m), .own (.lst (ys.map .int)), .imm (.int st), .none] = .ok (true, ys.map .int) [.par (pm a4 b4 c4), .imm (.int n), .imm (.int m), .own (.lst (ys.map .int)), .imm (.int st), .none] := rfl
      have dv := dFdiv_ok (i := n) (j := 3) (by decide) (by decide)
      have c2 := cut_hi (ds := ys.map .int) (i := j) (by rw [List.length_map]; exact jn)
      have ej : (1 : Int) + (n : Int) / 3 = (j : Int) := by omega
      have et : (ys.map D.int).take j = (ys.take j).map .int := by rw [List.map_take]
      rw [et, ← ej] at c2
      have cut : (eOfF (fCut (cVar 3) oNo (oI (p2 dAdd (pC (.int 1)) (p2 dFdiv (pVar 1) (pC (.int 3))))))) [.par (pm a4 b4 c4), .imm (.int n), .imm (.int m), .own (.lst (ys.map .int)), .imm (.int st), .none] = .ok (wd (ys.take j)) [.par (pm a4 b4 c4), .imm (.int n), .imm (.int m), .own (.lst (ys.map .int)), .imm (.int st), .none] := by
        generalize (n : Int) = z at *
        simp only [eOfF, fCut, cv, oNo, oI, p2, pC, pVar, RP.bind, RP.of, dv, dAdd, Res.bind, c2, if_true, MO.toD, List.getElem?_cons_zero, List.getElem?_cons_succ]
        rfl
      refine ⟨ms, a4, b4, c4, _, _, _, _, _, sub ms (fun m hm => List.mem_of_mem_take (s2 m hm)) (fun z => by rw [z] at s1; simp at s1; omega) (by omega), Eq.trans head (Eq.trans head2 (ret_ok (e1 := [.par (pm a4 b4 c4), .imm (.int n), .imm (.int m), .own (.lst (ys.map .int)), .imm (.int st), .none]) ?_))⟩
      unfold eIf
      rw [t true (decide_eq_true h)]
      have ev1 : (eVar 1) [.par (pm a4 b4 c4), .imm (.int n), .imm (.int m), .own (.lst (ys.map .int)), .imm (.int st), .none] = .ok (.int n) [.par (pm a4 b4 c4), .imm (.int n), .imm (.int m), .own (.lst (ys.map .int)), .imm (.int st), .none] := rfl
      generalize (n : Int) = z at *
      simp only [Res.bind, if_true, eCall, aV, aNil, cut, liftP, pC, okF, fl_int, ev1, slotsOf, argSl, Option.map, List.nodup_nil, s3, putB, MO.toD]
      rfl
    · refine ⟨ys, a4, b4, c4, _, _, _, _, _, yv, Eq.trans head (Eq.trans head2 (ret_ok (e1 := [.par (pm a4 b4 c4), .imm (.int n), .imm (.int m), .imm (wd ys), .imm (.int st), .none]) ?_))⟩
      unfold eIf
      rw [t false (decide_eq_false h)]
      rfl
theorem r_long (a b c : Int) : ∃ (w : List Int) (a' b' c' : Int), Vw w ∧ m__law_long_word [.par (pm a b c)] = .ok (.imm (wd w)) [.par (pm a' b' c')] := by
  obtain ⟨w, a', b', c', s1, s2, s3, s4, s5, v, st⟩ := long_walk drw (ft := m__law_turns) (fa := m__law_again) (fun ns h => r_law_turns h) (fun ns size h1 h2 h3 => r_again h1 h2 h3) a b c
  exact ⟨w, a', b', c', v, mDef_go (np := 1) (n := 6) (b := b__law_long_word) (as := [.par (pm a b c)]) (e := [.par (pm a b c), .none, .none, .none, .none, .none]) rfl rfl st⟩
end Lw
end

section
set_option Elab.async false
set_option linter.all false
set_option maxRecDepth 100000
set_option maxHeartbeats 4000000
set_option autoImplicit false
open PySem L2 Cv
namespace Lw
variable [TbT]
theorem r_number_is (i : Int) : m__law_number_is [.imm (.int i), .imm (.int i)] = .ok (.imm (.bl true)) [.imm (.int i), .imm (.int i)] := by simp [m__law_number_is, b__law_number_is, uVar, uCut, uTup, uK, kU, pK, pTupL, fCatV, itemsM, eRun, sAsgFre, MO.flatL, sAsgRV, sSpoil3, dEqS, pLam, mDef, outsOf, sSeq, sIf, sDrop, sRet, sRetN, sRetF, sRetO, sAsg, sAsgF, sAsgR, sPar, sSetIx, sAugIx, sAug, sRaise, sNext, sBrk, sCont, sFor, sSpoilA, sSpoilP, sTry, sHand, Fl.clr, suRet, suRetT, xFld, xC, liftP, liftT, okF, Res.bind, RP.bind, Res.of, RP.of, pVar, pC, p1, p2, pN, pAnd, pOr, pIf, pNil, pCons, pTup, pLst, pCall, qB, qAnd, qOr, qNot, dNot, eVar, Cv.e1, Cv.e2, eAnd, eOr, eIf, tBm, tAndm, tOrm, tNotm, vNil, vCons, aNil, aV, aS, eTup, fLst, eOfF, cOfF, cOfE, cVar, rNil, rE, rF, td_lst, mf_lst, dSub, dAdd, dFdiv, dMod, dNeg, dLt, dLe, dGt, dGe, dIsN, dNotN, dInt, dAbs, dMin2, dMax2, dLen, tyName, dIsi, dIx, eIx, cIx, cS, cL, sLen, sSum, lAll, kVar, kLst, kRep, kCat, kCut, fOfK, fCut, oNo, oI, fListP, itemsD, Sl.mo, Sl.put, ownL, setL, eApp, ePop, ePopAt, gN, gT, gsNil, gsCons, iR1, iR2, iLst, iTupl, eCall, fCall, slotsOf, argSl, putB, wCallT, eOfW, fOfW, unfre, qVar, qIx, freAt, lstOf, fl_non, fl_bl, fl_int, fl_str, fl_lst, fl_tup, fl_rls, tYesm, r_law_whole, dEq_int]
omit [TbT] in
theorem ne_BadCalendar_TooMany : (("BadCalendar" : Str) = "TooMany") = False := eq_false (by decide)
omit [TbT] in
theorem ne_BadCalendar_BadHouse : (("BadCalendar" : Str) = "BadHouse") = False := eq_false (by decide)
omit [TbT] in
theorem ne_BadCalendar_BadTable : (("BadCalendar" : Str) = "BadTable") = False := eq_false (by decide)
omit [TbT] in
theorem ne_BadCalendar_BadShare : (("BadCalendar" : Str) = "BadShare") = False := eq_false (by decide)
omit [TbT] in
theorem ne_BadCalendar_BadWeek : (("BadCalendar" : Str) = "BadWeek") = False := eq_false (by decide)
omit [TbT] in
theorem ne_TooMany_BadHouse : (("TooMany" : Str) = "BadHouse") = False := eq_false (by decide)
omit [TbT] in
theorem ne_TooMany_BadTable : (("TooMany" : Str) = "BadTable") = False := eq_false (by decide)
omit [TbT] in
theorem ne_TooMany_BadShare : (("TooMany" : Str) = "BadShare") = False := eq_false (by decide)
omit [TbT] in
theorem ne_TooMany_BadCalendar : (("TooMany" : Str) = "BadCalendar") = False := eq_false (by decide)
omit [TbT] in
theorem ne_TooMany_BadWeek : (("TooMany" : Str) = "BadWeek") = False := eq_false (by decide)
omit [TbT] in
theorem ne_what_place : (("what" : Str) = "place") = False := eq_false (by decide)
omit [TbT] in
theorem lk_place (i : D) : List.lookup ("place" : Str) [(("place" : Str), i)] = some i := by simp [List.lookup]
omit [TbT] in
theorem lk_what (i : D) : List.lookup ("what" : Str) [(("what" : Str), i)] = some i := by simp [List.lookup]
theorem r_ref_cal (f : Addr) (R : Hp) (p : Int) : strip (m__law_refused f R (.exc (badCal p)) [.imm (.fn f R), .imm (.str "BadCalendar"), .imm (.int p)]) = .ok (.bl true) := by
  simp [lk_place, lk_what, ne_BadCalendar_TooMany, ne_BadCalendar_BadHouse, ne_BadCalendar_BadTable, ne_BadCalendar_BadShare, ne_BadCalendar_BadWeek, ne_TooMany_BadHouse, ne_TooMany_BadTable, ne_TooMany_BadShare, ne_TooMany_BadCalendar, ne_TooMany_BadWeek, m__law_refused, b__law_refused, dis__law_refused, badCal, uVar, uCut, uTup, uK, kU, pK, pTupL, fCatV, itemsM, eRun, sAsgFre, MO.flatL, sAsgRV, sSpoil3, dEqS, pLam, mDef, outsOf, sSeq, sIf, sDrop, sRet, sRetN, sRetF, sRetO, sAsg, sAsgF, sAsgR, sPar, sSetIx, sAugIx, sAug, sRaise, sNext, sBrk, sCont, sFor, sSpoilA, sSpoilP, sTry, sHand, Fl.clr, suRet, suRetT, xFld, xC, liftP, liftT, okF, Res.bind, RP.bind, Res.of, RP.of, pVar, pC, p1, p2, pN, pAnd, pOr, pIf, pNil, pCons, pTup, pLst, pCall, qB, qAnd, qOr, qNot, dNot, eVar, Cv.e1, Cv.e2, eAnd, eOr, eIf, tBm, tAndm, tOrm, tNotm, vNil, vCons, aNil, aV, aS, eTup, fLst, eOfF, cOfF, cOfE, cVar, rNil, rE, rF, td_lst, mf_lst, dSub, dAdd, dFdiv, dMod, dNeg, dLt, dLe, dGt, dGe, dIsN, dNotN, dInt, dAbs, dMin2, dMax2, dLen, tyName, dIsi, dIx, eIx, cIx, cS, cL, sLen, sSum, lAll, kVar, kLst, kRep, kCat, kCut, fOfK, fCut, oNo, oI, fListP, itemsD, Sl.mo, Sl.put, ownL, setL, eApp, ePop, ePopAt, gN, gT, gsNil, gsCons, iR1, iR2, iLst, iTupl, eCall, fCall, slotsOf, argSl, putB, wCallT, eOfW, fOfW, unfre, qVar, qIx, freAt, lstOf, fl_non, fl_bl, fl_int, fl_str, fl_lst, fl_tup, fl_rls, tYesm, r_number_is, strip]
theorem r_ref_many (f : Addr) (R : Hp) : strip (m__law_refused f R (.exc (tooMany "calendar")) [.imm (.fn f R), .imm (.str "TooMany"), .imm (.str "calendar")]) = .ok (.bl true) := by
  simp [lk_place, lk_what, ne_BadCalendar_TooMany, ne_BadCalendar_BadHouse, ne_BadCalendar_BadTable, ne_BadCalendar_BadShare, ne_BadCalendar_BadWeek, ne_TooMany_BadHouse, ne_TooMany_BadTable, ne_TooMany_BadShare, ne_TooMany_BadCalendar, ne_TooMany_BadWeek, m__law_refused, b__law_refused, dis__law_refused, tooMany, uVar, uCut, uTup, uK, kU, pK, pTupL, fCatV, itemsM, eRun, sAsgFre, MO.flatL, sAsgRV, sSpoil3, dEqS, pLam, mDef, outsOf, sSeq, sIf, sDrop, sRet, sRetN, sRetF, sRetO, sAsg, sAsgF, sAsgR, sPar, sSetIx, sAugIx, sAug, sRaise, sNext, sBrk, sCont, sFor, sSpoilA, sSpoilP, sTry, sHand, Fl.clr, suRet, suRetT, xFld, xC, liftP, liftT, okF, Res.bind, RP.bind, Res.of, RP.of, pVar, pC, p1, p2, pN, pAnd, pOr, pIf, pNil, pCons, pTup, pLst, pCall, qB, qAnd, qOr, qNot, dNot, eVar, Cv.e1, Cv.e2, eAnd, eOr, eIf, tBm, tAndm, tOrm, tNotm, vNil, vCons, aNil, aV, aS, eTup, fLst, eOfF, cOfF, cOfE, cVar, rNil, rE, rF, td_lst, mf_lst, dSub, dAdd, dFdiv, dMod, dNeg, dLt, dLe, dGt, dGe, dIsN, dNotN, dInt, dAbs, dMin2, dMax2, dLen, tyName, dIsi, dIx, eIx, cIx, cS, cL, sLen, sSum, lAll, kVar, kLst, kRep, kCat, kCut, fOfK, fCut, oNo, oI, fListP, itemsD, Sl.mo, Sl.put, ownL, setL, eApp, ePop, ePopAt, gN, gT, gsNil, gsCons, iR1, iR2, iLst, iTupl, eCall, fCall, slotsOf, argSl, putB, wCallT, eOfW, fOfW, unfre, qVar, qIx, freAt, lstOf, fl_non, fl_bl, fl_int, fl_str, fl_lst, fl_tup, fl_rls, tYesm, strip]
end Lw
end

section
set_option Elab.async false
set_option linter.all false
set_option maxRecDepth 100000
set_option maxHeartbeats 4000000
set_option autoImplicit false
open PySem L2 Cv
namespace Lw
variable [TbT]
theorem r_odd (a b c : Int) : ∃ (d : D) (a' b' c' : Int), bad9 d ∧ m__law_odd [.par (pm a b c), .imm (.int 9)] = .ok (.imm d) [.par (pm a' b' c'), .imm (.int 9)] := by
  obtain ⟨r1, a1, b1, c1, k1, k2, d1⟩ := d_draw drw 4 (by decide) (by decide) a b c [.imm (.int 9)]
  have l4 : [D.int 10, .int (-1), .bl true, .non].length ≤ sizeLine := le_line (by decide)
  have hl : (eOfF (fLst (vCons (liftP (p2 dAdd (pVar 1) (pC (.int 1)))) (vCons (liftP (p1 dNeg (pC (.int 1)))) (vCons (liftP (pC (.bl true))) (vCons (liftP (pC .non)) vNil)))))) [.par (pm a b c), .imm (.int 9)] = .ok (.lst [.int 10, .int (-1), .bl true, .non]) [.par (pm a b c), .imm (.int 9)] := by
    simp only [eOfF, fLst, vCons, vNil, liftP, p1, p2, pC, pVar, RP.bind, RP.of, dAdd, dNeg, okF, fl_int, fl_bl, fl_non, if_true, Res.bind, if_pos l4, MO.toD, List.getElem?_cons_zero, List.getElem?_cons_succ, Int.reduceAdd, Int.reduceNeg]
  have : ∃ d, bad9 d ∧ dIx (.lst [.int 10, .int (-1), .bl true, .non]) (.int r1) = some d := by
    have : r1 = 0 ∨ r1 = 1 ∨ r1 = 2 ∨ r1 = 3 := by omega
    rcases this with rfl | rfl | rfl | rfl
    · exact ⟨.int 10, .inl ⟨10, rfl, by decide⟩, atI_of (j := 0) rfl rfl⟩
    · exact ⟨.int (-1), .inl ⟨-1, rfl, by decide⟩, atI_of (j := 1) rfl rfl⟩
    · exact ⟨.bl true, .inr (.inl ⟨true, rfl⟩), atI_of (j := 2) rfl rfl⟩
    · exact ⟨.non, .inr (.inr rfl), atI_of (j := 3) rfl rfl⟩
  obtain ⟨d, bd, hx⟩ := this
  exact ⟨d, a1, b1, c1, bd, mDef_go (np := 2) (n := 2) (b := b__law_odd) (as := [.par (pm a b c), .imm (.int 9)]) (e := [.par (pm a b c), .imm (.int 9)]) rfl rfl (ret_ok (eIx_ok hl d1 hx))⟩
/-- a def that checks its word first -/
structure Chk (f : En → RD) : Prop where
  bad : ∀ (ds : List D) (j : Nat) (d : D), ds.length ≤ 400 → ds[j]? = some d → bad9 d → (∀ (i : Nat) (d : D), i < j → ds[i]? = some d → ∃ n, d = .int n ∧ dg n) → f [.imm (.lst ds)] = .exc (badCal (j + 1)) [.imm (.lst ds)]
  long : ∀ ds : List D, 400 < ds.length → f [.imm (.lst ds)] = .exc (tooMany "calendar") [.imm (.lst ds)]
  none : f [.imm (.lst [])] = .exc (badCal 0) [.imm (.lst [])]
theorem chk_lyn : Chk m_is_lyndon := ⟨fun ds j d h1 h2 h3 h4 => r_lyn_x (b := true) (cw_bad h1 h2 h3 h4), fun ds h => r_lyn_x (b := true) (cw_long h), r_lyn_x (b := true) (ds := []) cw_none⟩
theorem chk_turns : Chk m_turns_of := ⟨fun ds j d h1 h2 h3 h4 => r_turns_x (b := true) (cw_bad h1 h2 h3 h4), fun ds h => r_turns_x (b := true) (cw_long h), r_turns_x (b := true) (ds := []) cw_none⟩
/-- how a refusal is asked -/
structure Ref (g : Addr → Hp → RP D → En → RD) : Prop where
  cal : ∀ (f : Addr) (R : Hp) (p : Int), strip (g f R (.exc (badCal p)) [.imm (.fn f R), .imm (.str "BadCalendar"), .imm (.int p)]) = .ok (.bl true)
  many : ∀ (f : Addr) (R : Hp), strip (g f R (.exc (tooMany "calendar")) [.imm (.fn f R), .imm (.str "TooMany"), .imm (.str "calendar")]) = .ok (.bl true)
theorem ref_ok : Ref m__law_refused := ⟨r_ref_cal, r_ref_many⟩
theorem pLam_of {mf : Addr → Hp → RP D → En → RD} {mb : En → RP D} {ma : En → RP (List D)} {e : En} {ds : List D} {r x : RP D} (h : ma e = .ok ds) (hb : mb e = x) (hr : ∀ f R, strip (mf f R x (.imm (.fn f R) :: ds.map .imm)) = r) : pLam mf mb ma e = r := by
  unfold pLam
  rw [h, hb]
  exact lamR_of hr
theorem if_np {p : En → RP D} {e : En} (h : p e = .ok (.bl true)) : sIf (liftT (qNot (qB p))) (sRet (liftP (pC (.bl false)))) sNext e = .next e := by
  refine (if_fp ?_).trans rfl
  simp only [liftT, qNot, qB, h, RP.bind, Bool.not_true]
theorem pcall_x {f : En → RD} {m : En → RP D} {X : D} {x : Exc} {e : En} (h0 : m e = .ok X) (h : f [.imm X] = .exc x [.imm X]) : pCall f (pCons m pNil) e = .exc x := by
  simp only [pCall, pCons, pNil, h0, RP.bind, List.map_cons, List.map_nil, h]
theorem lam_cal {f : En → RD} {g : Addr → Hp → RP D → En → RD} {m q : En → RP D} {X : D} {p : Int} {e : En} (hg : Ref g) (h0 : m e = .ok X) (h : f [.imm X] = .exc (badCal p) [.imm X]) (hq : q e = .ok (.int p)) : pLam g (pCall f (pCons m pNil)) (pCons (pC (.str "BadCalendar")) (pCons q pNil)) e = .ok (.bl true) :=
  pLam_of (ds := [.str "BadCalendar", .int p]) (by simp only [pCons, pNil, pC, hq, RP.bind]) (pcall_x h0 h) fun f R => hg.cal f R p
theorem lam_many {f : En → RD} {g : Addr → Hp → RP D → En → RD} {m : En → RP D} {X : D} {e : En} (hg : Ref g) (h0 : m e = .ok X) (h : f [.imm X] = .exc (tooMany "calendar") [.imm X]) : pLam g (pCall f (pCons m pNil)) (pCons (pC (.str "TooMany")) (pCons (pC (.str "calendar")) pNil)) e = .ok (.bl true) :=
  pLam_of (ds := [.str "TooMany", .str "calendar"]) (by simp only [pCons, pNil, pC, RP.bind]) (pcall_x h0 h) fun f R => hg.many f R
theorem setIx_ok {e e1 : En} {i : Nat} {mi : En → RP D} {m : En → Res D} {d : D} {ds : List D} {k : Int} {j : Nat} (hm : m e = .ok d e1) (ho : ownL e1 i = some ds) (hi : mi e1 = .ok (.int k)) (hj : ixN ds.length k = some j) : sSetIx i mi m e = .next (setL e1 i (ds.set j d)) := by
  unfold sSetIx; rw [hm]; dsimp only; rw [ho]; dsimp only; rw [hi]; dsimp only; rw [hj]
theorem wrong_walk {fd fo f1 f2 : En → RD} {g : Addr → Hp → RP D → En → RD} (hd : Drw fd) (ho : ∀ a b c : Int, ∃ (d : D) (a' b' c' : Int), bad9 d ∧ fo [.par (pm a b c), .imm (.int 9)] = .ok (.imm d) [.par (pm a' b' c'), .imm (.int 9)])
    (h1 : Chk f1) (h2 : Chk f2) (hg : Ref g) {ns : List Int} (v : Vw ns) (a b c : Int) :
    ∃ (a' b' c' : Int) (s1 s2 s3 s4 : Sl), (sSeq (sAsg (eCall fd (aS 0 (aV (liftP (pN dLen (pCons (pVar 1) pNil))) aNil))) (gN 2))
  (sSeq (sAsgF (cL lAll (cVar 1)) 3)
  (sSeq (sSetIx 3 (pVar 2) (eCall fo (aS 0 (aV (liftP (pC (.int 9))) aNil))))
  (sSeq (sIf (liftT (qNot (qB (pLam g (pCall f1 (pCons (pK (kU (uVar 3))) pNil)) (pCons (pC (.str "BadCalendar")) (pCons (p2 dAdd (pVar 2) (pC (.int 1))) pNil)))))) (sRet (liftP (pC (.bl false)))) sNext)
  (sSeq (sIf (liftT (qNot (qB (pLam g (pCall f2 (pCons (pK (kU (uVar 3))) pNil)) (pCons (pC (.str "BadCalendar")) (pCons (p2 dAdd (pVar 2) (pC (.int 1))) pNil)))))) (sRet (liftP (pC (.bl false)))) sNext)
  (sSeq (sAsgF (fOfK (kCat (kVar 3) (kRep (kLst (pCons (pC (.int 1)) pNil)) (p2 dSub (pC (.int 401)) (pN dLen (pCons (pVar 3) pNil)))))) 4)
  (sSeq (sIf (liftT (qNot (qB (pLam g (pCall f1 (pCons (pK (kU (uVar 4))) pNil)) (pCons (pC (.str "TooMany")) (pCons (pC (.str "calendar")) pNil)))))) (sRet (liftP (pC (.bl false)))) sNext)
  (sSeq (sIf (liftT (qNot (qB (pLam g (pCall f2 (pCons (pK (kRep (kLst (pCons (pC (.int 0)) pNil)) (pC (.int 401)))) pNil)) (pCons (pC (.str "TooMany")) (pCons (pC (.str "calendar")) pNil)))))) (sRet (liftP (pC (.bl false)))) sNext)
  (sSeq (sIf (liftT (qNot (qB (pLam g (pCall f1 (pCons (pLst pNil) pNil)) (pCons (pC (.str "BadCalendar")) (pCons (pC (.int 0)) pNil)))))) (sRet (liftP (pC (.bl false)))) sNext)
  (sRet (liftP (pLam g (pCall f2 (pCons (pLst pNil) pNil)) (pCons (pC (.str "BadCalendar")) (pCons (pC (.int 0)) pNil)))))))))))))) [.par (pm a b c), .imm (wd ns), .none, .none, .none] = .ret (.imm (.bl true)) [.par (pm a' b' c'), s1, s2, s3, s4] := by
  have hl := v.len
  have hp := List.length_pos_iff.mpr v.ne
  have ll := len_wd ns
  have L0 : (0 : Int) < ns.length := by omega
  have L1 : (ns.length : Int) ≤ 400 := by omega
  have hm : (liftP (pN dLen (pCons (pVar 1) pNil))) [.par (pm a b c), .imm (wd ns), .none, .none, .none] = .ok (.int ns.length) [.par (pm a b c), .imm (wd ns), .none, .none, .none] := by
    generalize (ns.length : Int) = z at *
    simp only [liftP, pN, pCons, pNil, pVar, RP.bind, RP.of, ll, okF, fl_int, if_true, List.getElem?_cons_zero, List.getElem?_cons_succ]
  obtain ⟨r, a1, b1, c1, k1, k2, d1⟩ := e_draw hd L0 (Int.lt_of_le_of_lt L1 (by decide)) rfl hm
  obtain ⟨j, rfl⟩ := Int.eq_ofNat_of_zero_le (a := r) k1
  have jl : j < ns.length := by omega
  obtain ⟨d, a2, b2, c2, bd, d2⟩ := ho a1 b1 c1
  have w2 : sAsgF (cL lAll (cVar 1)) 3 [.par (pm a1 b1 c1), .imm (wd ns), .imm (.int j), .none, .none] = .next [.par (pm a1 b1 c1), .imm (wd ns), .imm (.int j), .own (.lst (ns.map .int)), .none] :=
    (asgF_ok (d := .lst (ns.map .int)) (e1 := [.par (pm a1 b1 c1), .imm (wd ns), .imm (.int j), .none, .none]) rfl (by simp)).trans rfl
  have co : (eCall fo (aS 0 (aV (liftP (pC (.int 9))) aNil))) [.par (pm a1 b1 c1), .imm (wd ns), .imm (.int j), .own (.lst (ns.map .int)), .none] = .ok d [.par (pm a2 b2 c2), .imm (wd ns), .imm (.int j), .own (.lst (ns.map .int)), .none] := by
    unfold eCall aS aV
    simp only [List.getElem?_cons_zero, liftP, pC, okF, fl_int, if_true, Res.bind, aNil, slotsOf, argSl, Option.map, List.nodup_cons, List.not_mem_nil, not_false_eq_true, List.nodup_nil, and_self, d2, putB, Sl.put, List.set_cons_zero]
  have jx : ixN (ns.map D.int).length (j : Int) = some j := by
    rw [List.length_map]
    unfold ixN
    rw [if_pos (by omega), if_pos (by omega), Int.toNat_natCast]
  have w3 := setIx_ok (i := 3) (mi := pVar 2) (k := (j : Int)) co rfl rfl jx
  have w3 : sSetIx 3 (pVar 2) (eCall fo (aS 0 (aV (liftP (pC (.int 9))) aNil))) [.par (pm a1 b1 c1), .imm (wd ns), .imm (.int j), .own (.lst (ns.map .int)), .none] = .next [.par (pm a2 b2 c2), .imm (wd ns), .imm (.int j), .own (.lst ((ns.map D.int).set j d)), .none] := w3
  obtain ⟨bs, hbs⟩ : ∃ bs, bs = (ns.map D.int).set j d := ⟨_, rfl⟩
  rw [← hbs] at w3
  have bl : bs.length = ns.length := by rw [hbs]; simp
  have bj : bs[j]? = some d := by rw [hbs, List.getElem?_set_self (by simpa using jl)]
  have bi : ∀ (i : Nat) (d : D), i < j → bs[i]? = some d → ∃ n, d = .int n ∧ dg n := fun i x hi hx => by
    rw [hbs, List.getElem?_set_ne (by omega), List.getElem?_map] at hx
    have il : i < ns.length := by omega
    rw [List.getElem?_eq_getElem il] at hx
    cases hx
    exact ⟨_, rfl, v.dg _ (List.getElem_mem il)⟩
  have x1 := h1.bad bs j d (by omega) bj bd bi
  have x2 := h2.bad bs j d (by omega) bj bd bi
  have u3 : ∀ s : Sl, (pK (kU (uVar 3))) [.par (pm a2 b2 c2), .imm (wd ns), .imm (.int j), .own (.lst bs), s] = .ok (.lst bs) := fun _ => rfl
  have q3 : ∀ s : Sl, (p2 dAdd (pVar 2) (pC (.int 1))) [.par (pm a2 b2 c2), .imm (wd ns), .imm (.int j), .own (.lst bs), s] = .ok (.int ((j : Int) + 1)) := fun _ => rfl
  have w4 := if_np (lam_cal hg (u3 .none) x1 (q3 .none))
  have w5 := if_np (lam_cal hg (u3 .none) x2 (q3 .none))
  -- the long one
  have one : (pCons (pC (.int 1)) pNil) [.par (pm a2 b2 c2), .imm (wd ns), .imm (.int j), .own (.lst bs), .none] = .ok [.int 1] := rfl
  have lb : dLen [.lst bs] = some (.int ns.length) := by rw [← bl]; rfl
  have o1 : ([D.int 1].all flat = true ∧ [D.int 1].length ≤ sizeLine) := ⟨rfl, le_line (by simp)⟩
  have rp := kRep_ok (a := kLst (pCons (pC (.int 1)) pNil)) (b := (p2 dSub (pC (.int 401)) (pN dLen (pCons (pVar 3) pNil)))) (e := [.par (pm a2 b2 c2), .imm (wd ns), .imm (.int j), .own (.lst bs), .none]) (ds := [.int 1]) (k := 401 - (ns.length : Int)) (by
      simp only [kLst, one, RP.bind, if_pos o1]) (by
      generalize (ns.length : Int) = z at *
      simp only [p2, pC, pN, pCons, pNil, pVar, RP.bind, RP.of, lb, dSub, MO.toD, List.getElem?_cons_zero, List.getElem?_cons_succ]) (n := 401 - ns.length) (by omega) (by omega) (by omega) (by simp; omega)
  obtain ⟨cs, hcs⟩ : ∃ cs, cs = (List.replicate (401 - ns.length) [D.int 1]).flatten := ⟨_, rfl⟩
  rw [← hcs] at rp
  have cl : cs.length = 401 - ns.length := by rw [hcs]; simp
  have w6 : sAsgF (fOfK (kCat (kVar 3) (kRep (kLst (pCons (pC (.int 1)) pNil)) (p2 dSub (pC (.int 401)) (pN dLen (pCons (pVar 3) pNil)))))) 4 [.par (pm a2 b2 c2), .imm (wd ns), .imm (.int j), .own (.lst bs), .none] = .next [.par (pm a2 b2 c2), .imm (wd ns), .imm (.int j), .own (.lst bs), .own (.lst (bs ++ cs))] := by
    refine (asgF_ok (d := .lst (bs ++ cs)) (e1 := [.par (pm a2 b2 c2), .imm (wd ns), .imm (.int j), .own (.lst bs), .none]) ?_ (by simp)).trans rfl
    have kv : kVar 3 [.par (pm a2 b2 c2), .imm (wd ns), .imm (.int j), .own (.lst bs), .none] = .ok bs := rfl
    have l2 : bs.length + cs.length ≤ sizeLine := le_line (by omega)
    simp only [fOfK, kCat, kv, rp, RP.bind, if_pos l2]
  have u4 : (pK (kU (uVar 4))) [.par (pm a2 b2 c2), .imm (wd ns), .imm (.int j), .own (.lst bs), .own (.lst (bs ++ cs))] = .ok (.lst (bs ++ cs)) := rfl
  have w7 := if_np (lam_many hg u4 (h1.long (bs ++ cs) (by rw [List.length_append]; omega)))
  have zer : (pCons (pC (.int 0)) pNil) [.par (pm a2 b2 c2), .imm (wd ns), .imm (.int j), .own (.lst bs), .own (.lst (bs ++ cs))] = .ok [.int 0] := rfl
  have o0 : ([D.int 0].all flat = true ∧ [D.int 0].length ≤ sizeLine) := ⟨rfl, le_line (by simp)⟩
  have rq := kRep_ok (a := kLst (pCons (pC (.int 0)) pNil)) (b := pC (.int 401)) (e := [.par (pm a2 b2 c2), .imm (wd ns), .imm (.int j), .own (.lst bs), .own (.lst (bs ++ cs))]) (ds := [.int 0]) (k := 401) (n := 401) (by
      simp only [kLst, zer, RP.bind, if_pos o0]) rfl (by decide) (by decide) rfl (by simp)
  obtain ⟨zs, hzs⟩ : ∃ zs, zs = (List.replicate 401 [D.int 0]).flatten := ⟨_, rfl⟩
  rw [← hzs] at rq
  have zl : zs.length = 401 := by rw [hzs]; simp
  have uz : (pK (kRep (kLst (pCons (pC (.int 0)) pNil)) (pC (.int 401)))) [.par (pm a2 b2 c2), .imm (wd ns), .imm (.int j), .own (.lst bs), .own (.lst (bs ++ cs))] = .ok (.lst zs) := by
    simp only [pK, rq, RP.bind]
  have w8 := if_np (lam_many hg uz (h2.long zs (by rw [zl]; decide)))
  have l0 : (0 : Nat) ≤ sizeLine := le_line (by decide)
  have ue : (pLst pNil) [.par (pm a2 b2 c2), .imm (wd ns), .imm (.int j), .own (.lst bs), .own (.lst (bs ++ cs))] = .ok (.lst []) := by
    simp only [pLst, pNil, RP.bind, List.length_nil, if_pos l0]
  have w9 := if_np (lam_cal (p := 0) (q := pC (.int 0)) hg ue h1.none rfl)
  have w10 := lam_cal (p := 0) (q := pC (.int 0)) hg ue h2.none rfl
  refine ⟨a2, b2, c2, _, _, _, _, Eq.trans (seq_next (asg_ok d1 rfl)) (Eq.trans (seq_next w2) (Eq.trans (seq_next w3) (Eq.trans (seq_next w4) (Eq.trans (seq_next w5) (Eq.trans (seq_next w6) (Eq.trans (seq_next w7) (Eq.trans (seq_next w8) (Eq.trans (seq_next w9) (ret_ok (e1 := [.par (pm a2 b2 c2), .imm (wd ns), .imm (.int j), .own (.lst bs), .own (.lst (bs ++ cs))]) (d := .bl true) ?_)))))))))⟩
  simp only [liftP, w10, okF, fl_bl, if_true]
theorem r_wrong {ns : List Int} (v : Vw ns) (a b c : Int) : ∃ a' b' c' : Int, m__law_wrong [.par (pm a b c), .imm (wd ns)] = .ok (.imm (.bl true)) [.par (pm a' b' c'), .imm (wd ns)] := by
  obtain ⟨a', b', c', s1, s2, s3, s4, st⟩ := wrong_walk drw r_odd chk_lyn chk_turns ref_ok v a b c
  exact ⟨a', b', c', mDef_go (np := 2) (n := 5) (b := b__law_wrong) (as := [.par (pm a b c), .imm (wd ns)]) (e := [.par (pm a b c), .imm (wd ns), .none, .none, .none]) rfl rfl st⟩
end Lw
end

section
set_option Elab.async false
set_option linter.all false
set_option maxRecDepth 100000
set_option maxHeartbeats 4000000
set_option autoImplicit false
open PySem L2 Cv
namespace Lw
variable [TbT]
theorem small_call {fs fp : En → RD} {X : D} {t : Int} {a b c a' b' c' : Int} {x y : Sl} (hp : fp [.imm X, .imm (.int t)] = .ok (.own (pm a b c)) [.imm X, .imm (.int t)]) (hs : fs [.par (pm a b c)] = .ok (.imm (.bl true)) [.par (pm a' b' c')]) :
    sIf (tNotm (tBm (eOfW (wCallT fs (fCall fp (aV (eVar 0) (aV (eVar 1) aNil))) aNil)))) (sRet (liftP (pC (.bl false)))) sNext [.imm X, .imm (.int t), x, y] = .next [.imm X, .imm (.int t), x, y] := by
  have ev0 : (eVar 0) [.imm X, .imm (.int t), x, y] = .ok X [.imm X, .imm (.int t), x, y] := rfl
  have ev1 : (eVar 1) [.imm X, .imm (.int t), x, y] = .ok (.int t) [.imm X, .imm (.int t), x, y] := rfl
  have fc : fCall fp (aV (eVar 0) (aV (eVar 1) aNil)) [.imm X, .imm (.int t), x, y] = .ok (pm a b c) [.imm X, .imm (.int t), x, y] := by
    simp only [fCall, aV, aNil, ev0, ev1, Res.bind, slotsOf, argSl, Option.map, List.nodup_nil, if_true, hp, putB]
  have w : eOfW (wCallT fs (fCall fp (aV (eVar 0) (aV (eVar 1) aNil))) aNil) [.imm X, .imm (.int t), x, y] = .ok (.bl true) [.imm X, .imm (.int t), x, y] := by
    simp only [eOfW, wCallT, fc, aNil, Res.bind, slotsOf, argSl, Option.map, List.nodup_nil, if_true, hs, putB]
  refine (if_fp ?_).trans rfl
  simp only [tNotm, tBm, w, Res.bind, Bool.not_true]
theorem pcall_t {f : En → RD} {m : En → RP D} {X r : D} {e : En} (h0 : m e = .ok X) (h : f [.imm X] = .ok (.imm r) [.imm X]) : pCall f (pCons m pNil) e = .ok r := by
  simp only [pCall, pCons, pNil, h0, RP.bind, List.map_cons, List.map_nil, h]
theorem or3 {p q r : En → RP D} {e : En} (h1 : p e = .ok (.bl true)) (h2 : q e = .ok (.bl true)) (h3 : r e = .ok (.bl true)) : sIf (liftT (qOr (qNot (qB p)) (qOr (qNot (qB q)) (qNot (qB r))))) (sRet (liftP (pC (.bl false)))) sNext e = .next e := by
  refine (if_fp ?_).trans rfl
  simp only [liftT, qOr, qNot, qB, h1, h2, h3, RP.bind, Bool.not_true, Bool.false_eq_true, if_false]
theorem eAnd_t {a b : En → Res D} {e e1 : En} {r : Res D} (h : a e = .ok (.bl true) e1) (hb : b e1 = r) : eAnd a b e = r := by
  simp only [eAnd, h, Res.bind, hb]
theorem liftP_t {p : En → RP D} {e : En} (h : p e = .ok (.bl true)) : liftP p e = .ok (.bl true) e := by
  simp only [liftP, h, okF, fl_bl, if_true]
theorem law_walk {fs fp fl fq ft fw : En → RD} {X : D} (hp : ∀ t : Int, 0 ≤ t → ∃ a b c : Int, fp [.imm X, .imm (.int t)] = .ok (.own (pm a b c)) [.imm X, .imm (.int t)])
    (hs : ∀ a b c : Int, ∃ a' b' c' : Int, fs [.par (pm a b c)] = .ok (.imm (.bl true)) [.par (pm a' b' c')])
    (hl : ∀ a b c : Int, ∃ (w : List Int) (a' b' c' : Int), Vw w ∧ fl [.par (pm a b c)] = .ok (.imm (wd w)) [.par (pm a' b' c')])
    (hq : ∀ ns, Vw ns → fq [.imm (wd ns)] = .ok (.imm (.bl true)) [.imm (wd ns)]) (ht : ∀ ns, Vw ns → ft [.imm (wd ns)] = .ok (.imm (.bl true)) [.imm (wd ns)])
    (hw : ∀ ns, Vw ns → ∀ a b c : Int, ∃ a' b' c' : Int, fw [.par (pm a b c), .imm (wd ns)] = .ok (.imm (.bl true)) [.par (pm a' b' c'), .imm (wd ns)]) :
    ∃ s1 s2 s3 : Sl, (sSeq (sFor (iR1 (vCons (liftP (pC (.int 2))) vNil)) (gN 1) (sIf (tNotm (tBm (eOfW (wCallT fs (fCall fp (aV (eVar 0) (aV (eVar 1) aNil))) aNil)))) (sRet (liftP (pC (.bl false)))) sNext))
  (sSeq (sAsgF (fCall fp (aV (eVar 0) (aV (liftP (pC (.int 2))) aNil))) 2)
  (sSeq (sAsg (eCall fl (aS 2 aNil)) (gN 3))
  (sSeq (sIf (liftT (qOr (qNot (qB (pCall fq (pCons (pVar 3) pNil)))) (qOr (qNot (qB (pCall fq (pCons (pLst (pCons (p2 dIx (pVar 3) (pC (.int 0))) pNil)) pNil)))) (qNot (qB (pCall fq (pCons (pLst (pCons (p2 dIx (pVar 3) (pC (.int 0))) (pCons (p2 dIx (pVar 3) (pC (.int 0))) pNil))) pNil))))))) (sRet (liftP (pC (.bl false)))) sNext)
  (sRet (eAnd (liftP (pCall ft (pCons (pK (kCut (kVar 3) oNo (oI (pC (.int 40))))) pNil))) (eAnd (eCall fw (aS 2 (aV (eVar 3) aNil))) (liftP (pCall fq (pCons (pVar 3) pNil)))))))))) [.imm X, .none, .none, .none] = .ret (.imm (.bl true)) [.imm X, s1, s2, s3] := by
  obtain ⟨e', q1, y, q2⟩ := forL_rel (tg := gN 1) (body := (sIf (tNotm (tBm (eOfW (wCallT fs (fCall fp (aV (eVar 0) (aV (eVar 1) aNil))) aNil)))) (sRet (liftP (pC (.bl false)))) sNext)) (ds := rng 0 2) (fun _ e' => ∃ y : Sl, e' = [.imm X, y, .none, .none]) (e := [.imm X, .none, .none, .none]) ⟨.none, rfl⟩ (fun i d e' hd ⟨y, he⟩ => by
    subst he
    obtain ⟨hi, rfl⟩ := rng_get hd
    obtain ⟨a, b, c, p⟩ := hp (0 + (i : Int)) (by omega)
    obtain ⟨a', b', c', s⟩ := hs a b c
    exact ⟨_, _, rfl, .inl (small_call p s), _, rfl⟩)
  subst q2
  obtain ⟨a, b, c, p2'⟩ := hp 2 (by decide)
  obtain ⟨w, a1, b1, c1, v, l1⟩ := hl a b c
  obtain ⟨a2, b2, c2, r1⟩ := hw w v a1 b1 c1
  have st0 : (iR1 (vCons (liftP (pC (.int 2))) vNil)) [.imm X, .none, .none, .none] = .ok (rng 0 2) [.imm X, .none, .none, .none] := iR1_ok (j := 2) rfl (by decide) (by decide) rfl
  have st1 : sAsgF (fCall fp (aV (eVar 0) (aV (liftP (pC (.int 2))) aNil))) 2 [.imm X, y, .none, .none] = .next [.imm X, y, .own (pm a b c), .none] := by
    have ev0 : (eVar 0) [.imm X, y, .none, .none] = .ok X [.imm X, y, .none, .none] := rfl
    refine (asgF_ok (d := pm a b c) (e1 := [.imm X, y, .none, .none]) ?_ (by simp)).trans rfl
    simp only [fCall, aV, aNil, ev0, liftP, pC, okF, fl_int, if_true, Res.bind, slotsOf, argSl, Option.map, List.nodup_nil, p2', putB]
  have st2 : sAsg (eCall fl (aS 2 aNil)) (gN 3) [.imm X, y, .own (pm a b c), .none] = .next [.imm X, y, .own (pm a1 b1 c1), .imm (wd w)] := by
    refine asg_ok (d := wd w) (e1 := [.imm X, y, .own (pm a1 b1 c1), .none]) ?_ rfl
    simp only [eCall, aS, aNil, Res.bind, slotsOf, argSl, Option.map, List.nodup_cons, List.not_mem_nil, not_false_eq_true, List.nodup_nil, and_self, if_true, l1, putB, Sl.put, Sl.mo, List.set_cons_zero, List.set_cons_succ, List.getElem?_cons_zero, List.getElem?_cons_succ]
  obtain ⟨w0, wr, hw0⟩ : ∃ w0 wr, w = w0 :: wr := by
    cases w with
    | nil => exact absurd rfl v.ne
    | cons x r => exact ⟨x, r, rfl⟩
  have d0 : dg w0 := v.dg w0 (by rw [hw0]; exact List.mem_cons_self ..)
  have v1 : Vw [w0] := ⟨fun n hn => by rw [List.mem_singleton.mp hn]; exact d0, by simp, by simp⟩
  have v2 : Vw [w0, w0] := ⟨fun n hn => by rcases List.mem_cons.mp hn with z | z; · rw [z]; exact d0
                                           · rw [List.mem_singleton.mp z]; exact d0, by simp, by simp⟩
  have v3 : Vw (w.take 40) := ⟨fun n hn => v.dg n (List.mem_of_mem_take hn), fun z => by rw [hw0] at z; simp at z, by have := v.len; rw [List.length_take]; omega⟩
  have hx : dIx (wd w) (.int 0) = some (.int w0) := atI_map (j := 0) rfl (by rw [hw0]; rfl)
  have px : ∀ s : Sl, (p2 dIx (pVar 3) (pC (.int 0))) [.imm X, y, s, .imm (wd w)] = .ok (.int w0) := fun s => by
    simp only [p2, pVar, pC, RP.bind, RP.of, hx, List.getElem?_cons_zero, List.getElem?_cons_succ]
  have l1' : [D.int w0].length ≤ sizeLine := le_line (by simp)
  have l2' : [D.int w0, D.int w0].length ≤ sizeLine := le_line (by simp)
  have a0 : (pVar 3) [.imm X, y, .own (pm a1 b1 c1), .imm (wd w)] = .ok (wd w) := rfl
  have a1' : (pLst (pCons (p2 dIx (pVar 3) (pC (.int 0))) pNil)) [.imm X, y, .own (pm a1 b1 c1), .imm (wd w)] = .ok (wd [w0]) := by
    simp only [pLst, pCons, pNil, px, RP.bind, if_pos l1']; rfl
  have a2' : (pLst (pCons (p2 dIx (pVar 3) (pC (.int 0))) (pCons (p2 dIx (pVar 3) (pC (.int 0))) pNil))) [.imm X, y, .own (pm a1 b1 c1), .imm (wd w)] = .ok (wd [w0, w0]) := by
    simp only [pLst, pCons, pNil, px, RP.bind, if_pos l2']; rfl
  have st3 := or3 (pcall_t a0 (hq w v)) (pcall_t a1' (hq _ v1)) (pcall_t a2' (hq _ v2))
  have ct : cutD (w.map D.int) none (some 40) = (w.take 40).map .int := by
    by_cases c : 40 ≤ w.length
    · have := cut_hi (ds := w.map .int) (i := 40) (by rw [List.length_map]; exact c)
      rw [List.map_take]
      exact this
    · unfold cutD
      have e := HT.sIx_nat (w.map D.int).length (w.map D.int).length 40
      rw [List.length_map, Nat.min_eq_right (by omega)] at e
      have e : HT.sIx w.length w.length (some 40) = w.length := e
      rw [List.length_map, e]
      show ((w.map D.int).drop 0).take (w.length - 0) = _
      rw [List.drop_zero, Nat.sub_zero, List.take_of_length_le (by simp), List.take_of_length_le (by omega)]
  have kv : ∀ s : Sl, kVar 3 [.imm X, y, s, .imm (wd w)] = .ok (w.map .int) := fun _ => rfl
  have u1 : (pK (kCut (kVar 3) oNo (oI (pC (.int 40))))) [.imm X, y, .own (pm a1 b1 c1), .imm (wd w)] = .ok (wd (w.take 40)) := by
    simp only [pK, kCut, kv, oNo, oI, pC, RP.bind, ct]; rfl
  have st4 : (eAnd (liftP (pCall ft (pCons (pK (kCut (kVar 3) oNo (oI (pC (.int 40))))) pNil))) (eAnd (eCall fw (aS 2 (aV (eVar 3) aNil))) (liftP (pCall fq (pCons (pVar 3) pNil))))) [.imm X, y, .own (pm a1 b1 c1), .imm (wd w)] = .ok (.bl true) [.imm X, y, .own (pm a2 b2 c2), .imm (wd w)] := by
    refine eAnd_t (liftP_t (pcall_t u1 (ht _ v3))) (eAnd_t (e1 := [.imm X, y, .own (pm a2 b2 c2), .imm (wd w)]) ?_ (liftP_t (pcall_t rfl (hq w v))))
    have ev : (eVar 3) [.imm X, y, .own (pm a1 b1 c1), .imm (wd w)] = .ok (wd w) [.imm X, y, .own (pm a1 b1 c1), .imm (wd w)] := rfl
    simp only [eCall, aS, aV, aNil, ev, Res.bind, slotsOf, argSl, Option.map, List.nodup_cons, List.not_mem_nil, not_false_eq_true, List.nodup_nil, and_self, if_true, r1, putB, Sl.put, Sl.mo, List.set_cons_zero, List.set_cons_succ, List.getElem?_cons_zero, List.getElem?_cons_succ]
  exact ⟨_, _, _, Eq.trans (seq_next (Eq.trans (for_ok st0) q1)) (Eq.trans (seq_next st1) (Eq.trans (seq_next st2) (Eq.trans (seq_next st3) (ret_ok st4))))⟩
omit [TbT] in
theorem law_true : ∀ ns : List Int, ns.length ≤ 63 → ∃ o, m_law [.imm (.rls (ns.map .int))] = .ok (.imm (.bl true)) o := fun ns hn => by
  haveI : TbT := ⟨[], fun _ => False⟩
  obtain ⟨s1, s2, s3, st⟩ := law_walk (X := .rls (ns.map .int)) (fs := m__law_small) (fp := m__law_purse) (fl := m__law_long_word) (fq := m__law_said) (ft := m__law_turned) (fw := m__law_wrong) (fun t ht => r_purse ns hn t ht) r_small r_long (fun ns v => r_said v) (fun ns v => r_turned v) (fun ns v a b c => r_wrong v a b c)
  exact ⟨_, mDef_go (np := 1) (n := 4) (b := b_law) (as := [.imm (.rls (ns.map .int))]) (e := [.imm (.rls (ns.map .int)), .none, .none, .none]) rfl rfl st⟩
end Lw
end

set_option Elab.async false
set_option linter.all false
set_option maxRecDepth 100000
set_option maxHeartbeats 4000000
set_option autoImplicit false
open PySem PySem.W PyProof.Rows in
set_option maxRecDepth 100000 in
set_option maxHeartbeats 0 in
theorem PySem.Challenge.cw_seldomenough_k28_lyndon_words_and_turns_holds : PySem.Challenge.rw_seldomenough_k28_lyndon_words_and_turns.Holds := by
  w_on; o_law; k_head; (case hw => w_witness2)
  k_fill
  refine Cv.walk_ofXT (l := PySem.Challenge.rw_seldomenough_k28_lyndon_words_and_turns) (k := 10) (x := "script") rfl rfl ⟨rfl, by decide, by decide⟩ (fun w h Y => PySem.W.km_in_of Y) ?F
  case F =>
    intro w mg fa h XX KX G hmg htab
    refine' Lw.all_mk KX G hmg htab  ?a0 ?l0 ?c0 ?k0 ?a1 ?l1 ?c1 ?k1 ?a2 ?l2 ?c2 ?k2 ?a3 ?l3 ?c3 ?k3 ?a4 ?l4 ?c4 ?k4 ?a5 ?l5 ?c5 ?k5 ?a6 ?l6 ?c6 ?k6 ?a7 ?l7 ?c7 ?k7 ?a8 ?l8 ?c8 ?k8 ?a9 ?l9 ?c9 ?k9 ?a10 ?l10 ?c10 ?k10 ?a11 ?l11 ?c11 ?k11 ?a12 ?l12 ?c12 ?k12 ?a13 ?l13 ?c13 ?k13 ?a14 ?l14 ?c14 ?k14 ?a15 ?l15 ?c15 ?k15 ?a16 ?l16 ?c16 ?k16 ?a17 ?l17 ?c17 ?k17 ?a18 ?l18 ?c18 ?k18 ?a19 ?l19 ?c19 ?k19 ?a20 ?l20 ?c20 ?k20 ?a21 ?l21 ?c21 ?k21 ?a22 ?l22 ?c22 ?k22 ?a23 ?l23 ?c23 ?k23 ?a24 ?l24 ?c24 ?k24 ?a25 ?l25 ?c25 ?k25 ?a26 ?l26 ?c26 ?k26 ?a27 ?l27 ?c27 ?k27 ?lc26 ?vp26 ?tn26 ?tr26 ?z_abs ?z_bool ?z_int ?z_isinstance ?z_len ?z_list ?z_min ?z_range ?z_sum ?z_tuple ?v_CALENDAR ?v_DIGITS ?aS ?b1 ?b2 ?b3 ?cg ?cT ?aCx0 ?lkx0 ?sax0 ?eCx0 ?tCx0 ?kCx0 ?gax0 ?ggx0 ?hdx0 ?cax0 ?mox0 ?nfx0 ?sfx0 ?iCx0 ?tIx0 ?lix0 ?cix0 ?kix0 ?aCx1 ?lkx1 ?sax1 ?eCx1 ?tCx1 ?kCx1 ?gax1 ?ggx1 ?hdx1 ?cax1 ?mox1 ?nfx1 ?sfx1 ?iCx1 ?tIx1 ?lix1 ?cix1 ?kix1 ?aCx2 ?lkx2 ?sax2 ?eCx2 ?tCx2 ?kCx2 ?gax2 ?ggx2 ?hdx2 ?cax2 ?mox2 ?nfx2 ?sfx2 ?iCx2 ?tIx2 ?lix2 ?cix2 ?kix2 ?aCx3 ?lkx3 ?sax3 ?eCx3 ?tCx3 ?kCx3 ?gax3 ?ggx3 ?hdx3 ?cax3 ?mox3 ?nfx3 ?sfx3 ?iCx3 ?tIx3 ?lix3 ?cix3 ?kix3 ?aCx4 ?lkx4 ?sax4 ?eCx4 ?tCx4 ?kCx4 ?gax4 ?ggx4 ?hdx4 ?cax4 ?mox4 ?nfx4 ?sfx4 ?iCx4 ?tIx4 ?lix4 ?cix4 ?kix4 ?aCx5 ?lkx5 ?sax5 ?eCx5 ?tCx5 ?kCx5 ?gax5 ?ggx5 ?hdx5 ?cax5 ?mox5 ?nfx5 ?sfx5 ?iCx5 ?tIx5 ?lix5 ?cix5 ?kix5 ?sb_x0_x1 ?sb_x0_x2 ?sb_x0_x3 ?sb_x0_x4 ?sb_x0_x5 ?sb_x5_x0 ?sb_x5_x1 ?sb_x5_x2 ?sb_x5_x3 ?sb_x5_x4 Lw.law_true
    (case a0 => k_is)
    (case l0 => k_is)
    (case c0 => k_is)
    (case k0 => k_is)
    (case a1 => k_is)
    (case l1 => k_is)
    (case c1 => k_is)
    (case k1 => k_is)
    (case a2 => k_is)
    (case l2 => k_is)
    (case c2 => k_is)
    (case k2 => k_is)
    (case a3 => k_is)
    (case l3 => k_is)
    (case c3 => k_is)
    (case k3 => k_is)
    (case a4 => k_is)
    (case l4 => k_is)
    (case c4 => k_is)
    (case k4 => k_is)
    (case a5 => k_is)
    (case l5 => k_is)
    (case c5 => k_is)
    (case k5 => k_is)
    (case a6 => k_is)
    (case l6 => k_is)
    (case c6 => k_is)
    (case k6 => k_is)
    (case a7 => k_is)
    (case l7 => k_is)
    (case c7 => k_is)
    (case k7 => k_is)
    (case a8 => k_is)
    (case l8 => k_is)
    (case c8 => k_is)
    (case k8 => k_is)
    (case a9 => k_is)
    (case l9 => k_is)
    (case c9 => k_is)
    (case k9 => k_is)
    (case a10 => k_is)
    (case l10 => k_is)
    (case c10 => k_is)
    (case k10 => k_is)
    (case a11 => k_is)
    (case l11 => k_is)
    (case c11 => k_is)
    (case k11 => k_is)
    (case a12 => k_is)
    (case l12 => k_is)
    (case c12 => k_is)
    (case k12 => k_is)
    (case a13 => k_is)
    (case l13 => k_is)
    (case c13 => k_is)
    (case k13 => k_is)
    (case a14 => k_is)
    (case l14 => k_is)
    (case c14 => k_is)
    (case k14 => k_is)
    (case a15 => k_is)
    (case l15 => k_is)
    (case c15 => k_is)
    (case k15 => k_is)
    (case a16 => k_is)
    (case l16 => k_is)
    (case c16 => k_is)
    (case k16 => k_is)
    (case a17 => k_is)
    (case l17 => k_is)
    (case c17 => k_is)
    (case k17 => k_is)
    (case a18 => k_is)
    (case l18 => k_is)
    (case c18 => k_is)
    (case k18 => k_is)
    (case a19 => k_is)
    (case l19 => k_is)
    (case c19 => k_is)
    (case k19 => k_is)
    (case a20 => k_is)
    (case l20 => k_is)
    (case c20 => k_is)
    (case k20 => k_is)
    (case a21 => k_is)
    (case l21 => k_is)
    (case c21 => k_is)
    (case k21 => k_is)
    (case a22 => k_is)
    (case l22 => k_is)
    (case c22 => k_is)
    (case k22 => k_is)
    (case a23 => k_is)
    (case l23 => k_is)
    (case c23 => k_is)
    (case k23 => k_is)
    (case a24 => k_is)
    (case l24 => k_is)
    (case c24 => k_is)
    (case k24 => k_is)
    (case a25 => k_is)
    (case l25 => k_is)
    (case c25 => k_is)
    (case k25 => k_is)
    (case a26 => k_is)
    (case l26 => k_is)
    (case c26 => k_is)
    (case k26 => k_is)
    (case a27 => k_is)
    (case l27 => k_is)
    (case c27 => k_is)
    (case k27 => k_is)
    (case lc26 => k_is)
    (case vp26 => rfl)
    (case tn26 => first | kernel_rfl | rfl)
    (case tr26 => exact ⟨_, rfl⟩)
    (case z_abs => k_is)
    (case z_bool => k_is)
    (case z_int => k_is)
    (case z_isinstance => k_is)
    (case z_len => k_is)
    (case z_list => k_is)
    (case z_min => k_is)
    (case z_range => k_is)
    (case z_sum => k_is)
    (case z_tuple => k_is)
    (case v_CALENDAR => k_is)
    (case v_DIGITS => k_is)
    (case aS => k_is)
    (case b1 => k_is)
    (case b2 => k_is)
    (case b3 => k_is)
    (case cg => k_is)
    (case cT => k_is)
    (case aCx0 => k_is)
    (case lkx0 => k_is)
    (case sax0 => k_is)
    (case eCx0 => k_is)
    (case tCx0 => k_is)
    (case kCx0 => k_is)
    (case gax0 => k_is)
    (case ggx0 => k_is)
    (case hdx0 => k_is)
    (case cax0 => k_is)
    (case mox0 => k_is)
    (case nfx0 => k_is)
    (case sfx0 => k_is)
    (case iCx0 => k_is)
    (case tIx0 => k_is)
    (case lix0 => k_is)
    (case cix0 => k_is)
    (case kix0 => k_is)
    (case aCx1 => k_is)
    (case lkx1 => k_is)
    (case sax1 => k_is)
    (case eCx1 => k_is)
    (case tCx1 => k_is)
    (case kCx1 => k_is)
    (case gax1 => k_is)
    (case ggx1 => k_is)
    (case hdx1 => k_is)
    (case cax1 => k_is)
    (case mox1 => k_is)
    (case nfx1 => k_is)
    (case sfx1 => k_is)
    (case iCx1 => k_is)
    (case tIx1 => k_is)
    (case lix1 => k_is)
    (case cix1 => k_is)
    (case kix1 => k_is)
    (case aCx2 => k_is)
    (case lkx2 => k_is)
    (case sax2 => k_is)
    (case eCx2 => k_is)
    (case tCx2 => k_is)
    (case kCx2 => k_is)
    (case gax2 => k_is)
    (case ggx2 => k_is)
    (case hdx2 => k_is)
    (case cax2 => k_is)
    (case mox2 => k_is)
    (case nfx2 => k_is)
    (case sfx2 => k_is)
    (case iCx2 => k_is)
    (case tIx2 => k_is)
    (case lix2 => k_is)
    (case cix2 => k_is)
    (case kix2 => k_is)
    (case aCx3 => k_is)
    (case lkx3 => k_is)
    (case sax3 => k_is)
    (case eCx3 => k_is)
    (case tCx3 => k_is)
    (case kCx3 => k_is)
    (case gax3 => k_is)
    (case ggx3 => k_is)
    (case hdx3 => k_is)
    (case cax3 => k_is)
    (case mox3 => k_is)
    (case nfx3 => k_is)
    (case sfx3 => k_is)
    (case iCx3 => k_is)
    (case tIx3 => k_is)
    (case lix3 => k_is)
    (case cix3 => k_is)
    (case kix3 => k_is)
    (case aCx4 => k_is)
    (case lkx4 => k_is)
    (case sax4 => k_is)
    (case eCx4 => k_is)
    (case tCx4 => k_is)
    (case kCx4 => k_is)
    (case gax4 => k_is)
    (case ggx4 => k_is)
    (case hdx4 => k_is)
    (case cax4 => k_is)
    (case mox4 => k_is)
    (case nfx4 => k_is)
    (case sfx4 => k_is)
    (case iCx4 => k_is)
    (case tIx4 => k_is)
    (case lix4 => k_is)
    (case cix4 => k_is)
    (case kix4 => k_is)
    (case aCx5 => k_is)
    (case lkx5 => k_is)
    (case sax5 => k_is)
    (case eCx5 => k_is)
    (case tCx5 => k_is)
    (case kCx5 => k_is)
    (case gax5 => k_is)
    (case ggx5 => k_is)
    (case hdx5 => k_is)
    (case cax5 => k_is)
    (case mox5 => k_is)
    (case nfx5 => k_is)
    (case sfx5 => k_is)
    (case iCx5 => k_is)
    (case tIx5 => k_is)
    (case lix5 => k_is)
    (case cix5 => k_is)
    (case kix5 => k_is)
    (case sb_x0_x1 => k_is)
    (case sb_x0_x2 => k_is)
    (case sb_x0_x3 => k_is)
    (case sb_x0_x4 => k_is)
    (case sb_x0_x5 => k_is)
    (case sb_x5_x0 => k_is)
    (case sb_x5_x1 => k_is)
    (case sb_x5_x2 => k_is)
    (case sb_x5_x3 => k_is)
    (case sb_x5_x4 => k_is)
