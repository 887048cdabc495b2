import PyProof.Rows.All
import Wide.All
import OpenK.AllK
import Wide.FinOn
import HandS.ForMost
import HandS.ForExc
import HandS.IsInst
import HandS.ExcInit
import HandS.ExcField
import HandS.Lambda
import HandS.AnyAll
import HandS.EndOwn
import HandS.Wide
import HandS.TupMul
import HandS.TupAny
import HandS.Deep
import HandS.List
import HandS.Words
import KE.KTupSum
import HandS.SortInts
import HandS.Zip
import PyProof.Rows.Method
import PyProof.FactsAll.list_3
import HandS.WordsExc
import HandS.GenList
import KE.KExcSuper
import KE.KSuper
import PySem.Challenge.RW_rainkept_k19_whole_melts
set_option Elab.async false
set_option linter.all false
set_option maxRecDepth 100000
set_option maxHeartbeats 4000000
/-! RkA: values as trees, how they lie in the heap, what is known of a running def. -/
namespace RK
open PySem PySem.Spec PyProof.Rows L2

/-- a Python value as a tree -/
inductive D where
  | non : D
  | bl : Bool → D
  | int : Int → D
  | str : Str → D
  | tup : List D → D
  | lst : List D → D
  | dct : List D → List D → D
  | scr : List Int → D
instance : Inhabited D := ⟨.non⟩

abbrev Exc := Addr → Prop
def kD : Key → D
  | .inl i => .int i
  | .inr s => .str s
def h0 : Hp := fun _ => none

def AtL (K : PySem.W.Frag) (H : Hp) (L : Exc) (a : Addr) (xs : List V) : Prop := (Rd H a (.lst xs) ∧ ¬ L a) ∨ SqL K h0 a xs
def AtT (K : PySem.W.Frag) (H : Hp) (L : Exc) (a : Addr) (xs : List V) : Prop := (Rd H a (.tup xs) ∧ ¬ L a) ∨ SqT K h0 a xs

mutual
def Rep (K : PySem.W.Frag) (H : Hp) (L : Exc) : D → V → Prop
  | .non, v => v = .non
  | .bl b, v => v = .bl b
  | .int i, v => v = .int i
  | .str s, v => v = .str s
  | .tup ds, v => ∃ a xs, v = .ref a ∧ (H a = some (.tup xs) ∧ ¬ L a) ∧ Reps K H L ds xs
  | .lst ds, v => ∃ a xs, v = .ref a ∧ (H a = some (.lst xs) ∧ ¬ L a) ∧ Reps K H L ds xs
  | .scr ns, v => ∃ a, v = .ref a ∧ AtL K H L a (ns.map V.int)
  | .dct ks ds, v => ∃ a, v = .ref a ∧ ¬ L a ∧ ((∃ kvs : List (Key × V), H a = some (.dK kvs) ∧ ks = kvs.map (fun p => kD p.1) ∧ Reps K H L ds (kvs.map (·.2))) ∨
      ∃ kvs : List (List Key × V), H a = some (.dT kvs) ∧ ks = kvs.map (fun p => D.tup (p.1.map kD)) ∧ Reps K H L ds (kvs.map (·.2)))
def Reps (K : PySem.W.Frag) (H : Hp) (L : Exc) : List D → List V → Prop
  | [], vs => vs = []
  | d :: ds, vs => ∃ v r, vs = v :: r ∧ Rep K H L d v ∧ Reps K H L ds r
end

/-- no table of code objects -/
def Nt (o : HO) : Prop := ∀ ps, o ≠ .tbl ps
structure Step (L : Exc) (H : Hp) (L' : Exc) (H' : Hp) : Prop where
  keep : ∀ a o, ¬ L a → H a = some o → Nt o → H' a = some o
  ex : ∀ a, L' a → L a ∨ H a = none

theorem nt_lst {xs : List V} : Nt (.lst xs) := fun _ h => by cases h
theorem nt_tup {xs : List V} : Nt (.tup xs) := fun _ h => by cases h
theorem nt_dK {xs : List (Key × V)} : Nt (.dK xs) := fun _ h => by cases h
theorem nt_dT {xs : List (List Key × V)} : Nt (.dT xs) := fun _ h => by cases h
theorem nt_frz {o : Obj} {u : HO} : Nt (.frz o u) := fun _ h => by cases h
theorem nt_xd {fs : List (Str × V)} : Nt (.xd fs) := fun _ h => by cases h

section
variable {K : PySem.W.Frag} {H H' : Hp} {L L' : Exc}
theorem Step.refl : Step L H L H := ⟨fun _ _ _ h _ => h, fun _ h => .inl h⟩
theorem Step.nex (s : Step L H L' H') {a : Addr} {o : HO} (n : ¬ L a) (h : H a = some o) : ¬ L' a := fun z => by
  rcases s.ex a z with q | q
  · exact n q
  · rw [q] at h; cases h
theorem Step.rd (s : Step L H L' H') {a : Addr} {u : HO} (n : ¬ L a) (hu : Nt u) (h : Rd H a u) : Rd H' a u ∧ ¬ L' a := by
  rcases h with h | ⟨o, h⟩
  · exact ⟨.inl (s.keep a _ n h hu), s.nex n h⟩
  · exact ⟨.inr ⟨o, s.keep a _ n h nt_frz⟩, s.nex n h⟩
theorem Step.atL (s : Step L H L' H') {a : Addr} {xs : List V} (h : AtL K H L a xs) : AtL K H' L' a xs := by
  rcases h with ⟨h, n⟩ | h
  · exact .inl (s.rd n nt_lst h)
  · exact .inr h
theorem Step.atT (s : Step L H L' H') {a : Addr} {xs : List V} (h : AtT K H L a xs) : AtT K H' L' a xs := by
  rcases h with ⟨h, n⟩ | h
  · exact .inl (s.rd n nt_tup h)
  · exact .inr h
theorem AtL.sq {a : Addr} {xs : List V} (h : AtL K H L a xs) : SqL K H a xs := by
  rcases h with ⟨h, n⟩ | h
  · exact .inl h
  · rcases h with h | h
    · rcases h with h | ⟨o, h⟩ <;> cases h
    · exact .inr h
theorem AtT.sq {a : Addr} {xs : List V} (h : AtT K H L a xs) : SqT K H a xs := by
  rcases h with ⟨h, n⟩ | h
  · exact .inl h
  · rcases h with h | h
    · rcases h with h | ⟨o, h⟩ <;> cases h
    · exact .inr h
mutual
theorem Rep.step (s : Step L H L' H') : ∀ (d : D) (v : V), Rep K H L d v → Rep K H' L' d v
  | .non, v, h => h
  | .bl _, v, h => h
  | .int _, v, h => h
  | .str _, v, h => h
  | .tup ds, v, h => by
    obtain ⟨a, xs, e, ⟨h1, n⟩, h2⟩ := h
    exact ⟨a, xs, e, ⟨s.keep a _ n h1 nt_tup, s.nex n h1⟩, Reps.step s ds xs h2⟩
  | .lst ds, v, h => by
    obtain ⟨a, xs, e, ⟨h1, n⟩, h2⟩ := h
    exact ⟨a, xs, e, ⟨s.keep a _ n h1 nt_lst, s.nex n h1⟩, Reps.step s ds xs h2⟩
  | .scr ns, v, h => by
    obtain ⟨a, e, h1⟩ := h
    exact ⟨a, e, s.atL h1⟩
  | .dct ks ds, v, h => by
    obtain ⟨a, e, n, h1⟩ := h
    rcases h1 with ⟨kvs, h1, h2, h3⟩ | ⟨kvs, h1, h2, h3⟩
    · exact ⟨a, e, s.nex n h1, .inl ⟨kvs, s.keep a _ n h1 nt_dK, h2, Reps.step s ds _ h3⟩⟩
    · exact ⟨a, e, s.nex n h1, .inr ⟨kvs, s.keep a _ n h1 nt_dT, h2, Reps.step s ds _ h3⟩⟩
theorem Reps.step (s : Step L H L' H') : ∀ (ds : List D) (vs : List V), Reps K H L ds vs → Reps K H' L' ds vs
  | [], vs, h => h
  | d :: ds, vs, h => by
    obtain ⟨v, r, e, h1, h2⟩ := h
    exact ⟨v, r, e, Rep.step s d v h1, Reps.step s ds r h2⟩
end
theorem Reps.nil : Reps K H L [] [] := by unfold Reps; rfl
theorem Reps.cons {d : D} {ds : List D} {v : V} {vs : List V} (h : Rep K H L d v) (r : Reps K H L ds vs) : Reps K H L (d :: ds) (v :: vs) := by
  unfold Reps; exact ⟨v, vs, rfl, h, r⟩
theorem Reps.length : ∀ {ds : List D} {vs : List V}, Reps K H L ds vs → ds.length = vs.length
  | [], vs, h => by unfold Reps at h; rw [h]; rfl
  | d :: ds, vs, h => by
    unfold Reps at h
    obtain ⟨v, r, rfl, _, h2⟩ := h
    rw [List.length_cons, List.length_cons, Reps.length h2]
theorem Reps.get : ∀ {ds : List D} {vs : List V} {i : Nat} {d : D}, Reps K H L ds vs → ds[i]? = some d → ∃ v, vs[i]? = some v ∧ Rep K H L d v
  | [], vs, i, d, h, e => by simp at e
  | x :: ds, vs, i, d, h, e => by
    unfold Reps at h
    obtain ⟨v, r, rfl, h1, h2⟩ := h
    cases i with
    | zero => simp at e; subst e; exact ⟨v, rfl, h1⟩
    | succ i =>
      obtain ⟨w, e1, e2⟩ := Reps.get (i := i) h2 (by simpa using e)
      exact ⟨w, by simpa using e1, e2⟩
theorem Reps.getV : ∀ {ds : List D} {vs : List V} {i : Nat} {v : V}, Reps K H L ds vs → vs[i]? = some v → ∃ d, ds[i]? = some d ∧ Rep K H L d v
  | [], vs, i, v, h, e => by unfold Reps at h; subst h; simp at e
  | x :: ds, vs, i, v, h, e => by
    unfold Reps at h
    obtain ⟨w, r, rfl, h1, h2⟩ := h
    cases i with
    | zero => simp at e; subst e; exact ⟨x, rfl, h1⟩
    | succ i =>
      obtain ⟨d, e1, e2⟩ := Reps.getV (i := i) h2 (by simpa using e)
      exact ⟨d, by simpa using e1, e2⟩
theorem Reps.append : ∀ {ds es : List D} {vs ws : List V}, Reps K H L ds vs → Reps K H L es ws → Reps K H L (ds ++ es) (vs ++ ws)
  | [], es, vs, ws, h, g => by unfold Reps at h; subst h; exact g
  | d :: ds, es, vs, ws, h, g => by
    unfold Reps at h
    obtain ⟨v, r, rfl, h1, h2⟩ := h
    exact Reps.cons h1 (Reps.append h2 g)
theorem Reps.set : ∀ {ds : List D} {vs : List V} {d : D} {v : V} (i : Nat), Reps K H L ds vs → Rep K H L d v → Reps K H L (ds.set i d) (vs.set i v)
  | [], vs, d, v, i, h, g => by unfold Reps at h; subst h; exact Reps.nil
  | x :: ds, vs, d, v, i, h, g => by
    unfold Reps at h
    obtain ⟨w, r, rfl, h1, h2⟩ := h
    cases i with
    | zero => exact Reps.cons g h2
    | succ i => exact Reps.cons h1 (Reps.set i h2 g)
theorem Reps.drop : ∀ {ds : List D} {vs : List V} (n : Nat), Reps K H L ds vs → Reps K H L (ds.drop n) (vs.drop n)
  | ds, vs, 0, h => h
  | [], vs, n + 1, h => by unfold Reps at h; subst h; exact Reps.nil
  | d :: ds, vs, n + 1, h => by
    unfold Reps at h
    obtain ⟨w, r, rfl, h1, h2⟩ := h
    exact Reps.drop n h2
theorem Reps.take : ∀ {ds : List D} {vs : List V} (n : Nat), Reps K H L ds vs → Reps K H L (ds.take n) (vs.take n)
  | ds, vs, 0, h => by
    rw [List.take_zero, List.take_zero]; exact Reps.nil
  | [], vs, n + 1, h => by unfold Reps at h; subst h; exact Reps.nil
  | d :: ds, vs, n + 1, h => by
    unfold Reps at h
    obtain ⟨w, r, rfl, h1, h2⟩ := h
    exact Reps.cons h1 (Reps.take n h2)
theorem Reps.reverse : ∀ {ds : List D} {vs : List V}, Reps K H L ds vs → Reps K H L ds.reverse vs.reverse
  | [], vs, h => by unfold Reps at h; subst h; exact Reps.nil
  | d :: ds, vs, h => by
    unfold Reps at h
    obtain ⟨w, r, rfl, h1, h2⟩ := h
    rw [List.reverse_cons, List.reverse_cons]
    exact Reps.append (Reps.reverse h2) (Reps.cons h1 Reps.nil)
theorem Reps.ints : ∀ {ns : List Int} {vs : List V}, Reps K H L (ns.map D.int) vs → vs = ns.map V.int
  | [], vs, h => by unfold Reps at h; exact h
  | n :: ns, vs, h => by
    unfold Reps at h
    obtain ⟨w, r, rfl, h1, h2⟩ := h
    unfold Rep at h1
    rw [h1, Reps.ints h2]; rfl
theorem Reps.of_ints : ∀ (ns : List Int), Reps K H L (ns.map D.int) (ns.map V.int)
  | [] => Reps.nil
  | n :: ns => Reps.cons (by unfold Rep; rfl) (Reps.of_ints ns)
end

/-! ### what is known of a running def -/
structure Tabl where
  lam : List (Addr × Str)
  gen : List Addr
structure Gd (T : Tabl) (H : Hp) : Prop where
  lam : LamX.Tabs T.lam H
  gen : ∀ P ∈ T.gen, GxR.TabG H P
def TE' (o : HO) : Prop := (∃ ps, o = .tbl ps) ∨ ∃ φ, o = .ext φ
theorem Gd.step {T : Tabl} {H H' : Hp} (g : Gd T H) (k : ∀ a o, H a = some o → TE' o → H' a = some o) : Gd T H' := by
  refine ⟨fun p hp => ?_, fun P hP => ?_⟩
  · obtain ⟨ps, h1, h2, h3⟩ := g.lam p hp
    refine ⟨ps, k _ _ h1 (.inl ⟨ps, rfl⟩), h2, fun pos cv hc => ?_⟩
    obtain ⟨c, e1, e2⟩ := h3 pos cv hc
    exact ⟨c, e1, k _ _ e2 (.inr ⟨_, rfl⟩)⟩
  · obtain ⟨ps, h1, h2⟩ := g.gen P hP
    exact ⟨ps, k _ _ h1 (.inl ⟨ps, rfl⟩), h2⟩

structure Cfg where
  F : Exc
  I : Exc
  H0 : Hp
  pin : Addr
abbrev Tag := Nat ⊕ Nat
abbrev WM := Addr → Option Tag
def Lx (c : Cfg) (W : WM) : Exc := fun a => c.F a ∨ W a ≠ none

inductive Sl where
  | em : Sl
  | im : D → Sl
  | ow : D → Sl
  | pw : D → Sl
abbrev Env := List Sl

def Own (K : PySem.W.Frag) (H : Hp) (L : Exc) (a : Addr) : D → Prop
  | .lst ds => ∃ xs, H a = some (.lst xs) ∧ Reps K H L ds xs
  | .dct ks ds => (∃ kvs : List (Key × V), H a = some (.dK kvs) ∧ ks = kvs.map (fun p => kD p.1) ∧ Reps K H L ds (kvs.map (·.2))) ∨
      ∃ kvs : List (List Key × V), H a = some (.dT kvs) ∧ ks = kvs.map (fun p => D.tup (p.1.map kD)) ∧ Reps K H L ds (kvs.map (·.2))
  | _ => False
def EntOk (K : PySem.W.Frag) (H : Hp) (c : Cfg) (W : WM) (t : Tag) (ov : Option V) : Sl → Prop
  | .em => True
  | .im d => ∃ v, ov = some v ∧ Rep K H (Lx c W) d v
  | .ow d => ∃ a, ov = some (.ref a) ∧ W a = some t ∧ Own K H (Lx c W) a d
  | .pw d => ov = some (.ref c.pin) ∧ W c.pin = some t ∧ Own K H (Lx c W) c.pin d
abbrev Gam := List (V × Sl)
def GamOk (K : PySem.W.Frag) (H : Hp) (c : Cfg) (W : WM) : Gam → Prop
  | [] => True
  | (v, s) :: g => EntOk K H c W (.inr g.length) (some v) s ∧ GamOk K H c W g
def Mu (o : HO) : Prop := (∃ xs, o = .lst xs) ∨ (∃ kvs, o = .dK kvs) ∨ ∃ kvs, o = .dT kvs
theorem Mu.nte {o : HO} (h : Mu o) : ¬ TE' o := by
  rintro (⟨_, e⟩ | ⟨_, e⟩) <;> rcases h with ⟨_, h⟩ | ⟨_, h⟩ | ⟨_, h⟩ <;> rw [h] at e <;> cases e
theorem Mu.nt {o : HO} (h : Mu o) : Nt o := fun ps e => h.nte (.inl ⟨ps, e⟩)

structure RlW (K : PySem.W.Frag) (T : Tabl) (c : Cfg) (σ : L2.St) (H : Hp) (ρ : Env) (Γ : Gam) (W : WM) : Prop where
  len : σ.length = ρ.length
  sl : ∀ i s, ρ[i]? = some s → EntOk K H c W (.inl i) (σ[i]?.join) s
  gm : GamOk K H c W Γ
  keep : ∀ a o, ¬ c.I a → c.H0 a = some o → Nt o → H a = some o
  there : ∀ a, c.H0 a ≠ none → H a ≠ none
  wnew : ∀ a, W a ≠ none → c.H0 a = none ∨ c.I a
  wmut : ∀ a, W a ≠ none → ∃ o, H a = some o ∧ Mu o
  live : ∀ a, c.F a → ∃ o, H a = some o ∧ Mu o
  apart : ∀ a, W a ≠ none → ¬ c.F a
  good : Gd T H
def Rl (K : PySem.W.Frag) (T : Tabl) (c : Cfg) (σ : L2.St) (H : Hp) (ρ : Env) (Γ : Gam) : Prop := ∃ W, RlW K T c σ H ρ Γ W

section
variable {K : PySem.W.Frag} {T : Tabl} {c : Cfg} {σ : L2.St} {H H' : Hp} {ρ : Env} {Γ Γ' : Gam} {W W' : WM}
theorem Own.step {L L' : Exc} (s : Step L H L' H') {a : Addr} (e : H' a = H a) : ∀ {d : D}, Own K H L a d → Own K H' L' a d
  | .lst ds, h => by
    obtain ⟨xs, h1, h2⟩ := h
    exact ⟨xs, e.trans h1, Reps.step s _ _ h2⟩
  | .dct ks ds, h => by
    rcases h with ⟨kvs, h1, h2, h3⟩ | ⟨kvs, h1, h2, h3⟩
    · exact .inl ⟨kvs, e.trans h1, h2, Reps.step s _ _ h3⟩
    · exact .inr ⟨kvs, e.trans h1, h2, Reps.step s _ _ h3⟩
  | .non, h => h.elim
  | .bl _, h => h.elim
  | .int _, h => h.elim
  | .str _, h => h.elim
  | .tup _, h => h.elim
  | .scr _, h => h.elim
theorem Own.mu {L : Exc} {a : Addr} : ∀ {d : D}, Own K H L a d → ∃ o, H a = some o ∧ Mu o
  | .lst ds, ⟨xs, h1, _⟩ => ⟨_, h1, .inl ⟨_, rfl⟩⟩
  | .dct ks ds, .inl ⟨kvs, h1, _⟩ => ⟨_, h1, .inr (.inl ⟨_, rfl⟩)⟩
  | .dct ks ds, .inr ⟨kvs, h1, _⟩ => ⟨_, h1, .inr (.inr ⟨_, rfl⟩)⟩
/-- an owned thing let go -/
theorem Own.rep {L : Exc} {a : Addr} (n : ¬ L a) : ∀ {d : D}, Own K H L a d → Rep K H L d (.ref a)
  | .lst ds, ⟨xs, h1, h2⟩ => by unfold Rep; exact ⟨a, xs, rfl, ⟨h1, n⟩, h2⟩
  | .dct ks ds, h => by unfold Rep; exact ⟨a, rfl, n, h⟩
theorem EntOk.step {t : Tag} {ov : Option V} (s : Step (Lx c W) H (Lx c W') H') (hw : ∀ a, W a = some t → W' a = some t ∧ H' a = H a) : ∀ {x : Sl}, EntOk K H c W t ov x → EntOk K H' c W' t ov x
  | .em, _ => trivial
  | .im d, ⟨v, e, h⟩ => ⟨v, e, Rep.step s d v h⟩
  | .ow d, ⟨a, e, h1, h2⟩ => ⟨a, e, (hw a h1).1, Own.step s (hw a h1).2 h2⟩
  | .pw d, ⟨e, h1, h2⟩ => ⟨e, (hw _ h1).1, Own.step s (hw _ h1).2 h2⟩
theorem GamOk.step (s : Step (Lx c W) H (Lx c W') H') (hw : ∀ a k, W a = some (.inr k) → k < Γ.length → W' a = some (.inr k) ∧ H' a = H a) (h : GamOk K H c W Γ) : GamOk K H' c W' Γ := by
  induction Γ with
  | nil => trivial
  | cons p g ih =>
    obtain ⟨v, x⟩ := p
    obtain ⟨h1, h2⟩ := h
    refine ⟨h1.step s fun a e => hw a _ e (by rw [List.length_cons]; omega), ih (fun a k e hk => hw a k e (by rw [List.length_cons]; omega)) h2⟩

/-- the heap has grown by new objects and by what calls change -/
structure Grow (T : Tabl) (H H' : Hp) : Prop where
  keep : ∀ a o, H a = some o → Nt o → H' a = some o
  there : ∀ a, H a ≠ none → H' a ≠ none
  good : Gd T H'
theorem Grow.refl (g : Gd T H) : Grow T H H := ⟨fun _ _ h _ => h, fun _ h => h, g⟩
theorem Grow.trans {H'' : Hp} (a : Grow T H H') (b : Grow T H' H'') : Grow T H H'' := ⟨fun x o h n => b.keep x o (a.keep x o h n) n, fun x h => b.there x (a.there x h), b.good⟩
theorem Grow.new {p : Addr} {o : HO} (g : Gd T H) (hp : H p = none) : Grow T H (upd H p o) :=
  ⟨fun a u h _ => by rw [upd_ne (ne_of_none h hp)]; exact h, fun a h => by
    by_cases e : a = p
    · rw [e, upd_same]; simp
    · rw [upd_ne e]; exact h, g.step fun a u h _ => by rw [upd_ne (ne_of_none h hp)]; exact h⟩
theorem Grow.step {L : Exc} (g : Grow T H H') : Step L H L H' := ⟨fun a o _ h n => g.keep a o h n, fun _ h => .inl h⟩
theorem RlW.grow (r : RlW K T c σ H ρ Γ W) (g : Grow T H H') : RlW K T c σ H' ρ Γ W := by
  have hw : ∀ a, W a ≠ none → H' a = H a := fun a h => by
    obtain ⟨o, e, m⟩ := r.wmut a h
    rw [e]; exact g.keep a o e m.nt
  refine ⟨r.len, fun i s h => (r.sl i s h).step g.step fun a e => ⟨e, hw a (by rw [e]; simp)⟩, r.gm.step g.step fun a k e _ => ⟨e, hw a (by rw [e]; simp)⟩,
    fun a o h1 h2 h3 => g.keep a o (r.keep a o h1 h2 h3) h3, fun a h => g.there a (r.there a h), r.wnew, fun a h => ?_, fun a h => (let ⟨o, e, m⟩ := r.live a h; ⟨o, g.keep a o e m.nt, m⟩), r.apart, g.good⟩
  obtain ⟨o, e, m⟩ := r.wmut a h
  exact ⟨o, g.keep a o e m.nt, m⟩
theorem Rl.grow (r : Rl K T c σ H ρ Γ) (g : Grow T H H') : Rl K T c σ H' ρ Γ := by
  obtain ⟨W, r⟩ := r
  exact ⟨W, r.grow g⟩
theorem Rl.good (r : Rl K T c σ H ρ Γ) : Gd T H := by
  obtain ⟨W, r⟩ := r
  exact r.good
/-- what lies beside: the plain entries -/
def Imm (K : PySem.W.Frag) (H : Hp) (L : Exc) : Gam → Prop
  | [] => True
  | (v, .im d) :: g => Rep K H L d v ∧ Imm K H L g
  | _ :: g => Imm K H L g
theorem GamOk.imm (h : GamOk K H c W Γ) : Imm K H (Lx c W) Γ := by
  induction Γ with
  | nil => trivial
  | cons p g ih =>
    obtain ⟨v, x⟩ := p
    obtain ⟨h1, h2⟩ := h
    cases x with
    | im d =>
      obtain ⟨w, e, q⟩ := h1
      cases e
      exact ⟨q, ih h2⟩
    | em => exact ih h2
    | ow d => exact ih h2
    | pw d => exact ih h2
/-- a further plain value beside, told from those that are there -/
theorem Rl.add (r : Rl K T c σ H ρ Γ) {v : V} {d : D} (h : ∀ L, Imm K H L Γ → Rep K H L d v) : Rl K T c σ H ρ ((v, .im d) :: Γ) := by
  obtain ⟨W, r⟩ := r
  exact ⟨W, r.len, r.sl, ⟨⟨v, rfl, h _ r.gm.imm⟩, r.gm⟩, r.keep, r.there, r.wnew, r.wmut, r.live, r.apart, r.good⟩
theorem Rl.pop {p : V × Sl} (r : Rl K T c σ H ρ (p :: Γ)) : Rl K T c σ H ρ Γ := by
  obtain ⟨W, r⟩ := r
  exact ⟨W, r.len, r.sl, r.gm.2, r.keep, r.there, r.wnew, r.wmut, r.live, r.apart, r.good⟩
/-- .. where what may change is a list or a dict -/
theorem Rl.addM (r : Rl K T c σ H ρ Γ) {v : V} {d : D} (h : ∀ L, (∀ a, L a → ∃ o, H a = some o ∧ Mu o) → Imm K H L Γ → Rep K H L d v) : Rl K T c σ H ρ ((v, .im d) :: Γ) := by
  obtain ⟨W, r⟩ := r
  exact ⟨W, r.len, r.sl, ⟨⟨v, rfl, h _ (fun a q => q.elim (r.live a) (r.wmut a)) r.gm.imm⟩, r.gm⟩, r.keep, r.there, r.wnew, r.wmut, r.live, r.apart, r.good⟩
/-- the plain part of what lies beside, put anew -/
theorem Rl.imm (r : Rl K T c σ H ρ Γ) : ∃ L, Imm K H L Γ ∧ ∀ a, L a → ∃ o, H a = some o ∧ Mu o := by
  obtain ⟨W, r⟩ := r
  refine ⟨_, r.gm.imm, fun a h => ?_⟩
  rcases h with h | h
  · exact r.live a h
  · exact r.wmut a h
theorem Imm.step {L L' : Exc} (s : Step L H L' H') : ∀ {Γ : Gam}, Imm K H L Γ → Imm K H' L' Γ
  | [], _ => trivial
  | (v, .im d) :: g, ⟨h1, h2⟩ => ⟨Rep.step s d v h1, Imm.step s (Γ := g) h2⟩
  | (v, .em) :: g, h => Imm.step s (Γ := g) h
  | (v, .ow d) :: g, h => Imm.step s (Γ := g) h
  | (v, .pw d) :: g, h => Imm.step s (Γ := g) h
/-- a new object, with what it is worth -/
theorem Rl.alloc (r : Rl K T c σ H ρ Γ) {p : Addr} {o : HO} {v : V} {d : D} (hp : H p = none) (h : ∀ L, ¬ L p → Imm K (upd H p o) L Γ → Rep K (upd H p o) L d v) : Rl K T c σ (upd H p o) ρ ((v, .im d) :: Γ) := by
  obtain ⟨W, r⟩ := r
  have q := r.grow (Grow.new (o := o) r.good hp)
  have np : ¬ Lx c W p := fun z => by
    rcases z with z | z
    · obtain ⟨u, e, _⟩ := r.live p z
      rw [hp] at e; cases e
    · obtain ⟨u, e, _⟩ := r.wmut p z
      rw [hp] at e; cases e
  exact ⟨W, q.len, q.sl, ⟨⟨v, rfl, h _ np q.gm.imm⟩, q.gm⟩, q.keep, q.there, q.wnew, q.wmut, q.live, q.apart, q.good⟩
end
end RK
set_option Elab.async false
set_option linter.all false
set_option maxRecDepth 100000
set_option maxHeartbeats 4000000
/-! RkB: slots and owned things: what a step does to what is known. -/
namespace RK
open PySem PySem.Spec PyProof.Rows L2

section
variable {K : PySem.W.Frag} {T : Tabl} {c : Cfg} {σ : L2.St} {H H' : Hp} {ρ : Env} {Γ Γ' : Gam} {W W' : WM}

theorem Rl.len (r : Rl K T c σ H ρ Γ) : σ.length = ρ.length := by obtain ⟨W, r⟩ := r; exact r.len
theorem Rl.var (r : Rl K T c σ H ρ Γ) {i : Nat} {d : D} (h : ρ[i]? = some (.im d)) : ∃ v, σ[i]? = some (some v) ∧ Rl K T c σ H ρ ((v, .im d) :: Γ) := by
  obtain ⟨W, r⟩ := r
  obtain ⟨v, e, q⟩ := r.sl i _ h
  refine ⟨v, ?_, W, r.len, r.sl, ⟨⟨v, rfl, q⟩, r.gm⟩, r.keep, r.there, r.wnew, r.wmut, r.live, r.apart, r.good⟩
  cases z : σ[i]? with
  | none => rw [z] at e; cases e
  | some o =>
    rw [z] at e
    have e' : o = some v := e
    rw [e']

def Sl.val : Sl → Option D
  | .ow d => some d
  | .pw d => some d
  | _ => none
def Sl.put : Sl → D → Sl
  | .pw _, d => .pw d
  | _, d => .ow d
def Sl.pinned : Sl → Bool
  | .pw _ => true
  | _ => false

theorem join_get {α : Type} {o : Option (Option α)} {v : α} (h : o.join = some v) : o = some (some v) := by
  cases o with
  | none => cases h
  | some x =>
    have h' : x = some v := h
    rw [h']
theorem join_of {α : Type} {o : Option (Option α)} {v : α} (h : o = some (some v)) : o.join = some v := by rw [h]; rfl

/-- the slot's tag is not another's -/
theorem set_sl {i : Nat} {v : V} {x : Sl} (hl : σ.length = ρ.length) (h0 : ∀ j s, j ≠ i → ρ[j]? = some s → EntOk K H c W (.inl j) (σ[j]?.join) s) (h1 : EntOk K H c W (.inl i) (some v) x) :
    ∀ j s, (ρ.set i x)[j]? = some s → EntOk K H c W (.inl j) ((σ.set i (some v))[j]?.join) s := by
  intro j s h
  by_cases e : j = i
  · subst e
    by_cases hj : j < ρ.length
    · rw [List.getElem?_set_self hj] at h
      cases h
      rw [List.getElem?_set_self (by omega)]
      exact h1
    · rw [List.getElem?_eq_none (by rw [List.length_set]; omega)] at h
      cases h
  · rw [List.getElem?_set_ne (Ne.symm e)] at h
    rw [List.getElem?_set_ne (Ne.symm e)]
    exact h0 j s e h

theorem Rl.set (r : Rl K T c σ H ρ Γ') {v : V} {d : D} {i : Nat} (hΓ : Γ' = (v, .im d) :: Γ) : Rl K T c (σ.set i (some v)) H (ρ.set i (.im d)) Γ := by
  subst hΓ
  obtain ⟨W, r⟩ := r
  exact ⟨W, by rw [List.length_set, List.length_set]; exact r.len, set_sl r.len (fun j s _ h => r.sl j s h) r.gm.1, r.gm.2, r.keep, r.there, r.wnew, r.wmut, r.live, r.apart, r.good⟩

/-- tags changed at a alone -/
def wput (W : WM) (a : Addr) (t : Option Tag) : WM := fun b => if b = a then t else W b
theorem wput_same {a : Addr} {t : Option Tag} : wput W a t a = t := if_pos rfl
theorem wput_ne {a b : Addr} {t : Option Tag} (h : b ≠ a) : wput W a t b = W b := if_neg h

theorem Rl.setO (r : Rl K T c σ H ρ ((v, .ow d) :: Γ)) {i : Nat} : Rl K T c (σ.set i (some v)) H (ρ.set i (.ow d)) Γ := by
  obtain ⟨W, r⟩ := r
  obtain ⟨⟨a, ea, wa, oa⟩, gm⟩ := r.gm
  cases ea
  have st : Step (Lx c W) H (Lx c (wput W a (some (.inl i)))) H := ⟨fun _ _ _ h _ => h, fun b hb => by
    rcases hb with hb | hb
    · exact .inl (.inl hb)
    · by_cases e : b = a
      · rw [e]; exact .inl (.inr (by rw [wa]; simp))
      · rw [wput_ne e] at hb; exact .inl (.inr hb)⟩
  refine ⟨wput W a (some (.inl i)), by rw [List.length_set, List.length_set]; exact r.len, set_sl r.len (fun j s hj h => (r.sl j s h).step st fun b e => ⟨?_, rfl⟩) ⟨a, rfl, wput_same, Own.step st rfl oa⟩,
    gm.step st fun b k e hk => ⟨?_, rfl⟩, r.keep, r.there, fun b hb => ?_, fun b hb => ?_, r.live, fun b hb => ?_, r.good⟩
  · by_cases hb : b = a
    · rw [hb, wa] at e; cases e
    · rw [wput_ne hb]; exact e
  · by_cases hb : b = a
    · rw [hb, wa] at e
      cases e
      exact absurd hk (Nat.lt_irrefl _)
    · rw [wput_ne hb]; exact e
  · refine r.wnew b ?_
    by_cases e : b = a
    · rw [e, wa]; simp
    · rw [wput_ne e] at hb; exact hb
  · refine r.wmut b ?_
    by_cases e : b = a
    · rw [e, wa]; simp
    · rw [wput_ne e] at hb; exact hb
  · refine r.apart b ?_
    by_cases e : b = a
    · rw [e, wa]; simp
    · rw [wput_ne e] at hb; exact hb

/-- an owned thing of no entry any more -/
theorem RlW.drop (r : RlW K T c σ H ρ Γ W) {a : Addr} {t : Tag} (wa : W a = some t) (hs : ∀ j s, t = .inl j → ρ[j]? = some s → Sl.val s = none) (hg : ∀ k, t = .inr k → Γ.length ≤ k) : RlW K T c σ H ρ Γ (wput W a none) := by
  have st : Step (Lx c W) H (Lx c (wput W a none)) H := ⟨fun _ _ _ h _ => h, fun b hb => by
    rcases hb with hb | hb
    · exact .inl (.inl hb)
    · by_cases e : b = a
      · rw [e, wput_same] at hb; exact absurd rfl hb
      · rw [wput_ne e] at hb; exact .inl (.inr hb)⟩
  have wn : ∀ b, wput W a none b ≠ none → W b ≠ none := fun b hb => by
    by_cases e : b = a
    · rw [e, wput_same] at hb; exact absurd rfl hb
    · rw [wput_ne e] at hb; exact hb
  refine ⟨r.len, fun j s h => ?_, r.gm.step st fun b k e hk => ⟨?_, rfl⟩, r.keep, r.there, fun b hb => r.wnew b (wn b hb), fun b hb => r.wmut b (wn b hb), r.live, fun b hb => r.apart b (wn b hb), r.good⟩
  · by_cases z : t = .inl j
    · have q := hs j s z h
      have x := r.sl j s h
      cases s with
      | em => trivial
      | im d =>
        obtain ⟨v, e, y⟩ := x
        exact ⟨v, e, Rep.step st d v y⟩
      | ow d => cases q
      | pw d => cases q
    · refine (r.sl j s h).step st fun b e => ⟨?_, rfl⟩
      by_cases hb : b = a
      · rw [hb, wa] at e
        exact absurd (Option.some.inj e) z
      · rw [wput_ne hb]; exact e
  · by_cases hb : b = a
    · rw [hb, wa] at e
      exact absurd (hg k (Option.some.inj e)) (by omega)
    · rw [wput_ne hb]; exact e

/-- an owned slot's thing is from now on a plain value -/
theorem Rl.rel (r : Rl K T c σ H ρ Γ) {i : Nat} {d : D} (h : ρ[i]? = some (.ow d)) : Rl K T c σ H (ρ.set i (.im d)) Γ := by
  obtain ⟨W, r⟩ := r
  obtain ⟨a, ea, wa, oa⟩ := r.sl i _ h
  have hi : i < ρ.length := (List.getElem?_eq_some_iff.mp h).1
  -- first forget it at the slot
  have es : σ.set i (some (V.ref a)) = σ := by
    have e := join_get ea
    refine List.ext_getElem? fun j => ?_
    by_cases hj : i = j
    · subst hj
      rw [List.getElem?_set_self (by rw [r.len]; exact hi), e]
    · rw [List.getElem?_set_ne hj]
  have r1 : RlW K T c σ H (ρ.set i .em) Γ W := by
    refine ⟨by rw [List.length_set]; exact r.len, ?_, r.gm, r.keep, r.there, r.wnew, r.wmut, r.live, r.apart, r.good⟩
    have q := set_sl (x := .em) (i := i) (v := V.ref a) r.len (fun j s _ h => r.sl j s h) trivial
    rw [es] at q
    exact q
  have r2 := r1.drop wa (fun j s e hs => by
    cases e
    rw [List.getElem?_set_self hi] at hs
    cases hs
    rfl) (fun k e => by cases e)
  refine ⟨_, by rw [List.length_set]; exact r.len, ?_, r2.gm, r2.keep, r2.there, r2.wnew, r2.wmut, r2.live, r2.apart, r2.good⟩
  have st : Step (Lx c W) H (Lx c (wput W a none)) H := ⟨fun _ _ _ h _ => h, fun b hb => by
    rcases hb with hb | hb
    · exact .inl (.inl hb)
    · by_cases e : b = a
      · rw [e, wput_same] at hb; exact absurd rfl hb
      · rw [wput_ne e] at hb; exact .inl (.inr hb)⟩
  have nl : ¬ Lx c (wput W a none) a := fun z => by
    rcases z with z | z
    · exact r.apart a (by rw [wa]; simp) z
    · exact z wput_same
  have q := set_sl (K := K) (H := H) (c := c) (W := wput W a none) (σ := σ) (ρ := ρ.set i .em) (x := .im d) (i := i) (v := V.ref a) (by rw [List.length_set]; exact r.len) (fun j s _ h => r2.sl j s h) ⟨_, rfl, Own.rep nl (Own.step st rfl oa)⟩
  rw [es, List.set_set] at q
  exact q
/-- .. beside -/
theorem Rl.relG (r : Rl K T c σ H ρ ((v, .ow d) :: Γ)) : Rl K T c σ H ρ ((v, .im d) :: Γ) := by
  obtain ⟨W, r⟩ := r
  obtain ⟨⟨a, ea, wa, oa⟩, gm⟩ := r.gm
  cases ea
  have r1 : RlW K T c σ H ρ Γ W := ⟨r.len, r.sl, gm, r.keep, r.there, r.wnew, r.wmut, r.live, r.apart, r.good⟩
  have r2 := r1.drop wa (fun j s e => by cases e) (fun k e => by cases e; exact Nat.le_refl _)
  have st : Step (Lx c W) H (Lx c (wput W a none)) H := ⟨fun _ _ _ h _ => h, fun b hb => by
    rcases hb with hb | hb
    · exact .inl (.inl hb)
    · by_cases e : b = a
      · rw [e, wput_same] at hb; exact absurd rfl hb
      · rw [wput_ne e] at hb; exact .inl (.inr hb)⟩
  have nl : ¬ Lx c (wput W a none) a := fun z => by
    rcases z with z | z
    · exact r.apart a (by rw [wa]; simp) z
    · exact z wput_same
  exact ⟨_, r2.len, r2.sl, ⟨⟨_, rfl, Own.rep nl (Own.step st rfl oa)⟩, r2.gm⟩, r2.keep, r2.there, r2.wnew, r2.wmut, r2.live, r2.apart, r2.good⟩

/-- a new owned thing beside -/
theorem Rl.allocO (r : Rl K T c σ H ρ Γ) {p : Addr} {o : HO} {d : D} (hp : H p = none) (m : Mu o) (h : ∀ L, L p → Imm K (upd H p o) L Γ → Own K (upd H p o) L p d) : Rl K T c σ (upd H p o) ρ ((.ref p, .ow d) :: Γ) := by
  obtain ⟨W, r⟩ := r
  have np : W p = none := by
    cases e : W p with
    | none => rfl
    | some t =>
      obtain ⟨u, e', _⟩ := r.wmut p (by rw [e]; simp)
      rw [hp] at e'; cases e'
  have wa : ∀ a, W a ≠ none → a ≠ p := fun a h e => by rw [e] at h; exact h np
  have st : Step (Lx c W) H (Lx c (wput W p (some (.inr Γ.length)))) (upd H p o) := ⟨fun a u _ e _ => by rw [upd_ne (ne_of_none e hp)]; exact e, fun b hb => by
    by_cases e : b = p
    · rw [e]; exact .inr hp
    · rcases hb with hb | hb
      · exact .inl (.inl hb)
      · rw [wput_ne e] at hb; exact .inl (.inr hb)⟩
  have kt : ∀ (b : Addr) (t : Tag), W b = some t → wput W p (some (.inr Γ.length)) b = some t ∧ upd H p o b = H b := fun b t e => by
    have n := wa b (by rw [e]; simp)
    rw [wput_ne n, upd_ne n]
    exact ⟨e, rfl⟩
  have gm := r.gm.step (W' := wput W p (some (.inr Γ.length))) st fun b k e _ => kt b _ e
  have g := Grow.new (o := o) r.good hp
  refine ⟨wput W p (some (.inr Γ.length)), r.len, fun i s h => (r.sl i s h).step st fun b e => kt b _ e, ⟨⟨p, rfl, wput_same, h _ (.inr (by rw [wput_same]; simp)) gm.imm⟩, gm⟩,
    fun a u h1 h2 h3 => g.keep a u (r.keep a u h1 h2 h3) h3, fun a h => g.there a (r.there a h), fun a ha => ?_, fun a ha => ?_, fun a h => (let ⟨o, e, m⟩ := r.live a h; ⟨o, g.keep a o e m.nt, m⟩), fun a ha => ?_, g.good⟩
  · by_cases e : a = p
    · refine .inl ?_
      cases q : c.H0 a with
      | none => rfl
      | some u => exact absurd (by rw [e]; exact hp) (r.there a (by rw [q]; simp))
    · rw [wput_ne e] at ha; exact r.wnew a ha
  · by_cases e : a = p
    · exact ⟨o, by rw [e, upd_same], m⟩
    · rw [wput_ne e] at ha
      obtain ⟨u, q, mu⟩ := r.wmut a ha
      exact ⟨u, by rw [upd_ne e]; exact q, mu⟩
  · by_cases e : a = p
    · intro z
      obtain ⟨u, e', _⟩ := r.live a z
      rw [e, hp] at e'; cases e'
    · rw [wput_ne e] at ha; exact r.apart a ha

/-- an owned thing written: the general step -/
theorem RlW.mut (r : RlW K T c σ H ρ Γ W) {a : Addr} {t : Tag} {o : HO} (wa : W a = some t) (m : Mu o) : Step (Lx c W) H (Lx c W) (upd H a o) ∧ Gd T (upd H a o) ∧ (∀ b u, c.H0 b = some u → ¬ c.I b → Nt u → upd H a o b = some u) ∧
    (∀ b, c.H0 b ≠ none → upd H a o b ≠ none) ∧ (∀ b, W b ≠ none → ∃ u, upd H a o b = some u ∧ Mu u) ∧ (∀ b, c.F b → ∃ u, upd H a o b = some u ∧ Mu u) := by
  obtain ⟨u0, e0, m0⟩ := r.wmut a (by rw [wa]; simp)
  have th : ∀ b, H b ≠ none → upd H a o b ≠ none := fun b h => by
    by_cases e : b = a
    · rw [e, upd_same]; simp
    · rw [upd_ne e]; exact h
  refine ⟨⟨fun b u n e _ => ?_, fun _ h => .inl h⟩, r.good.step fun b u e te => ?_, fun b u h1 h2 h3 => ?_, fun b h => th b (r.there b h), fun b h => ?_, fun b h => ?_⟩
  · rw [upd_ne fun z => n (by rw [z]; exact .inr (by rw [wa]; simp))]; exact e
  · rw [upd_ne fun z => by rw [z, e0] at e; cases e; exact m0.nte te]; exact e
  · rw [upd_ne fun z => ?_]
    · exact r.keep b u h2 h1 h3
    · rcases r.wnew a (by rw [wa]; simp) with q | q
      · rw [z, q] at h1; cases h1
      · exact h2 (by rw [z]; exact q)
  · by_cases e : b = a
    · exact ⟨o, by rw [e, upd_same], m⟩
    · rw [upd_ne e]; exact r.wmut b h
  · by_cases e : b = a
    · exact ⟨o, by rw [e, upd_same], m⟩
    · rw [upd_ne e]; exact r.live b h

/-- .. of a slot -/
theorem Rl.mutS (r : Rl K T c σ H ρ Γ) {i : Nat} {s : Sl} {d : D} (h : ρ[i]? = some s) (hv : s.val = some d) : ∃ a, σ[i]? = some (some (.ref a)) ∧ (∃ L, L a ∧ Own K H L a d ∧ Imm K H L Γ) ∧
    ∀ (o : HO) (d' : D) (Γ' : Gam), Mu o → (∀ L, L a → Own K H L a d → Imm K H L Γ → Step L H L (upd H a o) → Own K (upd H a o) L a d') → (∃ G, Γ = G ++ Γ') → Rl K T c σ (upd H a o) (ρ.set i (s.put d')) Γ' := by
  obtain ⟨W, r⟩ := r
  have key : ∃ a, σ[i]?.join = some (.ref a) ∧ W a = some (.inl i) ∧ Own K H (Lx c W) a d ∧ ((∃ x, s = .pw x) → a = c.pin) := by
    have x := r.sl i s h
    cases s with
    | em => cases hv
    | im _ => cases hv
    | ow y =>
      cases hv
      obtain ⟨a, e1, e2, e3⟩ := x
      exact ⟨a, e1, e2, e3, fun ⟨_, z⟩ => by cases z⟩
    | pw y =>
      cases hv
      obtain ⟨e1, e2, e3⟩ := x
      exact ⟨_, e1, e2, e3, fun _ => rfl⟩
  obtain ⟨a, ea, wa, oa, pa⟩ := key
  refine ⟨a, join_get ea, ⟨Lx c W, .inr (by rw [wa]; simp), oa, r.gm.imm⟩, fun o d' Γ' m hd hG => ?_⟩
  obtain ⟨G, rfl⟩ := hG
  obtain ⟨st, gd, k1, k2, k3, k4⟩ := r.mut wa m
  have hi : i < ρ.length := (List.getElem?_eq_some_iff.mp h).1
  have gm0 : ∀ G : Gam, GamOk K H c W (G ++ Γ') → GamOk K H c W Γ' := by
    intro G
    induction G with
    | nil => exact fun h => h
    | cons p g ih => exact fun h => ih h.2
  have ne : ∀ b t, W b = some t → t ≠ .inl i → upd H a o b = H b := fun b t e n => by
    rw [upd_ne fun z => by rw [z, wa] at e; exact n (Option.some.inj e).symm]
  have es : σ.set i (some (V.ref a)) = σ := by
    have e := join_get ea
    refine List.ext_getElem? fun j => ?_
    by_cases hj : i = j
    · subst hj
      rw [List.getElem?_set_self (by rw [r.len]; exact hi), e]
    · rw [List.getElem?_set_ne hj]
  have new : EntOk K (upd H a o) c W (.inl i) (some (.ref a)) (s.put d') := by
    have q := hd (Lx c W) (.inr (by rw [wa]; simp)) oa r.gm.imm st
    cases s with
    | em => cases hv
    | im _ => cases hv
    | ow y => exact ⟨a, rfl, wa, q⟩
    | pw y =>
      have e := pa ⟨_, rfl⟩
      subst e
      exact ⟨rfl, wa, q⟩
  refine ⟨W, by rw [List.length_set]; exact r.len, ?_, (gm0 G r.gm).step st fun b k e _ => ⟨e, ne b _ e (by simp)⟩, fun b u h1 h2 h3 => k1 b u h2 h1 h3, k2, r.wnew, k3, k4, r.apart, gd⟩
  have q := set_sl (K := K) (H := upd H a o) (c := c) (W := W) (σ := σ) (ρ := ρ) (i := i) (v := V.ref a) r.len (fun j s' hj h' => (r.sl j s' h').step st fun b e => ⟨e, ne b _ e (by intro z; cases z; exact hj rfl)⟩) new
  rw [es] at q
  exact q
/-- .. beside, at the head or behind plain values that go -/
theorem Rl.mutG (r : Rl K T c σ H ρ (G ++ (.ref a, .ow d) :: Γ)) : (∃ L, L a ∧ Own K H L a d ∧ Imm K H L (G ++ (.ref a, .ow d) :: Γ)) ∧
    ∀ (o : HO) (d' : D), Mu o → (∀ L, L a → Own K H L a d → Imm K H L (G ++ (.ref a, .ow d) :: Γ) → Step L H L (upd H a o) → Own K (upd H a o) L a d') → Rl K T c σ (upd H a o) ρ ((.ref a, .ow d') :: Γ) := by
  obtain ⟨W, r⟩ := r
  have gm0 : ∀ G : Gam, GamOk K H c W (G ++ (.ref a, .ow d) :: Γ) → GamOk K H c W ((.ref a, .ow d) :: Γ) := by
    intro G
    induction G with
    | nil => exact fun h => h
    | cons p g ih => exact fun h => ih h.2
  obtain ⟨⟨b, ea, wa, oa⟩, gm⟩ := gm0 G r.gm
  cases ea
  refine ⟨⟨Lx c W, .inr (by rw [wa]; simp), oa, r.gm.imm⟩, fun o d' m hd => ?_⟩
  obtain ⟨st, gd, k1, k2, k3, k4⟩ := r.mut wa m
  have ne : ∀ b t, W b = some t → t ≠ .inr Γ.length → upd H a o b = H b := fun b t e n => by
    rw [upd_ne fun z => by rw [z, wa] at e; exact n (Option.some.inj e).symm]
  exact ⟨W, r.len, fun j s h => (r.sl j s h).step st fun b e => ⟨e, ne b _ e (by simp)⟩, ⟨⟨a, rfl, wa, hd _ (.inr (by rw [wa]; simp)) oa r.gm.imm st⟩, gm.step st fun b k e hk => ⟨e, ne b _ e (by intro z; cases z; exact absurd hk (Nat.lt_irrefl _))⟩⟩,
    fun b u h1 h2 h3 => k1 b u h2 h1 h3, k2, r.wnew, k3, k4, r.apart, gd⟩

/-- an owned thing at the head; what lies behind it goes -/
theorem Rl.cutO (G : Gam) {v : V} {d : D} (r : Rl K T c σ H ρ ((v, .ow d) :: (G ++ Γ))) : Rl K T c σ H ρ ((v, .ow d) :: Γ) := by
  obtain ⟨W, r⟩ := r
  have gm0 : ∀ G : Gam, GamOk K H c W (G ++ Γ) → GamOk K H c W Γ := by
    intro G
    induction G with
    | nil => exact fun h => h
    | cons p g ih => exact fun h => ih h.2
  obtain ⟨⟨a, ea, wa, oa⟩, gm1⟩ := r.gm
  cases ea
  have gm := gm0 G gm1
  have st : Step (Lx c W) H (Lx c (wput W a (some (.inr Γ.length)))) H := ⟨fun _ _ _ h _ => h, fun b hb => by
    rcases hb with hb | hb
    · exact .inl (.inl hb)
    · by_cases e : b = a
      · rw [e]; exact .inl (.inr (by rw [wa]; simp))
      · rw [wput_ne e] at hb; exact .inl (.inr hb)⟩
  have wn : ∀ b, wput W a (some (.inr Γ.length)) b ≠ none → W b ≠ none := fun b hb => by
    by_cases e : b = a
    · rw [e, wa]; simp
    · rw [wput_ne e] at hb; exact hb
  refine ⟨wput W a (some (.inr Γ.length)), r.len, fun j s h => (r.sl j s h).step st fun b e => ⟨?_, rfl⟩, ⟨⟨a, rfl, wput_same, Own.step st rfl oa⟩, gm.step st fun b k e hk => ⟨?_, rfl⟩⟩, r.keep, r.there, fun b hb => r.wnew b (wn b hb), fun b hb => r.wmut b (wn b hb), r.live, fun b hb => r.apart b (wn b hb), r.good⟩
  · by_cases hb : b = a
    · rw [hb, wa] at e; cases e
    · rw [wput_ne hb]; exact e
  · by_cases hb : b = a
    · rw [hb, wa] at e
      have e' := Option.some.inj e
      have e2 : (G ++ Γ).length = k := Sum.inr.inj e'
      rw [List.length_append] at e2
      omega
    · rw [wput_ne hb]; exact e

/-! ### slots forgotten for a block, and put back -/
/-- a slot forgotten -/
theorem Rl.forget (r : Rl K T c σ H ρ Γ) (i : Nat) (h : ∀ s, ρ[i]? = some s → s.pinned = false) : Rl K T c (σ.set i none) H (ρ.set i .em) Γ := by
  obtain ⟨W, r⟩ := r
  refine ⟨W, by rw [List.length_set, List.length_set]; exact r.len, fun j s hs => ?_, r.gm, r.keep, r.there, r.wnew, r.wmut, r.live, r.apart, r.good⟩
  by_cases e : j = i
  · subst e
    by_cases hj : j < ρ.length
    · rw [List.getElem?_set_self hj] at hs
      cases hs
      trivial
    · rw [List.getElem?_eq_none (by rw [List.length_set]; omega)] at hs
      cases hs
  · rw [List.getElem?_set_ne (Ne.symm e)] at hs
    rw [List.getElem?_set_ne (Ne.symm e)]
    exact r.sl j s hs
/-- .. and kept beside -/
theorem Rl.save (r : Rl K T c σ H ρ Γ) {i : Nat} {d : D} (h : ρ[i]? = some (.im d)) : ∃ v, σ[i]? = some (some v) ∧ Rl K T c (σ.set i none) H (ρ.set i .em) ((v, .im d) :: Γ) := by
  obtain ⟨v, e, r1⟩ := r.var h
  exact ⟨v, e, r1.forget i fun s hs => by rw [h] at hs; cases hs; rfl⟩
end
end RK
set_option Elab.async false
set_option linter.all false
set_option maxRecDepth 100000
set_option maxHeartbeats 4000000
/-! RkC: results of mirrors, what a reading does by a mirror, the small rules. -/
namespace RK
open PySem PySem.Spec PyProof.Rows L2

inductive ER where
  | ok : D → Env → ER
  | raise : Str → ER
  | fail : ER
inductive BR where
  | ok : Bool → Env → BR
  | raise : Str → BR
  | fail : BR
inductive AR where
  | ok : List D → Env → AR
  | raise : Str → AR
  | fail : AR
inductive SR where
  | next : Env → SR
  | ret : D → Env → SR
  | retO : D → Env → SR
  | brk : Env → SR
  | cont : Env → SR
  | raise : Str → SR
  | fail : SR
inductive DR where
  | ok : D → DR
  | okO : D → DR
  | raise : Str → DR
  | fail : DR
abbrev ME := Env → ER
abbrev MB := Env → BR
abbrev MA := Env → AR
abbrev MS := Env → SR

structure Rx (T : Tabl) (c : Cfg) (H : Hp) : Prop where
  keep : ∀ a o, ¬ c.I a → c.H0 a = some o → Nt o → H a = some o
  there : ∀ a, c.H0 a ≠ none → H a ≠ none
  good : Gd T H
abbrev fldN : Str := "name"
def RsOk (T : Tabl) (c : Cfg) (B : Addr) (E : XK) (nm : Str) : Prop := ∀ dd H', Rx T c H' → H' dd = some (.xd [(fldN, .str nm)]) → E (.ref B) (some dd) H'

section
variable {K : PySem.W.Frag} {T : Tabl} {c : Cfg} {σ : L2.St} {H H' : Hp} {ρ : Env} {Γ Γ' G P : Gam}
theorem Rl.rx (r : Rl K T c σ H ρ Γ) : Rx T c H := by
  obtain ⟨W, r⟩ := r
  exact ⟨r.keep, r.there, r.good⟩
theorem Rx.grow (r : Rx T c H) (g : Grow T H H') : Rx T c H' := ⟨fun a o h1 h2 h3 => g.keep a o (r.keep a o h1 h2 h3) h3, fun a h => g.there a (r.there a h), g.good⟩

def AllIm : Gam → Prop
  | [] => True
  | (_, .im _) :: g => AllIm g
  | _ :: _ => False
theorem Rl.drop (G : Gam) (r : Rl K T c σ H ρ (G ++ Γ)) : Rl K T c σ H ρ Γ := by
  induction G with
  | nil => exact r
  | cons p g ih => exact ih r.pop
theorem gam_split {W : WM} : ∀ {G : Gam}, GamOk K H c W (G ++ Γ) → GamOk K H c W Γ
  | [], h => h
  | (v, s) :: g, h => gam_split (G := g) h.2
theorem gam_cut {W : WM} : ∀ {P : Gam}, AllIm P → GamOk K H c W (P ++ (G ++ Γ)) → GamOk K H c W (P ++ Γ)
  | [], _, h => gam_split h
  | (v, .im d) :: g, hp, h => ⟨h.1, gam_cut (P := g) hp h.2⟩
theorem Rl.cut (P G : Gam) (hP : AllIm P) (r : Rl K T c σ H ρ (P ++ (G ++ Γ))) : Rl K T c σ H ρ (P ++ Γ) := by
  obtain ⟨W, r⟩ := r
  exact ⟨W, r.len, r.sl, gam_cut hP r.gm, r.keep, r.there, r.wnew, r.wmut, r.live, r.apart, r.good⟩
theorem Rl.cut1 {p : V × Sl} {v : V} {d : D} (r : Rl K T c σ H ρ ((v, .im d) :: p :: Γ)) : Rl K T c σ H ρ ((v, .im d) :: Γ) := r.cut [(v, .im d)] [p] trivial
theorem Rl.cut2 {p q : V × Sl} {v : V} {d : D} (r : Rl K T c σ H ρ ((v, .im d) :: p :: q :: Γ)) : Rl K T c σ H ρ ((v, .im d) :: Γ) := r.cut [(v, .im d)] [p, q] trivial
/-- values beside: the last one at the head -/
def gz : List V → List D → Gam
  | v :: vs, d :: ds => gz vs ds ++ [(v, .im d)]
  | _, _ => []
theorem gz_im : ∀ {vs : List V} {ds : List D}, AllIm (gz vs ds)
  | [], _ => by unfold gz; trivial
  | _ :: _, [] => by unfold gz; trivial
  | v :: vs, d :: ds => by
    unfold gz
    have ih := gz_im (vs := vs) (ds := ds)
    generalize gz vs ds = g at ih
    induction g with
    | nil => trivial
    | cons p g i2 =>
      obtain ⟨w, s⟩ := p
      cases s with
      | im _ => exact i2 ih
      | em => exact ih.elim
      | ow _ => exact ih.elim
      | pw _ => exact ih.elim
theorem imm_app {L : Exc} : ∀ {G : Gam}, Imm K H L (G ++ Γ) → Imm K H L G ∧ Imm K H L Γ
  | [], h => ⟨trivial, h⟩
  | (v, .im d) :: g, h => ⟨⟨h.1, (imm_app (G := g) h.2).1⟩, (imm_app (G := g) h.2).2⟩
  | (v, .em) :: g, h => imm_app (G := g) h
  | (v, .ow d) :: g, h => imm_app (G := g) h
  | (v, .pw d) :: g, h => imm_app (G := g) h
theorem imm_gz {K : PySem.W.Frag} {H : Hp} {L : Exc} : ∀ {vs : List V} {ds : List D} {Γ : Gam}, vs.length = ds.length → Imm K H L (gz vs ds ++ Γ) → Reps K H L ds vs ∧ Imm K H L Γ
  | [], [], _, _, h => ⟨Reps.nil, h⟩
  | [], _ :: _, _, e, _ => by simp at e
  | _ :: _, [], _, e, _ => by simp at e
  | v :: vs, d :: ds, Γ, e, h => by
    unfold gz at h
    rw [List.append_assoc] at h
    obtain ⟨h1, h2⟩ := imm_gz (vs := vs) (ds := ds) (Γ := [(v, .im d)] ++ Γ) (by simpa using e) h
    exact ⟨Reps.cons h2.1 h1, h2.2⟩
end

/-- a reading of an expression, by its mirror -/
structure EvD (X : Cx) (T : Tabl) (B : Addr) (E : XK) (t : TE) (m : ME) : Prop where
  run : ∀ (c : Cfg) (σ : L2.St) (H : Hp) (ρ : Env) (Γ : Gam) (Q : VK), Rl X.K T c σ H ρ Γ → (∀ d ρ' v H', m ρ = .ok d ρ' → Rl X.K T c σ H' ρ' ((v, .im d) :: Γ) → Q v H') →
    (∀ nm, m ρ = .raise nm → RsOk T c B E nm) → m ρ ≠ .fail → t σ H Q
structure EvB (X : Cx) (T : Tabl) (B : Addr) (E : XK) (t : TT) (m : MB) : Prop where
  run : ∀ (c : Cfg) (σ : L2.St) (H : Hp) (ρ : Env) (Γ : Gam) (Q : Bool → Hp → Prop), Rl X.K T c σ H ρ Γ → (∀ b ρ' H', m ρ = .ok b ρ' → Rl X.K T c σ H' ρ' Γ → Q b H') →
    (∀ nm, m ρ = .raise nm → RsOk T c B E nm) → m ρ ≠ .fail → t σ H Q
structure EvA (X : Cx) (T : Tabl) (B : Addr) (E : XK) (t : TA) (m : MA) : Prop where
  run : ∀ (c : Cfg) (σ : L2.St) (H : Hp) (ρ : Env) (Γ : Gam) (Q : List V → Hp → Prop), Rl X.K T c σ H ρ Γ →
    (∀ ds ρ' vs H', m ρ = .ok ds ρ' → vs.length = ds.length → Rl X.K T c σ H' ρ' (gz vs ds ++ Γ) → Q vs H') → (∀ nm, m ρ = .raise nm → RsOk T c B E nm) → m ρ ≠ .fail → t σ H Q
structure EvS (X : Cx) (T : Tabl) (B : Addr) (E : XK) (t : TS) (m : MS) : Prop where
  run : ∀ (c : Cfg) (σ : L2.St) (H : Hp) (ρ : Env) (Γ : Gam) (Z : Ends), Rl X.K T c σ H ρ Γ → (∀ ρ' σ' H', m ρ = .next ρ' → Rl X.K T c σ' H' ρ' Γ → Z.nx σ' H') →
    (∀ d ρ' σ' v H', m ρ = .ret d ρ' → Rl X.K T c σ' H' ρ' ((v, .im d) :: Γ) → Z.rt v H') → (∀ d ρ' σ' v H', m ρ = .retO d ρ' → Rl X.K T c σ' H' ρ' ((v, .ow d) :: Γ) → Z.rt v H') → (∀ ρ' σ' H', m ρ = .brk ρ' → Rl X.K T c σ' H' ρ' Γ → Z.bk σ' H') →
    (∀ ρ' σ' H', m ρ = .cont ρ' → Rl X.K T c σ' H' ρ' Γ → Z.ct σ' H') → (∀ nm, m ρ = .raise nm → RsOk T c B E nm) → m ρ ≠ .fail → t Z σ H

structure EvO (X : Cx) (T : Tabl) (B : Addr) (E : XK) (t : TE) (m : ME) : Prop where
  run : ∀ (c : Cfg) (σ : L2.St) (H : Hp) (ρ : Env) (Γ : Gam) (Q : VK), Rl X.K T c σ H ρ Γ → (∀ d ρ' v H', m ρ = .ok d ρ' → Rl X.K T c σ H' ρ' ((v, .ow d) :: Γ) → Q v H') →
    (∀ nm, m ρ = .raise nm → RsOk T c B E nm) → m ρ ≠ .fail → t σ H Q
theorem EvO.toD {X : Cx} {T : Tabl} {B : Addr} {E : XK} {t : TE} {m : ME} (h : EvO X T B E t m) : EvD X T B E t m := ⟨fun c σ H ρ Γ Q r hq hx hf => h.run c σ H ρ Γ Q r (fun d ρ' v H' e r' => hq d ρ' v H' e r'.relG) hx hf⟩

structure DE (X : Cx) (T : Tabl) (B : Addr) (E : XK) (e : Expr) (m : ME) : Prop where
  ex : ∃ t, PE X e t ∧ EvD X T B E t m
structure DO (X : Cx) (T : Tabl) (B : Addr) (E : XK) (e : Expr) (m : ME) : Prop where
  ex : ∃ t, PE X e t ∧ EvO X T B E t m
theorem DO.toE {X : Cx} {T : Tabl} {B : Addr} {E : XK} {e : Expr} {m : ME} (h : DO X T B E e m) : DE X T B E e m := by
  obtain ⟨t, h1, h2⟩ := h.ex
  exact ⟨t, h1, h2.toD⟩
structure DB (X : Cx) (T : Tabl) (B : Addr) (E : XK) (e : Expr) (m : MB) : Prop where
  ex : ∃ t, PT X e t ∧ EvB X T B E t m
structure DW (X : Cx) (T : Tabl) (B : Addr) (E : XK) (e : Expr) (m : MB) : Prop where
  ex : ∃ t, PW X e t ∧ EvB X T B E t m
def LenA (m : MA) (n : Nat) : Prop := ∀ ρ ds ρ', m ρ = .ok ds ρ' → ds.length = n
structure DA (X : Cx) (T : Tabl) (B : Addr) (E : XK) (es : List Expr) (m : MA) : Prop where
  ex : ∃ t, PA X es t ∧ EvA X T B E t m
  len : LenA m es.length
structure DS (X : Cx) (T : Tabl) (B : Addr) (E : XK) (st : Stmt) (m : MS) : Prop where
  ex : ∃ t, PS X st t ∧ EvS X T B E t m
structure DSs (X : Cx) (T : Tabl) (B : Addr) (E : XK) (st : List Stmt) (m : MS) : Prop where
  ex : ∃ t, PSs X st t ∧ EvS X T B E t m

/-! ### mirrors -/
def mVar (i : Nat) : ME := fun ρ => match ρ[i]? with
  | some (.im d) => .ok d ρ
  | _ => .fail
def mC (d : D) : ME := fun ρ => .ok d ρ
def mBin (f : D → D → Option D) (a b : ME) : ME := fun ρ => match a ρ with
  | .ok x ρ1 => (match b ρ1 with
    | .ok y ρ2 => (match f x y with
      | some z => .ok z ρ2
      | none => .fail)
    | .raise s => .raise s
    | .fail => .fail)
  | .raise s => .raise s
  | .fail => .fail
def mUn (f : D → Option D) (a : ME) : ME := fun ρ => match a ρ with
  | .ok x ρ1 => (match f x with
    | some z => .ok z ρ1
    | none => .fail)
  | .raise s => .raise s
  | .fail => .fail
def mNil : MA := fun ρ => .ok [] ρ
def mCons (a : ME) (r : MA) : MA := fun ρ => match a ρ with
  | .ok x ρ1 => (match r ρ1 with
    | .ok xs ρ2 => .ok (x :: xs) ρ2
    | .raise s => .raise s
    | .fail => .fail)
  | .raise s => .raise s
  | .fail => .fail
def mFn (f : List D → Option D) (a : MA) : ME := fun ρ => match a ρ with
  | .ok xs ρ1 => (match f xs with
    | some z => .ok z ρ1
    | none => .fail)
  | .raise s => .raise s
  | .fail => .fail
def mTst (a : ME) : MB := fun ρ => match a ρ with
  | .ok (.bl b) ρ1 => .ok b ρ1
  | .raise s => .raise s
  | _ => .fail
def mVal (a : MB) : ME := fun ρ => match a ρ with
  | .ok b ρ1 => .ok (.bl b) ρ1
  | .raise s => .raise s
  | .fail => .fail
def mNotB (a : MB) : MB := fun ρ => match a ρ with
  | .ok b ρ1 => .ok (!b) ρ1
  | .raise s => .raise s
  | .fail => .fail
def mAndB (a b : MB) : MB := fun ρ => match a ρ with
  | .ok true ρ1 => b ρ1
  | .ok false ρ1 => .ok false ρ1
  | .raise s => .raise s
  | .fail => .fail
def mOrB (a b : MB) : MB := fun ρ => match a ρ with
  | .ok true ρ1 => .ok true ρ1
  | .ok false ρ1 => b ρ1
  | .raise s => .raise s
  | .fail => .fail
def mIfE (t : MB) (a b : ME) : ME := fun ρ => match t ρ with
  | .ok true ρ1 => a ρ1
  | .ok false ρ1 => b ρ1
  | .raise s => .raise s
  | .fail => .fail
/-- a < b < c and its kin: the middle asked once -/
def mChn (f g : D → D → Option Bool) (a b k : ME) : ME := fun ρ => match a ρ with
  | .ok x ρ1 => (match b ρ1 with
    | .ok y ρ2 => (match f x y with
      | some true => (match k ρ2 with
        | .ok z ρ3 => (match g y z with
          | some r => .ok (.bl r) ρ3
          | none => .fail)
        | .raise s => .raise s
        | .fail => .fail)
      | some false => .ok (.bl false) ρ2
      | none => .fail)
    | .raise s => .raise s
    | .fail => .fail)
  | .raise s => .raise s
  | .fail => .fail

section
variable {X : Cx} {T : Tabl} {B : Addr} {E : XK} {a b k e : Expr} {es : List Expr} {ma mb mk : ME} {mt mu : MB} {mr : MA} {pos : Pos} {ta tb tc : TE}

theorem ev_var {i : Nat} : EvD X T B E (tVar i) (mVar i) := ⟨fun c σ H ρ Γ Q r h hx hf => by
  unfold mVar at h hx hf
  cases e : ρ[i]? with
  | none => rw [e] at hf; exact absurd rfl hf
  | some s =>
    cases s with
    | im d =>
      rw [e] at h
      obtain ⟨v, ev, r'⟩ := r.var e
      exact ⟨v, ev, h d ρ v H rfl r'⟩
    | em => rw [e] at hf; exact absurd rfl hf
    | ow _ => rw [e] at hf; exact absurd rfl hf
    | pw _ => rw [e] at hf; exact absurd rfl hf⟩
/-- what a scalar is worth, whatever the heap -/
def Scl (d : D) (v : V) : Prop := ∀ (K : PySem.W.Frag) (H : Hp) (L : Exc), Rep K H L d v
theorem scl_int (i : Int) : Scl (.int i) (.int i) := fun _ _ _ => by unfold Rep; rfl
theorem scl_bl (i : Bool) : Scl (.bl i) (.bl i) := fun _ _ _ => by unfold Rep; rfl
theorem scl_str (i : Str) : Scl (.str i) (.str i) := fun _ _ _ => by unfold Rep; rfl
theorem scl_non : Scl .non .non := fun _ _ _ => by unfold Rep; rfl
theorem ev_c {v : V} {d : D} (s : Scl d v) : EvD X T B E (tC v) (mC d) := ⟨fun c σ H ρ Γ Q r h hx hf => h d ρ v H rfl (r.add fun L _ => s _ _ _)⟩

/-- a two-place operation on values, by a function on trees -/
def PureR2 (K : PySem.W.Frag) (r : R2) (f : D → D → Option D) : Prop := ∀ (T : Tabl) (c : Cfg) (σ : L2.St) (H : Hp) (ρ : Env) (Γ : Gam) (v w : V) (d e z : D) (Q : VK), Rl K T c σ H ρ ((w, .im e) :: (v, .im d) :: Γ) → f d e = some z →
  (∀ u H', Rl K T c σ H' ρ ((u, .im z) :: (w, .im e) :: (v, .im d) :: Γ) → Q u H') → r v w H Q
def PureU (K : PySem.W.Frag) (r : V → Hp → VK → Prop) (f : D → Option D) : Prop := ∀ (T : Tabl) (c : Cfg) (σ : L2.St) (H : Hp) (ρ : Env) (Γ : Gam) (v : V) (d z : D) (Q : VK), Rl K T c σ H ρ ((v, .im d) :: Γ) → f d = some z →
  (∀ u H', Rl K T c σ H' ρ ((u, .im z) :: (v, .im d) :: Γ) → Q u H') → r v H Q
def PureC (K : PySem.W.Frag) (r : List V → Hp → VK → Prop) (f : List D → Option D) : Prop := ∀ (T : Tabl) (c : Cfg) (σ : L2.St) (H : Hp) (ρ : Env) (Γ : Gam) (vs : List V) (ds : List D) (z : D) (Q : VK), vs.length = ds.length → Rl K T c σ H ρ (gz vs ds ++ Γ) → f ds = some z →
  (∀ u H', Rl K T c σ H' ρ ((u, .im z) :: (gz vs ds ++ Γ)) → Q u H') → r vs H Q

theorem ev_op {r : R2} {f : D → D → Option D} (hr : PureR2 X.K r f) (ha : EvD X T B E ta ma) (hb : EvD X T B E tb mb) : EvD X T B E (tOp r ta tb) (mBin f ma mb) := ⟨fun c σ H ρ Γ Q r0 h hx hf => by
  unfold mBin at h hx hf
  refine ha.run c σ H ρ Γ _ r0 (fun x ρ1 v H1 e1 r1 => ?_) (fun nm e1 => ?_) fun e1 => ?_
  · rw [e1] at h hx hf
    refine hb.run c σ H1 ρ1 _ _ r1 (fun y ρ2 w H2 e2 r2 => ?_) (fun nm e2 => ?_) fun e2 => ?_
    · simp only [e2] at h hx hf
      cases ef : f x y with
      | none => rw [ef] at hf; exact absurd rfl hf
      | some z =>
        rw [ef] at h
        exact hr T c σ H2 ρ2 Γ v w x y z Q r2 ef fun u H' r3 => h z ρ2 u H' rfl r3.cut2
    · simp only [e2] at hx; exact hx nm rfl
    · simp only [e2] at hf; exact hf rfl
  · rw [e1] at hx; exact hx nm rfl
  · rw [e1] at hf; exact hf rfl⟩
theorem ev_un {r : V → Hp → VK → Prop} {f : D → Option D} (hr : PureU X.K r f) (ha : EvD X T B E ta ma) : EvD X T B E (tUn r ta) (mUn f ma) := ⟨fun c σ H ρ Γ Q r0 h hx hf => by
  unfold mUn at h hx hf
  refine ha.run c σ H ρ Γ _ r0 (fun x ρ1 v H1 e1 r1 => ?_) (fun nm e1 => ?_) fun e1 => ?_
  · rw [e1] at h hx hf
    cases ef : f x with
    | none => simp only [ef] at hf; exact absurd rfl hf
    | some z =>
      simp only [ef] at h
      exact hr T c σ H1 ρ1 Γ v x z Q r1 ef fun u H' r3 => h z ρ1 u H' rfl r3.cut1
  · rw [e1] at hx; exact hx nm rfl
  · rw [e1] at hf; exact hf rfl⟩
theorem eva_nil : EvA X T B E tNil mNil := ⟨fun c σ H ρ Γ Q r h hx hf => h [] ρ [] H rfl rfl r⟩
theorem eva_cons {t : TA} (ha : EvD X T B E ta ma) (hr : EvA X T B E t mr) : EvA X T B E (tCons ta t) (mCons ma mr) := ⟨fun c σ H ρ Γ Q r0 h hx hf => by
  unfold mCons at h hx hf
  refine ha.run c σ H ρ Γ _ r0 (fun x ρ1 v H1 e1 r1 => ?_) (fun nm e1 => ?_) fun e1 => ?_
  · rw [e1] at h hx hf
    refine hr.run c σ H1 ρ1 _ _ r1 (fun ds ρ2 vs H2 e2 hl r2 => ?_) (fun nm e2 => ?_) fun e2 => ?_
    · simp only [e2] at h
      refine h (x :: ds) ρ2 (v :: vs) H2 rfl (by simp [hl]) ?_
      unfold gz
      rw [List.append_assoc]
      exact r2
    · simp only [e2] at hx; exact hx nm rfl
    · simp only [e2] at hf; exact hf rfl
  · rw [e1] at hx; exact hx nm rfl
  · rw [e1] at hf; exact hf rfl⟩
theorem ev_cb {r : List V → Hp → VK → Prop} {f : List D → Option D} {t : TA} (hr : PureC X.K r f) (ha : EvA X T B E t mr) : EvD X T B E (tCB r t) (mFn f mr) := ⟨fun c σ H ρ Γ Q r0 h hx hf => by
  unfold mFn at h hx hf
  refine ha.run c σ H ρ Γ _ r0 (fun xs ρ1 vs H1 e1 hl r1 => ?_) (fun nm e1 => ?_) fun e1 => ?_
  · simp only [e1] at h hf
    cases ef : f xs with
    | none => simp only [ef] at hf; exact absurd rfl hf
    | some z =>
      simp only [ef] at h
      refine hr T c σ H1 ρ1 Γ vs xs z Q hl r1 ef fun u H' r3 => h z ρ1 u H' rfl (r3.cut [(u, .im z)] (gz vs xs) trivial)
  · simp only [e1] at hx; exact hx nm rfl
  · simp only [e1] at hf; exact hf rfl⟩

/-! ### tests -/
theorem evb_tst {t : TE} (h : EvD X T B E t ma) : EvB X T B E (tB t) (mTst ma) := ⟨fun c σ H ρ Γ Q r0 hq hx hf => by
  unfold mTst at hq hx hf
  refine h.run c σ H ρ Γ _ r0 (fun x ρ1 v H1 e1 r1 => ?_) (fun nm e1 => ?_) fun e1 => ?_
  · rw [e1] at hq hx hf
    cases x with
    | bl b =>
      obtain ⟨L, hi, _⟩ := r1.imm
      have e := hi.1
      unfold Rep at e
      exact ⟨b, e, hq b ρ1 H1 rfl r1.pop⟩
    | _ => exact absurd rfl hf
  · rw [e1] at hx; exact hx nm rfl
  · rw [e1] at hf; exact hf rfl⟩
theorem evb_tst' {t : TE} (h : EvD X T B E t ma) : EvB X T B E (tTest t) (mTst ma) := evb_tst h
theorem evb_not {t : TT} (h : EvB X T B E t mt) : EvB X T B E (tNot t) (mNotB mt) := ⟨fun c σ H ρ Γ Q r0 hq hx hf => by
  unfold mNotB at hq hx hf
  refine h.run c σ H ρ Γ _ r0 (fun x ρ1 H1 e1 r1 => ?_) (fun nm e1 => ?_) fun e1 => ?_
  · rw [e1] at hq; exact hq _ ρ1 H1 rfl r1
  · rw [e1] at hx; exact hx nm rfl
  · rw [e1] at hf; exact hf rfl⟩
theorem evb_and {t u : TT} (h : EvB X T B E t mt) (hu : EvB X T B E u mu) : EvB X T B E (tAnd t u) (mAndB mt mu) := ⟨fun c σ H ρ Γ Q r0 hq hx hf => by
  unfold mAndB at hq hx hf
  refine h.run c σ H ρ Γ _ r0 (fun x ρ1 H1 e1 r1 => ?_) (fun nm e1 => ?_) fun e1 => ?_
  · rw [e1] at hq hx hf
    cases x with
    | true => rw [if_pos rfl]; exact hu.run c σ H1 ρ1 Γ Q r1 hq hx hf
    | false => rw [if_neg Bool.false_ne_true]; exact hq false ρ1 H1 rfl r1
  · rw [e1] at hx; exact hx nm rfl
  · rw [e1] at hf; exact hf rfl⟩
theorem evb_or {t u : TT} (h : EvB X T B E t mt) (hu : EvB X T B E u mu) : EvB X T B E (tOr t u) (mOrB mt mu) := ⟨fun c σ H ρ Γ Q r0 hq hx hf => by
  unfold mOrB at hq hx hf
  refine h.run c σ H ρ Γ _ r0 (fun x ρ1 H1 e1 r1 => ?_) (fun nm e1 => ?_) fun e1 => ?_
  · rw [e1] at hq hx hf
    cases x with
    | true => rw [if_pos rfl]; exact hq true ρ1 H1 rfl r1
    | false => rw [if_neg Bool.false_ne_true]; exact hu.run c σ H1 ρ1 Γ Q r1 hq hx hf
  · rw [e1] at hx; exact hx nm rfl
  · rw [e1] at hf; exact hf rfl⟩
theorem ev_andV {ta tb : TE} (h : EvD X T B E ta ma) (hu : EvD X T B E tb mb) : EvD X T B E (tAndV ta tb) (mVal (mAndB (mTst ma) (mTst mb))) := ⟨fun c σ H ρ Γ Q r0 hq hx hf => by
  unfold mVal mAndB mTst at hq hx hf
  refine h.run c σ H ρ Γ _ r0 (fun x ρ1 v H1 e1 r1 => ?_) (fun nm e1 => ?_) fun e1 => ?_
  · simp only [e1] at hq hx hf
    cases x with
    | bl b =>
      obtain ⟨L, hi, _⟩ := r1.imm
      have e := hi.1
      unfold Rep at e
      refine ⟨b, e, ?_⟩
      cases b with
      | true =>
        rw [if_pos rfl]
        refine hu.run c σ H1 ρ1 Γ Q r1.pop (fun y ρ2 w H2 e2 r2 => ?_) (fun nm e2 => ?_) fun e2 => ?_
        · simp only [e2] at hq hx hf
          cases y with
          | bl b2 => exact hq _ ρ2 w H2 rfl r2
          | _ => exact absurd rfl hf
        · simp only [e2] at hx; exact hx nm rfl
        · simp only [e2] at hf; exact hf rfl
      | false =>
        rw [if_neg Bool.false_ne_true]
        exact hq _ ρ1 _ H1 rfl (r1.pop.add fun L _ => scl_bl _ _ _ _)
    | _ => exact absurd rfl hf
  · simp only [e1] at hx; exact hx nm rfl
  · simp only [e1] at hf; exact hf rfl⟩
theorem ev_orV {ta tb : TE} (h : EvD X T B E ta ma) (hu : EvD X T B E tb mb) : EvD X T B E (tOrV ta tb) (mVal (mOrB (mTst ma) (mTst mb))) := ⟨fun c σ H ρ Γ Q r0 hq hx hf => by
  unfold mVal mOrB mTst at hq hx hf
  refine h.run c σ H ρ Γ _ r0 (fun x ρ1 v H1 e1 r1 => ?_) (fun nm e1 => ?_) fun e1 => ?_
  · simp only [e1] at hq hx hf
    cases x with
    | bl b =>
      obtain ⟨L, hi, _⟩ := r1.imm
      have e := hi.1
      unfold Rep at e
      refine ⟨b, e, ?_⟩
      cases b with
      | true =>
        rw [if_pos rfl]
        exact hq _ ρ1 _ H1 rfl (r1.pop.add fun L _ => scl_bl _ _ _ _)
      | false =>
        rw [if_neg Bool.false_ne_true]
        refine hu.run c σ H1 ρ1 Γ Q r1.pop (fun y ρ2 w H2 e2 r2 => ?_) (fun nm e2 => ?_) fun e2 => ?_
        · simp only [e2] at hq hx hf
          cases y with
          | bl b2 => exact hq _ ρ2 w H2 rfl r2
          | _ => exact absurd rfl hf
        · simp only [e2] at hx; exact hx nm rfl
        · simp only [e2] at hf; exact hf rfl
    | _ => exact absurd rfl hf
  · simp only [e1] at hx; exact hx nm rfl
  · simp only [e1] at hf; exact hf rfl⟩
theorem ev_notV {ta : TE} (h : EvD X T B E ta ma) : EvD X T B E (tNotV ta) (mVal (mNotB (mTst ma))) := ⟨fun c σ H ρ Γ Q r0 hq hx hf => by
  unfold mVal mNotB mTst at hq hx hf
  refine h.run c σ H ρ Γ _ r0 (fun x ρ1 v H1 e1 r1 => ?_) (fun nm e1 => ?_) fun e1 => ?_
  · simp only [e1] at hq hx hf
    cases x with
    | bl b =>
      obtain ⟨L, hi, _⟩ := r1.imm
      have e := hi.1
      unfold Rep at e
      exact ⟨b, e, hq _ ρ1 _ H1 rfl (r1.pop.add fun L _ => scl_bl _ _ _ _)⟩
    | _ => exact absurd rfl hf
  · simp only [e1] at hx; exact hx nm rfl
  · simp only [e1] at hf; exact hf rfl⟩
theorem ev_ifE {t : TT} {ta tb : TE} (h : EvB X T B E t mt) (ha : EvD X T B E ta ma) (hb : EvD X T B E tb mb) : EvD X T B E (tIf t ta tb) (mIfE mt ma mb) := ⟨fun c σ H ρ Γ Q r0 hq hx hf => by
  unfold mIfE at hq hx hf
  refine h.run c σ H ρ Γ _ r0 (fun x ρ1 H1 e1 r1 => ?_) (fun nm e1 => ?_) fun e1 => ?_
  · rw [e1] at hq hx hf
    cases x with
    | true => rw [if_pos rfl]; exact ha.run c σ H1 ρ1 Γ Q r1 hq hx hf
    | false => rw [if_neg Bool.false_ne_true]; exact hb.run c σ H1 ρ1 Γ Q r1 hq hx hf
  · rw [e1] at hx; exact hx nm rfl
  · rw [e1] at hf; exact hf rfl⟩
def bO (f : D → D → Option Bool) : D → D → Option D := fun x y => (f x y).map D.bl
theorem ev_chn {r r' : R2} {f g : D → D → Option Bool} (hr : PureR2 X.K r (bO f)) (hr' : PureR2 X.K r' (bO g)) (ha : EvD X T B E ta ma) (hb : EvD X T B E tb mb) (hc : EvD X T B E tc mk) : EvD X T B E (tChain r r' ta tb tc) (mChn f g ma mb mk) := ⟨fun c σ H ρ Γ Q r0 h hx hf => by
  unfold mChn at h hx hf
  refine ha.run c σ H ρ Γ _ r0 (fun x ρ1 v H1 e1 r1 => ?_) (fun nm e1 => ?_) fun e1 => ?_
  · simp only [e1] at h hx hf
    refine hb.run c σ H1 ρ1 _ _ r1 (fun y ρ2 w H2 e2 r2 => ?_) (fun nm e2 => ?_) fun e2 => ?_
    · simp only [e2] at h hx hf
      cases ef : f x y with
      | none => simp only [ef] at hf; exact absurd rfl hf
      | some bb =>
        simp only [ef] at h hx hf
        refine hr T c σ H2 ρ2 Γ v w x y (.bl bb) _ r2 (by simp [bO, ef]) fun u H3 r3 => ?_
        obtain ⟨L, hi, _⟩ := r3.imm
        have eu := hi.1
        unfold Rep at eu
        refine ⟨bb, eu, ?_⟩
        cases bb with
        | false =>
          rw [if_neg Bool.false_ne_true]
          exact h _ ρ2 _ H3 rfl (r3.pop.pop.pop.add fun L _ => scl_bl _ _ _ _)
        | true =>
          rw [if_pos rfl]
          refine hc.run c σ H3 ρ2 _ _ r3.pop (fun z ρ3 w2 H4 e3 r4 => ?_) (fun nm e3 => ?_) fun e3 => ?_
          · simp only [e3] at h hx hf
            cases eg : g y z with
            | none => simp only [eg] at hf; exact absurd rfl hf
            | some rr =>
              simp only [eg] at h
              refine hr' T c σ H4 ρ3 _ w w2 y z (.bl rr) Q r4 (by simp [bO, eg]) fun u5 H5 r5 => ?_
              exact h _ ρ3 u5 H5 rfl (r5.cut [(u5, .im (.bl rr))] [(w2, .im z), (w, .im y), (v, .im x)] trivial)
          · simp only [e3] at hx; exact hx nm rfl
          · simp only [e3] at hf; exact hf rfl
    · simp only [e2] at hx; exact hx nm rfl
    · simp only [e2] at hf; exact hf rfl
  · simp only [e1] at hx; exact hx nm rfl
  · simp only [e1] at hf; exact hf rfl⟩
end
end RK
set_option Elab.async false
set_option linter.all false
set_option maxRecDepth 100000
set_option maxHeartbeats 4000000
/-! RkD: operations on trees. -/
namespace RK
open PySem PySem.Spec PyProof.Rows L2

/-! ### trees as data -/
mutual
def toP : D → PyData
  | .non => .none
  | .bl b => .bool b
  | .int i => .int i
  | .str s => .str s
  | .tup ds => .tuple (toPs ds)
  | .lst ds => .list (toPs ds)
  | .dct _ _ => .none
  | .scr _ => .none
def toPs : List D → List PyData
  | [] => []
  | d :: ds => toP d :: toPs ds
end
mutual
def dLay : D → Bool
  | .non => true
  | .bl _ => true
  | .int _ => true
  | .str s => PyData.canLay0 (.str s)
  | .tup ds => dLays ds
  | .lst ds => dLays ds
  | .dct _ _ => false
  | .scr _ => false
def dLays : List D → Bool
  | [] => true
  | d :: ds => dLay d && dLays ds
end
mutual
def dDep : D → Nat
  | .tup ds => dDeps ds + 1
  | .lst ds => dDeps ds + 1
  | _ => 0
def dDeps : List D → Nat
  | [] => 0
  | d :: ds => max (dDep d) (dDeps ds)
end
mutual
theorem lay_can : ∀ d : D, dLay d = true → (toP d).canLay0 = true
  | .non, _ => rfl
  | .bl _, _ => rfl
  | .int _, _ => rfl
  | .str s, h => h
  | .tup ds, h => lays_can ds h
  | .lst ds, h => lays_can ds h
  | .dct _ _, h => rfl
  | .scr _, h => rfl
theorem lays_can : ∀ ds : List D, dLays ds = true → PyData.canLayAll0 (toPs ds) = true
  | [], _ => rfl
  | d :: ds, h => by
    unfold dLays at h
    rw [Bool.and_eq_true] at h
    unfold toPs PyData.canLayAll0
    rw [lay_can d h.1, lays_can ds h.2]; rfl
end
mutual
theorem dep_le : ∀ d : D, (toP d).depth ≤ dDep d
  | .non => Nat.le_refl _
  | .bl _ => Nat.le_refl _
  | .int _ => Nat.le_refl _
  | .str s => Nat.le_refl _
  | .tup ds => by unfold toP dDep PyData.depth; exact Nat.succ_le_succ (deps_le ds)
  | .lst ds => by unfold toP dDep PyData.depth; exact Nat.succ_le_succ (deps_le ds)
  | .dct _ _ => Nat.le_refl _
  | .scr _ => Nat.le_refl _
theorem deps_le : ∀ ds : List D, PyData.depthAll (toPs ds) ≤ dDeps ds
  | [] => Nat.le_refl _
  | d :: ds => by
    unfold toPs dDeps PyData.depthAll
    have h1 := dep_le d
    have h2 := deps_le ds
    omega
end
def eqOk (d : D) : Bool := dLay d && decide (dDep d ≤ 64)
theorem eqOk_shaped {d : D} (h : eqOk d = true) : SeqAt.shaped (toP d) = true := by
  unfold eqOk at h
  rw [Bool.and_eq_true, decide_eq_true_eq] at h
  unfold SeqAt.shaped
  rw [Bool.and_eq_true, decide_eq_true_eq]
  exact ⟨lay_can d h.1, Nat.le_trans (dep_le d) h.2⟩
section
variable {K : PySem.W.Frag} {H : Hp} {L : Exc}
mutual
theorem rep_dp : ∀ (d : D) (v : V), dLay d = true → Rep K H L d v → Dp K H v (toP d)
  | .non, v, _, h => by unfold Rep at h; subst h; exact .non
  | .bl b, v, _, h => by unfold Rep at h; subst h; exact .bl b
  | .int b, v, _, h => by unfold Rep at h; subst h; exact .int b
  | .str b, v, _, h => by unfold Rep at h; subst h; exact .str b
  | .tup ds, v, l, h => by
    unfold Rep at h
    obtain ⟨a, xs, rfl, ⟨h1, _⟩, h2⟩ := h
    exact .tup (.inl (.inl h1)) (reps_dp ds xs l h2)
  | .lst ds, v, l, h => by
    unfold Rep at h
    obtain ⟨a, xs, rfl, ⟨h1, _⟩, h2⟩ := h
    exact .lst (.inl (.inl h1)) (reps_dp ds xs l h2)
  | .dct _ _, v, l, h => by cases l
  | .scr _, v, l, h => by cases l
theorem reps_dp : ∀ (ds : List D) (vs : List V), dLays ds = true → Reps K H L ds vs → DpAll K H vs (toPs ds)
  | [], vs, _, h => by unfold Reps at h; subst h; exact .nil
  | d :: ds, vs, l, h => by
    unfold dLays at l
    rw [Bool.and_eq_true] at l
    unfold Reps at h
    obtain ⟨v, r, rfl, h1, h2⟩ := h
    exact .cons (rep_dp d v l.1 h1) (reps_dp ds r l.2 h2)
end
end
def dEqv (x y : D) : Bool := PyData.eqv (toP x) (toP y)
def dEqvs (x y : List D) : Bool := PyData.eqvAll (toPs x) (toPs y)
def dEq (x y : D) : Option Bool := if (eqOk x && eqOk y) = true then some (dEqv x y) else none
def dNe (x y : D) : Option Bool := (dEq x y).map (!·)

/-! ### ways to give a rule -/
section
variable {K : PySem.W.Frag}
theorem pure2_of {r : R2} {f : D → D → Option D} (h : ∀ (H : Hp) (L : Exc) (v w : V) (d e z : D), Rep K H L d v → Rep K H L e w → f d e = some z → ∃ u, (∀ L', Rep K H L' d v → Rep K H L' e w → Rep K H L' z u) ∧ ∀ Q : VK, Q u H → r v w H Q) : PureR2 K r f := by
  intro T c σ H ρ Γ v w d e z Q r0 hf hq
  obtain ⟨L, hi, _⟩ := r0.imm
  obtain ⟨u, h1, h2⟩ := h H L v w d e z hi.2.1 hi.1 hf
  exact h2 Q (hq u H (r0.add fun L' hi' => h1 L' hi'.2.1 hi'.1))
theorem pureU_of {r : V → Hp → VK → Prop} {f : D → Option D} (h : ∀ (H : Hp) (L : Exc) (v : V) (d z : D), Rep K H L d v → f d = some z → ∃ u, (∀ L', Rep K H L' d v → Rep K H L' z u) ∧ ∀ Q : VK, Q u H → r v H Q) : PureU K r f := by
  intro T c σ H ρ Γ v d z Q r0 hf hq
  obtain ⟨L, hi, _⟩ := r0.imm
  obtain ⟨u, h1, h2⟩ := h H L v d z hi.1 hf
  exact h2 Q (hq u H (r0.add fun L' hi' => h1 L' hi'.1))
theorem pureC_of {r : List V → Hp → VK → Prop} {f : List D → Option D} (h : ∀ (H : Hp) (L : Exc) (vs : List V) (ds : List D) (z : D), Reps K H L ds vs → f ds = some z → ∃ u, (∀ L', Reps K H L' ds vs → Rep K H L' z u) ∧ ∀ Q : VK, Q u H → r vs H Q) : PureC K r f := by
  intro T c σ H ρ Γ vs ds z Q hl r0 hf hq
  obtain ⟨L, hi, _⟩ := r0.imm
  obtain ⟨u, h1, h2⟩ := h H L vs ds z (imm_gz hl hi).1 hf
  exact h2 Q (hq u H (r0.add fun L' hi' => h1 L' (imm_gz hl hi').1))
/-- .. whose result is a scalar -/
def PureS (K : PySem.W.Frag) (r : List V → Hp → VK → Prop) (f : List D → Option D) : Prop := ∀ (H : Hp) (L : Exc) (vs : List V) (ds : List D) (z : D), Reps K H L ds vs → f ds = some z → ∃ u, Scl z u ∧ ∀ Q : VK, Q u H → r vs H Q
theorem PureS.c {r : List V → Hp → VK → Prop} {f : List D → Option D} (h : PureS K r f) : PureC K r f := pureC_of fun H L vs ds z h1 h2 => by
  obtain ⟨u, h3, h4⟩ := h H L vs ds z h1 h2
  exact ⟨u, fun L' _ => h3 K H L', h4⟩
def PureS2 (K : PySem.W.Frag) (r : R2) (f : D → D → Option D) : Prop := ∀ (H : Hp) (L : Exc) (v w : V) (d e z : D), Rep K H L d v → Rep K H L e w → f d e = some z → ∃ u, Scl z u ∧ ∀ Q : VK, Q u H → r v w H Q
theorem PureS2.c {r : R2} {f : D → D → Option D} (h : PureS2 K r f) : PureR2 K r f := pure2_of fun H L v w d e z h1 h2 h3 => by
  obtain ⟨u, h4, h5⟩ := h H L v w d e z h1 h2 h3
  exact ⟨u, fun L' _ _ => h4 K H L', h5⟩
/-- .. a new object -/
theorem pureC_new {r : List V → Hp → VK → Prop} {f : List D → Option D} (h : ∀ (H : Hp) (L : Exc) (vs : List V) (ds : List D) (z : D), Reps K H L ds vs → f ds = some z →
    ∃ o, (∀ p L', H p = none → ¬ L' p → Reps K (upd H p o) L' ds vs → Rep K (upd H p o) L' z (.ref p)) ∧ ∀ Q : VK, (∀ p, H p = none → Q (.ref p) (upd H p o)) → r vs H Q) : PureC K r f := by
  intro T c σ H ρ Γ vs ds z Q hl r0 hf hq
  obtain ⟨L, hi, _⟩ := r0.imm
  obtain ⟨o, h1, h2⟩ := h H L vs ds z (imm_gz hl hi).1 hf
  exact h2 Q fun p hp => hq _ _ (r0.alloc hp fun L' n hi' => h1 p L' hp n (imm_gz hl hi').1)
/-- a rule whose result is a new owned list -/
def PureCO (K : PySem.W.Frag) (r : List V → Hp → VK → Prop) (f : List D → Option D) : Prop := ∀ (T : Tabl) (c : Cfg) (σ : L2.St) (H : Hp) (ρ : Env) (Γ : Gam) (vs : List V) (ds : List D) (z : D) (Q : VK), vs.length = ds.length → Rl K T c σ H ρ (gz vs ds ++ Γ) → f ds = some z →
  (∀ u H', Rl K T c σ H' ρ ((u, .ow z) :: (gz vs ds ++ Γ)) → Q u H') → r vs H Q
theorem pureCO_new {r : List V → Hp → VK → Prop} {f : List D → Option D} (h : ∀ (H : Hp) (L : Exc) (vs : List V) (ds : List D) (z : D), Reps K H L ds vs → f ds = some z →
    ∃ o, Mu o ∧ (∀ p L', H p = none → L' p → Reps K (upd H p o) L' ds vs → Own K (upd H p o) L' p z) ∧ ∀ Q : VK, (∀ p, H p = none → Q (.ref p) (upd H p o)) → r vs H Q) : PureCO K r f := by
  intro T c σ H ρ Γ vs ds z Q hl r0 hf hq
  obtain ⟨L, hi, _⟩ := r0.imm
  obtain ⟨o, m, h1, h2⟩ := h H L vs ds z (imm_gz hl hi).1 hf
  exact h2 Q fun p hp => hq _ _ (r0.allocO hp m fun L' n hi' => h1 p L' hp n (imm_gz hl hi').1)
theorem rep_new_tup {H : Hp} {L' : Exc} {p : Addr} {xs : List V} {ds : List D} (n : ¬ L' p) (h : Reps K (upd H p (.tup xs)) L' ds xs) : Rep K (upd H p (.tup xs)) L' (.tup ds) (.ref p) := by
  unfold Rep
  exact ⟨p, xs, rfl, ⟨upd_same, n⟩, h⟩
theorem rep_new_lst {H : Hp} {L' : Exc} {p : Addr} {xs : List V} {ds : List D} (n : ¬ L' p) (h : Reps K (upd H p (.lst xs)) L' ds xs) : Rep K (upd H p (.lst xs)) L' (.lst ds) (.ref p) := by
  unfold Rep
  exact ⟨p, xs, rfl, ⟨upd_same, n⟩, h⟩
theorem own_new_lst {H : Hp} {L' : Exc} {p : Addr} {xs : List V} {ds : List D} (h : Reps K (upd H p (.lst xs)) L' ds xs) : Own K (upd H p (.lst xs)) L' p (.lst ds) := ⟨xs, upd_same, h⟩
theorem rep_int {H : Hp} {L : Exc} {i : Int} {v : V} (h : Rep K H L (.int i) v) : v = .int i := by unfold Rep at h; exact h
theorem rep_bl {H : Hp} {L : Exc} {i : Bool} {v : V} (h : Rep K H L (.bl i) v) : v = .bl i := by unfold Rep at h; exact h
theorem rep_str {H : Hp} {L : Exc} {i : Str} {v : V} (h : Rep K H L (.str i) v) : v = .str i := by unfold Rep at h; exact h
theorem rep_non {H : Hp} {L : Exc} {v : V} (h : Rep K H L .non v) : v = .non := by unfold Rep at h; exact h
theorem rep_tup {H : Hp} {L : Exc} {ds : List D} {v : V} (h : Rep K H L (.tup ds) v) : ∃ a xs, v = .ref a ∧ (H a = some (.tup xs) ∧ ¬ L a) ∧ Reps K H L ds xs := by unfold Rep at h; exact h
theorem rep_lst {H : Hp} {L : Exc} {ds : List D} {v : V} (h : Rep K H L (.lst ds) v) : ∃ a xs, v = .ref a ∧ (H a = some (.lst xs) ∧ ¬ L a) ∧ Reps K H L ds xs := by unfold Rep at h; exact h
theorem rep_scr {H : Hp} {L : Exc} {ns : List Int} {v : V} (h : Rep K H L (.scr ns) v) : ∃ a, v = .ref a ∧ AtL K H L a (ns.map V.int) := by unfold Rep at h; exact h
theorem reps_nil {H : Hp} {L : Exc} {vs : List V} (h : Reps K H L [] vs) : vs = [] := by unfold Reps at h; exact h
theorem reps_cons {H : Hp} {L : Exc} {d : D} {ds : List D} {vs : List V} (h : Reps K H L (d :: ds) vs) : ∃ v r, vs = v :: r ∧ Rep K H L d v ∧ Reps K H L ds r := by unfold Reps at h; exact h
theorem reps_1 {H : Hp} {L : Exc} {d : D} {vs : List V} (h : Reps K H L [d] vs) : ∃ v, vs = [v] ∧ Rep K H L d v := by
  obtain ⟨v, r, rfl, h1, h2⟩ := reps_cons h
  rw [reps_nil h2]
  exact ⟨v, rfl, h1⟩
theorem reps_2 {H : Hp} {L : Exc} {d e : D} {vs : List V} (h : Reps K H L [d, e] vs) : ∃ v w, vs = [v, w] ∧ Rep K H L d v ∧ Rep K H L e w := by
  obtain ⟨v, r, rfl, h1, h2⟩ := reps_cons h
  obtain ⟨w, rfl, h3⟩ := reps_1 h2
  exact ⟨v, w, rfl, h1, h3⟩
theorem sqT_of {H : Hp} {a : Addr} {xs : List V} (h : H a = some (.tup xs)) : SqT K H a xs := .inl (.inl h)
theorem sqL_of {H : Hp} {a : Addr} {xs : List V} (h : H a = some (.lst xs)) : SqL K H a xs := .inl (.inl h)
theorem PureR2.or {r r' : R2} {f f' g : D → D → Option D} (h : PureR2 K r f) (h' : PureR2 K r' f') (hg : ∀ x y z, g x y = some z → f x y = some z ∨ f' x y = some z) : PureR2 K (fun x y H Q => r x y H Q ∨ r' x y H Q) g := by
  intro T c σ H ρ Γ v w d e z Q r0 hf hq
  rcases hg d e z hf with q | q
  · exact .inl (h T c σ H ρ Γ v w d e z Q r0 q hq)
  · exact .inr (h' T c σ H ρ Γ v w d e z Q r0 q hq)

/-! ### ints -/
theorem pure2_I {C : Int → Int → Prop} [∀ i j, Decidable (C i j)] {g : Int → Int → Int} {f : D → D → Option D} (hf : ∀ x y z, f x y = some z → ∃ i j, x = .int i ∧ y = .int j ∧ C i j ∧ z = .int (g i j)) : PureR2 K (rI C fun i j => .int (g i j)) f := pure2_of fun H L v w d e z h1 h2 e1 => by
  obtain ⟨i, j, rfl, rfl, hc, rfl⟩ := hf d e z e1
  have e2 := rep_int h1
  have e3 := rep_int h2
  subst e2 e3
  exact ⟨_, fun _ _ _ => scl_int _ _ _ _, fun Q q => ⟨i, j, rfl, rfl, hc, q⟩⟩
theorem pure2_I0 {g : Int → Int → V} {gd : Int → Int → D} (hs : ∀ i j, Scl (gd i j) (g i j)) {f : D → D → Option D} (hf : ∀ x y z, f x y = some z → ∃ i j, x = .int i ∧ y = .int j ∧ z = gd i j) : PureR2 K (rI0 g) f := pure2_of fun H L v w d e z h1 h2 e1 => by
  obtain ⟨i, j, rfl, rfl, rfl⟩ := hf d e z e1
  have e2 := rep_int h1
  have e3 := rep_int h2
  subst e2 e3
  exact ⟨_, fun _ _ _ => hs _ _ _ _ _, fun Q q => ⟨i, j, rfl, rfl, q⟩⟩
end
instance (i j : Int) : Decidable (CMulW i j) := by unfold CMulW; infer_instance
instance (i j : Int) : Decidable (CDivW i j) := by unfold CDivW; infer_instance
instance (i j : Int) : Decidable (CPow i j) := by unfold CPow; infer_instance

def dSub : D → D → Option D
  | .int i, .int j => some (.int (i - j))
  | _, _ => none
def dDiv : D → D → Option D
  | .int i, .int j => if 0 < j ∧ j.natAbs.log2 < 9000 then some (.int (i / j)) else none
  | _, _ => none
def dMod : D → D → Option D
  | .int i, .int j => if 0 < j then some (.int (i % j)) else none
  | _, _ => none
def dPow : D → D → Option D
  | .int i, .int j => if 0 ≤ j ∧ j ≤ 1000000 ∧ i.natAbs < 2 ^ 64 then some (.int (i ^ j.toNat)) else none
  | _, _ => none
def dAddI : D → D → Option D
  | .int i, .int j => some (.int (i + j))
  | _, _ => none
def dAddS : D → D → Option D
  | .str a, .str b => if a.length + b.length ≤ 1000 then some (.str (a ++ b)) else none
  | _, _ => none
def dAddT : D → D → Option D
  | .tup a, .tup b => if a.length + b.length ≤ 16000000 then some (.tup (a ++ b)) else none
  | _, _ => none
def dAddL : D → D → Option D
  | .lst a, .lst b => if a.length + b.length ≤ 16000000 then some (.lst (a ++ b)) else none
  | _, _ => none
def dAdd : D → D → Option D
  | .int i, .int j => some (.int (i + j))
  | .str a, .str b => if a.length + b.length ≤ 1000 then some (.str (a ++ b)) else none
  | .tup a, .tup b => if a.length + b.length ≤ 16000000 then some (.tup (a ++ b)) else none
  | .lst a, .lst b => if a.length + b.length ≤ 16000000 then some (.lst (a ++ b)) else none
  | _, _ => none
def dMulI : D → D → Option D
  | .int i, .int j => if i.natAbs.log2 + j.natAbs.log2 < 1000000 then some (.int (i * j)) else none
  | _, _ => none
def dMulT : D → D → Option D
  | .tup a, .int k => if a ≠ [] ∧ 2 ≤ k ∧ k ≤ 1000 ∧ a.length ≤ 1000 then some (.tup (List.replicate k.toNat a).flatten) else none
  | _, _ => none
def dMul : D → D → Option D
  | .int i, .int j => if i.natAbs.log2 + j.natAbs.log2 < 1000000 then some (.int (i * j)) else none
  | .tup a, .int k => if a.length ≠ 0 ∧ 2 ≤ k ∧ k ≤ 1000 ∧ a.length ≤ 1000 then some (.tup (List.replicate k.toNat a).flatten) else none
  | _, _ => none
def dNeg : D → Option D
  | .int i => some (.int (-i))
  | _ => none
def dLt : D → D → Option Bool
  | .int i, .int j => some (decide (i < j))
  | _, _ => none
def dLe : D → D → Option Bool
  | .int i, .int j => some (decide (i ≤ j))
  | _, _ => none
def dGt : D → D → Option Bool
  | .int i, .int j => some (decide (j < i))
  | _, _ => none
def dGe : D → D → Option Bool
  | .int i, .int j => some (decide (j ≤ i))
  | _, _ => none
def dIsN : D → D → Option Bool
  | .non, .non => some true
  | .dct _ _, .non => some false
  | .scr _, .non => some false
  | .bl _, .non => some false
  | .int _, .non => some false
  | .str _, .non => some false
  | .tup _, .non => some false
  | .lst _, .non => some false
  | _, _ => none
def dNotN (x y : D) : Option Bool := (dIsN x y).map (!·)

section
variable {K : PySem.W.Frag} {X : Cx}
theorem p2_sub : PureR2 K (rI0 fun i j => .int (i - j)) dSub := pure2_I0 (gd := fun i j => .int (i - j)) (fun i j => scl_int _) fun x y z h => by
  unfold dSub at h
  split at h
  · cases h; exact ⟨_, _, rfl, rfl, rfl⟩
  · cases h
theorem p2_div : PureR2 K (rI CDivW fun i j => .int (i / j)) dDiv := pure2_I fun x y z h => by
  unfold dDiv at h
  split at h
  · split at h
    · rename_i q; cases h; exact ⟨_, _, rfl, rfl, q, rfl⟩
    · cases h
  · cases h
theorem p2_mod : PureR2 K (rI (fun _ j => 0 < j) fun i j => .int (i % j)) dMod := pure2_I fun x y z h => by
  unfold dMod at h
  split at h
  · split at h
    · rename_i q; cases h; exact ⟨_, _, rfl, rfl, q, rfl⟩
    · cases h
  · cases h
theorem p2_pow : PureR2 K (rI CPow fun i j => .int (i ^ j.toNat)) dPow := pure2_I fun x y z h => by
  unfold dPow at h
  split at h
  · split at h
    · rename_i q; cases h; exact ⟨_, _, rfl, rfl, q, rfl⟩
    · cases h
  · cases h
theorem p2_mulI : PureR2 K (rI CMulW fun i j => .int (i * j)) dMulI := pure2_I fun x y z h => by
  unfold dMulI at h
  split at h
  · split at h
    · rename_i q; cases h; exact ⟨_, _, rfl, rfl, q, rfl⟩
    · cases h
  · cases h
theorem p2_addI : PureR2 K (rI0 fun i j => .int (i + j)) dAddI := pure2_I0 (gd := fun i j => .int (i + j)) (fun i j => scl_int _) fun x y z h => by
  unfold dAddI at h
  split at h
  · cases h; exact ⟨_, _, rfl, rfl, rfl⟩
  · cases h
theorem bO_some {f : D → D → Option Bool} {x y z : D} (h : bO f x y = some z) : ∃ b, f x y = some b ∧ z = .bl b := by
  unfold bO at h
  cases e : f x y with
  | none => rw [e] at h; cases h
  | some b => rw [e] at h; cases h; exact ⟨b, rfl, rfl⟩
theorem p2_lt : PureR2 K (rI0 fun i j => .bl (decide (i < j))) (bO dLt) := pure2_I0 (gd := fun i j => .bl (decide (i < j))) (fun i j => scl_bl _) fun x y z h => by
  obtain ⟨b, e, rfl⟩ := bO_some h
  unfold dLt at e
  split at e
  · cases e; exact ⟨_, _, rfl, rfl, rfl⟩
  · cases e
theorem p2_le : PureR2 K (rI0 fun i j => .bl (decide (i ≤ j))) (bO dLe) := pure2_I0 (gd := fun i j => .bl (decide (i ≤ j))) (fun i j => scl_bl _) fun x y z h => by
  obtain ⟨b, e, rfl⟩ := bO_some h
  unfold dLe at e
  split at e
  · cases e; exact ⟨_, _, rfl, rfl, rfl⟩
  · cases e
theorem p2_gt : PureR2 K (rI0 fun i j => .bl (decide (j < i))) (bO dGt) := pure2_I0 (gd := fun i j => .bl (decide (j < i))) (fun i j => scl_bl _) fun x y z h => by
  obtain ⟨b, e, rfl⟩ := bO_some h
  unfold dGt at e
  split at e
  · cases e; exact ⟨_, _, rfl, rfl, rfl⟩
  · cases e
theorem p2_ge : PureR2 K (rI0 fun i j => .bl (decide (j ≤ i))) (bO dGe) := pure2_I0 (gd := fun i j => .bl (decide (j ≤ i))) (fun i j => scl_bl _) fun x y z h => by
  obtain ⟨b, e, rfl⟩ := bO_some h
  unfold dGe at e
  split at e
  · cases e; exact ⟨_, _, rfl, rfl, rfl⟩
  · cases e
theorem rep_isN {H : Hp} {L : Exc} {d : D} {v : V} (h : Rep K H L d v) {b : Bool} (e : dIsN d .non = some b) : decide (v = .non) = b := by
  cases d with
  | non => unfold dIsN at e; cases e; rw [rep_non h]; rfl
  | bl _ => cases e; rw [rep_bl h]; rfl
  | int _ => cases e; rw [rep_int h]; rfl
  | str _ => cases e; rw [rep_str h]; rfl
  | tup _ => cases e; obtain ⟨a, _, rfl, _⟩ := rep_tup h; rfl
  | lst _ => cases e; obtain ⟨a, _, rfl, _⟩ := rep_lst h; rfl
  | scr _ => cases e; obtain ⟨a, rfl, _⟩ := rep_scr h; rfl
  | dct _ _ => cases e; unfold Rep at h; obtain ⟨a, rfl, _⟩ := h; rfl
theorem isN_non {x y : D} {b : Bool} (h : dIsN x y = some b) : y = .non := by
  cases y with
  | non => rfl
  | _ => cases x <;> cases h
theorem p2_isN : PureR2 K (fun x y H Q => y = .non ∧ Q (.bl (decide (x = .non))) H) (bO dIsN) := pure2_of fun H L v w d e z h1 h2 e1 => by
  obtain ⟨b, eb, rfl⟩ := bO_some e1
  have ey := isN_non eb
  subst ey
  have e2 := rep_non h2
  have e3 := rep_isN h1 eb
  exact ⟨.bl b, fun _ _ _ => scl_bl _ _ _ _, fun Q q => ⟨e2, by rw [e3]; exact q⟩⟩
theorem p2_notN : PureR2 K (fun x y H Q => y = .non ∧ Q (.bl (!decide (x = .non))) H) (bO dNotN) := pure2_of fun H L v w d e z h1 h2 e1 => by
  obtain ⟨b, eb, rfl⟩ := bO_some e1
  unfold dNotN at eb
  cases q : dIsN d e with
  | none => rw [q] at eb; cases eb
  | some k =>
    rw [q] at eb
    have eb' : (!k) = b := Option.some.inj eb
    subst eb'
    have ey := isN_non q
    subst ey
    have e2 := rep_non h2
    have e3 := rep_isN h1 q
    exact ⟨.bl (!k), fun _ _ _ => scl_bl _ _ _ _, fun Q q => ⟨e2, by rw [e3]; exact q⟩⟩
theorem p2_addS : PureR2 K (fun x y H Q => ∃ i j, x = .str i ∧ y = .str j ∧ i.length + j.length ≤ sizeLine ∧ Q (.str (i ++ j)) H) dAddS := pure2_of fun H L v w d e z h1 h2 e1 => by
  unfold dAddS at e1
  split at e1
  · split at e1
    · rename_i q
      cases e1
      have e2 := rep_str h1
      have e3 := rep_str h2
      subst e2 e3
      exact ⟨_, fun _ _ _ => scl_str _ _ _ _, fun Q q' => ⟨_, _, rfl, rfl, by rw [sizeLine_eq]; omega, q'⟩⟩
    · cases e1
  · cases e1
theorem p2_addT : PureR2 K (rCatA K) dAddT := by
  intro T c σ H ρ Γ v w d e z Q r0 hf hq
  unfold dAddT at hf
  split at hf
  · split at hf
    · rename_i q
      cases hf
      rename_i as bs
      obtain ⟨L, hi, _⟩ := r0.imm
      obtain ⟨a, xs, rfl, ⟨h1, n1⟩, r1⟩ := rep_tup hi.2.1
      obtain ⟨b, ys, rfl, ⟨h2, n2⟩, r2⟩ := rep_tup hi.1
      refine ⟨a, b, xs, ys, rfl, rfl, sqT_of h1, sqT_of h2, by rw [← r1.length, ← r2.length, sizeLine_eq]; omega, fun e => ?_, fun _ e => ?_, fun _ _ p hp => ?_⟩
      · subst e
        have ea : as = [] := List.eq_nil_of_length_eq_zero (by rw [r1.length]; rfl)
        subst ea
        exact hq _ H (r0.add fun L' hi' => hi'.1)
      · subst e
        have ea : bs = [] := List.eq_nil_of_length_eq_zero (by rw [r2.length]; rfl)
        subst ea
        rw [List.append_nil] at hq
        exact hq _ H (r0.add fun L' hi' => hi'.2.1)
      · refine hq _ _ (r0.alloc hp fun L' n hi' => rep_new_tup n ?_)
        obtain ⟨a', xs', e1, ⟨h1', _⟩, r1'⟩ := rep_tup hi'.2.1
        obtain ⟨b', ys', e2, ⟨h2', _⟩, r2'⟩ := rep_tup hi'.1
        cases e1
        cases e2
        rw [upd_ne (ne_of_none h1 hp)] at h1'
        rw [upd_ne (ne_of_none h2 hp)] at h2'
        rw [h1] at h1'
        rw [h2] at h2'
        cases h1'
        cases h2'
        exact r1'.append r2'
    · cases hf
  · cases hf
/-- lists put together: a new owned one -/
def PureR2O (K : PySem.W.Frag) (r : R2) (f : D → D → Option D) : Prop := ∀ (T : Tabl) (c : Cfg) (σ : L2.St) (H : Hp) (ρ : Env) (Γ : Gam) (v w : V) (d e z : D) (Q : VK), Rl K T c σ H ρ ((w, .im e) :: (v, .im d) :: Γ) → f d e = some z →
  (∀ u H', Rl K T c σ H' ρ ((u, .ow z) :: (w, .im e) :: (v, .im d) :: Γ) → Q u H') → r v w H Q
theorem PureR2O.im {r : R2} {f : D → D → Option D} (h : PureR2O K r f) : PureR2 K r f := fun T c σ H ρ Γ v w d e z Q r0 hf hq => h T c σ H ρ Γ v w d e z Q r0 hf fun u H' r' => hq u H' r'.relG
theorem p2_addL : PureR2O K rCat dAddL := by
  intro T c σ H ρ Γ v w d e z Q r0 hf hq
  unfold dAddL at hf
  split at hf
  · split at hf
    · rename_i q
      cases hf
      rename_i as bs
      obtain ⟨L, hi, _⟩ := r0.imm
      obtain ⟨a, xs, rfl, ⟨h1, n1⟩, r1⟩ := rep_lst hi.2.1
      obtain ⟨b, ys, rfl, ⟨h2, n2⟩, r2⟩ := rep_lst hi.1
      refine ⟨a, b, xs, ys, rfl, rfl, h1, h2, by rw [← r1.length, ← r2.length, sizeLine_eq]; omega, fun p hp => ?_⟩
      refine hq _ _ (r0.allocO hp (.inl ⟨_, rfl⟩) fun L' n hi' => own_new_lst ?_)
      obtain ⟨a', xs', e1, ⟨h1', _⟩, r1'⟩ := rep_lst hi'.2.1
      obtain ⟨b', ys', e2, ⟨h2', _⟩, r2'⟩ := rep_lst hi'.1
      cases e1
      cases e2
      rw [upd_ne (ne_of_none h1 hp)] at h1'
      rw [upd_ne (ne_of_none h2 hp)] at h2'
      rw [h1] at h1'
      rw [h2] at h2'
      cases h1'
      cases h2'
      exact r1'.append r2'
    · cases hf
  · cases hf
def rAdd (K : PySem.W.Frag) : R2 := fun x y H Q => (rI0 fun i j => .int (i + j)) x y H Q ∨ ((∃ i j, x = .str i ∧ y = .str j ∧ i.length + j.length ≤ sizeLine ∧ Q (.str (i ++ j)) H) ∨ (rCatA K x y H Q ∨ rCat x y H Q))
theorem o_add : OpR X (binaryOp .Add) (rAdd X.K) := op_add.or (op_add_str.or (op_catA.or op_cat))
theorem p2_add : PureR2 K (rAdd K) dAdd := p2_addI.or (f' := fun x y => (dAddS x y).orElse fun _ => (dAddT x y).orElse fun _ => dAddL x y)
  (p2_addS.or (f' := fun x y => (dAddT x y).orElse fun _ => dAddL x y) (p2_addT.or p2_addL.im fun x y z h => by
      cases e : dAddT x y with
      | none => rw [e] at h; exact .inr h
      | some u => rw [e] at h; exact .inl h) fun x y z h => by
    cases e : dAddS x y with
    | none => rw [e] at h; exact .inr h
    | some u => rw [e] at h; exact .inl h) fun x y z h => by
  unfold dAdd at h
  split at h
  · exact .inl h
  · refine .inr ?_
    show (dAddS (.str _) (.str _)).orElse _ = _
    unfold dAddS
    dsimp only
    split at h
    · rename_i q; rw [if_pos q]; exact h
    · cases h
  · refine .inr ?_
    show (dAddT (.tup _) (.tup _)).orElse _ = _
    unfold dAddT
    dsimp only
    split at h
    · rename_i q; rw [if_pos q]; exact h
    · cases h
  · exact .inr h
  · cases h
theorem p2_mulT : PureR2 K (rRepT K) dMulT := by
  intro T c σ H ρ Γ v w d e z Q r0 hf hq
  unfold dMulT at hf
  split at hf
  · split at hf
    · rename_i q
      cases hf
      rename_i as k
      obtain ⟨q0, q1, q2, q3⟩ := q
      obtain ⟨L, hi, _⟩ := r0.imm
      obtain ⟨a, xs, rfl, ⟨h1, n1⟩, r1⟩ := rep_tup hi.2.1
      have e2 := rep_int hi.1
      subst e2
      refine ⟨a, k, xs, rfl, rfl, sqT_of h1, fun e => ?_, q1, q2, by rw [← r1.length]; exact q3, fun p hp => ?_⟩
      · subst e
        exact q0 (List.eq_nil_of_length_eq_zero (by rw [r1.length]; rfl))
      · refine hq _ _ (r0.alloc hp fun L' n hi' => rep_new_tup n ?_)
        obtain ⟨a', xs', e1, ⟨h1', _⟩, r1'⟩ := rep_tup hi'.2.1
        cases e1
        rw [upd_ne (ne_of_none h1 hp)] at h1'
        rw [h1] at h1'
        cases h1'
        have key : ∀ m : Nat, Reps K (upd H p (HO.tup (List.replicate k.toNat xs).flatten)) L' (List.replicate m as).flatten (List.replicate m xs).flatten := by
          intro m
          induction m with
          | zero => exact Reps.nil
          | succ m ih =>
            rw [List.replicate_succ, List.replicate_succ, List.flatten_cons, List.flatten_cons]
            exact r1'.append ih
        exact key _
    · cases hf
  · cases hf
def rMul (K : PySem.W.Frag) : R2 := fun x y H Q => (rI CMulW fun i j => .int (i * j)) x y H Q ∨ rRepT K x y H Q
theorem o_mul : OpR X (binaryOp .Mult) (rMul X.K) := op_mulW.or op_repT
theorem p2_mul : PureR2 K (rMul K) dMul := p2_mulI.or p2_mulT fun x y z h => by
  unfold dMul at h
  split at h
  · exact .inl h
  · refine .inr ?_
    unfold dMulT
    dsimp only
    split at h
    · rename_i q
      rw [if_pos ⟨fun e => q.1 (by rw [e]; rfl), q.2⟩]
      exact h
    · cases h
  · cases h
theorem p2_eq : PureR2 K (rEqD K) (bO dEq) := pure2_of fun H L v w d e z h1 h2 e1 => by
  obtain ⟨b, eb, rfl⟩ := bO_some e1
  unfold dEq at eb
  split at eb
  · rename_i q
    cases eb
    rw [Bool.and_eq_true] at q
    have l1 : dLay d = true := by have := q.1; unfold eqOk at this; rw [Bool.and_eq_true] at this; exact this.1
    have l2 : dLay e = true := by have := q.2; unfold eqOk at this; rw [Bool.and_eq_true] at this; exact this.1
    exact ⟨_, fun _ _ _ => scl_bl _ _ _ _, fun Q q' => ⟨toP d, toP e, rep_dp d v l1 h1, rep_dp e w l2 h2, eqOk_shaped q.1, eqOk_shaped q.2, q'⟩⟩
  · cases eb
theorem p2_ne : PureR2 K (rNeD K) (bO dNe) := pure2_of fun H L v w d e z h1 h2 e1 => by
  obtain ⟨b, eb, rfl⟩ := bO_some e1
  unfold dNe dEq at eb
  split at eb
  · rename_i q
    cases eb
    rw [Bool.and_eq_true] at q
    have l1 : dLay d = true := by have := q.1; unfold eqOk at this; rw [Bool.and_eq_true] at this; exact this.1
    have l2 : dLay e = true := by have := q.2; unfold eqOk at this; rw [Bool.and_eq_true] at this; exact this.1
    exact ⟨_, fun _ _ _ => scl_bl _ _ _ _, fun Q q' => ⟨toP d, toP e, rep_dp d v l1 h1, rep_dp e w l2 h2, eqOk_shaped q.1, eqOk_shaped q.2, q'⟩⟩
  · cases eb

/-! ### subscripts, len -/
theorem reps_atI {H : Hp} {L : Exc} {ds : List D} {vs : List V} {i : Int} {d : D} (h : Reps K H L ds vs) (e : atI ds i = some d) : ∃ v, atI vs i = some v ∧ Rep K H L d v := by
  unfold atI at e ⊢
  rw [← h.length]
  cases q : ixN ds.length i with
  | none => rw [q] at e; cases e
  | some j =>
    rw [q] at e
    exact h.get e
def dAt : D → D → Option D
  | .lst ds, .int i => atI ds i
  | .tup ds, .int i => atI ds i
  | .scr ns, .int i => (atI ns i).map D.int
  | _, _ => none
theorem atI_map {α β : Type} (f : α → β) (xs : List α) (i : Int) : atI (xs.map f) i = (atI xs i).map f := by
  unfold atI
  rw [List.length_map]
  cases ixN xs.length i with
  | none => rfl
  | some j => simp
theorem p2_at : PureR2 K (rIx K) dAt := pure2_of fun H L v w d e z h1 h2 e1 => by
  unfold dAt at e1
  split at e1
  · rename_i ds i
    have e2 := rep_int h2
    subst e2
    obtain ⟨a, xs, rfl, ⟨h3, n⟩, r⟩ := rep_lst h1
    obtain ⟨u, eu, ru⟩ := reps_atI r e1
    refine ⟨u, fun L' g1 g2 => ?_, fun Q q => .inl ⟨a, xs, i, u, rfl, rfl, sqL_of h3, eu, q⟩⟩
    obtain ⟨a', xs', e', ⟨h3', _⟩, r'⟩ := rep_lst g1
    cases e'
    rw [h3] at h3'; cases h3'
    obtain ⟨u', eu', ru'⟩ := reps_atI r' e1
    rw [eu] at eu'; cases eu'
    exact ru'
  · rename_i ds i
    have e2 := rep_int h2
    subst e2
    obtain ⟨a, xs, rfl, ⟨h3, n⟩, r⟩ := rep_tup h1
    obtain ⟨u, eu, ru⟩ := reps_atI r e1
    refine ⟨u, fun L' g1 g2 => ?_, fun Q q => .inr (.inl ⟨a, xs, i, u, rfl, rfl, sqT_of h3, eu, q⟩)⟩
    obtain ⟨a', xs', e', ⟨h3', _⟩, r'⟩ := rep_tup g1
    cases e'
    rw [h3] at h3'; cases h3'
    obtain ⟨u', eu', ru'⟩ := reps_atI r' e1
    rw [eu] at eu'; cases eu'
    exact ru'
  · rename_i ns i
    have e2 := rep_int h2
    subst e2
    obtain ⟨a, rfl, h3⟩ := rep_scr h1
    cases q : atI ns i with
    | none => rw [q] at e1; cases e1
    | some k =>
      rw [q] at e1
      cases e1
      exact ⟨.int k, fun _ _ _ => scl_int _ _ _ _, fun Q q' => .inl ⟨a, _, i, _, rfl, rfl, h3.sq, by rw [atI_map, q]; rfl, q'⟩⟩
  · cases e1
def dLen : List D → Option D
  | [.lst ds] => some (.int ds.length)
  | [.tup ds] => some (.int ds.length)
  | [.scr ds] => some (.int ds.length)
  | _ => none
theorem ps_len : PureS K (fun xs H Q => ∃ p ys, xs = [.ref p] ∧ (SqL K H p ys ∨ SqT K H p ys) ∧ Q (.int ys.length) H) dLen := fun H L vs ds z h e => by
  unfold dLen at e
  split at e
  · cases e
    obtain ⟨v, rfl, h1⟩ := reps_1 h
    obtain ⟨a, xs, rfl, ⟨h3, n⟩, r⟩ := rep_lst h1
    exact ⟨_, scl_int _, fun Q q => ⟨a, xs, rfl, .inl (sqL_of h3), by rw [← r.length]; exact q⟩⟩
  · cases e
    obtain ⟨v, rfl, h1⟩ := reps_1 h
    obtain ⟨a, xs, rfl, ⟨h3, n⟩, r⟩ := rep_tup h1
    exact ⟨_, scl_int _, fun Q q => ⟨a, xs, rfl, .inr (sqT_of h3), by rw [← r.length]; exact q⟩⟩
  · cases e
    obtain ⟨v, rfl, h1⟩ := reps_1 h
    obtain ⟨a, rfl, h3⟩ := rep_scr h1
    exact ⟨_, scl_int _, fun Q q => ⟨a, _, rfl, .inl h3.sq, by rw [List.length_map]; exact q⟩⟩
  · cases e
theorem pc_len : PureC K (fun xs H Q => ∃ p ys, xs = [.ref p] ∧ (SqL K H p ys ∨ SqT K H p ys) ∧ Q (.int ys.length) H) dLen := ps_len.c
def dAbs : List D → Option D
  | [.int i] => some (.int (if i < 0 then -i else i))
  | _ => none
theorem ps_abs : PureS K (fun xs H Q => ∃ i, xs = [.int i] ∧ Q (.int (if i < 0 then -i else i)) H) dAbs := fun H L vs ds z h e => by
  unfold dAbs at e
  split at e
  · cases e
    obtain ⟨v, rfl, h1⟩ := reps_1 h
    have e2 := rep_int h1
    subst e2
    exact ⟨_, scl_int _, fun Q q => ⟨_, rfl, q⟩⟩
  · cases e
theorem pc_abs : PureC K (fun xs H Q => ∃ i, xs = [.int i] ∧ Q (.int (if i < 0 then -i else i)) H) dAbs := ps_abs.c
def dInt : List D → Option D
  | [.int i] => some (.int i)
  | [.bl k] => some (.int (if k then 1 else 0))
  | _ => none
theorem ps_int : PureS K (fun xs H Q => (∃ i, xs = [.int i] ∧ Q (.int i) H) ∨ ∃ k, xs = [.bl k] ∧ Q (.int (if k then 1 else 0)) H) dInt := fun H L vs ds z h e => by
  unfold dInt at e
  split at e
  · cases e
    obtain ⟨v, rfl, h1⟩ := reps_1 h
    have e2 := rep_int h1
    subst e2
    exact ⟨_, scl_int _, fun Q q => .inl ⟨_, rfl, q⟩⟩
  · cases e
    obtain ⟨v, rfl, h1⟩ := reps_1 h
    have e2 := rep_bl h1
    subst e2
    exact ⟨_, scl_int _, fun Q q => .inr ⟨_, rfl, q⟩⟩
  · cases e
theorem pc_int : PureC K (fun xs H Q => (∃ i, xs = [.int i] ∧ Q (.int i) H) ∨ ∃ k, xs = [.bl k] ∧ Q (.int (if k then 1 else 0)) H) dInt := ps_int.c
def dMax2 : List D → Option D
  | [.int i, .int j] => some (.int (if j > i then j else i))
  | _ => none
def dMin2 : List D → Option D
  | [.int i, .int j] => some (.int (if j < i then j else i))
  | _ => none
theorem ps_max2 : PureS K (fun xs H Q => ∃ i j, xs = [.int i, .int j] ∧ Q (.int (if j > i then j else i)) H) dMax2 := fun H L vs ds z h e => by
  unfold dMax2 at e
  split at e
  · cases e
    obtain ⟨v, w, rfl, h1, h2⟩ := reps_2 h
    have e2 := rep_int h1
    have e3 := rep_int h2
    subst e2 e3
    exact ⟨_, scl_int _, fun Q q => ⟨_, _, rfl, q⟩⟩
  · cases e
theorem pc_max2 : PureC K (fun xs H Q => ∃ i j, xs = [.int i, .int j] ∧ Q (.int (if j > i then j else i)) H) dMax2 := ps_max2.c
theorem ps_min2 : PureS K (fun xs H Q => ∃ i j, xs = [.int i, .int j] ∧ Q (.int (if j < i then j else i)) H) dMin2 := fun H L vs ds z h e => by
  unfold dMin2 at e
  split at e
  · cases e
    obtain ⟨v, w, rfl, h1, h2⟩ := reps_2 h
    have e2 := rep_int h1
    have e3 := rep_int h2
    subst e2 e3
    exact ⟨_, scl_int _, fun Q q => ⟨_, _, rfl, q⟩⟩
  · cases e
theorem pc_min2 : PureC K (fun xs H Q => ∃ i j, xs = [.int i, .int j] ∧ Q (.int (if j < i then j else i)) H) dMin2 := ps_min2.c
/-- the ints of a list of trees -/
def intsOf : List D → Option (List Int)
  | [] => some []
  | .int i :: r => (intsOf r).map (i :: ·)
  | _ :: _ => none
theorem intsOf_map (ns : List Int) : intsOf (ns.map D.int) = some ns := by
  induction ns with
  | nil => rfl
  | cons n r ih => rw [List.map_cons]; unfold intsOf; rw [ih]; rfl
theorem of_intsOf : ∀ {ds : List D} {ns : List Int}, intsOf ds = some ns → ds = ns.map D.int
  | [], ns, h => by unfold intsOf at h; cases h; rfl
  | .int i :: r, ns, h => by
    unfold intsOf at h
    cases e : intsOf r with
    | none => rw [e] at h; cases h
    | some k => rw [e] at h; cases h; rw [of_intsOf e]; rfl
  | .non :: r, ns, h => by unfold intsOf at h; cases h
  | .bl _ :: r, ns, h => by unfold intsOf at h; cases h
  | .str _ :: r, ns, h => by unfold intsOf at h; cases h
  | .tup _ :: r, ns, h => by unfold intsOf at h; cases h
  | .lst _ :: r, ns, h => by unfold intsOf at h; cases h
  | .dct _ _ :: r, ns, h => by unfold intsOf at h; cases h
  | .scr _ :: r, ns, h => by unfold intsOf at h; cases h
end
end RK
set_option Elab.async false
set_option linter.all false
set_option maxRecDepth 100000
set_option maxHeartbeats 4000000
/-! RkE: sums, greatest, least, tuples, lists, slices, what is in what; then the syntax by rules. -/
namespace RK
open PySem PySem.Spec PyProof.Rows L2
section
variable {K : PySem.W.Frag} {X : Cx}
theorem reps_intsOf {H : Hp} {L : Exc} {ds : List D} {vs : List V} {ns : List Int} (r : Reps K H L ds vs) (e : intsOf ds = some ns) : vs = ns.map V.int := by
  rw [of_intsOf e] at r
  exact r.ints
/-! sum -/
def rSumT (K : PySem.W.Frag) : List V → Hp → VK → Prop := fun vs H Q => ∃ (a : Addr) (ns : List Int), vs = [V.ref a] ∧ SqT K H a (ns.map V.int) ∧ Q (.int ns.sum) H
theorem cr_sumT (hc : X.calm = true) : CallR X (.builtin "sum") (rSumT X.K) := by
  intro pins s σ H vs us Q I r h
  obtain ⟨a, ns, rfl, hs, q⟩ := h
  obtain ⟨its, rv, hl, _⟩ := I.tuple hs
  rw [Vals.ref1 r]
  have hi : IntsAre its ns := rv.ints
  obtain ⟨xs, hx⟩ := hi.allInts.items
  have hn : numsOf its.toArray.toList = ns := by rw [show its.toArray.toList = its from rfl, hi.numsOf]
  have hl2 : s.heap.IsTuple a its.toArray := hl
  rw [hx] at hl2 hn
  rw [nums_intItems] at hn
  refine PySem.W.ktm_sumG (I.ok.hd hc) hl2 fun h' tk t' hk => ⟨.int ns.sum, H, I.kept hk, ⟨t', ?_⟩, q⟩
  rw [preSum_eq, List.take_of_length_le (by simp), hn]
def dSum : List D → Option D
  | [.lst ds] => (intsOf ds).map fun ns => .int ns.sum
  | [.tup ds] => (intsOf ds).map fun ns => .int ns.sum
  | _ => none
def rSum2 (K : PySem.W.Frag) : List V → Hp → VK → Prop := fun xs H Q => rSum K xs H Q ∨ rSumT K xs H Q
theorem o_sum (hc : X.calm = true) : CallR X (.builtin "sum") (rSum2 X.K) := (cr_sum hc).or (cr_sumT hc)
theorem ps_sum : PureS K (rSum2 K) dSum := fun H L vs ds z h e => by
  unfold dSum at e
  split at e
  · obtain ⟨v, rfl, h1⟩ := reps_1 h
    obtain ⟨a, xs, rfl, ⟨h3, n⟩, r⟩ := rep_lst h1
    rename_i ds
    cases q : intsOf ds with
    | none => rw [q] at e; cases e
    | some ns =>
      rw [q] at e
      cases e
      have e2 := reps_intsOf r q
      subst e2
      exact ⟨_, scl_int _, fun Q q => .inl ⟨a, ns, rfl, sqL_of h3, q⟩⟩
  · obtain ⟨v, rfl, h1⟩ := reps_1 h
    obtain ⟨a, xs, rfl, ⟨h3, n⟩, r⟩ := rep_tup h1
    rename_i ds
    cases q : intsOf ds with
    | none => rw [q] at e; cases e
    | some ns =>
      rw [q] at e
      cases e
      have e2 := reps_intsOf r q
      subst e2
      exact ⟨_, scl_int _, fun Q q => .inr ⟨a, ns, rfl, sqT_of h3, q⟩⟩
  · cases e
theorem pc_sum : PureC K (rSum2 K) dSum := ps_sum.c
/-! greatest and least -/
def maxI : List Int → Int
  | [] => 0
  | [a] => a
  | a :: b :: r => max a (maxI (b :: r))
def minI : List Int → Int
  | [] => 0
  | [a] => a
  | a :: b :: r => min a (minI (b :: r))
theorem maxI_spec : ∀ {ns : List Int}, ns ≠ [] → maxI ns ∈ ns ∧ ∀ y ∈ ns, y ≤ maxI ns
  | [], h => absurd rfl h
  | [a], _ => ⟨by simp [maxI], fun y hy => by simp at hy; subst hy; exact Int.le_refl _⟩
  | a :: b :: r, _ => by
    obtain ⟨h1, h2⟩ := maxI_spec (ns := b :: r) (by simp)
    unfold maxI
    refine ⟨?_, fun y hy => ?_⟩
    · by_cases h : a ≤ maxI (b :: r)
      · rw [Int.max_eq_right h]; exact List.mem_cons_of_mem _ h1
      · rw [Int.max_eq_left (by omega)]; exact List.mem_cons_self
    · rcases List.mem_cons.mp hy with e | hy
      · subst e; exact Int.le_max_left _ _
      · exact Int.le_trans (h2 y hy) (Int.le_max_right _ _)
theorem minI_spec : ∀ {ns : List Int}, ns ≠ [] → minI ns ∈ ns ∧ ∀ y ∈ ns, minI ns ≤ y
  | [], h => absurd rfl h
  | [a], _ => ⟨by simp [minI], fun y hy => by simp at hy; subst hy; exact Int.le_refl _⟩
  | a :: b :: r, _ => by
    obtain ⟨h1, h2⟩ := minI_spec (ns := b :: r) (by simp)
    unfold minI
    refine ⟨?_, fun y hy => ?_⟩
    · by_cases h : a ≤ minI (b :: r)
      · rw [Int.min_eq_left h]; exact List.mem_cons_self
      · rw [Int.min_eq_right (by omega)]; exact List.mem_cons_of_mem _ h1
    · rcases List.mem_cons.mp hy with e | hy
      · subst e; exact Int.min_le_left _ _
      · exact Int.le_trans (Int.min_le_right _ _) (h2 y hy)
def dMax1 : List D → Option D
  | [.lst ds] => if ds.length = 0 then none else (intsOf ds).map fun ns => .int (maxI ns)
  | _ => none
def dMin1 : List D → Option D
  | [.lst ds] => if ds.length = 0 then none else (intsOf ds).map fun ns => .int (minI ns)
  | _ => none
theorem ps_max1 : PureS K (rMax K) dMax1 := fun H L vs ds z h e => by
  unfold dMax1 at e
  split at e
  · split at e
    · cases e
    · rename_i hne
      obtain ⟨v, rfl, h1⟩ := reps_1 h
      obtain ⟨a, xs, rfl, ⟨h3, n⟩, r⟩ := rep_lst h1
      rename_i ds
      cases q : intsOf ds with
      | none => rw [q] at e; cases e
      | some ns =>
        rw [q] at e
        cases e
        have e2 := reps_intsOf r q
        have e3 := r.length
        subst e2
        rw [List.length_map] at e3
        have hn : ns ≠ [] := fun z => hne (by rw [e3, z]; rfl)
        refine ⟨_, scl_int _, fun Q q => ⟨a, ns, rfl, sqL_of h3, by omega, fun m hm hb => ?_⟩⟩
        obtain ⟨h1, h2⟩ := maxI_spec hn
        have : m = maxI ns := Int.le_antisymm (h2 m hm) (hb _ h1)
        rw [this]; exact q
  · cases e
theorem pc_max1 : PureC K (rMax K) dMax1 := ps_max1.c
theorem ps_min1 : PureS K (rMin K) dMin1 := fun H L vs ds z h e => by
  unfold dMin1 at e
  split at e
  · split at e
    · cases e
    · rename_i hne
      obtain ⟨v, rfl, h1⟩ := reps_1 h
      obtain ⟨a, xs, rfl, ⟨h3, n⟩, r⟩ := rep_lst h1
      rename_i ds
      cases q : intsOf ds with
      | none => rw [q] at e; cases e
      | some ns =>
        rw [q] at e
        cases e
        have e2 := reps_intsOf r q
        have e3 := r.length
        subst e2
        rw [List.length_map] at e3
        have hn : ns ≠ [] := fun z => hne (by rw [e3, z]; rfl)
        refine ⟨_, scl_int _, fun Q q => ⟨a, ns, rfl, sqL_of h3, by omega, fun m hm hb => ?_⟩⟩
        obtain ⟨h1, h2⟩ := minI_spec hn
        have : m = minI ns := Int.le_antisymm (hb _ h1) (h2 m hm)
        rw [this]; exact q
  · cases e
theorem pc_min1 : PureC K (rMin K) dMin1 := ps_min1.c
/-! tuple(..), list(..) -/
def dTuple : List D → Option D
  | [.lst ds] => some (.tup ds)
  | [.tup ds] => some (.tup ds)
  | _ => none
theorem pc_tuple : PureC K (fun xs H Q => ∃ p ys, xs = [.ref p] ∧ ((SqL K H p ys ∧ ∀ l, H l = none → Q (.ref l) (upd H l (.tup ys))) ∨ (SqT K H p ys ∧ Q (.ref p) H))) dTuple := by
  intro T c σ H ρ Γ vs ds z Q hl r0 hf hq
  obtain ⟨L, hi, _⟩ := r0.imm
  have hr := (imm_gz hl hi).1
  unfold dTuple at hf
  split at hf
  · cases hf
    obtain ⟨v, rfl, h1⟩ := reps_1 hr
    obtain ⟨a, xs, rfl, ⟨h3, n⟩, r⟩ := rep_lst h1
    refine ⟨a, xs, rfl, .inl ⟨sqL_of h3, fun p hp => hq _ _ (r0.alloc hp fun L' n' hi' => rep_new_tup n' ?_)⟩⟩
    obtain ⟨v', ev, h1'⟩ := reps_1 (imm_gz hl hi').1
    cases ev
    obtain ⟨a', xs', ea, ⟨h3', _⟩, r'⟩ := rep_lst h1'
    cases ea
    rw [upd_ne (ne_of_none h3 hp), h3] at h3'
    cases h3'
    exact r'
  · cases hf
    obtain ⟨v, rfl, h1⟩ := reps_1 hr
    obtain ⟨a, xs, rfl, ⟨h3, n⟩, r⟩ := rep_tup h1
    exact ⟨a, xs, rfl, .inr ⟨sqT_of h3, hq _ _ (r0.add fun L' hi' => by
      obtain ⟨v', ev, h1'⟩ := reps_1 (imm_gz hl hi').1
      cases ev
      exact h1')⟩⟩
  · cases hf
def dList : List D → Option D
  | [.lst ds] => some (.lst ds)
  | [.tup ds] => some (.lst ds)
  | [.scr ns] => some (.lst (ns.map D.int))
  | _ => none
theorem PureCO.im {r : List V → Hp → VK → Prop} {f : List D → Option D} (h : PureCO K r f) : PureC K r f := fun T c σ H ρ Γ vs ds z Q hl r0 hf hq => h T c σ H ρ Γ vs ds z Q hl r0 hf fun u H' r' => hq u H' r'.relG
theorem pco_list : PureCO K (fun xs H Q => ∃ p ys, xs = [.ref p] ∧ (SqL K H p ys ∨ SqT K H p ys) ∧ ∀ l, H l = none → Q (.ref l) (upd H l (.lst ys))) dList := pureCO_new fun H L vs ds z h e => by
  unfold dList at e
  split at e
  · cases e
    obtain ⟨v, rfl, h1⟩ := reps_1 h
    obtain ⟨a, xs, rfl, ⟨h3, n⟩, r⟩ := rep_lst h1
    refine ⟨.lst xs, .inl ⟨_, rfl⟩, fun p L' hp n' h' => own_new_lst ?_, fun Q q => ⟨a, xs, rfl, .inl (sqL_of h3), q⟩⟩
    obtain ⟨v', ev, h1'⟩ := reps_1 h'
    cases ev
    obtain ⟨a', xs', ea, ⟨h3', _⟩, r'⟩ := rep_lst h1'
    cases ea
    rw [upd_ne (ne_of_none h3 hp), h3] at h3'
    cases h3'
    exact r'
  · cases e
    obtain ⟨v, rfl, h1⟩ := reps_1 h
    obtain ⟨a, xs, rfl, ⟨h3, n⟩, r⟩ := rep_tup h1
    refine ⟨.lst xs, .inl ⟨_, rfl⟩, fun p L' hp n' h' => own_new_lst ?_, fun Q q => ⟨a, xs, rfl, .inr (sqT_of h3), q⟩⟩
    obtain ⟨v', ev, h1'⟩ := reps_1 h'
    cases ev
    obtain ⟨a', xs', ea, ⟨h3', _⟩, r'⟩ := rep_tup h1'
    cases ea
    rw [upd_ne (ne_of_none h3 hp), h3] at h3'
    cases h3'
    exact r'
  · cases e
    obtain ⟨v, rfl, h1⟩ := reps_1 h
    obtain ⟨a, rfl, h3⟩ := rep_scr h1
    exact ⟨.lst _, .inl ⟨_, rfl⟩, fun p L' hp n' h' => own_new_lst (Reps.of_ints _), fun Q q => ⟨a, _, rfl, .inl h3.sq, q⟩⟩
  · cases e
/-! sorted ints -/
def insI (a : Int) : List Int → List Int
  | [] => [a]
  | b :: r => if a ≤ b then a :: b :: r else b :: insI a r
def sortI : List Int → List Int
  | [] => []
  | a :: r => insI a (sortI r)
theorem insI_perm (a : Int) : ∀ l, (insI a l).Perm (a :: l)
  | [] => .refl _
  | b :: r => by
    unfold insI
    split
    · exact .refl _
    · exact (List.Perm.cons b (insI_perm a r)).trans (List.Perm.swap a b r)
theorem sortI_perm : ∀ l, (sortI l).Perm l
  | [] => .refl _
  | a :: r => (insI_perm a _).trans ((sortI_perm r).cons a)
theorem insI_sorted (a : Int) : ∀ l : List Int, l.Pairwise (· ≤ ·) → (insI a l).Pairwise (· ≤ ·)
  | [], _ => by simp [insI]
  | b :: r, h => by
    have h' := List.pairwise_cons.mp h
    unfold insI
    split
    · rename_i q
      refine List.pairwise_cons.mpr ⟨fun x hx => ?_, h⟩
      rcases List.mem_cons.mp hx with e | hx
      · rw [e]; exact q
      · exact Int.le_trans q (h'.1 x hx)
    · rename_i q
      refine List.pairwise_cons.mpr ⟨fun x hx => ?_, insI_sorted a r h'.2⟩
      rcases List.mem_cons.mp ((insI_perm a r).mem_iff.mp hx) with e | hx
      · rw [e]; omega
      · exact h'.1 x hx
theorem sortI_sorted : ∀ l : List Int, (sortI l).Pairwise (· ≤ ·)
  | [] => .nil
  | a :: r => insI_sorted a _ (sortI_sorted r)
theorem sorted_uniq {l m : List Int} (h : l.Perm m) (h1 : l.Pairwise (· ≤ ·)) (h2 : m.Pairwise (· ≤ ·)) : l = m :=
  h.eq_of_pairwise (fun a b _ _ h3 h4 => Int.le_antisymm h3 h4) h1 h2
def dSorted : List D → Option D
  | [.lst ds] => (intsOf ds).map fun ns => .lst ((sortI ns).map D.int)
  | _ => none
theorem pco_sorted : PureCO K (rSortedI K) dSorted := pureCO_new fun H L vs ds z h e => by
  unfold dSorted at e
  split at e
  · obtain ⟨v, rfl, h1⟩ := reps_1 h
    obtain ⟨a, xs, rfl, ⟨h3, n⟩, r⟩ := rep_lst h1
    rename_i ds
    cases q : intsOf ds with
    | none => rw [q] at e; cases e
    | some ns =>
      rw [q] at e
      cases e
      have e2 := reps_intsOf r q
      subst e2
      refine ⟨.lst ((sortI ns).map V.int), .inl ⟨_, rfl⟩, fun p L' hp n' h' => own_new_lst (Reps.of_ints _), fun Q q => ⟨a, ns, rfl, sqL_of h3, fun ns' p hp hs hn => ?_⟩⟩
      rw [sorted_uniq (hp.trans (sortI_perm ns).symm) hs (sortI_sorted ns)]
      exact q p hn
  · cases e
/-! in -/
theorem toPs_map : ∀ ds : List D, toPs ds = ds.map toP
  | [] => rfl
  | d :: r => by unfold toPs; rw [toPs_map r]; rfl
def dInL (x : D) : D → Option Bool
  | .lst ds => if (eqOk x && eqOk (.lst ds)) = true then some (ds.any fun z => dEqv z x) else none
  | _ => none
theorem sp2_inL : PureS2 K (rInD K) (bO dInL) := fun H L v w d e z h1 h2 e1 => by
  obtain ⟨b, eb, rfl⟩ := bO_some e1
  cases e with
  | lst ds =>
    unfold dInL at eb
    dsimp only at eb
    split at eb
    · rename_i q
      cases eb
      rw [Bool.and_eq_true] at q
      have l1 : dLay d = true := by have := q.1; unfold eqOk at this; rw [Bool.and_eq_true] at this; exact this.1
      have l2 : dLay (.lst ds) = true := by have := q.2; unfold eqOk at this; rw [Bool.and_eq_true] at this; exact this.1
      refine ⟨_, scl_bl _, fun Q q' => ⟨toP d, toPs ds, rep_dp d v l1 h1, rep_dp (.lst ds) w l2 h2, eqOk_shaped q.1, eqOk_shaped q.2, ?_⟩⟩
      rw [toPs_map, List.any_map]
      exact q'
    · cases eb
  | _ => cases eb
theorem p2_inL : PureR2 K (rInD K) (bO dInL) := (sp2_inL).c
/-- scalars, to be looked for in tuples -/
def flatD : D → Bool
  | .non => true
  | .bl _ => true
  | .int _ => true
  | .str _ => true
  | _ => false
theorem flat_v {H : Hp} {L : Exc} {d : D} {v : V} (h : Rep K H L d v) (f : flatD d = true) : flatV v = true := by
  cases d with
  | non => rw [rep_non h]; rfl
  | bl _ => rw [rep_bl h]; rfl
  | int _ => rw [rep_int h]; rfl
  | str _ => rw [rep_str h]; rfl
  | _ => cases f
theorem eqV_d {H : Hp} {L : Exc} {d e : D} {v w : V} (h : Rep K H L d v) (g : Rep K H L e w) (f : flatD d = true) (f2 : flatD e = true) : eqV v w = dEqv d e := by
  cases d with
  | non => rw [rep_non h]; cases e with
    | non => rw [rep_non g]; rfl
    | bl _ => rw [rep_bl g]; rfl
    | int _ => rw [rep_int g]; rfl
    | str _ => rw [rep_str g]; rfl
    | _ => cases f2
  | bl b => rw [rep_bl h]; cases e with
    | non => rw [rep_non g]; rfl
    | bl c => rw [rep_bl g]; simp [eqV, dEqv, toP, PyData.eqv, b2i]
    | int j => rw [rep_int g]; simp [eqV, dEqv, toP, PyData.eqv, b2i]
    | str _ => rw [rep_str g]; rfl
    | _ => cases f2
  | int i => rw [rep_int h]; cases e with
    | non => rw [rep_non g]; rfl
    | bl c => rw [rep_bl g]; simp [eqV, dEqv, toP, PyData.eqv, b2i]
    | int j => rw [rep_int g]; simp [eqV, dEqv, toP, PyData.eqv]
    | str _ => rw [rep_str g]; rfl
    | _ => cases f2
  | str s => rw [rep_str h]; cases e with
    | non => rw [rep_non g]; rfl
    | bl _ => rw [rep_bl g]; rfl
    | int _ => rw [rep_int g]; rfl
    | str t => rw [rep_str g]; simp [eqV, dEqv, toP, PyData.eqv]
    | _ => cases f2
  | _ => cases f
theorem flats_v {H : Hp} {L : Exc} : ∀ {ds : List D} {vs : List V}, Reps K H L ds vs → ds.all flatD = true → vs.all flatV = true
  | [], vs, h, _ => by rw [reps_nil h]; rfl
  | d :: ds, vs, h, f => by
    obtain ⟨v, r, rfl, h1, h2⟩ := reps_cons h
    rw [List.all_cons, Bool.and_eq_true] at f ⊢
    exact ⟨flat_v h1 f.1, flats_v h2 f.2⟩
theorem inV_d {H : Hp} {L : Exc} {x : D} {v : V} (hx : Rep K H L x v) (fx : flatD x = true) : ∀ {ds : List D} {vs : List V}, Reps K H L ds vs → ds.all flatD = true → inV v vs = ds.any fun z => dEqv z x
  | [], vs, h, _ => by rw [reps_nil h]; rfl
  | d :: ds, vs, h, f => by
    obtain ⟨w, r, rfl, h1, h2⟩ := reps_cons h
    rw [List.all_cons, Bool.and_eq_true] at f
    have ih := inV_d hx fx h2 f.2
    unfold inV at ih ⊢
    rw [List.any_cons, List.any_cons, ih, eqV_d h1 hx f.1 fx]
def dInF (x : D) : D → Option Bool
  | .tup ds => if (flatD x && ds.all flatD) = true then some (ds.any fun z => dEqv z x) else none
  | .lst ds => if (flatD x && ds.all flatD) = true then some (ds.any fun z => dEqv z x) else none
  | _ => none
theorem sp2_inF (neg : Bool) : PureS2 K (rIn K neg) (bO fun x y => (dInF x y).map fun b => if neg then !b else b) := fun H L v w d e z h1 h2 e1 => by
  obtain ⟨b, eb, rfl⟩ := bO_some e1
  cases q0 : dInF d e with
  | none => simp only [q0] at eb; cases eb
  | some k =>
    simp only [q0] at eb
    cases eb
    unfold dInF at q0
    split at q0
    · split at q0
      · rename_i ds q
        cases q0
        rw [Bool.and_eq_true] at q
        obtain ⟨a, xs, rfl, ⟨h3, n⟩, r⟩ := rep_tup h2
        refine ⟨_, scl_bl _, fun Q q' => ⟨a, xs, rfl, .inr (sqT_of h3), flat_v h1 q.1, flats_v r q.2, ?_⟩⟩
        rw [inV_d h1 q.1 r q.2]
        exact q'
      · cases q0
    · split at q0
      · rename_i ds q
        cases q0
        rw [Bool.and_eq_true] at q
        obtain ⟨a, xs, rfl, ⟨h3, n⟩, r⟩ := rep_lst h2
        refine ⟨_, scl_bl _, fun Q q' => ⟨a, xs, rfl, .inl (sqL_of h3), flat_v h1 q.1, flats_v r q.2, ?_⟩⟩
        rw [inV_d h1 q.1 r q.2]
        exact q'
      · cases q0
    · cases q0
theorem p2_inF (neg : Bool) : PureR2 K (rIn K neg) (bO fun x y => (dInF x y).map fun b => if neg then !b else b) := (sp2_inF neg).c
theorem PureS2.or {r r' : R2} {f f' g : D → D → Option D} (h : PureS2 K r f) (h' : PureS2 K r' f') (hg : ∀ x y z, g x y = some z → f x y = some z ∨ f' x y = some z) : PureS2 K (fun x y H Q => r x y H Q ∨ r' x y H Q) g := by
  intro H L v w d e z h1 h2 hf
  rcases hg d e z hf with q | q
  · obtain ⟨u, h3, h4⟩ := h H L v w d e z h1 h2 q
    exact ⟨u, h3, fun Q hq => .inl (h4 Q hq)⟩
  · obtain ⟨u, h3, h4⟩ := h' H L v w d e z h1 h2 q
    exact ⟨u, h3, fun Q hq => .inr (h4 Q hq)⟩
def rInA (K : PySem.W.Frag) : R2 := fun x y H Q => rIn K false x y H Q ∨ rInD K x y H Q
def rNinA (K : PySem.W.Frag) : R2 := fun x y H Q => rIn K true x y H Q ∨ rNotInD K x y H Q
theorem o_in (hu : X.A.units + 65 < cLine) : OpR X (compareOp .In) (rInA X.K) := op_in_seq.or (op_inD hu)
theorem o_nin (hu : X.A.units + 65 < cLine) : OpR X (compareOp .NotIn) (rNinA X.K) := op_notIn_seq.or (op_notInD hu)
def dIn (x y : D) : Option Bool := (dInF x y).orElse fun _ => dInL x y
def dNin (x y : D) : Option Bool := (dIn x y).map (!·)
theorem sp2_ninL : PureS2 K (rNotInD K) (bO fun x y => (dInL x y).map (!·)) := fun H L v w d e z h1 h2 e1 => by
  obtain ⟨b, eb, rfl⟩ := bO_some e1
  cases e with
  | lst ds =>
    unfold dInL at eb
    dsimp only at eb
    split at eb
    · rename_i q
      cases eb
      rw [Bool.and_eq_true] at q
      have l1 : dLay d = true := by have := q.1; unfold eqOk at this; rw [Bool.and_eq_true] at this; exact this.1
      have l2 : dLay (.lst ds) = true := by have := q.2; unfold eqOk at this; rw [Bool.and_eq_true] at this; exact this.1
      refine ⟨_, scl_bl _, fun Q q' => ⟨toP d, toPs ds, rep_dp d v l1 h1, rep_dp (.lst ds) w l2 h2, eqOk_shaped q.1, eqOk_shaped q.2, ?_⟩⟩
      rw [toPs_map, List.any_map]
      exact q'
    · cases eb
  | _ => cases eb
theorem p2_ninL : PureR2 K (rNotInD K) (bO fun x y => (dInL x y).map (!·)) := (sp2_ninL).c
theorem sp2_in : PureS2 K (rInA K) (bO dIn) := (sp2_inF false).or sp2_inL fun x y z h => by
  obtain ⟨b, eb, rfl⟩ := bO_some h
  unfold dIn at eb
  cases q : dInF x y with
  | none =>
    rw [q] at eb
    exact .inr (by unfold bO; rw [show dInL x y = some b from eb]; rfl)
  | some k =>
    rw [q] at eb
    cases eb
    exact .inl (by unfold bO; simp only [q]; rfl)
theorem sp2_nin : PureS2 K (rNinA K) (bO dNin) := (sp2_inF true).or sp2_ninL fun x y z h => by
  obtain ⟨b, eb, rfl⟩ := bO_some h
  unfold dNin dIn at eb
  cases q : dInF x y with
  | none =>
    rw [q] at eb
    have eb' : (dInL x y).map (!·) = some b := eb
    exact .inr (by unfold bO; simp only [eb']; rfl)
  | some k =>
    rw [q] at eb
    cases eb
    exact .inl (by unfold bO; simp only [q]; rfl)
theorem p2_in : PureR2 K (rInA K) (bO dIn) := sp2_in.c
theorem p2_nin : PureR2 K (rNinA K) (bO dNin) := sp2_nin.c
/-! isinstance -/
def tyD : D → Option String
  | .non => some "NoneType"
  | .bl _ => some "bool"
  | .int _ => some "int"
  | .str _ => some "str"
  | .tup _ => some "tuple"
  | .lst _ => some "list"
  | .dct _ _ => some "dict"
  | .scr _ => none
theorem ty_of {H : Hp} {L : Exc} {d : D} {v : V} {n : String} (h : Rep K H L d v) (e : tyD d = some n) : TyX K H v (.type n) := by
  cases d with
  | non => cases e; rw [rep_non h]; exact .base .non
  | bl _ => cases e; rw [rep_bl h]; exact .base (.bl _)
  | int _ => cases e; rw [rep_int h]; exact .base (.int _)
  | str _ => cases e; rw [rep_str h]; exact .base (.str _)
  | tup _ => cases e; obtain ⟨a, xs, rfl, ⟨h1, _⟩, _⟩ := rep_tup h; exact .base (.tup h1)
  | lst _ => cases e; obtain ⟨a, xs, rfl, ⟨h1, _⟩, _⟩ := rep_lst h; exact .base (.lst h1)
  | dct _ _ =>
    cases e
    unfold Rep at h
    obtain ⟨a, rfl, _, h1⟩ := h
    rcases h1 with ⟨kvs, h1, _⟩ | ⟨kvs, h1, _⟩
    · exact .base (.dK h1)
    · exact .base (.dT h1)
  | scr _ => cases e
def dIsi (n : String) (d : D) : Option D := ((tyD d).bind fun a => kitB a n).map D.bl
end
end RK
set_option Elab.async false
set_option linter.all false
set_option maxRecDepth 100000
set_option maxHeartbeats 4000000
/-! RkF: expressions of the text, by rules. -/
namespace RK
open PySem PySem.Spec PyProof.Rows L2

def mFnO := mFn
def rMkT : List V → Hp → VK → Prop := fun xs H Q => xs.length ≤ sizeLine ∧ ∀ p, H p = none → Q (.ref p) (upd H p (.tup xs))
def rMkL : List V → Hp → VK → Prop := fun xs H Q => xs.length ≤ sizeLine ∧ ∀ p, H p = none → Q (.ref p) (upd H p (.lst xs))
def dMkT (ds : List D) : Option D := if ds.length ≤ 1000 then some (.tup ds) else none
def dMkL (ds : List D) : Option D := if ds.length ≤ 1000 then some (.lst ds) else none
section
variable {K : PySem.W.Frag}
theorem pc_mkT : PureC K rMkT dMkT := pureC_new fun H L vs ds z h e => by
  unfold dMkT at e
  split at e
  · rename_i q
    cases e
    exact ⟨.tup vs, fun p L' hp n h' => rep_new_tup n h', fun Q hq => ⟨by rw [← h.length, sizeLine_eq]; omega, hq⟩⟩
  · cases e
theorem pco_mkL : PureCO K rMkL dMkL := pureCO_new fun H L vs ds z h e => by
  unfold dMkL at e
  split at e
  · rename_i q
    cases e
    exact ⟨.lst vs, .inl ⟨_, rfl⟩, fun p L' hp n h' => own_new_lst h', fun Q hq => ⟨by rw [← h.length, sizeLine_eq]; omega, hq⟩⟩
  · cases e
end
/-! ### slices -/
def cutL {α : Type} (xs : List α) (lo hi : Option Int) : List α := (xs.drop (HT.sIx xs.length 0 lo)).take (HT.sIx xs.length xs.length hi - HT.sIx xs.length 0 lo)
def partD : D → Option (Option Int)
  | .non => some none
  | .int i => some (some i)
  | _ => none
def mPart (m : ME) : ME := fun ρ => match m ρ with
  | .ok (.int i) ρ1 => .ok (.int i) ρ1
  | .raise s => .raise s
  | _ => .fail
def mSl (f : D → Option Int → Option Int → Option D) (a lo hi : ME) : ME := fun ρ => match a ρ with
  | .ok x ρ1 => (match lo ρ1 with
    | .ok l ρ2 => (match hi ρ2 with
      | .ok h ρ3 => (match partD l, partD h with
        | some l', some h' => (match f x l' h' with
          | some z => .ok z ρ3
          | none => .fail)
        | _, _ => .fail)
      | .raise s => .raise s
      | .fail => .fail)
    | .raise s => .raise s
    | .fail => .fail)
  | .raise s => .raise s
  | .fail => .fail
def dSlT (x : D) (lo hi : Option Int) : Option D := match x with
  | .tup ds => some (.tup (cutL ds lo hi))
  | _ => none
def dSlL (x : D) (lo hi : Option Int) : Option D := match x with
  | .lst ds => some (.lst (cutL ds lo hi))
  | .scr ns => some (.lst ((cutL ns lo hi).map D.int))
  | _ => none
structure EvP (X : Cx) (T : Tabl) (B : Addr) (E : XK) (t : TO) (m : ME) : Prop where
  run : ∀ (c : Cfg) (σ : L2.St) (H : Hp) (ρ : Env) (Γ : Gam) (Q : Option Int → Hp → Prop), Rl X.K T c σ H ρ Γ → (∀ d ρ' o H', m ρ = .ok d ρ' → partD d = some o → Rl X.K T c σ H' ρ' Γ → Q o H') →
    (∀ nm, m ρ = .raise nm → RsOk T c B E nm) → m ρ ≠ .fail → t σ H Q
structure DP (X : Cx) (T : Tabl) (B : Addr) (E : XK) (e : Option Expr) (m : ME) : Prop where
  ex : ∃ t, PO X e t ∧ EvP X T B E t m
def PureSl (K : PySem.W.Frag) (r : V → Option Int → Option Int → Hp → VK → Prop) (f : D → Option Int → Option Int → Option D) : Prop := ∀ (T : Tabl) (c : Cfg) (σ : L2.St) (H : Hp) (ρ : Env) (Γ : Gam) (v : V) (d z : D) (lo hi : Option Int) (Q : VK), Rl K T c σ H ρ ((v, .im d) :: Γ) → f d lo hi = some z →
  (∀ u H', Rl K T c σ H' ρ ((u, .im z) :: (v, .im d) :: Γ) → Q u H') → r v lo hi H Q
def PureSlO (K : PySem.W.Frag) (r : V → Option Int → Option Int → Hp → VK → Prop) (f : D → Option Int → Option Int → Option D) : Prop := ∀ (T : Tabl) (c : Cfg) (σ : L2.St) (H : Hp) (ρ : Env) (Γ : Gam) (v : V) (d z : D) (lo hi : Option Int) (Q : VK), Rl K T c σ H ρ ((v, .im d) :: Γ) → f d lo hi = some z →
  (∀ u H', Rl K T c σ H' ρ ((u, .ow z) :: (v, .im d) :: Γ) → Q u H') → r v lo hi H Q
section
variable {K : PySem.W.Frag}
theorem reps_cut {H : Hp} {L : Exc} {ds : List D} {vs : List V} {lo hi : Option Int} (r : Reps K H L ds vs) : Reps K H L (cutL ds lo hi) (cutV vs lo hi) := by
  unfold cutL cutV
  rw [r.length]
  exact (r.drop _).take _
theorem cut_map (ns : List Int) (lo hi : Option Int) : cutV (ns.map V.int) lo hi = (cutL ns lo hi).map V.int := by
  unfold cutV cutL
  rw [List.length_map, List.map_take, List.map_drop]
theorem psl_T : PureSl K (rSlA K) dSlT := by
  intro T c σ H ρ Γ v d z lo hi Q r0 hf hq
  unfold dSlT at hf
  split at hf
  · cases hf
    rename_i ds
    obtain ⟨L, hi', _⟩ := r0.imm
    obtain ⟨a, xs, rfl, ⟨h1, n⟩, r⟩ := rep_tup hi'.1
    refine ⟨a, xs, rfl, sqT_of h1, fun hw => ?_, fun _ p hp => hq _ _ (r0.alloc hp fun L' n' hi2 => rep_new_tup n' ?_)⟩
    · refine hq _ H (r0.add fun L' hi2 => ?_)
      have e : cutL ds lo hi = ds := by
        unfold cutL
        rw [← r.length] at hw
        rw [hw.1, hw.2, List.drop_zero, Nat.sub_zero, List.take_length]
      rw [e]
      exact hi2.1
    · obtain ⟨a', xs', ea, ⟨h1', _⟩, r'⟩ := rep_tup hi2.1
      cases ea
      rw [upd_ne (ne_of_none h1 hp), h1] at h1'
      cases h1'
      exact reps_cut r'
  · cases hf
theorem pslo_L : PureSlO K (rSlL K) dSlL := by
  intro T c σ H ρ Γ v d z lo hi Q r0 hf hq
  unfold dSlL at hf
  obtain ⟨L, hi', _⟩ := r0.imm
  split at hf
  · cases hf
    rename_i ds
    obtain ⟨a, xs, rfl, ⟨h1, n⟩, r⟩ := rep_lst hi'.1
    refine ⟨a, xs, rfl, sqL_of h1, fun p hp => hq _ _ (r0.allocO hp (.inl ⟨_, rfl⟩) fun L' n' hi2 => own_new_lst ?_)⟩
    obtain ⟨a', xs', ea, ⟨h1', _⟩, r'⟩ := rep_lst hi2.1
    cases ea
    rw [upd_ne (ne_of_none h1 hp), h1] at h1'
    cases h1'
    exact reps_cut r'
  · cases hf
    obtain ⟨a, rfl, h1⟩ := rep_scr hi'.1
    refine ⟨a, _, rfl, h1.sq, fun p hp => ?_⟩
    rw [cut_map]
    exact hq _ _ (r0.allocO hp (.inl ⟨_, rfl⟩) fun L' n' hi2 => own_new_lst (Reps.of_ints _))
  · cases hf
end
section
variable {X : Cx} {T : Tabl} {B : Addr} {E : XK} {ma mb mk ml mh : ME} {mt mu : MB} {mr : MA} {pos p : Pos} {a b e e2 e3 : Expr} {es : List Expr}

theorem evp_none : EvP X T B E tNoPart (mC .non) := ⟨fun c σ H ρ Γ Q r h hx hf => h .non ρ none H rfl rfl r⟩
theorem evp_some {t : TE} (h : EvD X T B E t ma) : EvP X T B E (tPart t) (mPart ma) := ⟨fun c σ H ρ Γ Q r0 hq hx hf => by
  unfold mPart at hq hx hf
  refine h.run c σ H ρ Γ _ r0 (fun x ρ1 v H1 e1 r1 => ?_) (fun nm e1 => ?_) fun e1 => ?_
  · rw [e1] at hq hx hf
    cases x with
    | int i =>
      obtain ⟨L, hi, _⟩ := r1.imm
      exact ⟨i, rep_int hi.1, hq _ ρ1 _ H1 rfl rfl r1.pop⟩
    | _ => exact absurd rfl hf
  · rw [e1] at hx; exact hx nm rfl
  · rw [e1] at hf; exact hf rfl⟩
theorem ev_slG {r : V → Option Int → Option Int → Hp → VK → Prop} {f : D → Option Int → Option Int → Option D} {t : TE} {tl th : TO} (k : D → Sl)
    (hr : ∀ (T : Tabl) (c : Cfg) (σ : L2.St) (H : Hp) (ρ : Env) (Γ : Gam) (v : V) (d z : D) (lo hi : Option Int) (Q : VK), Rl X.K T c σ H ρ ((v, .im d) :: Γ) → f d lo hi = some z → (∀ u H', Rl X.K T c σ H' ρ ((u, k z) :: Γ) → Q u H') → r v lo hi H Q)
    (ha : EvD X T B E t ma) (hl : EvP X T B E tl ml) (hh : EvP X T B E th mh) (c : Cfg) (σ : L2.St) (H : Hp) (ρ : Env) (Γ : Gam) (Q : VK) (r0 : Rl X.K T c σ H ρ Γ) (hq : ∀ d ρ' v H', mSl f ma ml mh ρ = .ok d ρ' → Rl X.K T c σ H' ρ' ((v, k d) :: Γ) → Q v H')
    (hx : ∀ nm, mSl f ma ml mh ρ = .raise nm → RsOk T c B E nm) (hf : mSl f ma ml mh ρ ≠ .fail) : tSl r t tl th σ H Q := by
  unfold mSl at hq hx hf
  refine ha.run c σ H ρ Γ _ r0 (fun x ρ1 v H1 e1 r1 => ?_) (fun nm e1 => ?_) fun e1 => ?_
  · simp only [e1] at hq hx hf
    refine hl.run c σ H1 ρ1 _ _ r1 (fun l ρ2 o2 H2 e2 p2 r2 => ?_) (fun nm e2 => ?_) fun e2 => ?_
    · simp only [e2, p2] at hq hx hf
      refine hh.run c σ H2 ρ2 _ _ r2 (fun h ρ3 o3 H3 e3 p3 r3 => ?_) (fun nm e3 => ?_) fun e3 => ?_
      · simp only [e3, p3] at hq hx hf
        cases ef : f x o2 o3 with
        | none => simp only [ef] at hf; exact absurd rfl hf
        | some z =>
          simp only [ef] at hq
          exact hr T c σ H3 ρ3 Γ v x z o2 o3 Q r3 ef fun u H' r' => hq z ρ3 u H' rfl r'
      · simp only [e3] at hx; exact hx nm rfl
      · simp only [e3] at hf; exact hf rfl
    · simp only [e2] at hx; exact hx nm rfl
    · simp only [e2] at hf; exact hf rfl
  · simp only [e1] at hx; exact hx nm rfl
  · simp only [e1] at hf; exact hf rfl
theorem ev_sl {r : V → Option Int → Option Int → Hp → VK → Prop} {f : D → Option Int → Option Int → Option D} {t : TE} {tl th : TO} (hr : PureSl X.K r f) (ha : EvD X T B E t ma) (hl : EvP X T B E tl ml) (hh : EvP X T B E th mh) : EvD X T B E (tSl r t tl th) (mSl f ma ml mh) :=
  ⟨fun c σ H ρ Γ Q r0 hq hx hf => ev_slG Sl.im (fun T c σ H ρ Γ v d z lo hi Q r0 e hq => hr T c σ H ρ Γ v d z lo hi Q r0 e fun u H' r' => hq u H' r'.cut1) ha hl hh c σ H ρ Γ Q r0 hq hx hf⟩
theorem ev_slO {r : V → Option Int → Option Int → Hp → VK → Prop} {f : D → Option Int → Option Int → Option D} {t : TE} {tl th : TO} (hr : PureSlO X.K r f) (ha : EvD X T B E t ma) (hl : EvP X T B E tl ml) (hh : EvP X T B E th mh) : EvO X T B E (tSl r t tl th) (mSl f ma ml mh) :=
  ⟨fun c σ H ρ Γ Q r0 hq hx hf => ev_slG Sl.ow (fun T c σ H ρ Γ v d z lo hi Q r0 e hq => hr T c σ H ρ Γ v d z lo hi Q r0 e fun u H' r' => hq u H' (r'.cutO [(v, .im d)])) ha hl hh c σ H ρ Γ Q r0 hq hx hf⟩
theorem ev_cbO {r : List V → Hp → VK → Prop} {f : List D → Option D} {t : TA} (hr : PureCO X.K r f) (ha : EvA X T B E t mr) : EvO X T B E (tCB r t) (mFn f mr) := ⟨fun c σ H ρ Γ Q r0 h hx hf => by
  unfold mFn at h hx hf
  refine ha.run c σ H ρ Γ _ r0 (fun xs ρ1 vs H1 e1 hl r1 => ?_) (fun nm e1 => ?_) fun e1 => ?_
  · simp only [e1] at h hf
    cases ef : f xs with
    | none => simp only [ef] at hf; exact absurd rfl hf
    | some z =>
      simp only [ef] at h
      exact hr T c σ H1 ρ1 Γ vs xs z Q hl r1 ef fun u H' r3 => h z ρ1 u H' rfl (r3.cutO (gz vs xs))
  · simp only [e1] at hx; exact hx nm rfl
  · simp only [e1] at hf; exact hf rfl⟩
theorem ev_opO {r : R2} {f : D → D → Option D} {ta tb : TE} (hr : PureR2O X.K r f) (ha : EvD X T B E ta ma) (hb : EvD X T B E tb mb) : EvO X T B E (tOp r ta tb) (mBin f ma mb) := ⟨fun c σ H ρ Γ Q r0 h hx hf => by
  unfold mBin at h hx hf
  refine ha.run c σ H ρ Γ _ r0 (fun x ρ1 v H1 e1 r1 => ?_) (fun nm e1 => ?_) fun e1 => ?_
  · rw [e1] at h hx hf
    refine hb.run c σ H1 ρ1 _ _ r1 (fun y ρ2 w H2 e2 r2 => ?_) (fun nm e2 => ?_) fun e2 => ?_
    · simp only [e2] at h hx hf
      cases ef : f x y with
      | none => rw [ef] at hf; exact absurd rfl hf
      | some z =>
        rw [ef] at h
        exact hr T c σ H2 ρ2 Γ v w x y z Q r2 ef fun u H' r3 => h z ρ2 u H' rfl (r3.cutO [(w, .im y), (v, .im x)])
    · simp only [e2] at hx; exact hx nm rfl
    · simp only [e2] at hf; exact hf rfl
  · rw [e1] at hx; exact hx nm rfl
  · rw [e1] at hf; exact hf rfl⟩

/-! ### the rules of the text -/
theorem de_v (i : Nat) {x : Str} (hN : X.N[i]? = some x := by rfl) (hv : Vis X.env.scope x := by first | exact Or.inl rfl | exact Or.inr (Or.inl rfl) | exact Or.inr (Or.inr rfl)) (hd : (x == ("__debug__" : Str)) = false := by decide)
    (hcd : (x == ("__classdict__" : Str)) = false := by decide) : DE X T B E (.Name x pos) (mVar i) := ⟨_, pe_var hN hv hd hcd, ev_var⟩
theorem de_int {i : Int} {j} : DE X T B E (.Constant (.int i) j pos) (mC (.int i)) := ⟨_, pe_int, ev_c (scl_int i)⟩
theorem de_bl {i : Bool} {j} : DE X T B E (.Constant (.bool i) j pos) (mC (.bl i)) := ⟨_, pe_bl, ev_c (scl_bl i)⟩
theorem de_str {i : Str} {j} : DE X T B E (.Constant (.str i) j pos) (mC (.str i)) := ⟨_, pe_str, ev_c (scl_str i)⟩
theorem de_non {j} : DE X T B E (.Constant .none j pos) (mC .non) := ⟨_, pe_non, ev_c scl_non⟩
theorem de_gi {x : Str} {k : Int} (hm : ∃ t, X.mg x = some (.int k t)) (hg : Gl X x := by rfl) (hd : (x == ("__debug__" : Str)) = false := by decide) : DE X T B E (.Name x pos) (mC (.int k)) := by
  obtain ⟨t, hm⟩ := hm
  exact ⟨_, pe_glob (v := .int k) hg hm ⟨t, rfl⟩ hd, ev_c (scl_int k)⟩
theorem de_gs {x : Str} {k : Str} (hm : ∃ t, X.mg x = some (.str k t)) (hg : Gl X x := by rfl) (hd : (x == ("__debug__" : Str)) = false := by decide) : DE X T B E (.Name x pos) (mC (.str k)) := by
  obtain ⟨t, hm⟩ := hm
  exact ⟨_, pe_glob (v := .str k) hg hm ⟨t, rfl⟩ hd, ev_c (scl_str k)⟩
theorem de_bin {op : Operator} {r : R2} {f : D → D → Option D} (ho : OpR X (binaryOp op) r) (hr : PureR2 X.K r f) (ha : DE X T B E a ma) (hb : DE X T B E b mb) : DE X T B E (.BinOp a op b pos) (mBin f ma mb) := by
  obtain ⟨ta, a1, a2⟩ := ha.ex
  obtain ⟨tb, b1, b2⟩ := hb.ex
  exact ⟨_, pe_op ho a1 b1, ev_op hr a2 b2⟩
theorem do_bin {op : Operator} {r : R2} {f : D → D → Option D} (ho : OpR X (binaryOp op) r) (hr : PureR2O X.K r f) (ha : DE X T B E a ma) (hb : DE X T B E b mb) : DO X T B E (.BinOp a op b pos) (mBin f ma mb) := by
  obtain ⟨ta, a1, a2⟩ := ha.ex
  obtain ⟨tb, b1, b2⟩ := hb.ex
  exact ⟨_, pe_op ho a1 b1, ev_opO hr a2 b2⟩
theorem de_add (ha : DE X T B E a ma) (hb : DE X T B E b mb) : DE X T B E (.BinOp a .Add b pos) (mBin dAdd ma mb) := de_bin o_add p2_add ha hb
theorem do_add (ha : DE X T B E a ma) (hb : DE X T B E b mb) : DO X T B E (.BinOp a .Add b pos) (mBin dAddL ma mb) := do_bin op_cat p2_addL ha hb
theorem de_sub (ha : DE X T B E a ma) (hb : DE X T B E b mb) : DE X T B E (.BinOp a .Sub b pos) (mBin dSub ma mb) := de_bin op_sub p2_sub ha hb
theorem de_mul (ha : DE X T B E a ma) (hb : DE X T B E b mb) : DE X T B E (.BinOp a .Mult b pos) (mBin dMul ma mb) := de_bin o_mul p2_mul ha hb
theorem de_div (ha : DE X T B E a ma) (hb : DE X T B E b mb) : DE X T B E (.BinOp a .FloorDiv b pos) (mBin dDiv ma mb) := de_bin op_fdivW p2_div ha hb
theorem de_mod (ha : DE X T B E a ma) (hb : DE X T B E b mb) : DE X T B E (.BinOp a .Mod b pos) (mBin dMod ma mb) := de_bin op_mod p2_mod ha hb
theorem de_pow (ha : DE X T B E a ma) (hb : DE X T B E b mb) : DE X T B E (.BinOp a .Pow b pos) (mBin dPow ma mb) := de_bin op_pow p2_pow ha hb
theorem de_neg (ha : DE X T B E a ma) : DE X T B E (.UnaryOp .USub a pos) (mUn dNeg ma) := by
  obtain ⟨ta, a1, a2⟩ := ha.ex
  refine ⟨_, pe_un un_neg a1, ev_un (pureU_of fun H L v d z h e => ?_) a2⟩
  unfold dNeg at e
  split at e
  · cases e
    have e2 := rep_int h
    subst e2
    exact ⟨_, fun _ _ => scl_int _ _ _ _, fun Q q => ⟨_, rfl, q⟩⟩
  · cases e
/-- a comparison -/
theorem de_cmp {op : CmpOp} {r : R2} {f : D → D → Option Bool} (ho : OpR X (compareOp op) r) (hr : PureR2 X.K r (bO f)) (hm : behindInMarks op b = false) (ha : DE X T B E a ma) (hb : DE X T B E b mb) : DE X T B E (.Compare a [op] [b] pos) (mBin (bO f) ma mb) := by
  obtain ⟨ta, a1, a2⟩ := ha.ex
  obtain ⟨tb, b1, b2⟩ := hb.ex
  exact ⟨_, pe_cmpR ho a1 b1 hm, ev_op hr a2 b2⟩
theorem db_cmp {op : CmpOp} {r : R2} {f : D → D → Option Bool} (ho : OpR X (compareOp op) r) (hr : PureR2 X.K r (bO f)) (hm : behindInMarks op b = false) (ha : DE X T B E a ma) (hb : DE X T B E b mb) : DB X T B E (.Compare a [op] [b] pos) (mTst (mBin (bO f) ma mb)) := by
  obtain ⟨ta, a1, a2⟩ := ha.ex
  obtain ⟨tb, b1, b2⟩ := hb.ex
  exact ⟨_, pt_cmpR ho a1 b1 hm, evb_tst' (ev_op hr a2 b2)⟩
theorem de_chn {op op' : CmpOp} {r r' : R2} {f g : D → D → Option Bool} (ho : OpR X (compareOp op) r) (ho' : OpR X (compareOp op') r') (hr : PureR2 X.K r (bO f)) (hr' : PureR2 X.K r' (bO g)) (ha : DE X T B E a ma) (hb : DE X T B E b mb) (hc : DE X T B E e mk)
    (hm : lastMarks [op, op'] [b, e] = false := by with_unfolding_all rfl) : DE X T B E (.Compare a [op, op'] [b, e] pos) (mChn f g ma mb mk) := by
  obtain ⟨ta, a1, a2⟩ := ha.ex
  obtain ⟨tb, b1, b2⟩ := hb.ex
  obtain ⟨tc, c1, c2⟩ := hc.ex
  exact ⟨_, pe_chain ho ho' a1 b1 c1 hm, ev_chn hr hr' a2 b2 c2⟩
theorem db_chn {op op' : CmpOp} {r r' : R2} {f g : D → D → Option Bool} (ho : OpR X (compareOp op) r) (ho' : OpR X (compareOp op') r') (hr : PureR2 X.K r (bO f)) (hr' : PureR2 X.K r' (bO g)) (ha : DE X T B E a ma) (hb : DE X T B E b mb) (hc : DE X T B E e mk)
    (hm : lastMarks [op, op'] [b, e] = false := by with_unfolding_all rfl) : DB X T B E (.Compare a [op, op'] [b, e] pos) (mTst (mChn f g ma mb mk)) := by
  obtain ⟨ta, a1, a2⟩ := ha.ex
  obtain ⟨tb, b1, b2⟩ := hb.ex
  obtain ⟨tc, c1, c2⟩ := hc.ex
  exact ⟨_, pt_chain ho ho' a1 b1 c1 hm, evb_tst' (ev_chn hr hr' a2 b2 c2)⟩
theorem db_val (h : DE X T B E a ma) (he : ∀ whole, isTrue a X.env whole = (do let v ← whole; standAt a.pos; holding [v] (truthy v)) := by intro _; rfl) : DB X T B E a (mTst ma) := by
  obtain ⟨ta, a1, a2⟩ := h.ex
  exact ⟨_, pt_val a1 he, evb_tst a2⟩
theorem db_not (h : DB X T B E a mt) : DB X T B E (.UnaryOp .Not a pos) (mNotB mt) := by
  obtain ⟨ta, a1, a2⟩ := h.ex
  exact ⟨_, pt_not a1, evb_not a2⟩
theorem dwB (h : DW X T B E a mt) : DB X T B E a mt := by
  obtain ⟨ta, a1, a2⟩ := h.ex
  exact ⟨_, a1.pt, a2⟩
theorem dw_and1 (h : DB X T B E a mt) : DW X T B E (.BoolOp .And [a] pos) mt := by
  obtain ⟨ta, a1, a2⟩ := h.ex
  exact ⟨_, pw_and1 a1, a2⟩
theorem dw_or1 (h : DB X T B E a mt) : DW X T B E (.BoolOp .Or [a] pos) mt := by
  obtain ⟨ta, a1, a2⟩ := h.ex
  exact ⟨_, pw_or1 a1, a2⟩
theorem dw_and (h : DB X T B E a mt) (hr : DW X T B E (.BoolOp .And (b :: es) pos) mu) : DW X T B E (.BoolOp .And (a :: b :: es) pos) (mAndB mt mu) := by
  obtain ⟨ta, a1, a2⟩ := h.ex
  obtain ⟨tb, b1, b2⟩ := hr.ex
  exact ⟨_, pw_and a1 b1, evb_and a2 b2⟩
theorem dw_or (h : DB X T B E a mt) (hr : DW X T B E (.BoolOp .Or (b :: es) pos) mu) : DW X T B E (.BoolOp .Or (a :: b :: es) pos) (mOrB mt mu) := by
  obtain ⟨ta, a1, a2⟩ := h.ex
  obtain ⟨tb, b1, b2⟩ := hr.ex
  exact ⟨_, pw_or a1 b1, evb_or a2 b2⟩
theorem de_one {op} (h : DE X T B E a ma) : DE X T B E (.BoolOp op [a] pos) ma := by
  obtain ⟨ta, a1, a2⟩ := h.ex
  exact ⟨_, pe_one a1, a2⟩
theorem de_and (h : DE X T B E a ma) (hr : DE X T B E (.BoolOp .And (b :: es) pos) mb) : DE X T B E (.BoolOp .And (a :: b :: es) pos) (mVal (mAndB (mTst ma) (mTst mb))) := by
  obtain ⟨ta, a1, a2⟩ := h.ex
  obtain ⟨tb, b1, b2⟩ := hr.ex
  exact ⟨_, pe_and a1 b1, ev_andV a2 b2⟩
theorem de_or (h : DE X T B E a ma) (hr : DE X T B E (.BoolOp .Or (b :: es) pos) mb) : DE X T B E (.BoolOp .Or (a :: b :: es) pos) (mVal (mOrB (mTst ma) (mTst mb))) := by
  obtain ⟨ta, a1, a2⟩ := h.ex
  obtain ⟨tb, b1, b2⟩ := hr.ex
  exact ⟨_, pe_or a1 b1, ev_orV a2 b2⟩
theorem de_not (h : DE X T B E a ma) : DE X T B E (.UnaryOp .Not a pos) (mVal (mNotB (mTst ma))) := by
  obtain ⟨ta, a1, a2⟩ := h.ex
  exact ⟨_, pe_not a1, ev_notV a2⟩
theorem de_ifE {t : Expr} (h : DB X T B E t mt) (ha : DE X T B E a ma) (hb : DE X T B E b mb) : DE X T B E (.IfExp t a b pos) (mIfE mt ma mb) := by
  obtain ⟨tt, t1, t2⟩ := h.ex
  obtain ⟨ta, a1, a2⟩ := ha.ex
  obtain ⟨tb, b1, b2⟩ := hb.ex
  exact ⟨_, pe_ifExp t1 a1 b1, ev_ifE t2 a2 b2⟩
/-! lists of arguments -/
theorem lenA_nil : LenA mNil 0 := fun ρ ds ρ' h => by
  unfold mNil at h
  cases h
  rfl
theorem lenA_cons {m : ME} {r : MA} {n : Nat} (h : LenA r n) : LenA (mCons m r) (n + 1) := fun ρ ds ρ' e => by
  unfold mCons at e
  split at e
  · split at e
    · rename_i q
      cases e
      rw [List.length_cons, h _ _ _ q]
    · cases e
    · cases e
  · cases e
  · cases e
theorem da_nil : DA X T B E [] mNil := ⟨⟨_, pa_nil, eva_nil⟩, lenA_nil⟩
theorem da_cons (h : DE X T B E e ma) (hr : DA X T B E es mr) (hs : starEach (e :: es) X.env = (false, eval e X.env) :: starEach es X.env := by rfl) : DA X T B E (e :: es) (mCons ma mr) := by
  obtain ⟨ta, a1, a2⟩ := h.ex
  obtain ⟨tb, b1, b2⟩ := hr.ex
  exact ⟨⟨_, pa_cons a1 b1 hs, eva_cons a2 b2⟩, lenA_cons hr.len⟩
theorem de_tup {x1} (h : DA X T B E es mr) : DE X T B E (.Tuple es x1 pos) (mFn dMkT mr) := by
  obtain ⟨ta, a1, a2⟩ := h.ex
  exact ⟨_, pe_tup a1, ev_cb (r := rMkT) pc_mkT a2⟩
theorem do_lst (h : DA X T B E es mr) : DO X T B E (.List es pos) (mFn dMkL mr) := by
  obtain ⟨ta, a1, a2⟩ := h.ex
  exact ⟨_, pe_lst a1, ev_cbO (r := rMkL) pco_mkL a2⟩
theorem de_lst (h : DA X T B E es mr) : DE X T B E (.List es pos) (mFn dMkL mr) := (do_lst h).toE
/-! subscripts -/
theorem de_ix (ha : DE X T B E a ma) (hb : DE X T B E b mb) (hs : PlainIx b := by intro _ _; rfl) : DE X T B E (.Subscript a b pos) (mBin dAt ma mb) := by
  obtain ⟨ta, a1, a2⟩ := ha.ex
  obtain ⟨tb, b1, b2⟩ := hb.ex
  exact ⟨_, pe_ix ix_seq a1 b1 hs, ev_op p2_at a2 b2⟩
theorem dp_none : DP X T B E none (mC .non) := ⟨_, po_none, evp_none⟩
theorem dp_some (h : DE X T B E e ma) : DP X T B E (some e) (mPart ma) := by
  obtain ⟨ta, a1, a2⟩ := h.ex
  exact ⟨_, po_some a1, evp_some a2⟩
theorem de_slT {lo hi : Option Expr} {p2 : Pos} (ha : DE X T B E a ma) (hl : DP X T B E lo ml) (hh : DP X T B E hi mh) : DE X T B E (.Subscript a (.Slice lo hi none p2) pos) (mSl dSlT ma ml mh) := by
  obtain ⟨ta, a1, a2⟩ := ha.ex
  obtain ⟨tl, l1, l2⟩ := hl.ex
  obtain ⟨th, h1, h2⟩ := hh.ex
  exact ⟨_, pe_slice sl_tupA a1 l1 h1, ev_sl psl_T a2 l2 h2⟩
theorem do_slL {lo hi : Option Expr} {p2 : Pos} (ha : DE X T B E a ma) (hl : DP X T B E lo ml) (hh : DP X T B E hi mh) : DO X T B E (.Subscript a (.Slice lo hi none p2) pos) (mSl dSlL ma ml mh) := by
  obtain ⟨ta, a1, a2⟩ := ha.ex
  obtain ⟨tl, l1, l2⟩ := hl.ex
  obtain ⟨th, h1, h2⟩ := hh.ex
  exact ⟨_, pe_slice sl_list a1 l1 h1, ev_slO pslo_L a2 l2 h2⟩
theorem de_slL {lo hi : Option Expr} {p2 : Pos} (ha : DE X T B E a ma) (hl : DP X T B E lo ml) (hh : DP X T B E hi mh) : DE X T B E (.Subscript a (.Slice lo hi none p2) pos) (mSl dSlL ma ml mh) := (do_slL ha hl hh).toE
/-! calls of what is built in -/
theorem de_blt {id : String} {x : Str} {r : List V → Hp → VK → Prop} {f : List D → Option D} (hc : CallR X (.builtin id) r) (hr : PureC X.K r f) (hm : X.mg x = none) (hv : bootBuiltins x = some (.builtin id)) (ha : DA X T B E (e :: es) mr) (hg : Gl X x := by rfl) (hn : x ≠ "__name__" := by decide) (hdb : (x == ("__debug__" : Str)) = false := by decide)
    (he : starEach (e :: es) X.env = (false, eval e X.env) :: starEach es X.env := by rfl) (hpl : (backTo pos (starEach es X.env)).any (·.1) = false := by rfl) : DE X T B E (.Call (.Name x p) (e :: es) [] pos) (mFn f mr) := by
  obtain ⟨ta, a1, a2⟩ := ha.ex
  exact ⟨_, pe_callB hc hg hm hv a1 hn hdb he hpl, ev_cb hr a2⟩
theorem do_blt {id : String} {x : Str} {r : List V → Hp → VK → Prop} {f : List D → Option D} (hc : CallR X (.builtin id) r) (hr : PureCO X.K r f) (hm : X.mg x = none) (hv : bootBuiltins x = some (.builtin id)) (ha : DA X T B E (e :: es) mr) (hg : Gl X x := by rfl) (hn : x ≠ "__name__" := by decide) (hdb : (x == ("__debug__" : Str)) = false := by decide)
    (he : starEach (e :: es) X.env = (false, eval e X.env) :: starEach es X.env := by rfl) (hpl : (backTo pos (starEach es X.env)).any (·.1) = false := by rfl) : DO X T B E (.Call (.Name x p) (e :: es) [] pos) (mFn f mr) := by
  obtain ⟨ta, a1, a2⟩ := ha.ex
  exact ⟨_, pe_callB hc hg hm hv a1 hn hdb he hpl, ev_cbO hr a2⟩
theorem de_bty {id : String} {x : Str} {r : List V → Hp → VK → Prop} {f : List D → Option D} (hc : CallR X (.type id) r) (hr : PureC X.K r f) (hm : X.mg x = none) (hv : bootBuiltins x = some (.type id)) (ha : DA X T B E (e :: es) mr) (hg : Gl X x := by rfl) (hn : x ≠ "__name__" := by decide) (hdb : (x == ("__debug__" : Str)) = false := by decide)
    (he : starEach (e :: es) X.env = (false, eval e X.env) :: starEach es X.env := by rfl) (hpl : (backTo pos (starEach es X.env)).any (·.1) = false := by rfl) : DE X T B E (.Call (.Name x p) (e :: es) [] pos) (mFn f mr) := by
  obtain ⟨ta, a1, a2⟩ := ha.ex
  exact ⟨_, pe_callTy hc hg hm hv a1 hn hdb he hpl, ev_cb hr a2⟩
theorem do_bty {id : String} {x : Str} {r : List V → Hp → VK → Prop} {f : List D → Option D} (hc : CallR X (.type id) r) (hr : PureCO X.K r f) (hm : X.mg x = none) (hv : bootBuiltins x = some (.type id)) (ha : DA X T B E (e :: es) mr) (hg : Gl X x := by rfl) (hn : x ≠ "__name__" := by decide) (hdb : (x == ("__debug__" : Str)) = false := by decide)
    (he : starEach (e :: es) X.env = (false, eval e X.env) :: starEach es X.env := by rfl) (hpl : (backTo pos (starEach es X.env)).any (·.1) = false := by rfl) : DO X T B E (.Call (.Name x p) (e :: es) [] pos) (mFn f mr) := by
  obtain ⟨ta, a1, a2⟩ := ha.ex
  exact ⟨_, pe_callTy hc hg hm hv a1 hn hdb he hpl, ev_cbO hr a2⟩
/-- isinstance(e, C), C a built-in type -/
theorem de_isi {n : String} {y : Str} {p1 p2 : Pos} (hm : X.mg "isinstance" = none) (hm2 : X.mg y = none) (hv : bootBuiltins y = some (.type n)) (ha : DE X T B E e ma) (hg : Gl X "isinstance" := by rfl) (hg2 : Gl X y := by rfl) (hn2 : y ≠ "__name__" := by decide) (hdb2 : (y == ("__debug__" : Str)) = false := by decide)
    (he : starEach [e, .Name y p2] X.env = (false, eval e X.env) :: starEach [.Name y p2] X.env := by rfl) (hpl : (backTo pos (starEach [.Name y p2] X.env)).any (·.1) = false := by rfl)
    (he2 : starEach [.Name y p2] X.env = (false, eval (.Name y p2) X.env) :: starEach [] X.env := by rfl) : DE X T B E (.Call (.Name "isinstance" p1) [e, .Name y p2] [] pos) (mUn (dIsi n) ma) := by
  obtain ⟨ta, a1, a2⟩ := ha.ex
  refine ⟨_, pe_callB call_isi hg hm (by rfl) (pa_cons a1 (pa_cons (pe_bltn (v := .ty n) hg2 hm2 hv rfl hn2 hdb2) pa_nil he2) he) (by decide) (by decide) he hpl, ⟨fun c σ H ρ Γ Q r0 hq hx hf => ?_⟩⟩
  unfold mUn at hq hx hf
  refine a2.run c σ H ρ Γ _ r0 (fun x ρ1 v H1 e1 r1 => ?_) (fun nm e1 => ?_) fun e1 => ?_
  · rw [e1] at hq hx hf
    cases ef : dIsi n x with
    | none => simp only [ef] at hf; exact absurd rfl hf
    | some z =>
      simp only [ef] at hq
      unfold dIsi at ef
      cases et : tyD x with
      | none => rw [et] at ef; cases ef
      | some tn =>
        rw [et] at ef
        cases ek : kitB tn n with
        | none => simp only [Option.bind_some, ek] at ef; cases ef
        | some bb =>
          simp only [Option.bind_some, ek] at ef
          cases ef
          obtain ⟨L, hi, _⟩ := r1.imm
          exact ⟨v, .ty n, .type tn, .type n, bb, rfl, .ty n, ty_of hi.1 et, kit_ty ek, hq (.bl bb) ρ1 _ H1 rfl (r1.pop.add fun L' _ => scl_bl _ _ _ _)⟩
  · rw [e1] at hx; exact hx nm rfl
  · rw [e1] at hf; exact hf rfl
end
end RK
set_option Elab.async false
set_option linter.all false
set_option maxRecDepth 100000
set_option maxHeartbeats 4000000
/-! RkG: owned things read; statements; loops. -/
namespace RK
open PySem PySem.Spec PyProof.Rows L2

def ownAt (ρ : Env) (i : Nat) : Option D := match ρ[i]? with
  | some s => s.val
  | none => none
section
variable {K : PySem.W.Frag} {T : Tabl} {c : Cfg} {σ : L2.St} {H H' : Hp} {ρ : Env} {Γ : Gam}
theorem ownAt_some {i : Nat} {d : D} (h : ownAt ρ i = some d) : ∃ s, ρ[i]? = some s ∧ s.val = some d := by
  unfold ownAt at h
  cases e : ρ[i]? with
  | none => rw [e] at h; cases h
  | some s => rw [e] at h; exact ⟨s, rfl, h⟩
theorem Rl.own (r : Rl K T c σ H ρ Γ) {i : Nat} {d : D} (h : ownAt ρ i = some d) : ∃ a, σ[i]? = some (some (.ref a)) ∧ (∃ L, L a ∧ Own K H L a d ∧ Imm K H L Γ) ∧
    (∀ u z, (∀ L, Own K H L a d → Imm K H L Γ → Rep K H L z u) → Rl K T c σ H ρ ((u, .im z) :: Γ)) ∧
    ∀ p o u z, H p = none → (∀ L, ¬ L p → Own K (upd H p o) L a d → Imm K (upd H p o) L Γ → Rep K (upd H p o) L z u) → Rl K T c σ (upd H p o) ρ ((u, .im z) :: Γ) := by
  obtain ⟨s, hs, hv⟩ := ownAt_some h
  obtain ⟨a, e1, e2, _⟩ := r.mutS hs hv
  refine ⟨a, e1, e2, fun u z hz => ?_, fun p o u z hp hz => ?_⟩
  · obtain ⟨W, q⟩ := r
    have own : Own K H (Lx c W) a d := by
      have x := q.sl i s hs
      cases s with
      | em => cases hv
      | im _ => cases hv
      | ow y =>
        cases hv
        obtain ⟨a', e1', e2', e3'⟩ := x
        rw [e1] at e1'
        cases e1'
        exact e3'
      | pw y =>
        cases hv
        obtain ⟨e1', e2', e3'⟩ := x
        rw [e1] at e1'
        cases e1'
        exact e3'
    exact ⟨W, q.len, q.sl, ⟨⟨u, rfl, hz _ own q.gm.imm⟩, q.gm⟩, q.keep, q.there, q.wnew, q.wmut, q.live, q.apart, q.good⟩
  · obtain ⟨W, q⟩ := r
    have q' := q.grow (Grow.new (o := o) q.good hp)
    have np : ¬ Lx c W p := fun z => by
      rcases z with z | z
      · obtain ⟨u, e, _⟩ := q.live p z
        rw [hp] at e; cases e
      · obtain ⟨u, e, _⟩ := q.wmut p z
        rw [hp] at e; cases e
    have own : Own K (upd H p o) (Lx c W) a d := by
      have x := q'.sl i s hs
      cases s with
      | em => cases hv
      | im _ => cases hv
      | ow y =>
        cases hv
        obtain ⟨a', e1', e2', e3'⟩ := x
        rw [e1] at e1'
        cases e1'
        exact e3'
      | pw y =>
        cases hv
        obtain ⟨e1', e2', e3'⟩ := x
        rw [e1] at e1'
        cases e1'
        exact e3'
    exact ⟨W, q'.len, q'.sl, ⟨⟨u, rfl, hz _ np own q'.gm.imm⟩, q'.gm⟩, q'.keep, q'.there, q'.wnew, q'.wmut, q'.live, q'.apart, q'.good⟩
/-- an owned thing, where its own place is not counted -/
theorem own_lone {L : Exc} {a : Addr} {d : D} (h : Own K H L a d) : Rep K H (fun x => L x ∧ x ≠ a) d (.ref a) :=
  Own.rep (fun z => z.2 rfl) (Own.step (L' := fun x => L x ∧ x ≠ a) ⟨fun _ _ _ h _ => h, fun x hx => .inl hx.1⟩ rfl h)
end
def mAtO (i : Nat) (mb : ME) : ME := fun ρ => match ownAt ρ i with
  | some _ => (match mb ρ with
    | .ok y ρ1 => (match ownAt ρ1 i with
      | some d => (match dAt d y with
        | some z => .ok z ρ1
        | none => .fail)
      | none => .fail)
    | .raise s => .raise s
    | .fail => .fail)
  | none => .fail
def mFnI (f : List D → Option D) (i : Nat) : ME := fun ρ => match ownAt ρ i with
  | some d => (match f [d] with
    | some z => .ok z ρ
    | none => .fail)
  | none => .fail
def mInO (f : D → D → Option D) (ma : ME) (i : Nat) : ME := fun ρ => match ma ρ with
  | .ok x ρ1 => (match ownAt ρ1 i with
    | some d => (match f x d with
      | some z => .ok z ρ1
      | none => .fail)
    | none => .fail)
  | .raise s => .raise s
  | .fail => .fail
section
variable {X : Cx} {T : Tabl} {B : Addr} {E : XK} {ma mb mk ml mh : ME} {mt mu : MB} {mr : MA} {m m' m1 m2 : MS} {pos p : Pos} {a b e e2 e3 : Expr} {es : List Expr} {st : Stmt} {sts : List Stmt}
theorem ev_atO {i : Nat} {tb : TE} (hb : EvD X T B E tb mb) : EvD X T B E (tOp (rIx X.K) (tVar i) tb) (mAtO i mb) := ⟨fun c σ H ρ Γ Q r0 h hx hf => by
  unfold mAtO at h hx hf
  cases e0 : ownAt ρ i with
  | none => rw [e0] at hf; exact absurd rfl hf
  | some d0 =>
    simp only [e0] at h hx hf
    obtain ⟨a, ea, _⟩ := r0.own e0
    refine ⟨.ref a, ea, hb.run c σ H ρ Γ _ r0 (fun y ρ1 w H1 e1 r1 => ?_) (fun nm e1 => ?_) fun e1 => ?_⟩
    · simp only [e1] at h hx hf
      cases e2 : ownAt ρ1 i with
      | none => simp only [e2] at hf; exact absurd rfl hf
      | some d =>
        simp only [e2] at h hx hf
        cases ef : dAt d y with
        | none => simp only [ef] at hf; exact absurd rfl hf
        | some z =>
          simp only [ef] at h
          obtain ⟨a', ea', ⟨L, la, ow, im⟩, put, _⟩ := r1.own e2
          rw [ea] at ea'
          cases ea'
          cases d with
          | lst ds =>
            cases y with
            | int k =>
              have e3 := rep_int im.1
              subst e3
              obtain ⟨xs, h1, h2⟩ := ow
              obtain ⟨u, eu, ru⟩ := reps_atI h2 ef
              refine .inl ⟨a, xs, k, u, rfl, rfl, sqL_of h1, eu, h z ρ1 u H1 rfl (Rl.cut1 (put u z fun L' ow' im' => ?_))⟩
              obtain ⟨xs', h1', h2'⟩ := ow'
              rw [h1] at h1'
              cases h1'
              obtain ⟨u', eu', ru'⟩ := reps_atI h2' ef
              rw [eu] at eu'
              cases eu'
              exact ru'
            | _ => cases ef
          | _ => cases ow <;> cases ef
    · simp only [e1] at hx; exact hx nm rfl
    · simp only [e1] at hf; exact hf rfl⟩
theorem ev_fnI {i : Nat} {r : List V → Hp → VK → Prop} {f : List D → Option D} (hr : PureS X.K r f) : EvD X T B E (tCB r (tCons (tVar i) tNil)) (mFnI f i) := ⟨fun c σ H ρ Γ Q r0 h hx hf => by
  unfold mFnI at h hx hf
  cases e0 : ownAt ρ i with
  | none => rw [e0] at hf; exact absurd rfl hf
  | some d =>
    simp only [e0] at h hf
    cases ef : f [d] with
    | none => simp only [ef] at hf; exact absurd rfl hf
    | some z =>
      simp only [ef] at h
      obtain ⟨a, ea, ⟨L, la, ow, im⟩, put, _⟩ := r0.own e0
      obtain ⟨u, hu, hq⟩ := hr H _ [.ref a] [d] z (Reps.cons (own_lone ow) Reps.nil) ef
      exact ⟨.ref a, ea, hq Q (h z ρ u H rfl (r0.add fun L' _ => hu _ _ _))⟩⟩
theorem ev_inO {i : Nat} {ta : TE} {r : R2} {f : D → D → Option D} (hr : PureS2 X.K r f) (ha : EvD X T B E ta ma) : EvD X T B E (tOp r ta (tVar i)) (mInO f ma i) := ⟨fun c σ H ρ Γ Q r0 h hx hf => by
  unfold mInO at h hx hf
  refine ha.run c σ H ρ Γ _ r0 (fun x ρ1 v H1 e1 r1 => ?_) (fun nm e1 => ?_) fun e1 => ?_
  · simp only [e1] at h hx hf
    cases e0 : ownAt ρ1 i with
    | none => rw [e0] at hf; exact absurd rfl hf
    | some d =>
      simp only [e0] at h hf
      cases ef : f x d with
      | none => simp only [ef] at hf; exact absurd rfl hf
      | some z =>
        simp only [ef] at h
        obtain ⟨a, ea, ⟨L, la, ow, im⟩, put, _⟩ := r1.own e0
        have im' : Rep X.K H1 (fun y => L y ∧ y ≠ a) x v := Rep.step ⟨fun _ _ _ h _ => h, fun y hy => .inl hy.1⟩ x v im.1
        obtain ⟨u, hu, hq⟩ := hr H1 _ v (.ref a) x d z im' (own_lone ow) ef
        exact ⟨.ref a, ea, hq Q (h z ρ1 u H1 rfl (r1.pop.add fun L' _ => hu _ _ _))⟩
  · simp only [e1] at hx; exact hx nm rfl
  · simp only [e1] at hf; exact hf rfl⟩
/-- tuple(x), x owned -/
theorem ev_tupI {i : Nat} : EvD X T B E (tCB (fun xs H Q => ∃ p ys, xs = [.ref p] ∧ ((SqL X.K H p ys ∧ ∀ l, H l = none → Q (.ref l) (upd H l (.tup ys))) ∨ (SqT X.K H p ys ∧ Q (.ref p) H))) (tCons (tVar i) tNil)) (mFnI dTuple i) := ⟨fun c σ H ρ Γ Q r0 h hx hf => by
  unfold mFnI at h hx hf
  cases e0 : ownAt ρ i with
  | none => rw [e0] at hf; exact absurd rfl hf
  | some d =>
    simp only [e0] at h hf
    obtain ⟨a, ea, ⟨L, la, ow, im⟩, _, put⟩ := r0.own e0
    cases d with
    | lst ds =>
      obtain ⟨xs, h1, h2⟩ := ow
      refine ⟨.ref a, ea, a, xs, rfl, .inl ⟨sqL_of h1, fun p hp => h _ ρ _ _ rfl (put p (.tup xs) (.ref p) (.tup ds) hp fun L' n ow' im' => rep_new_tup n ?_)⟩⟩
      obtain ⟨xs', h1', h2'⟩ := ow'
      rw [upd_ne (ne_of_none h1 hp), h1] at h1'
      cases h1'
      exact h2'
    | dct _ _ => exact absurd rfl hf
    | _ => cases ow⟩
theorem de_atO (i : Nat) {x : Str} {px : Pos} (hb : DE X T B E b mb) (hN : X.N[i]? = some x := by rfl) (hv : Vis X.env.scope x := by first | exact Or.inl rfl | exact Or.inr (Or.inl rfl) | exact Or.inr (Or.inr rfl)) (hs : PlainIx b := by intro _ _; rfl) (hd : (x == ("__debug__" : Str)) = false := by decide)
    (hcd : (x == ("__classdict__" : Str)) = false := by decide) : DE X T B E (.Subscript (.Name x px) b pos) (mAtO i mb) := by
  obtain ⟨tb, b1, b2⟩ := hb.ex
  exact ⟨_, pe_ix ix_seq (pe_var hN hv hd hcd) b1 hs, ev_atO b2⟩
theorem de_bltI (i : Nat) {id : String} {x y : Str} {py : Pos} {r : List V → Hp → VK → Prop} {f : List D → Option D} (hc : CallR X (.builtin id) r) (hr : PureS X.K r f) (hm : X.mg x = none) (hv : bootBuiltins x = some (.builtin id)) (hN : X.N[i]? = some y := by rfl)
    (hvi : Vis X.env.scope y := by first | exact Or.inl rfl | exact Or.inr (Or.inl rfl) | exact Or.inr (Or.inr rfl)) (hg : Gl X x := by rfl) (hn : x ≠ "__name__" := by decide) (hdb : (x == ("__debug__" : Str)) = false := by decide)
    (he : starEach [.Name y py] X.env = (false, eval (.Name y py) X.env) :: starEach [] X.env := by rfl) (hpl : (backTo pos (starEach [] X.env)).any (·.1) = false := by rfl) (hd : (y == ("__debug__" : Str)) = false := by decide) (hcd : (y == ("__classdict__" : Str)) = false := by decide) :
    DE X T B E (.Call (.Name x p) [.Name y py] [] pos) (mFnI f i) :=
  ⟨_, pe_callB hc hg hm hv (pa_cons (pe_var hN hvi hd hcd) pa_nil he) hn hdb he hpl, ev_fnI hr⟩
theorem de_tupI (i : Nat) {y : Str} {py : Pos} (hm : X.mg "tuple" = none) (hN : X.N[i]? = some y := by rfl)
    (hvi : Vis X.env.scope y := by first | exact Or.inl rfl | exact Or.inr (Or.inl rfl) | exact Or.inr (Or.inr rfl)) (hg : Gl X "tuple" := by rfl)
    (he : starEach [.Name y py] X.env = (false, eval (.Name y py) X.env) :: starEach [] X.env := by rfl) (hpl : (backTo pos (starEach [] X.env)).any (·.1) = false := by rfl) (hd : (y == ("__debug__" : Str)) = false := by decide) (hcd : (y == ("__classdict__" : Str)) = false := by decide) :
    DE X T B E (.Call (.Name "tuple" p) [.Name y py] [] pos) (mFnI dTuple i) :=
  ⟨_, pe_callTy call_tuple_of hg hm (by rfl) (pa_cons (pe_var hN hvi hd hcd) pa_nil he) (by decide) (by decide) he hpl, ev_tupI⟩
theorem de_inO (i : Nat) {op : CmpOp} {y : Str} {py : Pos} {r : R2} {f : D → D → Option Bool} (ho : OpR X (compareOp op) r) (hr : PureS2 X.K r (bO f)) (ha : DE X T B E a ma) (hN : X.N[i]? = some y := by rfl)
    (hvi : Vis X.env.scope y := by first | exact Or.inl rfl | exact Or.inr (Or.inl rfl) | exact Or.inr (Or.inr rfl)) (hm : behindInMarks op (.Name y py) = false := by with_unfolding_all rfl) (hd : (y == ("__debug__" : Str)) = false := by decide) (hcd : (y == ("__classdict__" : Str)) = false := by decide) :
    DE X T B E (.Compare a [op] [.Name y py] pos) (mInO (bO f) ma i) := by
  obtain ⟨ta, a1, a2⟩ := ha.ex
  exact ⟨_, pe_cmpR ho a1 (pe_var hN hvi hd hcd) hm, ev_inO hr a2⟩
theorem db_inO (i : Nat) {op : CmpOp} {y : Str} {py : Pos} {r : R2} {f : D → D → Option Bool} (ho : OpR X (compareOp op) r) (hr : PureS2 X.K r (bO f)) (ha : DE X T B E a ma) (hN : X.N[i]? = some y := by rfl)
    (hvi : Vis X.env.scope y := by first | exact Or.inl rfl | exact Or.inr (Or.inl rfl) | exact Or.inr (Or.inr rfl)) (hm : behindInMarks op (.Name y py) = false := by with_unfolding_all rfl) (hd : (y == ("__debug__" : Str)) = false := by decide) (hcd : (y == ("__classdict__" : Str)) = false := by decide) :
    DB X T B E (.Compare a [op] [.Name y py] pos) (mTst (mInO (bO f) ma i)) := by
  obtain ⟨ta, a1, a2⟩ := ha.ex
  exact ⟨_, pt_cmpR ho a1 (pe_var hN hvi hd hcd) hm, evb_tst' (ev_inO hr a2)⟩
end

/-! ### statements -/
def mRel (i : Nat) (m : MS) : MS := fun ρ => match ρ[i]? with
  | some (.ow d) => m (ρ.set i (.im d))
  | _ => m ρ
def mNext : MS := fun ρ => .next ρ
def mSeq (m m' : MS) : MS := fun ρ => match m ρ with
  | .next ρ1 => m' ρ1
  | r => r
def mBrk : MS := fun ρ => .brk ρ
def mCnt : MS := fun ρ => .cont ρ
def mIfS (t : MB) (a b : MS) : MS := fun ρ => match t ρ with
  | .ok true ρ1 => a ρ1
  | .ok false ρ1 => b ρ1
  | .raise s => .raise s
  | .fail => .fail
def mRet (a : ME) : MS := fun ρ => match a ρ with
  | .ok d ρ1 => .ret d ρ1
  | .raise s => .raise s
  | .fail => .fail
def mRetO (a : ME) : MS := fun ρ => match a ρ with
  | .ok d ρ1 => .retO d ρ1
  | .raise s => .raise s
  | .fail => .fail
def mDrop (a : ME) : MS := fun ρ => match a ρ with
  | .ok _ ρ1 => .next ρ1
  | .raise s => .raise s
  | .fail => .fail
abbrev MG := D → Env → Option Env
def gSet (i : Nat) : MG := fun d ρ => some (ρ.set i (.im d))
def gMany : List MG → List D → Env → Option Env
  | [], [], ρ => some ρ
  | g :: gs, d :: ds, ρ => (match g d ρ with
    | some ρ1 => gMany gs ds ρ1
    | none => none)
  | _, _, _ => none
def gTupM (gs : List MG) : MG := fun d ρ => match d with
  | .tup ds => gMany gs ds ρ
  | _ => none
def mAsg (a : ME) (g : MG) : MS := fun ρ => match a ρ with
  | .ok d ρ1 => (match g d ρ1 with
    | some ρ2 => .next ρ2
    | none => .fail)
  | .raise s => .raise s
  | .fail => .fail
def mAsgO (a : ME) (i : Nat) : MS := fun ρ => match a ρ with
  | .ok d ρ1 => .next (ρ1.set i (.ow d))
  | .raise s => .raise s
  | .fail => .fail
/-- a, b = x, y -/
def mPar (i j : Nat) (a : MA) : MS := fun ρ => match a ρ with
  | .ok [x, y] ρ1 => .next ((ρ1.set i (.im x)).set j (.im y))
  | .raise s => .raise s
  | _ => .fail
def mAug (f : D → D → Option D) (i : Nat) (a : ME) : MS := fun ρ => match mVar i ρ with
  | .ok x ρ0 => (match a ρ0 with
    | .ok y ρ1 => (match f x y with
      | some z => .next (ρ1.set i (.im z))
      | none => .fail)
    | .raise s => .raise s
    | .fail => .fail)
  | .raise s => .raise s
  | .fail => .fail
def dIadd : D → D → Option D
  | .int i, .int j => some (.int (i + j))
  | _, _ => none
/-- x.method(e), x an owned list: its new items by f -/
def mMut (f : List D → D → Option (List D)) (i : Nat) (a : ME) : MS := fun ρ => match ownAt ρ i with
  | some (.lst _) => (match a ρ with
    | .ok x ρ1 => (match ρ1[i]? with
      | some s => (match s.val with
        | some (.lst ds) => (match f ds x with
          | some ds' => .next (ρ1.set i (s.put (.lst ds')))
          | none => .fail)
        | _ => .fail)
      | none => .fail)
    | .raise s => .raise s
    | .fail => .fail)
  | _ => .fail
def fApp (ds : List D) (x : D) : Option (List D) := if ds.length < 16000000 then some (ds ++ [x]) else none
def fExt (ds : List D) (x : D) : Option (List D) := match x with
  | .lst es => if ds.length + es.length < 16000000 then some (ds ++ es) else none
  | _ => none
def mSetI (i : Nat) (v ix : ME) : MS := fun ρ => match v ρ with
  | .ok x ρ1 => (match ownAt ρ1 i with
    | some _ => (match ix ρ1 with
      | .ok (.int k) ρ2 => (match ρ2[i]? with
        | some s => (match s.val with
          | some (.lst ds) => (match ixN ds.length k with
            | some j => .next (ρ2.set i (s.put (.lst (ds.set j x))))
            | none => .fail)
          | _ => .fail)
        | none => .fail)
      | .raise s => .raise s
      | _ => .fail)
    | none => .fail)
  | .raise s => .raise s
  | .fail => .fail
structure EvG (X : Cx) (T : Tabl) (t : TG) (g : MG) : Prop where
  run : ∀ (c : Cfg) (σ : L2.St) (H : Hp) (ρ : Env) (Γ : Gam) (v : V) (d : D) (Q : L2.St → Hp → Prop), Rl X.K T c σ H ρ ((v, .im d) :: Γ) → (∀ ρ' σ', g d ρ = some ρ' → Rl X.K T c σ' H ρ' Γ → Q σ' H) → g d ρ ≠ none → t v σ H Q
structure EvGs (X : Cx) (T : Tabl) (t : TGs) (g : List MG) : Prop where
  run : ∀ (c : Cfg) (σ : L2.St) (H : Hp) (ρ : Env) (Γ : Gam) (vs : List V) (ds : List D) (Q : L2.St → Hp → Prop), vs.length = ds.length → Rl X.K T c σ H ρ (gz vs ds ++ Γ) → (∀ ρ' σ', gMany g ds ρ = some ρ' → Rl X.K T c σ' H ρ' Γ → Q σ' H) → gMany g ds ρ ≠ none → t vs σ H Q
structure DG (X : Cx) (T : Tabl) (e : Expr) (g : MG) : Prop where
  ex : ∃ t, PG X e t ∧ EvG X T t g
structure DGs (X : Cx) (T : Tabl) (es : List Expr) (g : List MG) : Prop where
  ex : ∃ t, PGs X es t ∧ EvGs X T t g
/-- what lies beside in another order -/
theorem gam_get {K : PySem.W.Frag} {H : Hp} {c : Cfg} {W : WM} {v : V} {d : D} : ∀ {G Γ : Gam}, AllIm G → GamOk K H c W (G ++ (v, .im d) :: Γ) → Rep K H (Lx c W) d v ∧ GamOk K H c W (G ++ Γ)
  | [], _, _, h => by
    obtain ⟨w, e, q⟩ := h.1
    cases e
    exact ⟨q, h.2⟩
  | (x, .im y) :: g, Γ, hG, h => by
    obtain ⟨h1, h2⟩ := gam_get (G := g) hG h.2
    exact ⟨h1, h.1, h2⟩
theorem allIm_app {G G' : Gam} (h : AllIm G) (h' : AllIm G') : AllIm (G ++ G') := by
  induction G with
  | nil => exact h'
  | cons p g ih =>
    obtain ⟨v, s⟩ := p
    cases s with
    | im d => exact ih h
    | em => exact h.elim
    | ow _ => exact h.elim
    | pw _ => exact h.elim
/-- a plain value beside, brought to the head -/
theorem Rl.front {K : PySem.W.Frag} {T : Tabl} {c : Cfg} {σ : L2.St} {H : Hp} {ρ : Env} {v : V} {d : D} {G Γ : Gam} (hG : AllIm G) (r : Rl K T c σ H ρ (G ++ (v, .im d) :: Γ)) : Rl K T c σ H ρ ((v, .im d) :: (G ++ Γ)) := by
  obtain ⟨W, r⟩ := r
  obtain ⟨h1, h2⟩ := gam_get hG r.gm
  exact ⟨W, r.len, r.sl, ⟨⟨v, rfl, h1⟩, h2⟩, r.keep, r.there, r.wnew, r.wmut, r.live, r.apart, r.good⟩
section
variable {X : Cx} {T : Tabl} {B : Addr} {E : XK} {ma mb mk ml mh : ME} {mt mu : MB} {mr : MA} {m m' m1 m2 : MS} {pos p : Pos} {a b e e2 e3 : Expr} {es : List Expr} {st : Stmt} {sts : List Stmt}
theorem ev_rel {i : Nat} {t : TS} (h : EvS X T B E t m) : EvS X T B E t (mRel i m) := ⟨fun c σ H ρ Γ Z r0 h1 h2 h3 h4 h5 hx hf => by
  unfold mRel at h1 h2 h3 h4 h5 hx hf
  split at h1
  · rename_i d q
    rw [q] at h2 h3 h4 h5 hx hf
    exact h.run c σ H _ Γ Z (r0.rel q) h1 h2 h3 h4 h5 hx hf
  · rename_i hn
    have e : ∀ {β : Type} (f : D → β) (g : β), (match ρ[i]? with | some (.ow d) => f d | _ => g) = g := fun f g => by
      split
      · rename_i d q; exact (hn d q).elim
      · rfl
    simp only [e] at h2 h3 h4 h5 hx hf
    exact h.run c σ H ρ Γ Z r0 h1 h2 h3 h4 h5 hx hf⟩
theorem ev_next : EvS X T B E tNext mNext := ⟨fun c σ H ρ Γ Z r0 h1 _ _ _ _ _ _ => h1 ρ σ H rfl r0⟩
theorem ev_seq {t u : TS} (h : EvS X T B E t m) (h' : EvS X T B E u m') : EvS X T B E (tSeq t u) (mSeq m m') := ⟨fun c σ H ρ Γ Z r0 h1 h2 h3 h4 h5 hx hf => by
  unfold mSeq at h1 h2 h3 h4 h5 hx hf
  refine h.run c σ H ρ Γ { Z with nx := u Z } r0 (fun ρ' σ' H' e r' => ?_) (fun d ρ' σ' v H' e r' => ?_) (fun d ρ' σ' v H' e r' => ?_) (fun ρ' σ' H' e r' => ?_) (fun ρ' σ' H' e r' => ?_) (fun nm e => ?_) fun e => ?_
  · simp only [e] at h1 h2 h3 h4 h5 hx hf
    exact h'.run c σ' H' ρ' Γ Z r' h1 h2 h3 h4 h5 hx hf
  · simp only [e] at h2; exact h2 d ρ' σ' v H' rfl r'
  · simp only [e] at h3; exact h3 d ρ' σ' v H' rfl r'
  · simp only [e] at h4; exact h4 ρ' σ' H' rfl r'
  · simp only [e] at h5; exact h5 ρ' σ' H' rfl r'
  · simp only [e] at hx; exact hx nm rfl
  · simp only [e] at hf; exact hf rfl⟩
theorem ev_brk : EvS X T B E tBreak mBrk := ⟨fun c σ H ρ Γ Z r0 _ _ _ h _ _ _ => h ρ σ H rfl r0⟩
theorem ev_cnt : EvS X T B E tCont mCnt := ⟨fun c σ H ρ Γ Z r0 _ _ _ _ h _ _ => h ρ σ H rfl r0⟩
theorem ev_ifS {t : TT} {ta tb : TS} (h : EvB X T B E t mt) (ha : EvS X T B E ta m1) (hb : EvS X T B E tb m2) : EvS X T B E (tIfS t ta tb) (mIfS mt m1 m2) := ⟨fun c σ H ρ Γ Z r0 h1 h2 h3 h4 h5 hx hf => by
  unfold mIfS at h1 h2 h3 h4 h5 hx hf
  refine h.run c σ H ρ Γ _ r0 (fun x ρ1 H1 e1 r1 => ?_) (fun nm e1 => ?_) fun e1 => ?_
  · cases x with
    | true =>
      simp only [e1] at h1 h2 h3 h4 h5 hx hf
      rw [if_pos rfl]
      exact ha.run c σ H1 ρ1 Γ Z r1 h1 h2 h3 h4 h5 hx hf
    | false =>
      simp only [e1] at h1 h2 h3 h4 h5 hx hf
      rw [if_neg Bool.false_ne_true]
      exact hb.run c σ H1 ρ1 Γ Z r1 h1 h2 h3 h4 h5 hx hf
  · simp only [e1] at hx; exact hx nm rfl
  · simp only [e1] at hf; exact hf rfl⟩
theorem ev_ret {t : TE} (h : EvD X T B E t ma) : EvS X T B E (tRet t) (mRet ma) := ⟨fun c σ H ρ Γ Z r0 h1 h2 h3 h4 h5 hx hf => by
  unfold mRet at h1 h2 h3 h4 h5 hx hf
  refine h.run c σ H ρ Γ _ r0 (fun x ρ1 v H1 e1 r1 => ?_) (fun nm e1 => ?_) fun e1 => ?_
  · simp only [e1] at h2; exact h2 x ρ1 σ v H1 rfl r1
  · simp only [e1] at hx; exact hx nm rfl
  · simp only [e1] at hf; exact hf rfl⟩
theorem ev_retO {t : TE} (h : EvO X T B E t ma) : EvS X T B E (tRet t) (mRetO ma) := ⟨fun c σ H ρ Γ Z r0 h1 h2 h3 h4 h5 hx hf => by
  unfold mRetO at h1 h2 h3 h4 h5 hx hf
  refine h.run c σ H ρ Γ _ r0 (fun x ρ1 v H1 e1 r1 => ?_) (fun nm e1 => ?_) fun e1 => ?_
  · simp only [e1] at h3; exact h3 x ρ1 σ v H1 rfl r1
  · simp only [e1] at hx; exact hx nm rfl
  · simp only [e1] at hf; exact hf rfl⟩
theorem ev_drop {t : TE} (h : EvD X T B E t ma) : EvS X T B E (tDrop t) (mDrop ma) := ⟨fun c σ H ρ Γ Z r0 h1 h2 h3 h4 h5 hx hf => by
  unfold mDrop at h1 h2 h3 h4 h5 hx hf
  refine h.run c σ H ρ Γ _ r0 (fun x ρ1 v H1 e1 r1 => ?_) (fun nm e1 => ?_) fun e1 => ?_
  · simp only [e1] at h1; exact h1 ρ1 σ H1 rfl r1.pop
  · simp only [e1] at hx; exact hx nm rfl
  · simp only [e1] at hf; exact hf rfl⟩
theorem evg_set {i : Nat} : EvG X T (gName i) (gSet i) := ⟨fun c σ H ρ Γ v d Q r hq hf => hq _ _ rfl (r.set rfl)⟩
theorem evgs_nil : EvGs X T gNil [] := ⟨fun c σ H ρ Γ vs ds Q hl r hq hf => by
  cases ds with
  | nil =>
    have e : vs = [] := List.eq_nil_of_length_eq_zero (by simpa using hl)
    subst e
    exact ⟨rfl, hq ρ σ rfl r⟩
  | cons d ds => exact absurd rfl hf⟩
theorem evgs_cons {t : TG} {u : TGs} {g : MG} {gs : List MG} (h : EvG X T t g) (h' : EvGs X T u gs) : EvGs X T (gCons t u) (g :: gs) := ⟨fun c σ H ρ Γ vs ds Q hl r hq hf => by
  cases ds with
  | nil => exact absurd rfl hf
  | cons d ds =>
    cases vs with
    | nil => simp at hl
    | cons v vs =>
      have r' : Rl X.K T c σ H ρ (gz vs ds ++ ((v, .im d) :: Γ)) := by
        have e : gz (v :: vs) (d :: ds) ++ Γ = gz vs ds ++ ((v, .im d) :: Γ) := by
          show (gz vs ds ++ [(v, .im d)]) ++ Γ = _
          rw [List.append_assoc]; rfl
        rw [← e]; exact r
      unfold gMany at hq hf
      refine ⟨v, vs, rfl, h.run c σ H ρ (gz vs ds ++ Γ) v d _ (r'.front gz_im) (fun ρ1 σ1 e1 r1 => ?_) fun e1 => ?_⟩
      · simp only [e1] at hq hf
        exact h'.run c σ1 H ρ1 Γ vs ds Q (by simpa using hl) r1 hq hf
      · simp only [e1] at hf; exact hf rfl⟩
theorem evg_tup {n : Nat} {t : TGs} {gs : List MG} (hn : n = gs.length) (h : EvGs X T t gs) : EvG X T (gTup X.K n t) (gTupM gs) := ⟨fun c σ H ρ Γ v d Q r hq hf => by
  cases d with
  | tup ds =>
    obtain ⟨L, hi, _⟩ := r.imm
    obtain ⟨a, xs, rfl, ⟨h1, h2⟩, h3⟩ := rep_tup hi.1
    have many : ∀ (gs : List MG) (ds : List D) (ρ : Env), gMany gs ds ρ ≠ none → gs.length = ds.length := by
      intro gs
      induction gs with
      | nil =>
        intro ds ρ h
        cases ds with
        | nil => rfl
        | cons _ _ => exact absurd rfl h
      | cons g gs ih =>
        intro ds ρ h
        cases ds with
        | nil => exact absurd rfl h
        | cons d ds =>
          unfold gMany at h
          cases e : g d ρ with
          | none => rw [e] at h; exact absurd rfl h
          | some ρ1 => rw [e] at h; rw [List.length_cons, List.length_cons, ih ds ρ1 h]
    have hl := many gs ds ρ hf
    refine ⟨a, xs, rfl, sqT_of h1, by rw [← h3.length, hn, hl], ?_⟩
    have r2 : Rl X.K T c σ H ρ (gz xs ds ++ Γ) := by
      obtain ⟨W, r⟩ := r
      obtain ⟨⟨w, ew, q⟩, gm⟩ := r.gm
      cases ew
      obtain ⟨a', xs', ea, ⟨h1', _⟩, h3'⟩ := rep_tup q
      cases ea
      rw [h1] at h1'
      cases h1'
      refine ⟨W, r.len, r.sl, ?_, r.keep, r.there, r.wnew, r.wmut, r.live, r.apart, r.good⟩
      have key : ∀ (xs : List V) (ds : List D) (Γ : Gam), Reps X.K H (Lx c W) ds xs → GamOk X.K H c W Γ → GamOk X.K H c W (gz xs ds ++ Γ) := by
        intro xs
        induction xs with
        | nil => intro ds Γ _ g; unfold gz; exact g
        | cons x xs ih =>
          intro ds Γ hr g
          cases ds with
          | nil => unfold gz; exact g
          | cons d ds =>
            obtain ⟨v, r, e, h1, h2⟩ := reps_cons hr
            cases e
            unfold gz
            rw [List.append_assoc]
            exact ih ds _ h2 ⟨⟨x, rfl, h1⟩, g⟩
      exact key xs ds Γ h3' gm
    exact h.run c σ H ρ Γ xs ds Q h3.length.symm r2 hq hf
  | _ => exact absurd rfl hf⟩
theorem ev_asg {t : TE} {g : TG} {mg : MG} (h : EvD X T B E t ma) (hg : EvG X T g mg) : EvS X T B E (tAsg t g) (mAsg ma mg) := ⟨fun c σ H ρ Γ Z r0 h1 h2 h3 h4 h5 hx hf => by
  unfold mAsg at h1 h2 h3 h4 h5 hx hf
  refine h.run c σ H ρ Γ _ r0 (fun x ρ1 v H1 e1 r1 => ?_) (fun nm e1 => ?_) fun e1 => ?_
  · simp only [e1] at h1 hf
    refine hg.run c σ H1 ρ1 Γ v x _ r1 (fun ρ' σ' e2 r2 => ?_) fun e2 => ?_
    · simp only [e2] at h1; exact h1 ρ' σ' H1 rfl r2
    · simp only [e2] at hf; exact hf rfl
  · simp only [e1] at hx; exact hx nm rfl
  · simp only [e1] at hf; exact hf rfl⟩
theorem ev_asgO {t : TE} {i : Nat} (h : EvO X T B E t ma) : EvS X T B E (tAsg t (gName i)) (mAsgO ma i) := ⟨fun c σ H ρ Γ Z r0 h1 h2 h3 h4 h5 hx hf => by
  unfold mAsgO at h1 h2 h3 h4 h5 hx hf
  refine h.run c σ H ρ Γ _ r0 (fun x ρ1 v H1 e1 r1 => ?_) (fun nm e1 => ?_) fun e1 => ?_
  · simp only [e1] at h1
    exact h1 _ _ H1 rfl r1.setO
  · simp only [e1] at hx; exact hx nm rfl
  · simp only [e1] at hf; exact hf rfl⟩
theorem ev_par {t : TA} {i j : Nat} (h : EvA X T B E t mr) : EvS X T B E (tPar i j t) (mPar i j mr) := ⟨fun c σ H ρ Γ Z r0 h1 h2 h3 h4 h5 hx hf => by
  unfold mPar at h1 h2 h3 h4 h5 hx hf
  refine h.run c σ H ρ Γ _ r0 (fun ds ρ1 vs H1 e1 hl r1 => ?_) (fun nm e1 => ?_) fun e1 => ?_
  · simp only [e1] at h1 hf
    match ds, vs, hl, h1, hf, r1 with
    | [], _, _, _, hf, _ => exact absurd rfl hf
    | [_], _, _, _, hf, _ => exact absurd rfl hf
    | [x, y], [v, w], _, h1, _, r1 =>
      have r2 : Rl X.K T c σ H1 ρ1 ((v, .im x) :: (w, .im y) :: Γ) := by
        have r1' : Rl X.K T c σ H1 ρ1 ([(w, .im y)] ++ (v, .im x) :: Γ) := r1
        exact Rl.front (G := [(w, .im y)]) trivial r1'
      exact ⟨v, w, rfl, h1 _ _ H1 rfl ((r2.set rfl).set rfl)⟩
    | [_, _], [], hl, _, _, _ => simp at hl
    | [_, _], [_], hl, _, _, _ => simp at hl
    | [_, _], _ :: _ :: _ :: _, hl, _, _, _ => simp at hl
    | _ :: _ :: _ :: _, _, _, _, hf, _ => exact absurd rfl hf
  · simp only [e1] at hx; exact hx nm rfl
  · simp only [e1] at hf; exact hf rfl⟩
theorem ev_augI {t : TE} {i : Nat} {f : Int → Int → Int} {fd : D → D → Option D} (hfd : ∀ x y z, fd x y = some z → ∃ i j, x = .int i ∧ y = .int j ∧ z = .int (f i j)) (h : EvD X T B E t ma) : EvS X T B E (tAug i t (ipI f)) (mAug fd i ma) := ⟨fun c σ H ρ Γ Z r0 h1 h2 h3 h4 h5 hx hf => by
  unfold mAug mVar at h1 h2 h3 h4 h5 hx hf
  cases e0 : ρ[i]? with
  | none => simp only [e0] at hf; exact absurd rfl hf
  | some s =>
    cases s with
    | im d =>
      simp only [e0] at h1 hx hf
      obtain ⟨v, ev, r1⟩ := r0.var e0
      refine ⟨v, ev, h.run c σ H ρ _ _ r1 (fun y ρ1 w H1 e1 r2 => ?_) (fun nm e1 => ?_) fun e1 => ?_⟩
      · simp only [e1] at h1 hf
        cases ef : fd d y with
        | none => simp only [ef] at hf; exact absurd rfl hf
        | some z =>
          simp only [ef] at h1
          obtain ⟨k, j, rfl, rfl, rfl⟩ := hfd d y z ef
          obtain ⟨L, hi, _⟩ := r2.imm
          refine ⟨k, j, rep_int hi.2.1, rep_int hi.1, h1 _ _ H1 rfl (Rl.set ?_ rfl)⟩
          exact r2.pop.pop.add fun L _ => scl_int _ _ _ _
      · simp only [e1] at hx; exact hx nm rfl
      · simp only [e1] at hf; exact hf rfl
    | em => simp only [e0] at hf; exact absurd rfl hf
    | ow _ => simp only [e0] at hf; exact absurd rfl hf
    | pw _ => simp only [e0] at hf; exact absurd rfl hf⟩
end
end RK
set_option Elab.async false
set_option linter.all false
set_option maxRecDepth 100000
set_option maxHeartbeats 4000000
/-! RkH: lists written; loops; the statements of the text, by rules. -/
namespace RK
open PySem PySem.Spec PyProof.Rows L2 RZ
/-- a method that writes a list -/
def MutR (K : PySem.W.Frag) (r : V → List V → Hp → VK → Prop) (f : List D → D → Option (List D)) : Prop := ∀ (H : Hp) (L : Exc) (a : Addr) (ds : List D) (xs : List V) (x : D) (v : V) (ds' : List D), L a → H a = some (.lst xs) → Reps K H L ds xs → Rep K H L x v → f ds x = some ds' →
  ∃ xs', (∀ L', Reps K H L' ds xs → Rep K H L' x v → Reps K H L' ds' xs') ∧ ∀ Q : VK, Q .non (upd H a (.lst xs')) → r (.ref a) [v] H Q
theorem mutr_app {K : PySem.W.Frag} : MutR K rAppend fApp := fun H L a ds xs x v ds' la h1 h2 h3 e => by
  unfold fApp at e
  split at e
  · rename_i q
    cases e
    exact ⟨xs ++ [v], fun L' g1 g2 => g1.append (Reps.cons g2 Reps.nil), fun Q hq => ⟨a, xs, v, rfl, rfl, h1, by rw [← h2.length, sizeLine_eq]; omega, hq⟩⟩
  · cases e
theorem mutr_ext {K : PySem.W.Frag} : MutR K rExtend fExt := fun H L a ds xs x v ds' la h1 h2 h3 e => by
  unfold fExt at e
  split at e
  · split at e
    · rename_i q
      cases e
      obtain ⟨b, zs, rfl, ⟨h4, _⟩, h5⟩ := rep_lst h3
      refine ⟨xs ++ zs, fun L' g1 g2 => ?_, fun Q hq => ⟨a, b, xs, zs, rfl, rfl, h1, h4, by rw [← h2.length, ← h5.length, sizeLine_eq]; omega, hq⟩⟩
      obtain ⟨b', zs', e', ⟨h4', _⟩, h5'⟩ := rep_lst g2
      cases e'
      rw [h4] at h4'
      cases h4'
      exact g1.append h5'
    · cases e
  · cases e
theorem Reps.stepU {K : PySem.W.Frag} {H H' : Hp} {L : Exc} (s : Step L H L H') {ds : List D} {vs : List V} (h : Reps K H L ds vs) : Reps K H' L ds vs := Reps.step s ds vs h
section
variable {X : Cx} {T : Tabl} {B : Addr} {E : XK} {ma mb mk ml mh mv : ME} {mt mu : MB} {mr : MA} {m m' m1 m2 : MS} {pos p : Pos} {a b e e2 e3 : Expr} {es : List Expr} {st : Stmt} {sts : List Stmt}
theorem ev_mut {i : Nat} {t : TE} {r : V → List V → Hp → VK → Prop} {f : List D → D → Option (List D)} (hr : MutR X.K r f) (h : EvD X T B E t ma) : EvS X T B E (tDrop (tBM X.K "list" r (tVar i) (tCons t tNil))) (mMut f i ma) := ⟨fun c σ H ρ Γ Z r0 h1 h2 h3 h4 h5 hx hf => by
  unfold mMut at h1 h2 h3 h4 h5 hx hf
  cases e0 : ownAt ρ i with
  | none => rw [e0] at hf; exact absurd rfl hf
  | some d0 =>
    cases d0 with
    | lst ds0 =>
      simp only [e0] at h1 hx hf
      obtain ⟨a, ea, ⟨L0, la0, ⟨xs0, hx0, _⟩, im0⟩, _⟩ := r0.own e0
      refine ⟨.ref a, ea, .inl ⟨rfl, xs0, sqL_of hx0⟩, h.run c σ H ρ Γ _ r0 (fun x ρ1 v H1 e1 r1 => ?_) (fun nm e1 => ?_) fun e1 => ?_⟩
      · simp only [e1] at h1 hf
        cases es : ρ1[i]? with
        | none => simp only [es] at hf; exact absurd rfl hf
        | some s =>
          simp only [es] at h1 hf
          cases ev : s.val with
          | none => simp only [ev] at hf; exact absurd rfl hf
          | some d =>
            cases d with
            | lst ds =>
              simp only [ev] at h1 hf
              cases ef : f ds x with
              | none => simp only [ef] at hf; exact absurd rfl hf
              | some ds' =>
                simp only [ef] at h1
                obtain ⟨a', ea', ⟨L, la, ⟨xs, hx1, rx⟩, im⟩, put⟩ := r1.mutS es ev
                rw [ea] at ea'
                cases ea'
                obtain ⟨xs', g1, g2⟩ := hr H1 L a ds xs x v ds' la hx1 rx im.1 ef
                refine g2 _ (h1 _ _ _ rfl (put (.lst xs') (.lst ds') Γ (.inl ⟨_, rfl⟩) (fun L' la' ow' im' st' => ?_) ⟨[(v, .im x)], rfl⟩))
                obtain ⟨xs2, hx2, rx2⟩ := ow'
                rw [hx1] at hx2
                cases hx2
                exact ⟨xs', upd_same, (g1 L' rx2 im'.1).stepU st'⟩
            | _ => simp only [ev] at hf; exact absurd rfl hf
      · simp only [e1] at hx; exact hx nm rfl
      · simp only [e1] at hf; exact hf rfl
    | _ => simp only [e0] at hf; exact absurd rfl hf⟩
/-- x[ix] = v -/
theorem ev_setI {i : Nat} {tv ti : TE} (hv : EvD X T B E tv mv) (hi : EvD X T B E ti mb) : EvS X T B E (tAsg tv (gSub (tVar i) ti rSetL)) (mSetI i mv mb) := ⟨fun c σ H ρ Γ Z r0 h1 h2 h3 h4 h5 hx hf => by
  unfold mSetI at h1 h2 h3 h4 h5 hx hf
  refine hv.run c σ H ρ Γ _ r0 (fun x ρ1 v H1 e1 r1 => ?_) (fun nm e1 => ?_) fun e1 => ?_
  · simp only [e1] at h1 hx hf
    cases e0 : ownAt ρ1 i with
    | none => simp only [e0] at hf; exact absurd rfl hf
    | some d0 =>
      simp only [e0] at h1 hx hf
      obtain ⟨a, ea, _⟩ := r1.own e0
      refine ⟨.ref a, ea, hi.run c σ H1 ρ1 _ _ r1 (fun y ρ2 w H2 e2 r2 => ?_) (fun nm e2 => ?_) fun e2 => ?_⟩
      · cases y with
        | int k =>
          simp only [e2] at h1 hf
          cases es : ρ2[i]? with
          | none => simp only [es] at hf; exact absurd rfl hf
          | some s =>
            simp only [es] at h1 hf
            cases ev : s.val with
            | none => simp only [ev] at hf; exact absurd rfl hf
            | some d =>
              cases d with
              | lst ds =>
                simp only [ev] at h1 hf
                cases ej : ixN ds.length k with
                | none => simp only [ej] at hf; exact absurd rfl hf
                | some j =>
                  simp only [ej] at h1
                  obtain ⟨a', ea', ⟨L, la, ⟨xs, hx1, rx⟩, im⟩, put⟩ := r2.mutS es ev
                  rw [ea] at ea'
                  cases ea'
                  have ew := rep_int im.1
                  subst ew
                  refine ⟨a, xs, k, j, rfl, rfl, hx1, by rw [← rx.length]; exact ej, ?_⟩
                  refine h1 _ _ _ rfl (put (.lst (xs.set j v)) (.lst (ds.set j x)) Γ (.inl ⟨_, rfl⟩) (fun L' la' ow' im' st' => ?_) ⟨[(.int k, .im (.int k)), (v, .im x)], rfl⟩)
                  obtain ⟨xs2, hx2, rx2⟩ := ow'
                  rw [hx1] at hx2
                  cases hx2
                  exact ⟨_, upd_same, (rx2.set j im'.2.1).stepU st'⟩
              | _ => simp only [ev] at hf; exact absurd rfl hf
        | _ => simp only [e2] at hf; exact absurd rfl hf
      · simp only [e2] at hx; exact hx nm rfl
      · simp only [e2] at hf; exact hf rfl
  · simp only [e1] at hx; exact hx nm rfl
  · simp only [e1] at hf; exact hf rfl⟩

/-! ### loops -/
end
def mForL (g : MG) (b : MS) : List D → Env → SR
  | [], ρ => .next ρ
  | d :: ds, ρ => match g d ρ with
    | none => .fail
    | some ρ1 => match b ρ1 with
      | .next ρ2 => mForL g b ds ρ2
      | .cont ρ2 => mForL g b ds ρ2
      | .brk ρ2 => .next ρ2
      | .ret d ρ2 => .ret d ρ2
      | .retO d ρ2 => .retO d ρ2
      | .raise s => .raise s
      | .fail => .fail
def mFor (it : MA) (g : MG) (b : MS) : MS := fun ρ => match it ρ with
  | .ok ds ρ1 => mForL g b ds ρ1
  | .raise s => .raise s
  | .fail => .fail
/-- J walks the items ds, while G lies beside -/
structure Wlk (K : PySem.W.Frag) (J : It) (G : Gam) (ds : List D) : Prop where
  go : ∀ (H : Hp) (L : Exc) (i : Nat) (d : D), Imm K H L G → ds[i]? = some d → J.go i H ∧ ∀ x H', J.yld i H x H' → (H' = H ∧ ∀ L', (∀ a, L' a → ∃ o, H a = some o ∧ Mu o) → Imm K H L' G → Rep K H L' d x) ∨
    ∃ p o, H p = none ∧ H' = upd H p o ∧ ∀ L', ¬ L' p → Imm K H' L' G → Rep K H' L' d x
  stop : ∀ (H : Hp) (L : Exc), Imm K H L G → J.stop ds.length H
theorem Wlk.step {K : PySem.W.Frag} {T : Tabl} {J : It} {G : Gam} {ds : List D} (w : Wlk K J G ds) {c : Cfg} {σ : L2.St} {H : Hp} {ρ : Env} {Γ : Gam} (r : Rl K T c σ H ρ Γ) (hG : ∀ H L, Imm K H L Γ → Imm K H L G) {i : Nat} {d : D} (e : ds[i]? = some d) :
    J.go i H ∧ ∀ x H', J.yld i H x H' → Rl K T c σ H' ρ ((x, .im d) :: Γ) := by
  obtain ⟨L, hi, _⟩ := r.imm
  obtain ⟨g1, g2⟩ := w.go H L i d (hG H L hi) e
  refine ⟨g1, fun x H' hy => ?_⟩
  rcases g2 x H' hy with ⟨rfl, h⟩ | ⟨p, o, hp, rfl, h⟩
  · exact r.addM fun L' hm hi' => h L' hm (hG _ L' hi')
  · exact r.alloc hp fun L' n hi' => h L' n (hG _ L' hi')
theorem imm_left {K : PySem.W.Frag} {G Γ : Gam} (H : Hp) (L : Exc) (h : Imm K H L (G ++ Γ)) : Imm K H L G := (imm_app h).1
structure EvI (X : Cx) (T : Tabl) (B : Addr) (E : XK) (wi : TI) (m : MA) : Prop where
  run : ∀ (c : Cfg) (σ : L2.St) (H : Hp) (ρ : Env) (Γ : Gam) (R : It → Hp → Prop), Rl X.K T c σ H ρ Γ → (∀ ds ρ' J H' G, m ρ = .ok ds ρ' → AllIm G → Wlk X.K J G ds → Rl X.K T c σ H' ρ' (G ++ Γ) → R J H') →
    (∀ nm, m ρ = .raise nm → RsOk T c B E nm) → m ρ ≠ .fail → wi σ H R
structure DI (X : Cx) (T : Tabl) (B : Addr) (E : XK) (tg iter : Expr) (m : MA) : Prop where
  ex : ∃ wi, PI X tg iter wi ∧ EvI X T B E wi m
section
variable {X : Cx} {T : Tabl} {B : Addr} {E : XK} {ma mb mk ml mh mv : ME} {mt mu : MB} {mr mi : MA} {m m' m1 m2 : MS} {mg : MG} {pos p : Pos} {a b e e2 e3 tg : Expr} {es : List Expr} {st : Stmt} {sts : List Stmt}
theorem ev_for {wi : TI} {g : TG} {tb : TS} (hi : EvI X T B E wi mi) (hg : EvG X T g mg) (hb : EvS X T B E tb m) : EvS X T B E (tFor wi g tb) (mFor mi mg m) := ⟨fun c σ H ρ Γ Z r0 h1 h2 h3 h4 h5 hx hf => by
  unfold mFor at h1 h2 h3 h4 h5 hx hf
  refine hi.run c σ H ρ Γ _ r0 (fun ds ρ1 J H1 G e1 hG wk r1 => ?_) (fun nm e1 => ?_) fun e1 => ?_
  · simp only [e1] at h1 h2 h3 h4 h5 hx hf
    generalize hR : mForL mg m ds ρ1 = R0 at h1 h2 h3 h4 h5 hx hf
    refine ⟨fun i k σ' H' => ∃ ρ', Rl X.K T c σ' H' ρ' (G ++ Γ) ∧ i ≤ ds.length ∧ k = ds.length - i ∧ mForL mg m (ds.drop i) ρ' = R0, ⟨ds.length, ρ1, r1, Nat.zero_le _, rfl, hR⟩, ?_⟩
    rintro i k σ' H' ⟨ρ', r', hi, rfl, e⟩
    by_cases hlt : i < ds.length
    · refine .inr ?_
      have ed : ds[i]? = some ds[i] := List.getElem?_eq_getElem hlt
      have es : ds.drop i = ds[i] :: ds.drop (i + 1) := List.drop_eq_getElem_cons hlt
      rw [es] at e
      unfold mForL at e
      obtain ⟨g1, g2⟩ := wk.step r' imm_left ed
      refine ⟨g1, fun σ' H' => ∃ ρ', Rl X.K T c σ' H' ρ' (G ++ Γ) ∧ mForL mg m (ds.drop (i + 1)) ρ' = R0, fun σ2 H2 ⟨ρ2, r2, e2⟩ => ⟨_, by omega, ρ2, r2, by omega, rfl, e2⟩, fun x H2 hy => ?_⟩
      have r2 := g2 x H2 hy
      refine hg.run c σ' H2 ρ' (G ++ Γ) x _ _ r2 (fun ρ2 σ2 eg r3 => ?_) fun eg => ?_
      · simp only [eg] at e
        refine hb.run c σ2 H2 ρ2 (G ++ Γ) _ r3 (fun ρ3 σ3 H3 em r4 => ?_) (fun d ρ3 σ3 v H3 em r4 => ?_) (fun d ρ3 σ3 v H3 em r4 => ?_) (fun ρ3 σ3 H3 em r4 => ?_) (fun ρ3 σ3 H3 em r4 => ?_) (fun nm em => ?_) fun em => ?_
        · simp only [em] at e; exact ⟨ρ3, r4, e⟩
        · simp only [em] at e; exact h2 d ρ3 σ3 v H3 e.symm (r4.cut [(v, .im d)] G trivial)
        · simp only [em] at e; exact h3 d ρ3 σ3 v H3 e.symm (r4.cutO G)
        · simp only [em] at e; exact h1 ρ3 σ3 H3 e.symm (r4.drop G)
        · simp only [em] at e; exact ⟨ρ3, r4, e⟩
        · simp only [em] at e; exact hx nm e.symm
        · simp only [em] at e; exact hf e.symm
      · simp only [eg] at e; exact hf e.symm
    · have hl : i = ds.length := by omega
      subst hl
      rw [List.drop_length] at e
      unfold mForL at e
      obtain ⟨L, hi', _⟩ := r'.imm
      exact .inl ⟨wk.stop H' L (imm_left H' L hi'), h1 ρ' σ' H' e.symm (r'.drop G)⟩
  · simp only [e1] at hx; exact hx nm rfl
  · simp only [e1] at hf; exact hf rfl⟩
/-! what is walked -/
def mItL (a : ME) : MA := fun ρ => match a ρ with
  | .ok (.lst ds) ρ1 => .ok ds ρ1
  | .raise s => .raise s
  | _ => .fail
def mItT (a : ME) : MA := fun ρ => match a ρ with
  | .ok (.tup ds) ρ1 => .ok ds ρ1
  | .raise s => .raise s
  | _ => .fail
def rngD (lo : Int) (n : Nat) : List D := (List.range n).map fun k : Nat => D.int (lo + (k : Int))
def mRng1 (a : MA) : MA := fun ρ => match a ρ with
  | .ok [.int j] ρ1 => if -(2 ^ 62) ≤ j ∧ j < 2 ^ 62 then .ok (rngD 0 j.toNat) ρ1 else .fail
  | .raise s => .raise s
  | _ => .fail
def mRng2 (a : MA) : MA := fun ρ => match a ρ with
  | .ok [.int i, .int j] ρ1 => if -(2 ^ 62) ≤ i ∧ i < 2 ^ 62 ∧ -(2 ^ 62) ≤ j ∧ j < 2 ^ 62 then .ok (rngD i (j - i).toNat) ρ1 else .fail
  | .raise s => .raise s
  | _ => .fail
theorem wlk_list {a : Addr} {ds : List D} : Wlk X.K (Itl X.K a) [(.ref a, .im (.lst ds))] ds := ⟨fun H L i d hi e => by
  obtain ⟨a', xs, ea, ⟨h1, _⟩, h2⟩ := rep_lst hi.1
  cases ea
  obtain ⟨v, ev, rv⟩ := h2.get e
  refine ⟨⟨xs, v, sqL_of h1, ev⟩, fun x H' ⟨eh, hy⟩ => .inl ⟨eh, fun L' _ hi' => ?_⟩⟩
  obtain ⟨a', xs', ea, ⟨h1', _⟩, h2'⟩ := rep_lst hi'.1
  cases ea
  obtain ⟨v', ev', rv'⟩ := h2'.get e
  rw [hy xs' (sqL_of h1')] at ev'
  cases ev'
  exact rv', fun H L hi => by
  obtain ⟨a', xs, ea, ⟨h1, _⟩, h2⟩ := rep_lst hi.1
  cases ea
  exact ⟨xs, sqL_of h1, by rw [h2.length]; exact Nat.le_refl _⟩⟩
theorem wlk_tup {a : Addr} {ds : List D} : Wlk X.K (Itt X.K a) [(.ref a, .im (.tup ds))] ds := ⟨fun H L i d hi e => by
  obtain ⟨a', xs, ea, ⟨h1, _⟩, h2⟩ := rep_tup hi.1
  cases ea
  obtain ⟨v, ev, rv⟩ := h2.get e
  refine ⟨⟨xs, v, sqT_of h1, ev⟩, fun x H' ⟨eh, hy⟩ => .inl ⟨eh, fun L' _ hi' => ?_⟩⟩
  obtain ⟨a', xs', ea, ⟨h1', _⟩, h2'⟩ := rep_tup hi'.1
  cases ea
  obtain ⟨v', ev', rv'⟩ := h2'.get e
  rw [hy xs' (sqT_of h1')] at ev'
  cases ev'
  exact rv', fun H L hi => by
  obtain ⟨a', xs, ea, ⟨h1, _⟩, h2⟩ := rep_tup hi.1
  cases ea
  exact ⟨xs, sqT_of h1, by rw [h2.length]; exact Nat.le_refl _⟩⟩
theorem rngD_get {lo : Int} {n i : Nat} {d : D} (h : (rngD lo n)[i]? = some d) : i < n ∧ d = .int (lo + (i : Int)) := by
  unfold rngD at h
  rw [List.getElem?_map] at h
  by_cases hi : i < n
  · rw [List.getElem?_range hi] at h
    exact ⟨hi, (Option.some.inj h).symm⟩
  · rw [List.getElem?_eq_none (by rw [List.length_range]; omega)] at h
    cases h
theorem rngD_len {lo : Int} {n : Nat} : (rngD lo n).length = n := by unfold rngD; rw [List.length_map, List.length_range]
theorem wlk_rng {lo : Int} {n : Nat} : Wlk X.K (Itr lo n) [] (rngD lo n) := ⟨fun H L i d hi e => by
  obtain ⟨hi, rfl⟩ := rngD_get e
  refine ⟨hi, fun x H' ⟨eh, hy⟩ => .inl ⟨eh, fun L' _ _ => ?_⟩⟩
  subst hy
  exact scl_int _ _ _ _, fun H L _ => by
  rw [rngD_len]; exact Nat.le_refl n⟩
/-! zip -/
def zipD : List D → List D → List D
  | a :: as, b :: bs => .tup [a, b] :: zipD as bs
  | _, _ => []
theorem zipD_get : ∀ {as bs : List D} {i : Nat} {d : D}, (zipD as bs)[i]? = some d → ∃ a b, as[i]? = some a ∧ bs[i]? = some b ∧ d = .tup [a, b]
  | a :: as, b :: bs, 0, d, h => by
    simp [zipD] at h
    exact ⟨a, b, rfl, rfl, h.symm⟩
  | a :: as, b :: bs, i + 1, d, h => by
    simp [zipD] at h
    obtain ⟨x, y, h1, h2, h3⟩ := zipD_get h
    exact ⟨x, y, by simpa using h1, by simpa using h2, h3⟩
  | [], _, _, _, h => by simp [zipD] at h
  | _ :: _, [], _, _, h => by simp [zipD] at h
theorem zipD_len : ∀ {as bs : List D}, as.length ≤ (zipD as bs).length ∨ bs.length ≤ (zipD as bs).length
  | a :: as, b :: bs => by
    unfold zipD
    rw [List.length_cons, List.length_cons, List.length_cons]
    rcases zipD_len (as := as) (bs := bs) with h | h <;> omega
  | [], _ => .inl (Nat.zero_le _)
  | _ :: _, [] => .inr (Nat.zero_le _)
theorem reps_pair {K : PySem.W.Frag} {H : Hp} {L : Exc} {a b : D} {x y : V} (h : Rep K H L a x) (g : Rep K H L b y) : Reps K H L [a, b] [x, y] := Reps.cons h (Reps.cons g Reps.nil)
theorem wlk_zipL {a b : Addr} {as bs : List D} : Wlk X.K (Itz X.K a b) [(.ref b, .im (.lst bs)), (.ref a, .im (.lst as))] (zipD as bs) := ⟨fun H L i d hi e => by
  obtain ⟨x, y, ea, eb, rfl⟩ := zipD_get e
  obtain ⟨b', ys, ez, ⟨h1, n1⟩, h2⟩ := rep_lst hi.1
  cases ez
  obtain ⟨a', xs, ez, ⟨h3, n3⟩, h4⟩ := rep_lst hi.2.1
  cases ez
  obtain ⟨v, ev, rv⟩ := h4.get ea
  obtain ⟨w, ew, rw'⟩ := h2.get eb
  refine ⟨⟨xs, ys, v, w, sqL_of h3, sqL_of h1, ev, ew⟩, fun z H' ⟨p, v', w', ez, hp, eH, q1, q2⟩ => .inr ⟨p, _, hp, eH, fun L' n hi' => ?_⟩⟩
  subst eH
  subst ez
  have e1 := q1 xs (sqL_of h3)
  have e2 := q2 ys (sqL_of h1)
  rw [ev] at e1
  rw [ew] at e2
  cases e1
  cases e2
  obtain ⟨b', ys', ez, ⟨h1', _⟩, h2'⟩ := rep_lst hi'.1
  cases ez
  obtain ⟨a', xs', ez, ⟨h3', _⟩, h4'⟩ := rep_lst hi'.2.1
  cases ez
  rw [upd_ne (ne_of_none h1 hp), h1] at h1'
  rw [upd_ne (ne_of_none h3 hp), h3] at h3'
  cases h1'
  cases h3'
  obtain ⟨v2, ev2, rv2⟩ := h4'.get ea
  obtain ⟨w2, ew2, rw2⟩ := h2'.get eb
  rw [ev] at ev2
  rw [ew] at ew2
  cases ev2
  cases ew2
  exact rep_new_tup n (reps_pair rv2 rw2), fun H L hi => by
  obtain ⟨b', ys, ez, ⟨h1, n1⟩, h2⟩ := rep_lst hi.1
  cases ez
  obtain ⟨a', xs, ez, ⟨h3, n3⟩, h4⟩ := rep_lst hi.2.1
  cases ez
  exact ⟨xs, ys, sqL_of h3, sqL_of h1, by rw [← h4.length, ← h2.length]; exact zipD_len⟩⟩
theorem wlk_zipT {a b : Addr} {as bs : List D} : Wlk X.K (ItzT X.K a b) [(.ref b, .im (.tup bs)), (.ref a, .im (.tup as))] (zipD as bs) := ⟨fun H L i d hi e => by
  obtain ⟨x, y, ea, eb, rfl⟩ := zipD_get e
  obtain ⟨b', ys, ez, ⟨h1, n1⟩, h2⟩ := rep_tup hi.1
  cases ez
  obtain ⟨a', xs, ez, ⟨h3, n3⟩, h4⟩ := rep_tup hi.2.1
  cases ez
  obtain ⟨v, ev, rv⟩ := h4.get ea
  obtain ⟨w, ew, rw'⟩ := h2.get eb
  refine ⟨⟨xs, ys, v, w, sqT_of h3, sqT_of h1, ev, ew⟩, fun z H' ⟨p, v', w', ez, hp, eH, q1, q2⟩ => .inr ⟨p, _, hp, eH, fun L' n hi' => ?_⟩⟩
  subst eH
  subst ez
  have e1 := q1 xs (sqT_of h3)
  have e2 := q2 ys (sqT_of h1)
  rw [ev] at e1
  rw [ew] at e2
  cases e1
  cases e2
  obtain ⟨b', ys', ez, ⟨h1', _⟩, h2'⟩ := rep_tup hi'.1
  cases ez
  obtain ⟨a', xs', ez, ⟨h3', _⟩, h4'⟩ := rep_tup hi'.2.1
  cases ez
  rw [upd_ne (ne_of_none h1 hp), h1] at h1'
  rw [upd_ne (ne_of_none h3 hp), h3] at h3'
  cases h1'
  cases h3'
  obtain ⟨v2, ev2, rv2⟩ := h4'.get ea
  obtain ⟨w2, ew2, rw2⟩ := h2'.get eb
  rw [ev] at ev2
  rw [ew] at ew2
  cases ev2
  cases ew2
  exact rep_new_tup n (reps_pair rv2 rw2), fun H L hi => by
  obtain ⟨b', ys, ez, ⟨h1, n1⟩, h2⟩ := rep_tup hi.1
  cases ez
  obtain ⟨a', xs, ez, ⟨h3, n3⟩, h4⟩ := rep_tup hi.2.1
  cases ez
  exact ⟨xs, ys, sqT_of h3, sqT_of h1, by rw [← h4.length, ← h2.length]; exact zipD_len⟩⟩
def mZip (a : MA) : MA := fun ρ => match a ρ with
  | .ok [.lst as, .lst bs] ρ1 => .ok (zipD as bs) ρ1
  | .ok [.tup as, .tup bs] ρ1 => .ok (zipD as bs) ρ1
  | .raise s => .raise s
  | _ => .fail
theorem evi_zip {t : TA} (h : EvA X T B E t mr) : EvI X T B E (iZipA X.K t) (mZip mr) := ⟨fun c σ H ρ Γ R r0 hq hx hf => by
  unfold mZip at hq hx hf
  refine h.run c σ H ρ Γ _ r0 (fun ds ρ1 vs H1 e1 hl r1 => ?_) (fun nm e1 => ?_) fun e1 => ?_
  · simp only [e1] at hq hx hf
    split at hf
    · rename_i q
      cases q
      dsimp only at hq
      obtain ⟨L, hi, _⟩ := r1.imm
      obtain ⟨v, w, rfl, h1, h2⟩ := reps_2 (imm_gz hl hi).1
      obtain ⟨a', xs, rfl, ⟨h3, n3⟩, h4⟩ := rep_lst h1
      obtain ⟨b', ys, rfl, ⟨h5, n5⟩, h6⟩ := rep_lst h2
      exact ⟨a', b', xs, ys, rfl, .inl ⟨sqL_of h3, sqL_of h5, hq _ ρ1 _ H1 [(.ref b', .im (.lst _)), (.ref a', .im (.lst _))] rfl trivial wlk_zipL r1⟩⟩
    · rename_i q
      cases q
      dsimp only at hq
      obtain ⟨L, hi, _⟩ := r1.imm
      obtain ⟨v, w, rfl, h1, h2⟩ := reps_2 (imm_gz hl hi).1
      obtain ⟨a', xs, rfl, ⟨h3, n3⟩, h4⟩ := rep_tup h1
      obtain ⟨b', ys, rfl, ⟨h5, n5⟩, h6⟩ := rep_tup h2
      exact ⟨a', b', xs, ys, rfl, .inr ⟨sqT_of h3, sqT_of h5, hq _ ρ1 _ H1 [(.ref b', .im (.tup _)), (.ref a', .im (.tup _))] rfl trivial wlk_zipT r1⟩⟩
    · rename_i q; cases q
    · exact absurd rfl hf
  · simp only [e1] at hx; exact hx nm rfl
  · simp only [e1] at hf; exact hf rfl⟩
theorem evi_list {t : TE} (h : EvD X T B E t ma) : EvI X T B E (iList X.K t) (mItL ma) := ⟨fun c σ H ρ Γ R r0 hq hx hf => by
  unfold mItL at hq hx hf
  refine h.run c σ H ρ Γ _ r0 (fun x ρ1 v H1 e1 r1 => ?_) (fun nm e1 => ?_) fun e1 => ?_
  · cases x with
    | lst ds =>
      simp only [e1] at hq
      obtain ⟨L, hi, _⟩ := r1.imm
      obtain ⟨a, xs, rfl, ⟨h1, _⟩, h2⟩ := rep_lst hi.1
      exact ⟨a, rfl, ⟨xs, sqL_of h1⟩, hq ds ρ1 _ H1 [(.ref a, .im (.lst ds))] rfl trivial wlk_list r1⟩
    | _ => simp only [e1] at hf; exact absurd rfl hf
  · simp only [e1] at hx; exact hx nm rfl
  · simp only [e1] at hf; exact hf rfl⟩
theorem evi_tup {t : TE} (h : EvD X T B E t ma) : EvI X T B E (iTup X.K t) (mItT ma) := ⟨fun c σ H ρ Γ R r0 hq hx hf => by
  unfold mItT at hq hx hf
  refine h.run c σ H ρ Γ _ r0 (fun x ρ1 v H1 e1 r1 => ?_) (fun nm e1 => ?_) fun e1 => ?_
  · cases x with
    | tup ds =>
      simp only [e1] at hq
      obtain ⟨L, hi, _⟩ := r1.imm
      obtain ⟨a, xs, rfl, ⟨h1, _⟩, h2⟩ := rep_tup hi.1
      exact ⟨a, rfl, ⟨xs, sqT_of h1⟩, hq ds ρ1 _ H1 [(.ref a, .im (.tup ds))] rfl trivial wlk_tup r1⟩
    | _ => simp only [e1] at hf; exact absurd rfl hf
  · simp only [e1] at hx; exact hx nm rfl
  · simp only [e1] at hf; exact hf rfl⟩
theorem evi_rng1 {t : TA} (h : EvA X T B E t mr) : EvI X T B E (iRng1 t) (mRng1 mr) := ⟨fun c σ H ρ Γ R r0 hq hx hf => by
  unfold mRng1 at hq hx hf
  refine h.run c σ H ρ Γ _ r0 (fun ds ρ1 vs H1 e1 hl r1 => ?_) (fun nm e1 => ?_) fun e1 => ?_
  · simp only [e1] at hq hx hf
    split at hf
    · rename_i q
      cases q
      split at hf
      · rename_i q1
        dsimp only at hq
        rw [if_pos q1] at hq
        obtain ⟨L, hi, _⟩ := r1.imm
        obtain ⟨v, rfl, h1⟩ := reps_1 (imm_gz hl hi).1
        exact ⟨_, by rw [rep_int h1], q1.1, q1.2, hq _ ρ1 _ H1 [] rfl trivial wlk_rng (r1.drop _)⟩
      · exact absurd rfl hf
    · rename_i q; cases q
    · exact absurd rfl hf
  · simp only [e1] at hx; exact hx nm rfl
  · simp only [e1] at hf; exact hf rfl⟩
theorem evi_rng2 {t : TA} (h : EvA X T B E t mr) : EvI X T B E (iRng2 t) (mRng2 mr) := ⟨fun c σ H ρ Γ R r0 hq hx hf => by
  unfold mRng2 at hq hx hf
  refine h.run c σ H ρ Γ _ r0 (fun ds ρ1 vs H1 e1 hl r1 => ?_) (fun nm e1 => ?_) fun e1 => ?_
  · simp only [e1] at hq hx hf
    split at hf
    · rename_i q
      cases q
      split at hf
      · rename_i q1
        dsimp only at hq
        rw [if_pos q1] at hq
        obtain ⟨L, hi, _⟩ := r1.imm
        obtain ⟨v, w, rfl, h1, h2⟩ := reps_2 (imm_gz hl hi).1
        exact ⟨_, _, by rw [rep_int h1, rep_int h2], q1, hq _ ρ1 _ H1 [] rfl trivial wlk_rng (r1.drop _)⟩
      · exact absurd rfl hf
    · rename_i q; cases q
    · exact absurd rfl hf
  · simp only [e1] at hx; exact hx nm rfl
  · simp only [e1] at hf; exact hf rfl⟩
end
/-! while -/
def mWhN (t : MB) (b : MS) : Nat → Env → SR
  | 0, _ => .fail
  | n + 1, ρ => match t ρ with
    | .ok false ρ1 => .next ρ1
    | .ok true ρ1 => (match b ρ1 with
      | .next ρ2 => mWhN t b n ρ2
      | .cont ρ2 => mWhN t b n ρ2
      | .brk ρ2 => .next ρ2
      | .ret d ρ2 => .ret d ρ2
      | .retO d ρ2 => .retO d ρ2
      | .raise s => .raise s
      | .fail => .fail)
    | .raise s => .raise s
    | .fail => .fail
open Classical in
noncomputable def mWh (t : MB) (b : MS) : MS := fun ρ => if h : ∃ n, mWhN t b n ρ ≠ .fail then mWhN t b h.choose ρ else .fail
theorem mWhN_more {t : MB} {b : MS} : ∀ {n k : Nat} {ρ : Env}, mWhN t b n ρ ≠ .fail → n ≤ k → mWhN t b k ρ = mWhN t b n ρ
  | 0, _, _, h, _ => absurd rfl h
  | n + 1, 0, _, _, hk => by omega
  | n + 1, k + 1, ρ, h, hk => by
    unfold mWhN at h ⊢
    split
    · rfl
    · rename_i ρ1 e1
      simp only [e1] at h
      split
      · rename_i ρ2 e2
        simp only [e2] at h
        exact mWhN_more h (by omega)
      · rename_i ρ2 e2
        simp only [e2] at h
        exact mWhN_more h (by omega)
      all_goals rfl
    · rfl
    · rfl
theorem mWh_of {t : MB} {b : MS} {n : Nat} {ρ : Env} {r : SR} (h : mWhN t b n ρ = r) (hr : r ≠ .fail) : mWh t b ρ = r := by
  have hx : ∃ n, mWhN t b n ρ ≠ .fail := ⟨n, by rw [h]; exact hr⟩
  unfold mWh
  rw [dif_pos hx, ← h]
  by_cases q : hx.choose ≤ n
  · exact (mWhN_more hx.choose_spec q).symm
  · exact mWhN_more (by rw [h]; exact hr) (by omega)
theorem mWh_some {t : MB} {b : MS} {ρ : Env} (h : mWh t b ρ ≠ .fail) : ∃ n, mWhN t b n ρ = mWh t b ρ := by
  unfold mWh at h ⊢
  split
  · rename_i hx
    exact ⟨_, rfl⟩
  · rename_i hx
    rw [dif_neg hx] at h
    exact absurd rfl h
section
variable {X : Cx} {T : Tabl} {B : Addr} {E : XK} {mt : MB} {m : MS}
theorem ev_while {t : TT} {tb : TS} (h : EvB X T B E t mt) (hb : EvS X T B E tb m) : EvS X T B E (tWhile t tb) (mWh mt m) := ⟨fun c σ H ρ Γ Z r0 h1 h2 h3 h4 h5 hx hf => by
  obtain ⟨n0, e0⟩ := mWh_some hf
  refine ⟨fun n σ' H' => ∃ ρ', Rl X.K T c σ' H' ρ' Γ ∧ mWhN mt m n ρ' = mWh mt m ρ, ⟨n0, ρ, r0, e0⟩, ?_⟩
  rintro n σ' H' ⟨ρ', r', e⟩
  cases n with
  | zero => unfold mWhN at e; exact absurd e.symm hf
  | succ n =>
    unfold mWhN at e
    refine h.run c σ' H' ρ' Γ _ r' (fun x ρ1 H1 e1 r1 => ?_) (fun nm e1 => ?_) fun e1 => ?_
    · cases x with
      | true =>
        simp only [e1] at e
        rw [if_pos rfl]
        refine ⟨fun σ' H' => ∃ ρ', Rl X.K T c σ' H' ρ' Γ ∧ mWhN mt m n ρ' = mWh mt m ρ, fun σ2 H2 q => ⟨n, Nat.lt_succ_self n, q⟩, ?_⟩
        refine hb.run c σ' H1 ρ1 Γ _ r1 (fun ρ3 σ3 H3 em r4 => ?_) (fun d ρ3 σ3 v H3 em r4 => ?_) (fun d ρ3 σ3 v H3 em r4 => ?_) (fun ρ3 σ3 H3 em r4 => ?_) (fun ρ3 σ3 H3 em r4 => ?_) (fun nm em => ?_) fun em => ?_
        · simp only [em] at e; exact ⟨ρ3, r4, e⟩
        · simp only [em] at e; exact h2 d ρ3 σ3 v H3 e.symm r4
        · simp only [em] at e; exact h3 d ρ3 σ3 v H3 e.symm r4
        · simp only [em] at e; exact h1 ρ3 σ3 H3 e.symm r4
        · simp only [em] at e; exact ⟨ρ3, r4, e⟩
        · simp only [em] at e; exact hx nm e.symm
        · simp only [em] at e; exact hf e.symm
      | false =>
        simp only [e1] at e
        rw [if_neg Bool.false_ne_true]
        exact h1 ρ1 σ' H1 e.symm r1
    · simp only [e1] at e; exact hx nm e.symm
    · simp only [e1] at e; exact hf e.symm⟩
end
end RK
set_option Elab.async false
set_option linter.all false
set_option maxRecDepth 100000
set_option maxHeartbeats 4000000
/-! RkI: the statements of the text, by rules. -/
namespace RK
open PySem PySem.Spec PyProof.Rows L2 RZ
section
variable {X : Cx} {T : Tabl} {B : Addr} {E : XK} {ma mb mk ml mh mv : ME} {mt mu : MB} {mr mi : MA} {m m' m1 m2 : MS} {mg : MG} {mgs : List MG} {pos p : Pos} {a b e e2 e3 tg : Expr} {es : List Expr} {st : Stmt} {sts sts2 : List Stmt}
theorem dss_nil : DSs X T B E [] mNext := ⟨_, pss_nil, ev_next⟩
theorem dss_one (h : DS X T B E st m) : DSs X T B E [st] m := by
  obtain ⟨t, h1, h2⟩ := h.ex
  exact ⟨_, pss_one h1, h2⟩
theorem dss_cons (h : DS X T B E st m) (h' : DSs X T B E sts m') : DSs X T B E (st :: sts) (mSeq m m') := by
  obtain ⟨t, h1, h2⟩ := h.ex
  obtain ⟨u, u1, u2⟩ := h'.ex
  exact ⟨_, pss_cons h1 u1, ev_seq h2 u2⟩
/-- here the thing at slot i is let go -/
theorem dss_rel (i : Nat) (h : DSs X T B E sts m) : DSs X T B E sts (mRel i m) := by
  obtain ⟨t, h1, h2⟩ := h.ex
  exact ⟨_, h1, ev_rel h2⟩
theorem ds_rel (i : Nat) (h : DS X T B E st m) : DS X T B E st (mRel i m) := by
  obtain ⟨t, h1, h2⟩ := h.ex
  exact ⟨_, h1, ev_rel h2⟩
theorem ds_brk : DS X T B E (.Break pos) mBrk := ⟨_, ps_break, ev_brk⟩
theorem ds_cnt : DS X T B E (.Continue pos) mCnt := ⟨_, ps_continue, ev_cnt⟩
theorem ds_pass : DS X T B E (.Pass pos) mNext := ⟨_, ps_pass, ev_next⟩
theorem ds_if (h : DB X T B E e mt) (h1 : DSs X T B E sts m1) (h2 : DSs X T B E sts2 m2) : DS X T B E (.If e sts sts2 pos) (mIfS mt m1 m2) := by
  obtain ⟨t, a1, a2⟩ := h.ex
  obtain ⟨u, b1, b2⟩ := h1.ex
  obtain ⟨v, c1, c2⟩ := h2.ex
  exact ⟨_, ps_if a1 b1 c1, ev_ifS a2 b2 c2⟩
theorem ds_ret (h : DE X T B E e ma) : DS X T B E (.Return (some e) pos) (mRet ma) := by
  obtain ⟨t, a1, a2⟩ := h.ex
  exact ⟨_, ps_ret a1, ev_ret a2⟩
theorem ds_retO (h : DO X T B E e ma) : DS X T B E (.Return (some e) pos) (mRetO ma) := by
  obtain ⟨t, a1, a2⟩ := h.ex
  exact ⟨_, ps_ret a1, ev_retO a2⟩
theorem ds_drop (h : DE X T B E e ma) (hs : swapsWith e none pos.line X.env = pure false := by rfl) : DS X T B E (.Expr e pos) (mDrop ma) := by
  obtain ⟨t, a1, a2⟩ := h.ex
  exact ⟨_, ps_expr a1 hs, ev_drop a2⟩
theorem dg_v (i : Nat) {x : Str} (hN : X.N.Nodup) (hi : X.N[i]? = some x := by rfl) (hx : Loc X.env.scope x := by first | exact Or.inl rfl | exact Or.inr rfl)
    (hf : X.fn x = true ∨ X.env.scope.names.lookup x = some .local := by first | exact .inl rfl | exact .inr rfl | assumption) : DG X T (.Name x pos) (gSet i) := ⟨_, pg_name hN hi hx hf, evg_set⟩
theorem dgs_nil : DGs X T [] [] := ⟨_, pgs_nil, evgs_nil⟩
theorem dgs_cons (h : DG X T e mg) (h' : DGs X T es mgs) (hs : (assignEach (e :: es) X.env).map (·.2) = assign e X.env :: (assignEach es X.env).map (·.2) := by rfl) : DGs X T (e :: es) (mg :: mgs) := by
  obtain ⟨t, a1, a2⟩ := h.ex
  obtain ⟨u, b1, b2⟩ := h'.ex
  exact ⟨_, pgs_cons a1 b1 hs, evgs_cons a2 b2⟩
theorem dg_tup {k : Nat} (h : DGs X T es mgs) (hc : X.calm = true := by rfl) (hn : (assignEach es X.env).length = mgs.length := by rfl) (hst : (assignEach es X.env).findIdx? (·.1) = none := by rfl) : DG X T (.Tuple es k pos) (gTupM mgs) := by
  obtain ⟨t, a1, a2⟩ := h.ex
  exact ⟨_, pg_tup hc a1 hn hst, evg_tup rfl a2⟩
theorem ds_set (i : Nat) {x : Str} {pos' : Pos} (hN : X.N.Nodup) (h : DE X T B E e ma) (hi : X.N[i]? = some x := by rfl) (hx : Loc X.env.scope x := by first | exact Or.inl rfl | exact Or.inr rfl) (hs : swapsWith e (some (.Name x pos')) pos.line X.env = pure false := by rfl)
    (hf : X.fn x = true ∨ X.env.scope.names.lookup x = some .local := by first | exact .inl rfl | exact .inr rfl | assumption) : DS X T B E (.Assign [.Name x pos'] e pos) (mAsg ma (gSet i)) := by
  obtain ⟨t, a1, a2⟩ := h.ex
  exact ⟨_, ps_set hN hi hx a1 hs hf, ev_asg a2 evg_set⟩
theorem ds_setO (i : Nat) {x : Str} {pos' : Pos} (hN : X.N.Nodup) (h : DO X T B E e ma) (hi : X.N[i]? = some x := by rfl) (hx : Loc X.env.scope x := by first | exact Or.inl rfl | exact Or.inr rfl) (hs : swapsWith e (some (.Name x pos')) pos.line X.env = pure false := by rfl)
    (hf : X.fn x = true ∨ X.env.scope.names.lookup x = some .local := by first | exact .inl rfl | exact .inr rfl | assumption) : DS X T B E (.Assign [.Name x pos'] e pos) (mAsgO ma i) := by
  obtain ⟨t, a1, a2⟩ := h.ex
  exact ⟨_, ps_set hN hi hx a1 hs hf, ev_asgO a2⟩
theorem ds_asg (h : DE X T B E e ma) (hg : DG X T tg mg) (hs : swapsWithSole [tg] e pos.line X.env = pure false := by rfl) (hw : swappedStores [tg] e X.env = pure none := by rfl)
    (h1 : (assignEach [tg] X.env).map (·.2) = [assign tg X.env] := by rfl) : DS X T B E (.Assign [tg] e pos) (mAsg ma mg) := by
  obtain ⟨t, a1, a2⟩ := h.ex
  obtain ⟨u, b1, b2⟩ := hg.ex
  exact ⟨_, ps_asg a1 b1 hs hw h1, ev_asg a2 b2⟩
theorem ds_par (i j : Nat) {x y : Str} {px py pt : Pos} {kt k2 pt2} (hN : X.N.Nodup) (ha : DA X T B E [a, b] mr) (hi : X.N[i]? = some x := by rfl) (hj : X.N[j]? = some y := by rfl) (hij : i ≠ j := by decide) (hc : X.calm = true := by rfl)
    (hx : X.env.scope.names.lookup x = some .local := by rfl) (hy : X.env.scope.names.lookup y = some .local := by rfl) (hw : swappedStores [.Tuple [.Name x px, .Name y py] kt pt] (.Tuple [a, b] k2 pt2) X.env = pure (some [x, y]) := by rfl)
    (hs : swapsWithSole [.Tuple [.Name x px, .Name y py] kt pt] (.Tuple [a, b] k2 pt2) pos.line X.env = pure false := by rfl) : DS X T B E (.Assign [.Tuple [.Name x px, .Name y py] kt pt] (.Tuple [a, b] k2 pt2) pos) (mPar i j mr) := by
  obtain ⟨t, a1, a2⟩ := ha.ex
  exact ⟨_, ps_par hc hN hi hj hij hx hy a1 hw hs, ev_par a2⟩
theorem ds_augA (i : Nat) {x : Str} {pos' : Pos} (hN : X.N.Nodup) (h : DE X T B E e ma) (hi : X.N[i]? = some x := by rfl) (hx : Loc X.env.scope x := by first | exact Or.inl rfl | exact Or.inr rfl)
    (hf : X.fn x = true ∨ X.env.scope.names.lookup x = some .local := by first | exact .inl rfl | exact .inr rfl | assumption) : DS X T B E (.AugAssign (.Name x pos') .Add e pos) (mAug dAddI i ma) := by
  obtain ⟨t, a1, a2⟩ := h.ex
  exact ⟨_, ps_aug hN hi hx a1 ip_add hf, ev_augI (fun x y z h => by
    unfold dAddI at h
    split at h
    · cases h; exact ⟨_, _, rfl, rfl, rfl⟩
    · cases h) a2⟩
theorem ds_augS (i : Nat) {x : Str} {pos' : Pos} (hN : X.N.Nodup) (h : DE X T B E e ma) (hi : X.N[i]? = some x := by rfl) (hx : Loc X.env.scope x := by first | exact Or.inl rfl | exact Or.inr rfl)
    (hf : X.fn x = true ∨ X.env.scope.names.lookup x = some .local := by first | exact .inl rfl | exact .inr rfl | assumption) : DS X T B E (.AugAssign (.Name x pos') .Sub e pos) (mAug dSub i ma) := by
  obtain ⟨t, a1, a2⟩ := h.ex
  exact ⟨_, ps_aug hN hi hx a1 ip_sub hf, ev_augI (fun x y z h => by
    unfold dSub at h
    split at h
    · cases h; exact ⟨_, _, rfl, rfl, rfl⟩
    · cases h) a2⟩
theorem ds_app (i : Nat) {x : Str} {px pa pc : Pos} (h : DE X T B E e ma) (hN : X.N[i]? = some x := by rfl) (hv : Vis X.env.scope x := by first | exact Or.inl rfl | exact Or.inr (Or.inl rfl) | exact Or.inr (Or.inr rfl)) (hd : (x == ("__debug__" : Str)) = false := by decide)
    (hcd : (x == ("__classdict__" : Str)) = false := by decide) (hbase : attributeBase (.Name x px) "append" X.env (eval (.Name x px) X.env) = eval (.Name x px) X.env := by rfl)
    (hfew : ((backTo pc (starEach [e] X.env)).all (fun x => !x.1) && (backToKw pc (keywordEach [] X.env)).all (fun x => x.1.isSome)
      && decide ([e].length + ([] : List Keyword).length + (if ([] : List Keyword).isEmpty then 0 else 1) < 30)) = true := by rfl)
    (hline : (pa.endLine == pc.line) = true := by rfl) (hs : starEach [e] X.env = (false, eval e X.env) :: starEach [] X.env := by rfl) (hplain : (backTo pc (starEach [] X.env)).any (·.1) = false := by rfl)
    (hsw : swapsWith (.Call (.Attribute (.Name x px) "append" pa) [e] [] pc) none pos.line X.env = pure false := by rfl) :
    DS X T B E (.Expr (.Call (.Attribute (.Name x px) "append" pa) [e] [] pc) pos) (mMut fApp i ma) := by
  obtain ⟨t, a1, a2⟩ := h.ex
  exact ⟨_, ps_expr (pe_bm PySem.F.plainAttrs_list PySem.F.slot_list_append PySem.F.type_list_append mt_append (pe_var hN hv hd hcd) (pa_cons a1 pa_nil hs) hbase hfew hline hs hplain) hsw, ev_mut mutr_app a2⟩
theorem ds_ext (i : Nat) {x : Str} {px pa pc : Pos} (h : DE X T B E e ma) (hN : X.N[i]? = some x := by rfl) (hv : Vis X.env.scope x := by first | exact Or.inl rfl | exact Or.inr (Or.inl rfl) | exact Or.inr (Or.inr rfl)) (hd : (x == ("__debug__" : Str)) = false := by decide)
    (hcd : (x == ("__classdict__" : Str)) = false := by decide) (hbase : attributeBase (.Name x px) "extend" X.env (eval (.Name x px) X.env) = eval (.Name x px) X.env := by rfl)
    (hfew : ((backTo pc (starEach [e] X.env)).all (fun x => !x.1) && (backToKw pc (keywordEach [] X.env)).all (fun x => x.1.isSome)
      && decide ([e].length + ([] : List Keyword).length + (if ([] : List Keyword).isEmpty then 0 else 1) < 30)) = true := by rfl)
    (hline : (pa.endLine == pc.line) = true := by rfl) (hs : starEach [e] X.env = (false, eval e X.env) :: starEach [] X.env := by rfl) (hplain : (backTo pc (starEach [] X.env)).any (·.1) = false := by rfl)
    (hsw : swapsWith (.Call (.Attribute (.Name x px) "extend" pa) [e] [] pc) none pos.line X.env = pure false := by rfl) :
    DS X T B E (.Expr (.Call (.Attribute (.Name x px) "extend" pa) [e] [] pc) pos) (mMut fExt i ma) := by
  obtain ⟨t, a1, a2⟩ := h.ex
  exact ⟨_, ps_expr (pe_bm PySem.F.plainAttrs_list PySem.F.slot_list_extend PySem.F.type_list_extend mt_extend (pe_var hN hv hd hcd) (pa_cons a1 pa_nil hs) hbase hfew hline hs hplain) hsw, ev_mut mutr_ext a2⟩
theorem ds_setI (i : Nat) {x : Str} {px pos2 : Pos} (hv : DE X T B E e mv) (hi : DE X T B E b mb) (hN : X.N[i]? = some x := by rfl) (hvi : Vis X.env.scope x := by first | exact Or.inl rfl | exact Or.inr (Or.inl rfl) | exact Or.inr (Or.inr rfl)) (hd : (x == ("__debug__" : Str)) = false := by decide)
    (hcd : (x == ("__classdict__" : Str)) = false := by decide)
    (ha : ∀ v, assign (.Subscript (.Name x px) b pos2) X.env v = (do
      let ov ← holding [v] (eval (.Name x px) X.env)
      let iv ← holding [v, ov] (eval b X.env)
      standAt pos2
      holding [v, ov, iv] (setItem ov iv v)
      release [v, ov, iv] []) := by intro _; rfl)
    (hs : swapsWithSole [.Subscript (.Name x px) b pos2] e pos.line X.env = pure false := by rfl) (hw : swappedStores [.Subscript (.Name x px) b pos2] e X.env = pure none := by rfl)
    (h1 : (assignEach [.Subscript (.Name x px) b pos2] X.env).map (·.2) = [assign (.Subscript (.Name x px) b pos2) X.env] := by rfl) : DS X T B E (.Assign [.Subscript (.Name x px) b pos2] e pos) (mSetI i mv mb) := by
  obtain ⟨t, a1, a2⟩ := hv.ex
  obtain ⟨u, b1, b2⟩ := hi.ex
  exact ⟨_, ps_asg a1 (pg_sub (pe_var hN hvi hd hcd) b1 set_list ha) hs hw h1, ev_setI a2 b2⟩
/-! loops -/
theorem di_list (h : DE X T B E e ma) : DI X T B E tg e (mItL ma) := by
  obtain ⟨t, a1, a2⟩ := h.ex
  exact ⟨_, pi_list a1, evi_list a2⟩
theorem di_tup (h : DE X T B E e ma) : DI X T B E tg e (mItT ma) := by
  obtain ⟨t, a1, a2⟩ := h.ex
  exact ⟨_, pi_tup a1, evi_tup a2⟩
theorem di_rng1 (hm : X.mg "range" = none) (h : DA X T B E [a] mr) (hg : Gl X "range" := by rfl) (hs : starEach [a] X.env = [(false, eval a X.env)] := by rfl) : DI X T B E tg (.Call (.Name "range" p) [a] [] pos) (mRng1 mr) := by
  obtain ⟨t, a1, a2⟩ := h.ex
  exact ⟨_, pi_range1 hg hm a1 hs, evi_rng1 a2⟩
theorem di_rng2 (hm : X.mg "range" = none) (h : DA X T B E [a, b] mr) (hg : Gl X "range" := by rfl) (hs : starEach [a, b] X.env = [(false, eval a X.env), (false, eval b X.env)] := by rfl) (hs2 : starEach [b] X.env = [(false, eval b X.env)] := by rfl) : DI X T B E tg (.Call (.Name "range" p) [a, b] [] pos) (mRng2 mr) := by
  obtain ⟨t, a1, a2⟩ := h.ex
  exact ⟨_, pi_range2 hg hm a1 hs hs2, evi_rng2 a2⟩
theorem di_zip {x1} {pt : Pos} (hm : X.mg "zip" = none) (h : DA X T B E [a, b] mr) (hg : Gl X "zip" := by rfl) (hs : starEach [a, b] X.env = (false, eval a X.env) :: starEach [b] X.env := by rfl) (hpl : (backTo pos (starEach [b] X.env)).any (·.1) = false := by rfl) :
    DI X T B E (.Tuple es x1 pt) (.Call (.Name "zip" p) [a, b] [] pos) (mZip mr) := by
  obtain ⟨t, a1, a2⟩ := h.ex
  exact ⟨_, pi_zipA hg hm a1 hs hpl, evi_zip a2⟩
theorem ds_for (hp : PassesOwn (model X.prog X.w) X.A X.env X.xe) (hi : DI X T B E tg e mi) (hg : DG X T tg mg) (hb : DSs X T B E sts m) (hc : X.calm = true := by rfl) (hs : ∀ x, foldedSetIterable e X.env x = pure x := by intro _; rfl) : DS X T B E (.For tg e sts [] pos) (mFor mi mg m) := by
  obtain ⟨t, a1, a2⟩ := hi.ex
  obtain ⟨g, g1, g2⟩ := hg.ex
  obtain ⟨u, b1, b2⟩ := hb.ex
  exact ⟨_, ps_for hp hc a1 g1 b1 hs, ev_for a2 g2 b2⟩
theorem ds_while (hp : PassesOwn (model X.prog X.w) X.A X.env X.xe) (h : DB X T B E e mt) (hb : DSs X T B E sts m) : DS X T B E (.While e sts [] pos) (mWh mt m) := by
  obtain ⟨t, a1, a2⟩ := h.ex
  obtain ⟨u, b1, b2⟩ := hb.ex
  exact ⟨_, ps_while hp a1 b1, ev_while a2 b2⟩
end
end RK
set_option Elab.async false
set_option linter.all false
set_option maxRecDepth 100000
set_option maxHeartbeats 4000000
/-! RkJ: list comprehensions. -/
namespace RK
open PySem PySem.Spec PyProof.Rows L2 RZ

def wipeE (ρ : Env) : List Nat → Env
  | [] => ρ
  | v :: vs => (wipeE ρ vs).set v .em
def keepS : Option Sl → Sl
  | some (.im d) => .im d
  | _ => .em
/-- the slots of ρ put back into ρ2 -/
def restE (ρ2 ρ : Env) : List Nat → Env
  | [] => ρ2
  | v :: vs => restE (ρ2.set v (keepS (wipeE ρ vs)[v]?)) ρ vs
section
variable {K : PySem.W.Frag} {T : Tabl} {c : Cfg}
theorem Rl.fgt {σ : L2.St} {H : Hp} {ρ : Env} {Γ : Gam} (r : Rl K T c σ H ρ Γ) (i : Nat) : Rl K T c (σ.set i none) H (ρ.set i .em) Γ := by
  obtain ⟨W, r⟩ := r
  refine ⟨W, by rw [List.length_set, List.length_set]; exact r.len, fun j s hs => ?_, r.gm, r.keep, r.there, r.wnew, r.wmut, r.live, r.apart, r.good⟩
  by_cases e : j = i
  · subst e
    by_cases hj : j < ρ.length
    · rw [List.getElem?_set_self hj] at hs
      cases hs
      trivial
    · rw [List.getElem?_eq_none (by rw [List.length_set]; omega)] at hs
      cases hs
  · rw [List.getElem?_set_ne (Ne.symm e)] at hs
    rw [List.getElem?_set_ne (Ne.symm e)]
    exact r.sl j s hs
theorem Rl.fgts {σ : L2.St} {H : Hp} {ρ : Env} {Γ : Gam} (r : Rl K T c σ H ρ Γ) : ∀ vs : List Nat, Rl K T c (wipe σ vs) H (wipeE ρ vs) Γ
  | [] => r
  | v :: vs => (r.fgts vs).fgt v
/-- any value in a slot of which nothing is told -/
theorem Rl.anyS {σ σ' : L2.St} {H : Hp} {ρ : Env} {Γ : Gam} {i : Nat} (r : Rl K T c (σ.set i none) H ρ Γ) : Rl K T c σ H (ρ.set i .em) Γ := by
  obtain ⟨W, r⟩ := r
  have hl := r.len
  rw [List.length_set] at hl
  refine ⟨W, by rw [List.length_set]; exact hl, fun j s hs => ?_, r.gm, r.keep, r.there, r.wnew, r.wmut, r.live, r.apart, r.good⟩
  by_cases e : j = i
  · subst e
    by_cases hj : j < ρ.length
    · rw [List.getElem?_set_self hj] at hs
      cases hs
      trivial
    · rw [List.getElem?_eq_none (by rw [List.length_set]; omega)] at hs
      cases hs
  · rw [List.getElem?_set_ne (Ne.symm e)] at hs
    have q := r.sl j s hs
    rw [List.getElem?_set_ne (Ne.symm e)] at q
    exact q
/-- the slots of vs forgotten, their plain values beside -/
theorem Rl.saves {σ : L2.St} {H : Hp} {ρ : Env} {Γ : Gam} (r : Rl K T c σ H ρ Γ) : ∀ vs : List Nat, ∃ G : Gam, AllIm G ∧ Rl K T c (wipe σ vs) H (wipeE ρ vs) (G ++ Γ) ∧ ∀ H' ρ' Γ', (∀ H L, Imm K H L Γ' → Imm K H L G) → Rl K T c (wipe σ vs) H' ρ' Γ' → Rl K T c σ H' (restE ρ' ρ vs) Γ'
  | [] => ⟨[], trivial, r, fun H' ρ' Γ' _ r' => r'⟩
  | v :: vs => by
    obtain ⟨G, hG, r1, back⟩ := r.saves vs
    have plain : ∀ (H' : Hp) (ρ' : Env) (Γ' : Gam), (∀ H L, Imm K H L Γ' → Imm K H L G) → keepS ((wipeE ρ vs)[v]?) = .em → Rl K T c (wipe σ (v :: vs)) H' ρ' Γ' → Rl K T c σ H' (restE ρ' ρ (v :: vs)) Γ' := fun H' ρ' Γ' hi e r' => by
      unfold restE
      rw [e]
      exact back H' _ _ hi (Rl.anyS (σ' := σ) r')
    cases e : (wipeE ρ vs)[v]? with
    | none => exact ⟨G, hG, r1.fgt v, fun H' ρ' Γ' hi r' => plain H' ρ' Γ' hi (by rw [e]; rfl) r'⟩
    | some s =>
      cases s with
      | im d =>
        obtain ⟨u, eu, r2⟩ := r1.save e
        refine ⟨(u, .im d) :: G, hG, r2, fun H' ρ' Γ' hi r' => ?_⟩
        unfold restE
        rw [e]
        have r3 : Rl K T c (((wipe σ vs).set v none).set v (some u)) H' (ρ'.set v (.im d)) Γ' := Rl.set (Γ := Γ') (r'.add fun L h => (hi _ L h).1) rfl
        have es : ((wipe σ vs).set v none).set v (some u) = wipe σ vs := by
          rw [List.set_set]
          refine List.ext_getElem? fun j => ?_
          by_cases hj : v = j
          · subst hj
            rw [List.getElem?_set_self (List.getElem?_eq_some_iff.mp eu).1, eu]
          · rw [List.getElem?_set_ne hj]
        rw [es] at r3
        exact back H' _ Γ' (fun H L h => (hi H L h).2) r3
      | em => exact ⟨G, hG, r1.fgt v, fun H' ρ' Γ' hi r' => plain H' ρ' Γ' hi (by rw [e]; rfl) r'⟩
      | ow d => exact ⟨G, hG, r1.fgt v, fun H' ρ' Γ' hi r' => plain H' ρ' Γ' hi (by rw [e]; rfl) r'⟩
      | pw d => exact ⟨G, hG, r1.fgt v, fun H' ρ' Γ' hi r' => plain H' ρ' Γ' hi (by rw [e]; rfl) r'⟩
end
theorem wipe_at {σ : L2.St} {j : Nat} : ∀ {vs : List Nat}, (wipe σ vs)[j]? = if j ∈ vs ∧ j < σ.length then some none else σ[j]?
  | [] => by
    unfold wipe
    rw [if_neg (by simp)]
  | v :: vs => by
    unfold wipe
    by_cases e : v = j
    · subst e
      by_cases hj : v < σ.length
      · rw [List.getElem?_set_self (by rw [wipe_length]; exact hj), if_pos ⟨List.mem_cons_self, hj⟩]
      · rw [List.getElem?_eq_none (by rw [List.length_set, wipe_length]; omega), if_neg (by omega), List.getElem?_eq_none (by omega)]
    · rw [List.getElem?_set_ne e, wipe_at]
      have hm : (j ∈ v :: vs) = (j ∈ vs) := by
        rw [List.mem_cons]
        exact propext ⟨fun h => h.resolve_left fun z => e z.symm, .inr⟩
      simp only [hm]
theorem wipe_wipe {σ : L2.St} {vs : List Nat} : wipe (wipe σ vs) vs = wipe σ vs := by
  refine List.ext_getElem? fun j => ?_
  rw [wipe_at, wipe_at, wipe_length]
  split <;> rfl
/-- a target that writes the block's own slots alone -/
def OnlyIn (t : TG) (vs : List Nat) : Prop := ∀ (v : V) (σ : L2.St) (H : Hp) (Q : L2.St → Hp → Prop), t v σ H Q → t v σ H fun σ' H' => Q σ' H' ∧ wipe σ' vs = wipe σ vs
def OnlyIns (t : TGs) (vs : List Nat) : Prop := ∀ (v : List V) (σ : L2.St) (H : Hp) (Q : L2.St → Hp → Prop), t v σ H Q → t v σ H fun σ' H' => Q σ' H' ∧ wipe σ' vs = wipe σ vs
theorem wipe_set {σ : L2.St} {i : Nat} {x : Option V} : ∀ {vs : List Nat}, i ∈ vs → wipe (σ.set i x) vs = wipe σ vs
  | v :: vs, h => by
    unfold wipe
    by_cases e : i = v
    · subst e
      have key : ∀ vs : List Nat, (wipe (σ.set i x) vs).set i none = (wipe σ vs).set i none := by
        intro vs
        induction vs with
        | nil => show (σ.set i x).set i none = σ.set i none; rw [List.set_set]
        | cons w ws ih =>
          unfold wipe
          by_cases e : i = w
          · subst e
            rw [List.set_set, List.set_set]
            exact ih
          · rw [List.set_comm _ _ (Ne.symm e), List.set_comm _ _ (Ne.symm e), ih]
      exact key vs
    · rw [wipe_set ((List.mem_cons.mp h).resolve_left e)]
theorem oi_set {i : Nat} {vs : List Nat} (h : i ∈ vs) : OnlyIn (gName i) vs := fun v σ H Q q => ⟨q, wipe_set h⟩
theorem ois_nil {vs : List Nat} : OnlyIns gNil vs := fun v σ H Q ⟨e, q⟩ => ⟨e, q, rfl⟩
theorem TGs_mono : True := trivial
/-- targets: a mirror, and the slots that are written -/
structure DGo (X : Cx) (T : Tabl) (e : Expr) (g : MG) (vs : List Nat) : Prop where
  ex : ∃ t, PG X e t ∧ EvG X T t g ∧ ∀ (v : V) (σ : L2.St) (H : Hp) (Q Q' : L2.St → Hp → Prop), (∀ σ' H', Q σ' H' → wipe σ' vs = wipe σ vs → Q' σ' H') → t v σ H Q → t v σ H Q'
structure DGos (X : Cx) (T : Tabl) (e : List Expr) (g : List MG) (vs : List Nat) : Prop where
  ex : ∃ t, PGs X e t ∧ EvGs X T t g ∧ ∀ (v : List V) (σ : L2.St) (H : Hp) (Q Q' : L2.St → Hp → Prop), (∀ σ' H', Q σ' H' → wipe σ' vs = wipe σ vs → Q' σ' H') → t v σ H Q → t v σ H Q'
section
variable {X : Cx} {T : Tabl} {B : Addr} {E : XK} {mg : MG} {mgs : List MG} {e : Expr} {es : List Expr} {vs : List Nat} {pos : Pos}
theorem dgo_v (i : Nat) {x : Str} (hN : X.N.Nodup) (hm : i ∈ vs := by decide) (hi : X.N[i]? = some x := by rfl) (hx : Loc X.env.scope x := by first | exact Or.inl rfl | exact Or.inr rfl)
    (hf : X.fn x = true ∨ X.env.scope.names.lookup x = some .local := by first | exact .inl rfl | exact .inr rfl | assumption) : DGo X T (.Name x pos) (gSet i) vs := ⟨_, pg_name hN hi hx hf, evg_set, fun v σ H Q Q' h q => h _ _ q (wipe_set hm)⟩
theorem dgos_nil : DGos X T [] [] vs := ⟨_, pgs_nil, evgs_nil, fun v σ H Q Q' h ⟨e, q⟩ => ⟨e, h _ _ q rfl⟩⟩
theorem dgos_cons (h : DGo X T e mg vs) (h' : DGos X T es mgs vs) (hs : (assignEach (e :: es) X.env).map (·.2) = assign e X.env :: (assignEach es X.env).map (·.2) := by rfl) : DGos X T (e :: es) (mg :: mgs) vs := by
  obtain ⟨t, a1, a2, a3⟩ := h.ex
  obtain ⟨u, b1, b2, b3⟩ := h'.ex
  refine ⟨_, pgs_cons a1 b1 hs, evgs_cons a2 b2, fun v σ H Q Q' h ⟨x, r, e, q⟩ => ⟨x, r, e, a3 x σ H _ _ (fun σ1 H1 q1 w1 => b3 r σ1 H1 _ _ (fun σ2 H2 q2 w2 => h _ _ q2 (w2.trans w1)) q1) q⟩⟩
theorem dgo_tup {k : Nat} (h : DGos X T es mgs vs) (hc : X.calm = true := by rfl) (hn : (assignEach es X.env).length = mgs.length := by rfl) (hst : (assignEach es X.env).findIdx? (·.1) = none := by rfl) : DGo X T (.Tuple es k pos) (gTupM mgs) vs := by
  obtain ⟨t, a1, a2, a3⟩ := h.ex
  exact ⟨_, pg_tup hc a1 hn hst, evg_tup rfl a2, fun v σ H Q Q' h ⟨a, xs, e, q1, q2, q⟩ => ⟨a, xs, e, q1, q2, a3 xs σ H _ _ h q⟩⟩
end

/-! ### the mirror -/
def mYes : MB := fun ρ => .ok true ρ
def cmpL (vs : List Nat) (g : MG) (tst : MB) (elt : ME) : List D → Env → AR
  | [], ρ => .ok [] ρ
  | d :: ds, ρ => match g d ρ with
    | none => .fail
    | some ρ1 => match tst ρ1 with
      | .ok true ρ2 => (match elt ρ2 with
        | .ok y ρ3 => (match cmpL vs g tst elt ds (wipeE ρ3 vs) with
          | .ok ys ρ4 => .ok (y :: ys) ρ4
          | _ => .fail)
        | _ => .fail)
      | .ok false ρ2 => cmpL vs g tst elt ds (wipeE ρ2 vs)
      | _ => .fail
def mComp (vs : List Nat) (it : MA) (g : MG) (tst : MB) (elt : ME) : ME := fun ρ => match it ρ with
  | .ok ds ρ1 => if ds.length ≤ 16000000 then (match cmpL vs g tst elt ds (wipeE ρ1 vs) with
      | .ok ys ρ2 => .ok (.lst ys) (restE ρ2 ρ1 vs)
      | _ => .fail) else .fail
  | .raise s => .raise s
  | .fail => .fail
def fAR (out : List D) : AR → AR
  | .ok ys ρ => .ok (out ++ ys) ρ
  | r => r
theorem cmpL_noraise {vs : List Nat} {g : MG} {tst : MB} {elt : ME} : ∀ {ds : List D} {ρ : Env} {s : Str}, cmpL vs g tst elt ds ρ ≠ .raise s
  | [], ρ, s => fun h => by unfold cmpL at h; cases h
  | d :: ds, ρ, s => fun h => by
    unfold cmpL at h
    split at h
    · cases h
    · split at h
      · split at h
        · split at h <;> cases h
        · cases h
      · exact cmpL_noraise h
      · cases h
section
variable {X : Cx} {T : Tabl} {B : Addr} {E : XK} {mi : MA} {mg : MG} {mt : MB} {ma : ME} {vs : List Nat}
/-- what is asked of the parts within the block: any context of its heaps -/
theorem ev_comp {wi : TI} {g : TG} {tt : TT} {te : TE} {P : Cx → Prop} (hi : EvI X T B E wi mi)
    (hg : ∃ X', X'.K = X.K ∧ EvG X' T g mg) (hgo : ∀ (v : V) (σ : L2.St) (H : Hp) (Q Q' : L2.St → Hp → Prop), (∀ σ' H', Q σ' H' → wipe σ' vs = wipe σ vs → Q' σ' H') → g v σ H Q → g v σ H Q')
    (ht : ∃ X', X'.K = X.K ∧ EvB X' T B E0 tt mt) (he : ∃ X', X'.K = X.K ∧ EvD X' T B E0 te ma) : EvO X T B E (tLc wi g tt te vs) (mComp vs mi mg mt ma) := ⟨fun c σ H ρ Γ Q r0 hq hx hf => by
  obtain ⟨Xg, kg, hg⟩ := hg
  obtain ⟨Xt, kt, ht⟩ := ht
  obtain ⟨Xe, ke, he⟩ := he
  unfold mComp at hq hx hf
  refine hi.run c σ H ρ Γ _ r0 (fun ds ρ1 J H1 G e1 hG wk r1 => ?_) (fun nm e1 => ?_) fun e1 => ?_
  · simp only [e1] at hq hx hf
    by_cases hl : ds.length ≤ 16000000
    · simp only [if_pos hl] at hq hx hf
      intro D hD
      obtain ⟨Gs, hGs, r2, back⟩ := r1.saves vs
      have r3 := r2.allocO (d := .lst []) hD (.inl ⟨_, rfl⟩) fun L n hi' => own_new_lst Reps.nil
      generalize hR : cmpL vs mg mt ma ds (wipeE ρ1 vs) = R0 at hq hx hf
      have hR0 : R0 ≠ .fail := fun z => by rw [z] at hf; exact hf rfl
      refine ⟨fun i k H' => ∃ ρ' out, Rl X.K T c (wipe σ vs) H' ρ' ((.ref D, .ow (.lst out)) :: (Gs ++ (G ++ Γ))) ∧ i ≤ ds.length ∧ k = ds.length - i ∧ out.length ≤ i ∧ fAR out (cmpL vs mg mt ma (ds.drop i) ρ') = R0, ⟨ds.length, _, [], r3, Nat.zero_le _, rfl, Nat.le_refl _, ?_⟩, ?_⟩
      · rw [List.drop_zero, hR]
        cases R0 <;> rfl
      rintro i k H' ⟨ρ', out, r', hi', rfl, ho, er⟩
      have hGim : ∀ (H : Hp) (L : Exc), Imm X.K H L ((.ref D, .ow (.lst out)) :: (Gs ++ (G ++ Γ))) → Imm X.K H L G := fun H L h => (imm_app (imm_app (G := Gs) h).2).1
      by_cases hlt : i < ds.length
      · refine .inr ?_
        have ed : ds[i]? = some ds[i] := List.getElem?_eq_getElem hlt
        have es : ds.drop i = ds[i] :: ds.drop (i + 1) := List.drop_eq_getElem_cons hlt
        rw [es] at er
        unfold cmpL at er
        obtain ⟨g1, g2⟩ := wk.step r' hGim ed
        refine ⟨g1, fun H' => ∃ ρ' out, Rl X.K T c (wipe σ vs) H' ρ' ((.ref D, .ow (.lst out)) :: (Gs ++ (G ++ Γ))) ∧ out.length ≤ i + 1 ∧ fAR out (cmpL vs mg mt ma (ds.drop (i + 1)) ρ') = R0, fun H2 ⟨ρ2, out2, r2, o2, e2⟩ => ⟨_, by omega, ρ2, out2, r2, by omega, rfl, o2, e2⟩, fun x H2 hy => ?_⟩
        have rx := g2 x H2 hy
        rw [← kg] at rx
        refine hgo x _ H2 _ _ (fun σ2 H3 q w => ⟨w.trans wipe_wipe, q (w.trans wipe_wipe)⟩) (hg.run c _ H2 ρ' _ x _ (fun σ2 H3 => wipe σ2 vs = wipe σ vs → tt σ2 H3 fun b H3 => if b = true then te σ2 H3 fun y H4 => ∃ acc, H4 D = some (.lst acc) ∧ acc.length < sizeLine ∧ ∃ ρ' out, Rl X.K T c (wipe σ vs) (upd H4 D (.lst (acc ++ [y]))) ρ' ((.ref D, .ow (.lst out)) :: (Gs ++ (G ++ Γ))) ∧ out.length ≤ i + 1 ∧ fAR out (cmpL vs mg mt ma (ds.drop (i + 1)) ρ') = R0 else ∃ ρ' out, Rl X.K T c (wipe σ vs) H3 ρ' ((.ref D, .ow (.lst out)) :: (Gs ++ (G ++ Γ))) ∧ out.length ≤ i + 1 ∧ fAR out (cmpL vs mg mt ma (ds.drop (i + 1)) ρ') = R0) rx (fun ρ2 σ2 eg r4 w => ?_) fun eg => ?_)
        · simp only [eg] at er
          rw [kg, ← kt] at r4
          refine ht.run c σ2 H2 ρ2 _ _ r4 (fun b ρ3 H3 eb r5 => ?_) (fun nm eb => ?_) fun eb => ?_
          · cases b with
            | true =>
              simp only [eb] at er
              rw [if_pos rfl]
              rw [kt, ← ke] at r5
              refine he.run c σ2 H3 ρ3 _ _ r5 (fun y ρ4 v H4 ey r6 => ?_) (fun nm ey => ?_) fun ey => ?_
              · simp only [ey] at er
                rw [ke] at r6
                obtain ⟨⟨L, la, ⟨acc, ha, ra⟩, im⟩, put⟩ := Rl.mutG (G := [(v, .im y)]) r6
                refine ⟨acc, ha, by rw [← ra.length, sizeLine_eq]; omega, wipeE ρ4 vs, out ++ [y], ?_, by rw [List.length_append, List.length_singleton]; omega, ?_⟩
                · have r7 := put (.lst (acc ++ [v])) (.lst (out ++ [y])) (.inl ⟨_, rfl⟩) fun L' la' ow' im' st' => by
                    obtain ⟨acc', ha', ra'⟩ := ow'
                    rw [ha] at ha'
                    cases ha'
                    exact ⟨_, upd_same, (ra'.append (Reps.cons im'.1 Reps.nil)).stepU st'⟩
                  have r8 := r7.fgts vs
                  rw [w] at r8
                  exact r8
                · cases ec : cmpL vs mg mt ma (ds.drop (i + 1)) (wipeE ρ4 vs) with
                  | ok ys ρ5 =>
                    simp only [ec] at er
                    rw [← er]
                    unfold fAR
                    simp
                  | raise s => exact absurd ec cmpL_noraise
                  | fail => simp only [ec] at er; exact absurd er.symm hR0
              · simp only [ey] at er; exact absurd er.symm hR0
              · simp only [ey] at er; exact absurd er.symm hR0
            | false =>
              simp only [eb] at er
              rw [if_neg Bool.false_ne_true]
              rw [kt] at r5
              have r8 := r5.fgts vs
              rw [w] at r8
              exact ⟨_, out, r8, by omega, er⟩
          · simp only [eb] at er; exact absurd er.symm hR0
          · simp only [eb] at er; exact absurd er.symm hR0
        · simp only [eg] at er; exact absurd er.symm hR0
      · have hle : i = ds.length := by omega
        subst hle
        rw [List.drop_length] at er
        have er' : AR.ok (out ++ []) ρ' = R0 := er
        rw [List.append_nil] at er'
        subst er'
        obtain ⟨L, hi2, _⟩ := r'.imm
        refine .inl ⟨wk.stop H' L (hGim H' L hi2), hq (.lst out) _ _ H' rfl ?_⟩
        have r9 := back H' ρ' ((.ref D, .ow (.lst out)) :: (Gs ++ (G ++ Γ))) (fun H L h => (imm_app (G := Gs) (show Imm X.K H L (Gs ++ (G ++ Γ)) from h)).1) r'
        rw [← List.append_assoc] at r9
        exact r9.cutO (Gs ++ G)
    · simp only [if_neg hl] at hf; exact absurd rfl hf
  · simp only [e1] at hx; exact hx nm rfl
  · simp only [e1] at hf; exact hf rfl⟩
end
/-! ### one reading for all contexts -/
def tMir (K : PySem.W.Frag) (T : Tabl) (B : Addr) (E : XK) (m : ME) : TE := fun σ H Q => ∃ (c : Cfg) (ρ : Env) (Γ : Gam), Rl K T c σ H ρ Γ ∧ (∀ d ρ' v H', m ρ = .ok d ρ' → Rl K T c σ H' ρ' ((v, .im d) :: Γ) → Q v H') ∧
  (∀ nm, m ρ = .raise nm → RsOk T c B E nm) ∧ m ρ ≠ .fail
def tMirB (K : PySem.W.Frag) (T : Tabl) (B : Addr) (E : XK) (m : MB) : TT := fun σ H Q => ∃ (c : Cfg) (ρ : Env) (Γ : Gam), Rl K T c σ H ρ Γ ∧ (∀ b ρ' H', m ρ = .ok b ρ' → Rl K T c σ H' ρ' Γ → Q b H') ∧
  (∀ nm, m ρ = .raise nm → RsOk T c B E nm) ∧ m ρ ≠ .fail
def tMirG (K : PySem.W.Frag) (T : Tabl) (g : MG) (vs : List Nat) : TG := fun v σ H Q => ∃ (c : Cfg) (ρ : Env) (Γ : Gam) (d : D), Rl K T c σ H ρ ((v, .im d) :: Γ) ∧ (∀ ρ' σ', g d ρ = some ρ' → Rl K T c σ' H ρ' Γ → wipe σ' vs = wipe σ vs → Q σ' H) ∧ g d ρ ≠ none
structure DT (X : Cx) (T : Tabl) (B : Addr) (E : XK) (ifs : List Expr) (m : MB) : Prop where
  ex : ∃ t, PTs X ifs t ∧ EvB X T B E t m
section
variable {X : Cx} {T : Tabl} {B : Addr} {E : XK} {mi : MA} {mg : MG} {mt : MB} {ma : ME} {vs : List Nat} {e elt tg iter : Expr} {ifs : List Expr} {pos : Pos}
theorem DE.mir (h : DE X T B E e ma) : PE X e (tMir X.K T B E ma) := by
  obtain ⟨t, h1, h2⟩ := h.ex
  exact ⟨fun pins s σ H Q I ⟨c, ρ, Γ, r, q1, q2, q3⟩ => h1.run pins s σ H Q I (h2.run c σ H ρ Γ Q r q1 q2 q3)⟩
theorem ev_mir : EvD X T B E (tMir X.K T B E ma) ma := ⟨fun c σ H ρ Γ Q r h1 h2 h3 => ⟨c, ρ, Γ, r, h1, h2, h3⟩⟩
theorem DT.mir (h : DT X T B E ifs mt) : PTs X ifs (tMirB X.K T B E mt) := by
  obtain ⟨t, h1, h2⟩ := h.ex
  exact ⟨fun pins s σ H Q I ⟨c, ρ, Γ, r, q1, q2, q3⟩ => h1.run pins s σ H Q I (h2.run c σ H ρ Γ Q r q1 q2 q3)⟩
theorem ev_mirB : EvB X T B E (tMirB X.K T B E mt) mt := ⟨fun c σ H ρ Γ Q r h1 h2 h3 => ⟨c, ρ, Γ, r, h1, h2, h3⟩⟩
theorem DGo.mir (h : DGo X T e mg vs) : PG X e (tMirG X.K T mg vs) := by
  obtain ⟨t, h1, h2, h3⟩ := h.ex
  exact ⟨fun pins s σ H v u Q I rv ⟨c, ρ, Γ, d, r, q1, q2⟩ => h1.run pins s σ H v u Q I rv (h3 v σ H _ _ (fun σ' H' q w => q w) (h2.run c σ H ρ Γ v d (fun σ' H' => wipe σ' vs = wipe σ vs → Q σ' H') r (fun ρ' σ' e r' w => q1 ρ' σ' e r' w) q2))⟩
theorem dt_nil : DT X T B E [] mYes := ⟨_, pts_nil, ⟨fun c σ H ρ Γ Q r h1 h2 h3 => h1 true ρ H rfl r⟩⟩
theorem dt_one (h : DB X T B E e mt) : DT X T B E [e] mt := by
  obtain ⟨t, h1, h2⟩ := h.ex
  exact ⟨_, pts_one h1, h2⟩
theorem do_comp {scope : Scope} (own : List (Str × Nat)) (hN : X.N.Nodup) (hi : DI X T B E tg iter mi) (hv : own.map (·.2) = vs) (ok : BlkOk X.N X.env.scope scope own)
    (hg : ∀ (s : Shared) (H : Hp) (C : Addr) (cl : List (Str × Addr)) (fp : List Addr), DGo (X.blk s H scope (compEnvC scope cl C X.env) fp) T tg mg vs)
    (ht : ∀ (s : Shared) (H : Hp) (C : Addr) (cl : List (Str × Addr)) (fp : List Addr), DT (X.blk s H scope (compEnvC scope cl C X.env) fp) T B E0 ifs mt)
    (he : ∀ (s : Shared) (H : Hp) (C : Addr) (cl : List (Str × Addr)) (fp : List Addr), DE (X.blk s H scope (compEnvC scope cl C X.env) fp) T B E0 elt ma)
    (hc : X.calm = true := by rfl) (hs : ∀ x, foldedSetIterable iter X.env x = pure x := by intro _; rfl) : DO X T B E (.ListComp elt [⟨tg, iter, ifs, 0⟩] scope pos) (mComp vs mi mg mt ma) := by
  subst hv
  obtain ⟨wi, i1, i2⟩ := hi.ex
  refine ⟨_, pe_lc (g := tMirG X.K T mg (own.map (·.2))) (tt := tMirB X.K T B E0 mt) (te := tMir X.K T B E0 ma) hc hN i1 ok (fun s H C cl fp => (hg s H C cl fp).mir) (fun s H C cl fp => (ht s H C cl fp).mir) (fun s H C cl fp => (he s H C cl fp).mir) hs, ?_⟩
  refine ev_comp (P := fun _ => True) i2 ⟨X, rfl, ⟨fun c σ H ρ Γ v d Q r h1 h2 => ⟨c, ρ, Γ, d, r, fun ρ' σ' e r' _ => h1 ρ' σ' e r', h2⟩⟩⟩ (fun v σ H Q Q' h ⟨c, ρ, Γ, d, r, q1, q2⟩ => ⟨c, ρ, Γ, d, r, fun ρ' σ' e r' w => h _ _ (q1 ρ' σ' e r' w) w, q2⟩) ⟨X, rfl, ev_mirB⟩ ⟨X, rfl, ev_mir⟩
theorem de_comp {scope : Scope} (own : List (Str × Nat)) (hN : X.N.Nodup) (hi : DI X T B E tg iter mi) (hv : own.map (·.2) = vs) (ok : BlkOk X.N X.env.scope scope own)
    (hg : ∀ (s : Shared) (H : Hp) (C : Addr) (cl : List (Str × Addr)) (fp : List Addr), DGo (X.blk s H scope (compEnvC scope cl C X.env) fp) T tg mg vs)
    (ht : ∀ (s : Shared) (H : Hp) (C : Addr) (cl : List (Str × Addr)) (fp : List Addr), DT (X.blk s H scope (compEnvC scope cl C X.env) fp) T B E0 ifs mt)
    (he : ∀ (s : Shared) (H : Hp) (C : Addr) (cl : List (Str × Addr)) (fp : List Addr), DE (X.blk s H scope (compEnvC scope cl C X.env) fp) T B E0 elt ma)
    (hc : X.calm = true := by rfl) (hs : ∀ x, foldedSetIterable iter X.env x = pure x := by intro _; rfl) : DE X T B E (.ListComp elt [⟨tg, iter, ifs, 0⟩] scope pos) (mComp vs mi mg mt ma) := (do_comp own hN hi hv ok hg ht he hc hs).toE
/-- name = [..] on one line, the name a local -/
theorem ds_comp {scope : Scope} (i : Nat) (own : List (Str × Nat)) {y : Str} {py spos : Pos} (hN : X.N.Nodup) (hi : DI X T B E tg iter mi) (hv : own.map (·.2) = vs) (ok : BlkOk X.N X.env.scope scope own)
    (hg : ∀ (s : Shared) (H : Hp) (C : Addr) (cl : List (Str × Addr)) (fp : List Addr), DGo (X.blk s H scope (compEnvC scope cl C X.env) fp) T tg mg vs)
    (ht : ∀ (s : Shared) (H : Hp) (C : Addr) (cl : List (Str × Addr)) (fp : List Addr), DT (X.blk s H scope (compEnvC scope cl C X.env) fp) T B E0 ifs mt)
    (he : ∀ (s : Shared) (H : Hp) (C : Addr) (cl : List (Str × Addr)) (fp : List Addr), DE (X.blk s H scope (compEnvC scope cl C X.env) fp) T B E0 elt ma)
    (hsw : swapsWith (.ListComp elt [⟨tg, iter, ifs, 0⟩] scope pos) (some (.Name y py)) spos.line X.env = pure true) (hy : X.N[i]? = some y := by rfl) (hyl : X.env.scope.names.lookup y = some .local := by rfl)
    (hc : X.calm = true := by rfl) (hs : ∀ x, foldedSetIterable iter X.env x = pure x := by intro _; rfl) : DS X T B E (.Assign [.Name y py] (.ListComp elt [⟨tg, iter, ifs, 0⟩] scope pos) spos) (mAsgO (mComp vs mi mg mt ma) i) := by
  subst hv
  obtain ⟨wi, i1, i2⟩ := hi.ex
  refine ⟨_, ps_setLc (i := i) (g := tMirG X.K T mg (own.map (·.2))) (tt := tMirB X.K T B E0 mt) (te := tMir X.K T B E0 ma) hc hN hy hyl hsw i1 ok (fun s H C cl fp => (hg s H C cl fp).mir) (fun s H C cl fp => (ht s H C cl fp).mir) (fun s H C cl fp => (he s H C cl fp).mir) hs, ?_⟩
  refine ev_asgO (ev_comp (P := fun _ => True) i2 ⟨X, rfl, ⟨fun c σ H ρ Γ v d Q r h1 h2 => ⟨c, ρ, Γ, d, r, fun ρ' σ' e r' _ => h1 ρ' σ' e r', h2⟩⟩⟩ (fun v σ H Q Q' h ⟨c, ρ, Γ, d, r, q1, q2⟩ => ⟨c, ρ, Γ, d, r, fun ρ' σ' e r' w => h _ _ (q1 ρ' σ' e r' w) w, q2⟩) ⟨X, rfl, ev_mirB⟩ ⟨X, rfl, ev_mir⟩)
end
end RK
set_option Elab.async false
set_option linter.all false
set_option maxRecDepth 100000
set_option maxHeartbeats 4000000
/-! RkK: defs and their calls. -/
namespace RK
open PySem PySem.Spec PyProof.Rows L2 RZ

def LiveL (H : Hp) (L : Exc) : Prop := ∀ a, L a → ∃ o, H a = some o ∧ Mu o
/-- a def's promise: arguments, answer and refusal by a function on trees -/
def spD (K : PySem.W.Frag) (T : Tabl) (B : Addr) (np : Nat) (F : List D → DR) : Sp := fun vs H Q E => ∃ (ds : List D) (L : Exc), ds.length = np ∧ LiveL H L ∧ Gd T H ∧ Reps K H L ds vs ∧ F ds ≠ .fail ∧
  (∀ z v H', F ds = .ok z → Grow T H H' → Rep K H' L z v → Q v H') ∧
  (∀ z p H', F ds = .okO z → Grow T H H' → H p = none → Own K H' (fun a => L a ∨ a = p) p z → Q (.ref p) H') ∧
  (∀ nm, F ds = .raise nm → ∀ dd H', Grow T H H' → H' dd = some (.xd [(fldN, .str nm)]) → E (.ref B) (some dd) H')
def envD (n : Nat) (ds : List D) : Env := ds.map Sl.im ++ List.replicate (n - ds.length) .em
def runD (n : Nat) (m : MS) (ds : List D) : DR := match m (envD n ds) with
  | .next _ => .ok .non
  | .ret d _ => .ok d
  | .retO d _ => .okO d
  | .raise s => .raise s
  | _ => .fail
/-- .. whose first argument is a list that it writes -/
inductive IR where
  | ok : D → D → IR
  | fail : IR
def spI (K : PySem.W.Frag) (T : Tabl) (np : Nat) (F : D → List D → IR) : Sp := fun vs H Q E => ∃ (p : Addr) (d : D) (ws : List V) (ds : List D) (L : Exc), vs = .ref p :: ws ∧ ds.length + 1 = np ∧ L p ∧ LiveL H L ∧ Gd T H ∧ Own K H L p d ∧ Reps K H L ds ws ∧ F d ds ≠ .fail ∧
  ∀ z d' v H', F d ds = .ok z d' → (∀ a o, a ≠ p → H a = some o → Nt o → H' a = some o) → (∀ a, H a ≠ none → H' a ≠ none) → Gd T H' → Own K H' L p d' → Rep K H' L z v → Q v H'
def envI (n : Nat) (d : D) (ds : List D) : Env := .pw d :: (ds.map Sl.im ++ List.replicate (n - (ds.length + 1)) .em)
def runI (n : Nat) (m : MS) (d : D) (ds : List D) : IR := match m (envI n d ds) with
  | .next ρ => (match ρ[0]? with
    | some (Sl.pw d') => .ok .non d'
    | _ => .fail)
  | .ret z ρ => (match ρ[0]? with
    | some (Sl.pw d') => .ok z d'
    | _ => .fail)
  | _ => .fail
section
variable {P : Program} {w : World} {K : PySem.W.Frag} {mg : Str → Option Value} {base : Heap} {T : Tabl} {B : Addr}
theorem gd_in {H : Hp} {L : Exc} {ds : List D} {vs : List V} {N : List Str} (hl : LiveL H L) (g : Gd T H) (r : Reps K H L ds vs) (hn : ds.length ≤ N.length) : Rl K T ⟨L, fun _ => False, H, 0⟩ (L2.start N vs) H (envD N.length ds) [] := by
  have hx : ∀ {a : Exc} {v : D} {x : V}, Rep K H L v x → Rep K H (Lx ⟨L, fun _ => False, H, 0⟩ fun _ => none) v x := fun {a v x} h => Rep.step (L := L) ⟨fun _ _ _ h _ => h, fun a q => q.elim .inl fun z => absurd rfl z⟩ v x h
  refine ⟨fun _ => none, ?_, fun i s h => ?_, trivial, fun _ _ _ h _ => h, fun _ h => h, fun _ h => absurd rfl h, fun _ h => absurd rfl h, hl, fun _ h => absurd rfl h, g⟩
  · unfold L2.start envD
    rw [List.length_append, List.length_append, List.length_map, List.length_map, List.length_replicate, List.length_replicate, r.length]
  · unfold envD at h
    unfold L2.start
    by_cases hi : i < ds.length
    · rw [List.getElem?_append_left (by rw [List.length_map]; exact hi), List.getElem?_map] at h
      cases e : ds[i]? with
      | none => rw [e] at h; cases h
      | some d =>
        rw [e] at h
        cases h
        obtain ⟨v, ev, rv⟩ := r.get e
        refine ⟨v, ?_, hx (a := L) rv⟩
        rw [List.getElem?_append_left (by rw [List.length_map, ← r.length]; exact hi), List.getElem?_map, ev]
        rfl
    · rw [List.getElem?_append_right (by rw [List.length_map]; omega)] at h
      have e := (List.mem_replicate.mp (List.mem_of_getElem? h)).2
      subst e
      trivial
theorem Rl.grown {c : Cfg} {σ : L2.St} {H' : Hp} {ρ : Env} {Γ : Gam} (r : Rl K T c σ H' ρ Γ) (hI : ∀ a, ¬ c.I a) : Grow T c.H0 H' := by
  obtain ⟨W, r⟩ := r
  exact ⟨fun a o h n => r.keep a o (hI a) h n, r.there, r.good⟩
theorem fun_okD {x qual : Str} {st : Stmt} {f : Addr} {fd : FuncData} {N ps : List Str} {k : Nat} (Fn : L2.Fun K x qual st f fd) (S : FnScope N ps (defScope st)) (m : MS) (hps : ps.length ≤ N.length)
    (h : ∀ (cdv : Value) (A : Around) (outer : List PySem.Env) (s : Shared) (H : Hp) (E : XK), Room k (A.deeper (envOfC qual (defScope st) s.heap.objs.size f cdv)) → fd.code = cdv →
      DSs (cxOf (L2.CX P w) P w K mg base N qual (defScope st) f cdv A outer s H E) T B E (defBody st) m) : FnOk P w K mg base (L2.CX P w) (k + 1) f fd ps (spD K T B ps.length (runD N.length m)) := by
  obtain ⟨oc, od, kV, doc, pm, an, cdv, ct, osl, rfl, lk, hcd⟩ := Fn.ex
  refine fn_of lk hcd S (fun vs H Q E h => ?_) fun A outer s H vs Q E hr hsp => ?_
  · obtain ⟨ds, L, e, _, _, r, _⟩ := h
    rw [← r.length, e]
  · obtain ⟨ds, L, en, hl, hg, hr', hnf, hok, hokO, hra⟩ := hsp
    obtain ⟨t, h1, h2⟩ := (h cdv A outer s H E hr rfl).ex
    have r0 := gd_in (N := N) hl hg hr' (by rw [en]; exact hps)
    have hI : ∀ a : Addr, ¬ (⟨L, fun _ => False, H, 0⟩ : Cfg).I a := fun a z => z
    refine ⟨t, h1, h2.run _ _ H _ [] _ r0 (fun ρ' σ' H' e r => ?_) (fun d ρ' σ' v H' e r => ?_) (fun d ρ' σ' v H' e r => ?_) (fun ρ' σ' H' e r => ?_) (fun ρ' σ' H' e r => ?_) (fun nm e => ?_) fun e => ?_⟩
    · exact hok .non .non H' (by unfold runD; rw [e]) (r.grown hI) (by unfold Rep; rfl)
    · obtain ⟨W, r'⟩ := id r
      obtain ⟨⟨u, eu, q⟩, _⟩ := r'.gm
      cases eu
      exact hok d v H' (by unfold runD; rw [e]) (r.grown hI) (Rep.step (L := Lx ⟨L, fun _ => False, H, 0⟩ W) ⟨fun _ _ _ h _ => h, fun a q => .inl (.inl q)⟩ d v q)
    · obtain ⟨W, r'⟩ := id r
      obtain ⟨⟨p, eu, wp, q⟩, _⟩ := r'.gm
      cases eu
      have hp : H p = none := by
        rcases r'.wnew p (by rw [wp]; simp) with z | z
        · exact z
        · exact z.elim
      exact hokO d p H' (by unfold runD; rw [e]) (r.grown hI) hp (Own.step (L := Lx ⟨L, fun _ => False, H, 0⟩ W) ⟨fun _ _ _ h _ => h, fun a q => by
        rcases q with q | q
        · exact .inl (.inl q)
        · rw [q]; exact .inl (.inr (by rw [wp]; simp))⟩ rfl q)
    · exact hnf (by unfold runD; rw [e])
    · exact hnf (by unfold runD; rw [e])
    · exact fun dd H' rx hx => hra nm (by unfold runD; rw [e]) dd H' ⟨fun a o h n => rx.keep a o (hI a) h n, rx.there, rx.good⟩ hx
    · exact hnf (by unfold runD; rw [e])
theorem gd_inI {H : Hp} {L : Exc} {p : Addr} {d : D} {ds : List D} {ws : List V} {N : List Str} (lp : L p) (hl : LiveL H L) (g : Gd T H) (ho : Own K H L p d) (r : Reps K H L ds ws) (hn : ds.length + 1 ≤ N.length) :
    Rl K T ⟨fun a => L a ∧ a ≠ p, fun a => a = p, H, p⟩ (L2.start N (.ref p :: ws)) H (envI N.length d ds) [] := by
  have st : Step L H (Lx ⟨fun a => L a ∧ a ≠ p, fun a => a = p, H, p⟩ fun a => if a = p then some (.inl 0) else none) H := ⟨fun _ _ _ h _ => h, fun a q => .inl (q.elim (fun z => z.1) fun z => by
    by_cases e : a = p
    · rw [e]; exact lp
    · exact absurd (if_neg e) z)⟩
  have wa : ∀ {a}, (if a = p then some (Sum.inl 0 : Tag) else none) ≠ none → a = p := fun {a} z => by
    by_cases e : a = p
    · exact e
    · exact absurd (if_neg e) z
  refine ⟨fun a => if a = p then some (.inl 0) else none, ?_, fun i s h => ?_, trivial, fun _ _ _ h _ => h, fun _ h => h, fun a h => .inr (wa h), fun a h => ?_, fun a h => hl a h.1, fun a h z => z.2 (wa h), g⟩
  · unfold L2.start envI
    simp only [List.length_append, List.length_cons, List.length_map, List.length_replicate, r.length]
    omega
  · unfold envI at h
    unfold L2.start
    cases i with
    | zero =>
      cases h
      exact ⟨rfl, if_pos rfl, Own.step st rfl ho⟩
    | succ i =>
      rw [List.getElem?_cons_succ] at h
      rw [List.map_cons, List.cons_append, List.getElem?_cons_succ, List.length_cons]
      by_cases hi : i < ds.length
      · rw [List.getElem?_append_left (by rw [List.length_map]; exact hi), List.getElem?_map] at h
        cases e : ds[i]? with
        | none => rw [e] at h; cases h
        | some x =>
          rw [e] at h
          cases h
          obtain ⟨v, ev, rv⟩ := r.get e
          refine ⟨v, ?_, Rep.step st x v rv⟩
          rw [List.getElem?_append_left (by rw [List.length_map, ← r.length]; exact hi), List.getElem?_map, ev]
          rfl
      · rw [List.getElem?_append_right (by rw [List.length_map]; omega)] at h
        have e := (List.mem_replicate.mp (List.mem_of_getElem? h)).2
        subst e
        trivial
  · have e := wa h
    subst e
    exact hl _ lp
theorem fun_okI {x qual : Str} {st : Stmt} {f : Addr} {fd : FuncData} {N ps : List Str} {k : Nat} (Fn : L2.Fun K x qual st f fd) (S : FnScope N ps (defScope st)) (m : MS) (hps : ps.length ≤ N.length)
    (h : ∀ (cdv : Value) (A : Around) (outer : List PySem.Env) (s : Shared) (H : Hp) (E : XK), Room k (A.deeper (envOfC qual (defScope st) s.heap.objs.size f cdv)) → fd.code = cdv →
      DSs (cxOf (L2.CX P w) P w K mg base N qual (defScope st) f cdv A outer s H E) T B E0 (defBody st) m) : FnOk P w K mg base (L2.CX P w) (k + 1) f fd ps (spI K T ps.length (runI N.length m)) := by
  obtain ⟨oc, od, kV, doc, pm, an, cdv, ct, osl, rfl, lk, hcd⟩ := Fn.ex
  refine fn_of lk hcd S (fun vs H Q E h => ?_) fun A outer s H vs Q E hr hsp => ?_
  · obtain ⟨p, d, ws, ds, L, rfl, e, _, _, _, _, r, _⟩ := h
    rw [List.length_cons, ← r.length, e]
  · obtain ⟨p, d, ws, ds, L, rfl, en, lp, hl, hg, ho, hr', hnf, hok⟩ := hsp
    obtain ⟨t, h1, h2⟩ := (h cdv A outer s H E hr rfl).ex
    have r0 := gd_inI (N := N) lp hl hg ho hr' (by rw [en]; exact hps)
    have fin : ∀ {ρ' : Env} {σ' : L2.St} {H' : Hp} {Γ' : Gam} {d' z : D} {v : V}, Rl K T ⟨fun a => L a ∧ a ≠ p, fun a => a = p, H, p⟩ σ' H' ρ' ((v, .im z) :: Γ') → ρ'[0]? = some (.pw d') → runI N.length m d ds = .ok z d' → Q v H' := by
      intro ρ' σ' H' Γ' d' z v r e er
      obtain ⟨W, r⟩ := r
      obtain ⟨e1, e2, e3⟩ := r.sl 0 _ e
      obtain ⟨⟨u, eu, q⟩, _⟩ := r.gm
      cases eu
      have st : Step (Lx ⟨fun a => L a ∧ a ≠ p, fun a => a = p, H, p⟩ W) H' L H' := ⟨fun _ _ _ h _ => h, fun a la => .inl (by
        by_cases ea : a = p
        · rw [ea]
          have e2' : W p = some (.inl 0) := e2
          exact .inr (by rw [e2']; simp)
        · exact .inl ⟨la, ea⟩)⟩
      exact hok z d' v H' er (fun a o ha h n => r.keep a o (fun z => ha z) h n) r.there r.good (Own.step st rfl e3) (Rep.step st z v q)
    refine ⟨t, h1, h2.run _ _ H _ [] _ r0 (fun ρ' σ' H' e r => ?_) (fun d2 ρ' σ' v H' e r => ?_) (fun d ρ' σ' v H' e r => ?_) (fun ρ' σ' H' e r => ?_) (fun ρ' σ' H' e r => ?_) (fun nm e => ?_) fun e => ?_⟩
    · unfold runI at hnf fin
      simp only [e] at hnf fin
      split at hnf
      · rename_i d' q
        refine fin (Rl.add r (v := V.non) (d := D.non) fun L _ => scl_non _ _ _) q ?_
        rw [q]
      · exact absurd rfl hnf
    · unfold runI at hnf fin
      simp only [e] at hnf fin
      split at hnf
      · rename_i d' q
        refine fin r q ?_
        rw [q]
      · exact absurd rfl hnf
    · exact absurd (by unfold runI; rw [e]) hnf
    · exact absurd (by unfold runI; rw [e]) hnf
    · exact absurd (by unfold runI; rw [e]) hnf
    · exact absurd (by unfold runI; rw [e]) hnf
    · exact absurd (by unfold runI; rw [e]) hnf
end
end RK
set_option Elab.async false
set_option linter.all false
set_option maxRecDepth 100000
set_option maxHeartbeats 4000000
/-! RkL: calls of defs. -/
namespace RK
open PySem PySem.Spec PyProof.Rows L2 RZ
def mCall (F : List D → DR) (a : MA) : ME := fun ρ => match a ρ with
  | .ok ds ρ1 => (match F ds with
    | .ok z => .ok z ρ1
    | .okO z => .ok z ρ1
    | .raise s => .raise s
    | .fail => .fail)
  | .raise s => .raise s
  | .fail => .fail
def mCallO (F : List D → DR) (a : MA) : ME := fun ρ => match a ρ with
  | .ok ds ρ1 => (match F ds with
    | .okO z => .ok z ρ1
    | .raise s => .raise s
    | _ => .fail)
  | .raise s => .raise s
  | .fail => .fail
def mApA (a b : MA) : MA := fun ρ => match a ρ with
  | .ok ds ρ1 => (match b ρ1 with
    | .ok es ρ2 => .ok (ds ++ es) ρ2
    | .raise s => .raise s
    | .fail => .fail)
  | .raise s => .raise s
  | .fail => .fail
def mCallI (F : D → List D → IR) (i : Nat) (a : MA) : ME := fun ρ => match ownAt ρ i with
  | some _ => (match a ρ with
    | .ok ds ρ1 => (match ρ1[i]? with
      | some s => (match s.val with
        | some d => (match F d ds with
          | .ok z d' => .ok z (ρ1.set i (s.put d'))
          | .fail => .fail)
        | none => .fail)
      | none => .fail)
    | .raise s => .raise s
    | .fail => .fail)
  | none => .fail
def mCallG (F : D → List D → IR) (o : ME) (a : MA) : ME := fun ρ => match o ρ with
  | .ok d ρ0 => (match a ρ0 with
    | .ok ds ρ1 => (match F d ds with
      | .ok z _ => .ok z ρ1
      | .fail => .fail)
    | .raise s => .raise s
    | .fail => .fail)
  | .raise s => .raise s
  | .fail => .fail
section
variable {K : PySem.W.Frag} {T : Tabl} {c : Cfg} {σ : L2.St} {H H' : Hp} {ρ : Env} {Γ : Gam} {W : WM}
theorem RlW.liveL (r : RlW K T c σ H ρ Γ W) : LiveL H (Lx c W) := fun a q => q.elim (r.live a) (r.wmut a)
/-- a call that writes the list of one place -/
theorem RlW.callW (r : RlW K T c σ H ρ Γ W) {a : Addr} {t : Tag} {d' : D} (wa : W a = some t) (k1 : ∀ b o, b ≠ a → H b = some o → Nt o → H' b = some o) (k2 : ∀ b, H b ≠ none → H' b ≠ none) (gd : Gd T H') (ho : Own K H' (Lx c W) a d') :
    Step (Lx c W) H (Lx c W) H' ∧ (∀ b u, W b = some u → u ≠ t → H' b = H b) ∧ (∀ b o, ¬ c.I b → c.H0 b = some o → Nt o → H' b = some o) ∧ (∀ b, c.H0 b ≠ none → H' b ≠ none) ∧ (∀ b, W b ≠ none → ∃ o, H' b = some o ∧ Mu o) ∧ (∀ b, c.F b → ∃ o, H' b = some o ∧ Mu o) := by
  have la : Lx c W a := .inr (by rw [wa]; simp)
  refine ⟨⟨fun b o n h hn => k1 b o (fun e => n (by rw [e]; exact la)) h hn, fun _ h => .inl h⟩, fun b u e n => ?_, fun b o h1 h2 h3 => ?_, fun b h => k2 b (r.there b h), fun b h => ?_, fun b h => ?_⟩
  · obtain ⟨o, eo, m⟩ := r.wmut b (by rw [e]; simp)
    rw [eo]
    exact k1 b o (fun z => by rw [z, wa] at e; exact n (Option.some.inj e).symm) eo m.nt
  · refine k1 b o (fun z => ?_) (r.keep b o h1 h2 h3) h3
    rcases r.wnew a (by rw [wa]; simp) with q | q
    · rw [z, q] at h2; cases h2
    · exact h1 (by rw [z]; exact q)
  · by_cases e : b = a
    · rw [e]; exact ho.mu
    · obtain ⟨o, eo, m⟩ := r.wmut b h
      exact ⟨o, k1 b o e eo m.nt, m⟩
  · obtain ⟨o, eo, m⟩ := r.live b h
    exact ⟨o, k1 b o (fun z => r.apart a (by rw [wa]; simp) (by rw [← z]; exact h)) eo m.nt, m⟩
end
section
variable {X : Cx} {T : Tabl} {B : Addr} {E : XK} {ma mo : ME} {mr mk : MA} {F : List D → DR} {G : D → List D → IR} {np : Nat}
theorem call_run {c : Cfg} {σ : L2.St} {H : Hp} {ρ : Env} {Γ : Gam} {Q : VK} {vs : List V} {ds : List D} (r : Rl X.K T c σ H ρ (gz vs ds ++ Γ)) (hl : vs.length = ds.length) (hn : ds.length = np) (hf : F ds ≠ .fail)
    (h1 : ∀ z v H', F ds = .ok z → Rl X.K T c σ H' ρ ((v, .im z) :: Γ) → Q v H') (h2 : ∀ z v H', F ds = .okO z → Rl X.K T c σ H' ρ ((v, .ow z) :: Γ) → Q v H') (h3 : ∀ nm, F ds = .raise nm → RsOk T c B E nm) : spD X.K T B np F vs H Q E := by
  obtain ⟨W, q⟩ := id r
  have hr := (imm_gz hl q.gm.imm).1
  refine ⟨ds, Lx c W, hn, q.liveL, q.good, hr, hf, fun z v H' e g hv => ?_, fun z p H' e g hp ho => ?_, fun nm e dd H' g hx => ?_⟩
  · have q' := q.grow g
    have r2 : Rl X.K T c σ H' ρ ((v, .im z) :: (gz vs ds ++ Γ)) := ⟨W, q'.len, q'.sl, ⟨⟨v, rfl, hv⟩, q'.gm⟩, q'.keep, q'.there, q'.wnew, q'.wmut, q'.live, q'.apart, q'.good⟩
    exact h1 z v H' e (r2.cut [(v, .im z)] (gz vs ds) trivial)
  · refine h2 z (.ref p) H' e ?_
    have q' := q.grow g
    have np : W p = none := by
      cases e : W p with
      | none => rfl
      | some t =>
        obtain ⟨u, e', _⟩ := q.wmut p (by rw [e]; simp)
        rw [hp] at e'; cases e'
    have nF : ¬ c.F p := fun z => by
      obtain ⟨u, e', _⟩ := q.live p z
      rw [hp] at e'; cases e'
    have wa : ∀ a, W a ≠ none → a ≠ p := fun a h e => by rw [e] at h; exact h np
    have st : Step (Lx c W) H' (Lx c (wput W p (some (.inr (gz vs ds ++ Γ).length)))) H' → True := fun _ => trivial
    have hw : ∀ (b : Addr) (t : Tag), W b = some t → wput W p (some (.inr (gz vs ds ++ Γ).length)) b = some t := fun b t e => by rw [wput_ne (wa b (by rw [e]; simp))]; exact e
    -- the step from H, so that p is new
    have stH : Step (Lx c W) H (Lx c (wput W p (some (.inr (gz vs ds ++ Γ).length)))) H' := ⟨fun a o _ h n => g.keep a o h n, fun b hb => by
      by_cases e : b = p
      · rw [e]; exact .inr hp
      · rcases hb with hb | hb
        · exact .inl (.inl hb)
        · rw [wput_ne e] at hb; exact .inl (.inr hb)⟩
    have hm : ∀ b, W b ≠ none → H' b = H b := fun b h => by
      obtain ⟨o, e, m⟩ := q.wmut b h
      rw [e]; exact g.keep b o e m.nt
    have gm := q.gm.step (W' := wput W p (some (.inr (gz vs ds ++ Γ).length))) stH fun b k e _ => ⟨hw b _ e, hm b (by rw [e]; simp)⟩
    have ho' : Own X.K H' (Lx c (wput W p (some (.inr (gz vs ds ++ Γ).length)))) p z := Own.step ⟨fun _ _ _ h _ => h, fun b hb => by
      by_cases e : b = p
      · exact .inl (.inr e)
      · rcases hb with hb | hb
        · exact .inl (.inl (.inl hb))
        · rw [wput_ne e] at hb; exact .inl (.inl (.inr hb))⟩ rfl ho
    have r2 : Rl X.K T c σ H' ρ ((.ref p, .ow z) :: (gz vs ds ++ Γ)) := by
      refine ⟨wput W p (some (.inr (gz vs ds ++ Γ).length)), q.len, fun i s h => (q.sl i s h).step stH fun b e => ⟨hw b _ e, hm b (by rw [e]; simp)⟩, ⟨⟨p, rfl, wput_same, ho'⟩, gm⟩, q'.keep, q'.there, fun a ha => ?_, fun a ha => ?_, q'.live, fun a ha => ?_, g.good⟩
      · by_cases e : a = p
        · refine .inl ?_
          cases q0 : c.H0 a with
          | none => rfl
          | some u => exact absurd (by rw [e]; exact hp) (q.there a (by rw [q0]; simp))
        · rw [wput_ne e] at ha; exact q.wnew a ha
      · by_cases e : a = p
        · rw [e]; exact ho.mu
        · rw [wput_ne e] at ha; exact q'.wmut a ha
      · by_cases e : a = p
        · rw [e]; exact nF
        · rw [wput_ne e] at ha; exact q.apart a ha
    exact r2.cutO (gz vs ds)
  · exact h3 nm e dd H' (r.rx.grow g) hx
theorem ev_call {t : TA} (ha : EvA X T B E t mr) (hn : ∀ ρ ds ρ', mr ρ = .ok ds ρ' → ds.length = np) : EvD X T B E (tCall (spD X.K T B np F) [] E t) (mCall F mr) := ⟨fun c σ H ρ Γ Q r0 h hx hf => by
  unfold mCall at h hx hf
  refine ha.run c σ H ρ Γ _ r0 (fun ds ρ1 vs H1 e1 hl r1 => ?_) (fun nm e1 => ?_) fun e1 => ?_
  · simp only [e1] at h hx hf
    rw [List.append_nil]
    refine call_run r1 hl (hn ρ ds ρ1 e1) (fun z => by rw [z] at hf; exact hf rfl) (fun z v H' e r => ?_) (fun z v H' e r => ?_) fun nm e => ?_
    · simp only [e] at h; exact h z ρ1 v H' rfl r
    · simp only [e] at h; exact h z ρ1 v H' rfl r.relG
    · simp only [e] at hx; exact hx nm rfl
  · simp only [e1] at hx; exact hx nm rfl
  · simp only [e1] at hf; exact hf rfl⟩
theorem ev_callO {t : TA} (ha : EvA X T B E t mr) (hn : ∀ ρ ds ρ', mr ρ = .ok ds ρ' → ds.length = np) : EvO X T B E (tCall (spD X.K T B np F) [] E t) (mCallO F mr) := ⟨fun c σ H ρ Γ Q r0 h hx hf => by
  unfold mCallO at h hx hf
  refine ha.run c σ H ρ Γ _ r0 (fun ds ρ1 vs H1 e1 hl r1 => ?_) (fun nm e1 => ?_) fun e1 => ?_
  · simp only [e1] at h hx hf
    rw [List.append_nil]
    refine call_run r1 hl (hn ρ ds ρ1 e1) (fun z => by rw [z] at hf; exact hf rfl) (fun z v H' e r => ?_) (fun z v H' e r => ?_) fun nm e => ?_
    · simp only [e] at hf; exact absurd rfl hf
    · simp only [e] at h; exact h z ρ1 v H' rfl r
    · simp only [e] at hx; exact hx nm rfl
  · simp only [e1] at hx; exact hx nm rfl
  · simp only [e1] at hf; exact hf rfl⟩
theorem ev_callK {t tk : TA} {n : Nat} (ha : EvA X T B E t mr) (hk : EvA X T B E tk mk) (hn : ∀ ρ ds ρ', mr ρ = .ok ds ρ' → ds.length = n) (hm : ∀ ρ ds ρ', mk ρ = .ok ds ρ' → n + ds.length = np) :
    EvD X T B E (tCallK (spD X.K T B np F) (fun vs zs => if vs.length = n then vs ++ zs else []) E t tk) (mCall F (mApA mr mk)) := ⟨fun c σ H ρ Γ Q r0 h hx hf => by
  unfold mCall mApA at h hx hf
  refine ha.run c σ H ρ Γ _ r0 (fun ds ρ1 vs H1 e1 hl r1 => ?_) (fun nm e1 => ?_) fun e1 => ?_
  · simp only [e1] at h hx hf
    refine hk.run c σ H1 ρ1 _ _ r1 (fun es ρ2 ws H2 e2 hl2 r2 => ?_) (fun nm e2 => ?_) fun e2 => ?_
    · simp only [e2] at h hx hf
      have e0 : (if vs.length = n then vs ++ ws else []) = vs ++ ws := if_pos (by rw [hl]; exact hn ρ ds ρ1 e1)
      show spD X.K T B np F (if vs.length = n then vs ++ ws else []) H2 Q E
      rw [e0]
      have key : ∀ (vs : List V) (ds : List D) (ws : List V) (es : List D), vs.length = ds.length → gz (vs ++ ws) (ds ++ es) = gz ws es ++ gz vs ds := by
        intro vs
        induction vs with
        | nil =>
          intro ds ws es h
          have e : ds = [] := List.eq_nil_of_length_eq_zero h.symm
          subst e
          show gz ws es = gz ws es ++ gz [] []
          have e2 : gz [] [] = ([] : Gam) := by unfold gz; rfl
          rw [e2, List.append_nil]
        | cons v vs ih =>
          intro ds ws es h
          cases ds with
          | nil => simp at h
          | cons d ds =>
            show gz (vs ++ ws) (ds ++ es) ++ [(v, .im d)] = gz ws es ++ (gz vs ds ++ [(v, .im d)])
            rw [ih ds ws es (by simpa using h), List.append_assoc]
      have r3 : Rl X.K T c σ H2 ρ2 (gz (vs ++ ws) (ds ++ es) ++ Γ) := by
        rw [key vs ds ws es hl, List.append_assoc]
        exact r2
      refine call_run r3 (by rw [List.length_append, List.length_append, hl, hl2]) (by rw [List.length_append, hn ρ ds ρ1 e1]; exact hm ρ1 es ρ2 e2) (fun z => by rw [z] at hf; exact hf rfl) (fun z v H' e r => ?_) (fun z v H' e r => ?_) fun nm e => ?_
      · simp only [e] at h; exact h z ρ2 v H' rfl r
      · simp only [e] at h; exact h z ρ2 v H' rfl r.relG
      · simp only [e] at hx; exact hx nm rfl
    · simp only [e2] at hx; exact hx nm rfl
    · simp only [e2] at hf; exact hf rfl
  · simp only [e1] at hx; exact hx nm rfl
  · simp only [e1] at hf; exact hf rfl⟩
theorem ev_callI {t : TA} {i : Nat} (ha : EvA X T B E t mr) (hn : ∀ ρ ds ρ', mr ρ = .ok ds ρ' → ds.length + 1 = np) : EvD X T B E (tCall (spI X.K T np G) [] E (tCons (tVar i) t)) (mCallI G i mr) := ⟨fun c σ H ρ Γ Q r0 h hx hf => by
  unfold mCallI at h hx hf
  cases e0 : ownAt ρ i with
  | none => rw [e0] at hf; exact absurd rfl hf
  | some d0 =>
    simp only [e0] at h hx hf
    obtain ⟨a, ea, _⟩ := r0.own e0
    refine ⟨.ref a, ea, ha.run c σ H ρ Γ _ r0 (fun ds ρ1 vs H1 e1 hl r1 => ?_) (fun nm e1 => ?_) fun e1 => ?_⟩
    · simp only [e1] at h hx hf
      cases es : ρ1[i]? with
      | none => simp only [es] at hf; exact absurd rfl hf
      | some s =>
        simp only [es] at h hf
        cases ev : s.val with
        | none => simp only [ev] at hf; exact absurd rfl hf
        | some d =>
          simp only [ev] at h hf
          rw [List.append_nil]
          obtain ⟨W, q⟩ := id r1
          have x := q.sl i s es
          have key : σ[i]?.join = some (.ref a) ∧ W a = some (.inl i) ∧ Own X.K H1 (Lx c W) a d ∧ ((∃ x, s = .pw x) → a = c.pin) := by
            cases s with
            | em => cases ev
            | im _ => cases ev
            | ow y =>
              cases ev
              obtain ⟨a', e1', e2', e3'⟩ := x
              rw [ea] at e1'
              cases e1'
              exact ⟨by rw [ea]; rfl, e2', e3', fun ⟨_, z⟩ => by cases z⟩
            | pw y =>
              cases ev
              obtain ⟨e1', e2', e3'⟩ := x
              rw [ea] at e1'
              cases e1'
              exact ⟨by rw [ea]; rfl, e2', e3', fun _ => rfl⟩
          obtain ⟨k0, k1, k2, k3⟩ := key
          refine ⟨a, d, vs, ds, Lx c W, rfl, hn ρ ds ρ1 e1, .inr (by rw [k1]; simp), q.liveL, q.good, k2, (imm_gz hl q.gm.imm).1, fun z => by rw [z] at hf; exact hf rfl, fun z d' v H' e g1 g2 g3 g4 g5 => ?_⟩
          simp only [e] at h
          refine h z _ v H' rfl ?_
          obtain ⟨st, w1, w2, w3, w4, w5⟩ := q.callW k1 g1 g2 g3 g4
          have new : EntOk X.K H' c W (.inl i) (some (.ref a)) (s.put d') := by
            cases s with
            | em => cases ev
            | im _ => cases ev
            | ow y => exact ⟨a, rfl, k1, g4⟩
            | pw y =>
              have e := k3 ⟨_, rfl⟩
              subst e
              exact ⟨rfl, k1, g4⟩
          have hi : i < ρ1.length := (List.getElem?_eq_some_iff.mp es).1
          have esσ : σ.set i (some (V.ref a)) = σ := by
            refine List.ext_getElem? fun j => ?_
            by_cases hj : i = j
            · subst hj
              rw [List.getElem?_set_self (by rw [q.len]; exact hi), ea]
            · rw [List.getElem?_set_ne hj]
          have sl := set_sl (K := X.K) (H := H') (c := c) (W := W) (σ := σ) (ρ := ρ1) (i := i) (v := V.ref a) q.len (fun j s' hj h' => (q.sl j s' h').step st fun b e => ⟨e, w1 b _ e (by intro z; cases z; exact hj rfl)⟩) new
          rw [esσ] at sl
          have r2 : Rl X.K T c σ H' (ρ1.set i (s.put d')) ((v, .im z) :: (gz vs ds ++ Γ)) := ⟨W, by rw [List.length_set]; exact q.len, sl, ⟨⟨v, rfl, g5⟩, q.gm.step st fun b k e _ => ⟨e, w1 b _ e (by simp)⟩⟩, w2, w3, q.wnew, w4, w5, q.apart, g3⟩
          exact r2.cut [(v, .im z)] (gz vs ds) trivial
    · simp only [e1] at hx; exact hx nm rfl
    · simp only [e1] at hf; exact hf rfl⟩
theorem ev_callG {t : TA} {to : TE} (ho : EvO X T B E to mo) (ha : EvA X T B E t mr) (hn : ∀ ρ ds ρ', mr ρ = .ok ds ρ' → ds.length + 1 = np) : EvD X T B E (tCall (spI X.K T np G) [] E (tCons to t)) (mCallG G mo mr) := ⟨fun c σ H ρ Γ Q r0 h hx hf => by
  unfold mCallG at h hx hf
  refine ho.run c σ H ρ Γ _ r0 (fun d ρ0 o H0 e0 r0' => ?_) (fun nm e0 => ?_) fun e0 => ?_
  · simp only [e0] at h hx hf
    refine ha.run c σ H0 ρ0 _ _ r0' (fun ds ρ1 vs H1 e1 hl r1 => ?_) (fun nm e1 => ?_) fun e1 => ?_
    · simp only [e1] at h hx hf
      show spI X.K T np G ((o :: vs) ++ []) H1 Q E
      rw [List.append_nil]
      obtain ⟨W, q⟩ := id r1
      obtain ⟨⟨a, ea, wa, ow⟩, gm⟩ := gam_split (G := gz vs ds) q.gm
      cases ea
      refine ⟨a, d, vs, ds, Lx c W, rfl, hn ρ0 ds ρ1 e1, .inr (by rw [wa]; simp), q.liveL, q.good, ow, (imm_gz hl q.gm.imm).1, fun z => by rw [z] at hf; exact hf rfl, fun z d' v H' e g1 g2 g3 g4 g5 => ?_⟩
      simp only [e] at h
      obtain ⟨st, w1, w2, w3, w4, w5⟩ := q.callW wa g1 g2 g3 g4
      exact h z ρ1 v H' rfl ⟨W, q.len, fun j s h' => (q.sl j s h').step st fun b e => ⟨e, w1 b _ e (by simp)⟩, ⟨⟨v, rfl, g5⟩, gm.step st fun b k e hk => ⟨e, w1 b _ e (by intro z; cases z; exact absurd hk (Nat.lt_irrefl _))⟩⟩, w2, w3, q.wnew, w4, w5, q.apart, g3⟩
    · simp only [e1] at hx; exact hx nm rfl
    · simp only [e1] at hf; exact hf rfl
  · simp only [e0] at hx; exact hx nm rfl
  · simp only [e0] at hf; exact hf rfl⟩
end
/-! ### the calls of the text -/
/-- a def that may be called: its promise by a function on trees -/
structure CalD (P : Program) (w : World) (K : PySem.W.Frag) (mg : Str → Option Value) (base : Heap) (T : Tabl) (B : Addr) (k : Nat) (x : Str) (f : Addr) (fd : FuncData) (ps : List Str) (F : List D → DR) : Prop where
  ok : FnOk P w K mg base (L2.CX P w) k f fd ps (spD K T B ps.length F)
  gx : mg x = some (.ref f)
  kp : PySem.W.keepIn K (.ref f) = true
  bd : Binds K fd ps []
structure CalI (P : Program) (w : World) (K : PySem.W.Frag) (mg : Str → Option Value) (base : Heap) (T : Tabl) (k : Nat) (x : Str) (f : Addr) (fd : FuncData) (ps : List Str) (F : D → List D → IR) : Prop where
  ok : FnOk P w K mg base (L2.CX P w) k f fd ps (spI K T ps.length F)
  gx : mg x = some (.ref f)
  kp : PySem.W.keepIn K (.ref f) = true
  bd : Binds K fd ps []
/-- the values of keywords -/
structure DK (X : Cx) (T : Tabl) (B : Addr) (E : XK) (kws : List Keyword) (m : MA) : Prop where
  ex : ∃ t, PK X kws t ∧ EvA X T B E t m
  len : LenA m kws.length
def gK (n : Nat) (us ws : List Value) : List Value := if us.length = n then us ++ ws else []
def gKV (n : Nat) (us ws : List V) : List V := if us.length = n then us ++ ws else []
theorem kbinds_of {K : PySem.W.Frag} {fd : FuncData} {ps ks : List Str} {n : Nat} (hn : n + ks.length = ps.length) (hp : ps ≠ []) (h : ∀ (us ws : List Value), us.length = n → ws.length = ks.length → bindArgs fd ⟨us, ks.zip ws⟩ = pure (ps.zip (us ++ ws))) : KBinds K fd ps ks (gK n) (gKV n) := by
  refine ⟨fun s us ws _ hl => ?_, fun {vs us zs ws} r1 r2 => ?_⟩
  · unfold gK at hl ⊢
    by_cases e : us.length = n
    · rw [if_pos e] at hl ⊢
      rw [List.length_append] at hl
      exact .of_eq (h us ws e (by omega))
    · rw [if_neg e] at hl
      exact absurd (List.eq_nil_of_length_eq_zero hl.symm) hp
  · unfold gK gKV
    rw [r1.length]
    split
    · exact r1.append r2
    · exact .nil
section
variable {X : Cx} {T : Tabl} {B : Addr} {E : XK} {ma mo : ME} {mr mk : MA} {F : List D → DR} {G : D → List D → IR} {k j : Nat} {f : Addr} {fd : FuncData} {ps ks : List Str} {x : Str} {p pos kpos : Pos} {e : Expr} {es : List Expr} {kws : List Keyword} {nm : Option Str}
theorem dk_nil : DK X T B E [] mNil := ⟨⟨_, pk_nil, eva_nil⟩, lenA_nil⟩
theorem dk_cons (h : DE X T B E e ma) (hr : DK X T B E kws mk) : DK X T B E (⟨nm, e, kpos⟩ :: kws) (mCons ma mk) := by
  obtain ⟨ta, a1, a2⟩ := h.ex
  obtain ⟨tb, b1, b2⟩ := hr.ex
  exact ⟨⟨_, pk_cons a1 b1, eva_cons a2 b2⟩, lenA_cons hr.len⟩
theorem de_call (c : CalD X.prog X.w X.K X.mg X.base T B k x f fd ps F) (hr : Room j X.A) (hx : Passes (L2.CX X.prog X.w) X E) (ha : DA X T B E (e :: es) mr) (hk : k ≤ j := by decide) (hn : (e :: es).length = ps.length := by rfl) (hg : Gl X x := by rfl) (hdb : (x == ("__debug__" : Str)) = false := by decide)
    (he : starEach (e :: es) X.env = (false, eval e X.env) :: starEach es X.env := by rfl) (hpl : (backTo pos (starEach es X.env)).any (·.1) = false := by rfl) : DE X T B E (.Call (.Name x p) (e :: es) [] pos) (mCall F mr) := by
  obtain ⟨ta, a1, a2⟩ := ha.ex
  exact ⟨_, pe_call c.ok (hr.mono hk) hg c.gx c.kp c.bd .nil hx a1 hdb he hpl, ev_call a2 (by rw [← hn]; exact ha.len)⟩
theorem do_call (c : CalD X.prog X.w X.K X.mg X.base T B k x f fd ps F) (hr : Room j X.A) (hx : Passes (L2.CX X.prog X.w) X E) (ha : DA X T B E (e :: es) mr) (hk : k ≤ j := by decide) (hn : (e :: es).length = ps.length := by rfl) (hg : Gl X x := by rfl) (hdb : (x == ("__debug__" : Str)) = false := by decide)
    (he : starEach (e :: es) X.env = (false, eval e X.env) :: starEach es X.env := by rfl) (hpl : (backTo pos (starEach es X.env)).any (·.1) = false := by rfl) : DO X T B E (.Call (.Name x p) (e :: es) [] pos) (mCallO F mr) := by
  obtain ⟨ta, a1, a2⟩ := ha.ex
  exact ⟨_, pe_call c.ok (hr.mono hk) hg c.gx c.kp c.bd .nil hx a1 hdb he hpl, ev_callO a2 (by rw [← hn]; exact ha.len)⟩
theorem de_call0 (c : CalD X.prog X.w X.K X.mg X.base T B k x f fd ps F) (hr : Room j X.A) (hx : Passes (L2.CX X.prog X.w) X E) (hk : k ≤ j := by decide) (hn : 0 = ps.length := by rfl) (hg : Gl X x := by rfl) (hdb : (x == ("__debug__" : Str)) = false := by decide) : DE X T B E (.Call (.Name x p) [] [] pos) (mCall F mNil) :=
  ⟨_, pe_call0 c.ok (hr.mono hk) hg c.gx c.kp c.bd .nil hx hdb, ev_call eva_nil (by rw [← hn]; exact lenA_nil)⟩
theorem de_callK (c : CalD X.prog X.w X.K X.mg X.base T B k x f fd ps F) (kb : KBinds X.K fd ps ks (gK (e :: es).length) (gKV (e :: es).length)) (hr : Room j X.A) (hx : Passes (L2.CX X.prog X.w) X E) (ha : DA X T B E (e :: es) mr) (hkw : DK X T B E kws mk) (hk : k ≤ j := by decide)
    (hn : (e :: es).length + kws.length = ps.length := by rfl) (hg : Gl X x := by rfl) (hall : (backToKw pos (keywordEach kws X.env)).all (·.1.isSome) = true := by rfl) (hks : (backToKw pos (keywordEach kws X.env)).filterMap (·.1) = ks := by rfl)
    (hdb : (x == ("__debug__" : Str)) = false := by decide) (he : starEach (e :: es) X.env = (false, eval e X.env) :: starEach es X.env := by rfl)
    (hpl : ((backTo pos (starEach (e :: es) X.env)).any (·.1) || (backToKw pos (keywordEach kws X.env)).any (·.1.isNone)) = false := by rfl) : DE X T B E (.Call (.Name x p) (e :: es) kws pos) (mCall F (mApA mr mk)) := by
  obtain ⟨ta, a1, a2⟩ := ha.ex
  obtain ⟨tk, k1, k2⟩ := hkw.ex
  exact ⟨_, pe_callK c.ok (hr.mono hk) hg c.gx c.kp kb hx a1 k1 hall hks hdb he hpl, ev_callK a2 k2 ha.len fun ρ ds ρ' q => by rw [hkw.len ρ ds ρ' q]; exact hn⟩
/-- keywords alone -/
theorem de_callK0 (c : CalD X.prog X.w X.K X.mg X.base T B k x f fd ps F) (kb : KBinds X.K fd ps ks (gK 0) (gKV 0)) (hr : Room j X.A) (hx : Passes (L2.CX X.prog X.w) X E) (hkw : DK X T B E kws mk) (hk : k ≤ j := by decide)
    (hn : kws.length = ps.length := by rfl) (hg : Gl X x := by rfl) (hall : (backToKw pos (keywordEach kws X.env)).all (·.1.isSome) = true := by rfl) (hks : (backToKw pos (keywordEach kws X.env)).filterMap (·.1) = ks := by rfl)
    (hdb : (x == ("__debug__" : Str)) = false := by decide)
    (hpl : ((backTo pos (starEach [] X.env)).any (·.1) || (backToKw pos (keywordEach kws X.env)).any (·.1.isNone)) = false := by rfl) : DE X T B E (.Call (.Name x p) [] kws pos) (mCall F (mApA mNil mk)) := by
  obtain ⟨tk, k1, k2⟩ := hkw.ex
  refine ⟨tCallK (spD X.K T B ps.length F) (gKV 0) E tNil tk, ⟨fun pins s σ H Q I h => ?_⟩, ev_callK eva_nil k2 lenA_nil fun ρ ds ρ' q => by rw [hkw.len ρ ds ρ' q, Nat.zero_add]; exact hn⟩
  refine wpAny_Call_Name_kw (ld_glob I hg c.gx ?_ hdb)
  refine PySem.W.callWith_KW0 (h₀ := X.base) I.ok.mod.kin c.kp hall (thn (k1.run pos pins s σ H _ I h) fun ws s2 ⟨zs, H2, I2, rz, q2⟩ => ⟨I2.kIn, ?_⟩) hpl
  rw [hks]
  exact run_fnk (us := []) c.ok (hr.mono hk) kb hx I2 .nil rz q2
/-- x(y, ..), y a list that is written -/
theorem de_callI (i : Nat) {y : Str} {py : Pos} (c : CalI X.prog X.w X.K X.mg X.base T k x f fd ps G) (hr : Room j X.A) (hx : Passes (L2.CX X.prog X.w) X E) (ha : DA X T B E es mr) (hk : k ≤ j := by decide) (hn : es.length + 1 = ps.length := by rfl) (hN : X.N[i]? = some y := by rfl)
    (hv : Vis X.env.scope y := by first | exact Or.inl rfl | exact Or.inr (Or.inl rfl) | exact Or.inr (Or.inr rfl)) (hg : Gl X x := by rfl) (hdb : (x == ("__debug__" : Str)) = false := by decide) (hd : (y == ("__debug__" : Str)) = false := by decide) (hcd : (y == ("__classdict__" : Str)) = false := by decide)
    (he : starEach (.Name y py :: es) X.env = (false, eval (.Name y py) X.env) :: starEach es X.env := by rfl) (hpl : (backTo pos (starEach es X.env)).any (·.1) = false := by rfl) : DE X T B E (.Call (.Name x p) (.Name y py :: es) [] pos) (mCallI G i mr) := by
  obtain ⟨ta, a1, a2⟩ := ha.ex
  exact ⟨_, pe_call c.ok (hr.mono hk) hg c.gx c.kp c.bd .nil hx (pa_cons (pe_var hN hv hd hcd) a1 he) hdb he hpl, ev_callI a2 fun ρ ds ρ' q => by rw [ha.len ρ ds ρ' q]; exact hn⟩
theorem de_callG (c : CalI X.prog X.w X.K X.mg X.base T k x f fd ps G) (hr : Room j X.A) (hx : Passes (L2.CX X.prog X.w) X E) (ho : DO X T B E e mo) (ha : DA X T B E es mr) (hk : k ≤ j := by decide) (hn : es.length + 1 = ps.length := by rfl) (hg : Gl X x := by rfl) (hdb : (x == ("__debug__" : Str)) = false := by decide)
    (he : starEach (e :: es) X.env = (false, eval e X.env) :: starEach es X.env := by rfl) (hpl : (backTo pos (starEach es X.env)).any (·.1) = false := by rfl) : DE X T B E (.Call (.Name x p) (e :: es) [] pos) (mCallG G mo mr) := by
  obtain ⟨to, o1, o2⟩ := ho.ex
  obtain ⟨ta, a1, a2⟩ := ha.ex
  exact ⟨_, pe_call c.ok (hr.mono hk) hg c.gx c.kp c.bd .nil hx (pa_cons o1 a1 he) hdb he hpl, ev_callG o2 a2 fun ρ ds ρ' q => by rw [ha.len ρ ds ρ' q]; exact hn⟩
end
end RK
set_option Elab.async false
set_option linter.all false
set_option maxRecDepth 100000
set_option maxHeartbeats 4000000
/-! RkM: all of a generator expression. -/
namespace RK
open PySem PySem.Spec PyProof.Rows L2 RZ GenW

theorem over_gen {A : Around} {elt : Expr} {gs : List Comprehension} {scope : Scope} {pos : Pos} {it acc : Value} {env : PySem.Env} : A.over (.compLoop (.GeneratorExp elt gs scope pos) 0 it acc env) [] = A.deeper env := by rfl
theorem over_gen0 {A : Around} {elt : Expr} {gs : List Comprehension} {scope : Scope} {pos : Pos} {it acc : Value} {env : PySem.Env} : A.over (.compStart (.GeneratorExp elt gs scope pos) 0 it acc env) [] = A.deeper env := by rfl
abbrev gEnv (X : Cx) (scope : Scope) (C : Addr) (code : Value) : PySem.Env := genEnv scope (cloFrom X.env.cells scope.names []) C code builtinsNs X.env
def gCx (X : Cx) (s : Shared) (H : Hp) (scope : Scope) (code : Value) (fp : List Addr) : Cx where
  prog := X.prog
  w := X.w
  K := X.K
  mg := X.mg
  base := X.base
  A := X.A.in1.in1.deeper (gEnv X scope s.heap.objs.size code)
  N := X.N
  s_0 := s
  H_0 := H
  env := gEnv X scope s.heap.objs.size code
  outer := X.stack
  stack := gEnv X scope s.heap.objs.size code :: X.stack
  ex := fp
  fn := fun _ => false
  calm := true
  pn := []
  xe := fun _ _ => False
structure GenSc (N : List Str) (sc scope : Scope) (own : List (Str × Nat)) : Prop where
  blk : BlkOk N sc scope own
  co : scope.isCoroutine = false
  cell : ∀ y ∈ scope.names, y.2 ≠ .cell
  dot : scope.names.lookup (".0" : Str) = some NameKind.local
section
variable {X : Cx} {pins : List (Addr × Obj)} {σ : L2.St} {H : Hp} {s : Shared} {scope : Scope} {own : List (Str × Nat)}
theorem GenSc.has (G : GenSc X.N X.env.scope scope own) (ok : X.Ok) : ∀ y ∈ scope.names, y.2 = .free → ∃ c, X.env.cells.lookup y.1 = some c := fun y hy e => by
  rcases G.blk.free y hy e with k | k
  · exact ok.has _ (.inl k)
  · exact ok.has _ (.inr k)
theorem gen_start {fp : List Addr} {code : Value} {h5 : Heap} {t' : Nat} {g' : Array GenState} {m : Str → Option Value} (I : Inv X pins σ H s) (G : GenSc X.N X.env.scope scope own) (hN : X.N.Nodup) (hd : X.A.handled = none) (hfp : ∀ b ∈ fp, FpOk X pins H b ∧ b < s.heap.objs.size)
    (hns : h5.Ns s.heap.objs.size m) (kp : ∀ b o, s.heap.get? b = some o → h5.get? b = some o) (hg : AllBare g') :
    Inv (gCx X s H scope code fp) [] (wipe σ (own.map (·.2))) H { s with heap := h5, gens := g', toks := t' } := by
  have hfree := G.has I.ok
  have cm : ∀ {y c}, (cloFrom X.env.cells scope.names []).lookup y = some c → X.env.cells.lookup y = some c := fun {y c} e => by
    rcases cloFrom_mem (PySem.mem_of_lookup e) with hm | ⟨h1, h2⟩
    · cases hm
    · obtain ⟨c1, hc⟩ := hfree _ h1 rfl
      have hc : X.env.cells.lookup y = some c1 := hc
      have e2 : c = c1 := by
        rw [h2, hc] <;> rfl
      rw [e2]
      exact hc
  have look : ∀ {y}, scope.names.lookup y = some .free → ∃ c, (cloFrom X.env.cells scope.names []).lookup y = some c := fun {y} hl => by
    have hy : (y, NameKind.free) ∈ scope.names := PySem.mem_of_lookup hl
    exact mem_lookup (cloFrom_has (cells := X.env.cells) (acc := []) hy)
  have hfr : (gCx X s H scope code fp).A.frames = some (gCx X s H scope code fp).stack := Around.frames_deeper (show X.A.in1.in1.frames = some X.stack from I.ok.frames)
  have okG : (gCx X s H scope code fp).Ok := by
    refine ⟨I.ok.mod, G.blk.kind, I.ok.glob, rfl, Nat.le_refl _, fun y z c e1 e2 => I.ok.inj y z c (cm e1) (cm e2), fun y hy => ?_, fun y c z _ => ?_, fun _ => hd, hfr, .inr ⟨rfl, rfl⟩, fun b hb => ⟨?_, fun y c e z => ?_⟩, I.bs, Nat.le_trans I.ok.bsz I.sz, fun b o e hb => ?_,
      fun b hb z => ?_, I.stack, I.stkFree⟩
    · have hy : scope.names.lookup y = some .cell ∨ scope.names.lookup y = some .free := hy
      rcases hy with hy | hy
      · exact absurd rfl (G.cell _ (PySem.mem_of_lookup hy))
      · exact look hy
    · have z : false = true := z
      cases z
    · exact Nat.ne_of_lt (hfp b hb).2
    · exact (hfp b hb).1.2.2.2.2.1 y c (cm e) z
    · rcases (hfp b hb).1.2.2.2.1 with z | z
      · exact I.ok.noex b o e z
      · exact absurd (Nat.lt_of_lt_of_le (Heap.lt_size e) (Nat.le_trans I.ok.bsz z)) (Nat.lt_irrefl _)
    · rcases List.mem_cons.mp (I.stkSub b z) with z | z
      · exact (hfp b hb).1.2.1 z
      · exact (hfp b hb).1.2.2.1 z
  have cellK : ∀ {c : Addr} {v : Option Value}, s.heap.IsCell c v → h5.IsCell c v := fun {c v} ⟨o, ho, hd⟩ => ⟨o, kp _ _ ho, hd⟩
  refine ⟨okG, rfl, hg, Un.kept kp, ⟨_, hns, fun i y v e1 e2 e3 => ?_⟩, fun y c e => ?_, I.hok.fresh (Nat.le_refl _), fun y c e => I.freeC y c (cm e), fun p hp => absurd (show p ∈ ([] : List (Addr × Obj)) ++ [] from hp) (by simp), I.hok.kept kp, by rw [wipe_length]; exact I.len⟩
  · obtain ⟨e2, hne⟩ := wipe_some e2
    have e3 : Vis scope y := e3
    rcases e3 with k | k | k
    · rcases G.blk.own _ (PySem.mem_of_lookup k) (.inl rfl) with e' | e'
      · obtain ⟨p, hp, hpy⟩ := List.mem_map.mp e'
        have e3 := G.blk.ix p hp
        have hpy' : p.1 = y := hpy
        rw [hpy'] at e3
        exact absurd (List.mem_map.mpr ⟨p, hp, nodup_ix hN e3 e1⟩) hne
      · exact absurd (List.mem_of_getElem? e1) e'
    · exact absurd rfl (G.cell _ (PySem.mem_of_lookup k))
    · obtain ⟨m', hn, hl⟩ := I.loc
      have hvis : Vis X.env.scope y := (G.blk.free _ (PySem.mem_of_lookup k) rfl).elim (fun k => .inr (.inl k)) (fun k => .inr (.inr k))
      obtain ⟨w', r, q⟩ := hl i y v e1 e2 hvis
      obtain ⟨c2, h2⟩ := look k
      refine ⟨w', r, .inr ⟨.inr k, c2, h2, ?_⟩⟩
      have c1 := cm h2
      rcases q with ⟨k', _⟩ | ⟨_, c3, e', z⟩
      · have k' : X.env.scope.names.lookup y = some .local := k'
        rcases G.blk.free _ (PySem.mem_of_lookup k) rfl with k2 | k2 <;> rw [show X.env.scope.names.lookup y = _ from k2] at k' <;> cases k'
      · rw [c1] at e'
        cases e'
        exact cellK z
  · obtain ⟨w', z⟩ := I.cell y c (cm e)
    exact ⟨w', cellK z⟩

/-! ### the run -/
def REndA (X : Cx) (fp : List Addr) (s4 : Shared) (H4 : Hp) (Q : VK) : GenEnd := fun n s₀ r s1 => r = .ok .next ∧ ∃ H', s1.os = s4.os ∧ AllBare s1.gens ∧ Un (frs X.stack) fp H4 H' s4.heap s1.heap ∧ HOk X.prog X.w H' s1.heap ∧ Q (.bl true) H'
def YItemA (X : Cx) (fp : List Addr) (s4 : Shared) (H4 : Hp) (a : Addr) (g : Nat) (Q : VK) : Protocol := fun n s₀ v s1 kap => ∃ b H', v = .bool b ∧ s1.os = s4.os ∧ AllBare s1.gens ∧ Un (frs X.stack) fp H4 H' s4.heap s1.heap ∧ HOk X.prog X.w H' s1.heap ∧
  s1.heap.IsGen a g ∧ s1.heap.NoLimit ∧ (b = false → Q (.bl false) H') ∧ (b = true → ∀ s', s'.heap = s1.heap → s'.os = s1.os → AllBare s'.gens → kap (.send .none) s')
theorem inv_gens {s' : Shared} (I : Inv X pins σ H s) (h1 : s'.heap = s.heap) (h2 : s'.os = s.os) (h3 : AllBare s'.gens) : Inv X pins σ H s' :=
  I.call' (ch := []) h2 (by rw [h1]; exact Un.refl) (by rw [h1]; exact I.hok) h3 fun b hb => absurd hb (by simp)
theorem seg_allLoop {elt tg iter : Expr} {pos : Pos} {it a : Addr} {g : Nat} {go : Obj} {fp : List Addr} {tn : Nat → Heap → Prop} {J : It} {s4 : Shared} {H4 : Hp} {code : Value} {vs : List Nat} {gg : TG} {te : TE} {Q : VK} {W : Nat → Hp → Prop} {nn : Nat}
    (T : Turn X.prog X.w X.K tg J fp it tn) (hgen : ∀ h : Heap, h.get? a = some go → h.IsGen a g) (hco : scope.isCoroutine = false)
    (hfpN : ∀ b ∈ fp, b ≠ s4.heap.objs.size ∧ b ∉ frs X.stack ∧ b ≠ a ∧ ∀ y c, (cloFrom X.env.cells scope.names []).lookup y = some c → c ≠ b)
    (hg : PG (gCx X s4 H4 scope code fp) tg gg) (he : PE (gCx X s4 H4 scope code fp) elt te)
    (hW : ∀ i H, W i H → (J.stop i H ∧ Q (.bl true) H) ∨ (J.go i H ∧ i < nn ∧ ∀ x H', J.yld i H x H' → gg x (wipe σ vs) H' fun σ2 H2 => wipe σ2 vs = wipe σ vs ∧ te σ2 H2 fun y H4 => ∃ b, y = .bl b ∧ (b = true → W (i + 1) H4) ∧ (b = false → Q (.bl false) H4))) :
    ∀ (k i : Nat) (s₀ s : Shared) (H : Hp), nn - i = k → Inv (gCx X s4 H4 scope code fp) [(a, go)] (wipe σ vs) H s → tn i s.heap → (∀ b ∈ fp, H b = none) → W i H →
      Seg (model X.prog X.w) X.A.in1.in1 (REndA X fp s4 H4 Q) (YItemA X fp s4 H4 a g Q) k s₀ (.compLoop (.GeneratorExp elt [⟨tg, iter, [], 0⟩] scope pos) 0 (.ref it) .none (gEnv X scope s4.heap.objs.size code))
        ((model X.prog X.w).den (.compLoop (.GeneratorExp elt [⟨tg, iter, [], 0⟩] scope pos) 0 (.ref it) .none (gEnv X scope s4.heap.objs.size code))) [] s := by
  intro k
  induction k with
  | zero =>
    intro i s₀ s H hk I st fr w
    show Seg _ _ _ _ _ s₀ _ ((compTurn (.GeneratorExp elt [⟨tg, iter, [], 0⟩] scope pos) 0 (.ref it) .none (gEnv X scope s4.heap.objs.size code)).onRaise (leaving (gEnv X scope s4.heap.objs.size code))) [] s
    rw [compTurn_gen, Sem.onRaise_eq_wrap]
    have stat : ∀ b ∈ fp, FpOk (gCx X s4 H4 scope code fp) [(a, go)] H b := fun b hb => ⟨fr b hb, (hfpN b hb).1, (hfpN b hb).2.1, .inl hb, (hfpN b hb).2.2.2, fun p hp => by
      rcases List.mem_append.mp hp with z | z
      · exact absurd (show p ∈ ([] : List (Addr × Obj)) from z) (by simp)
      · rw [List.mem_singleton.mp z]; exact Ne.symm (hfpN b hb).2.2.1⟩
    rcases hW i H w with ⟨stop, q⟩ | ⟨_, hlt, _⟩
    · refine seg_bind_wrap (wpAny_standAt ?_)
      refine seg_bind_wrap ?_
      rw [over_gen]
      refine thn (T.done (gCx X s4 H4 scope code fp) rfl rfl rfl rfl i _ s _ H _ I stat st stop) fun r s2 ⟨hr, I2⟩ => ?_
      subst hr
      exact seg_end (.ok .next) ⟨rfl, H, I2.os, I2.bare, I2.base, I2.hok, q⟩
    · omega
  | succ k ih =>
    intro i s₀ s H hk I st fr w
    show Seg _ _ _ _ _ s₀ _ ((compTurn (.GeneratorExp elt [⟨tg, iter, [], 0⟩] scope pos) 0 (.ref it) .none (gEnv X scope s4.heap.objs.size code)).onRaise (leaving (gEnv X scope s4.heap.objs.size code))) [] s
    rw [compTurn_gen, Sem.onRaise_eq_wrap]
    have stat : ∀ {H : Hp}, (∀ b ∈ fp, H b = none) → ∀ b ∈ fp, FpOk (gCx X s4 H4 scope code fp) [(a, go)] H b := fun {H} fr b hb => ⟨fr b hb, (hfpN b hb).1, (hfpN b hb).2.1, .inl hb, (hfpN b hb).2.2.2, fun p hp => by
      rcases List.mem_append.mp hp with z | z
      · exact absurd (show p ∈ ([] : List (Addr × Obj)) from z) (by simp)
      · rw [List.mem_singleton.mp z]; exact Ne.symm (hfpN b hb).2.2.1⟩
    rcases hW i H w with ⟨stop, q⟩ | ⟨hgo, hlt, turn⟩
    · refine seg_bind_wrap (wpAny_standAt ?_)
      refine seg_bind_wrap ?_
      rw [over_gen]
      refine thn (T.done (gCx X s4 H4 scope code fp) rfl rfl rfl rfl i _ s _ H _ I (stat fr) st stop) fun r s2 ⟨hr, I2⟩ => ?_
      subst hr
      exact seg_end (.ok .next) ⟨rfl, H, I2.os, I2.bare, I2.base, I2.hok, q⟩
    · refine seg_bind_wrap (wpAny_standAt ?_)
      refine seg_bind_wrap ?_
      rw [over_gen]
      refine thn (T.item (gCx X s4 H4 scope code fp) rfl rfl rfl rfl i _ s _ H _ I (stat fr) st hgo) fun r s2 ⟨u, hr, h2⟩ => ?_
      subst hr
      refine seg_bind_wrap ?_
      rw [over_gen]
      refine thn h2 fun _ s3 ⟨x, H3, I3, rx, y3, st3, fr3⟩ => ?_
      have I3' := I3.pinned (stat fr3) (T.obj _ _ st3)
      refine seg_bind_wrap ?_
      rw [over_gen]
      refine wpAny_mono (hg.run _ s3 _ H3 x u _ I3' rx (turn x H3 y3)) (fun _ s5 ⟨σ5, H5, I5, w5, q5⟩ => ?_) fun _ _ z => False.elim z
      simp only [List.forIn_nil]
      refine seg_bind_wrap (wpAny_pure ?_)
      simp only [if_true]
      have hy : ∀ v, yieldOut (gEnv X scope s4.heap.objs.size code) v = yieldValue v := fun v => by
        have hco' : (gEnv X scope s4.heap.objs.size code).scope.isCoroutine = false := hco
        simp only [yieldOut, hco', Bool.false_eq_true, if_false]
      simp only [hy]
      rw [Sem.bind_eq_wrap', Sem.bind_eq_wrap', Sem.wrap_wrap, Sem.wrap_wrap]
      refine seg_wrap ?_
      rw [over_gen]
      refine wpAny_mono (he.run _ s5 σ5 H5 _ I5 q5) (fun v s6 ⟨yv, H6, I6, ry, b, eb, k1, k0⟩ => ?_) fun _ _ z => False.elim z
      subst eb
      obtain rfl : v = Value.bool b := ry
      have pin6 : ∀ p ∈ [(a, go)] ++ pinsAt fp s3.heap, s6.heap.get? p.1 = some p.2 ∧ H6 p.1 = none := fun p hp => by
        obtain ⟨e1, e2, _⟩ := I6.pin p (List.mem_append_right _ hp)
        exact ⟨e1, e2⟩
      refine seg_at (seg_yield rfl rfl rfl ⟨b, H6, rfl, I6.os, I6.bare, I6.base, I6.hok, hgen _ (pin6 (a, go) (List.mem_append_left _ (List.mem_singleton.mpr rfl))).1, I6.nolimit, k0, fun eb s' h1 h2 h3 => ?_⟩)
      have I7 := inv_gens I6.unpinned h1 h2 h3
      have I8 : Inv (gCx X s4 H4 scope code fp) [(a, go)] (wipe σ vs) H6 s' := I7.weak (by rw [← w5, wipe_length]) fun j v e => by
        rw [← w5] at e
        exact (wipe_some e).1
      refine seg_again rfl (ih (i + 1) s' s' H6 (by omega) I8 ?_ (fun b hb => ?_) (k1 eb))
      · rw [h1]
        exact T.keep _ _ _ st3 fun b hb o e => (pin6 (b, o) (List.mem_append_right _ (mem_pinsAt hb e))).1
      · obtain ⟨o, e, d⟩ := T.obj _ _ st3 b hb
        exact (pin6 (b, o) (List.mem_append_right _ (mem_pinsAt hb e))).2
end
end RK
set_option Elab.async false
set_option linter.all false
set_option maxRecDepth 100000
set_option maxHeartbeats 4000000
/-! RkN: all of a generator expression, the rule. -/
namespace RK
open PySem PySem.Spec PyProof.Rows L2 RZ GenW
section
variable {X : Cx} {pins : List (Addr × Obj)} {σ : L2.St} {H : Hp} {s : Shared} {scope : Scope} {own : List (Str × Nat)}
theorem seg_allStart {elt tg iter : Expr} {pos : Pos} {it a : Addr} {g : Nat} {go : Obj} {fp : List Addr} {tn : Nat → Heap → Prop} {J : It} {s4 : Shared} {H4 : Hp} {code : Value} {vs : List Nat} {gg : TG} {te : TE} {Q : VK} {W : Nat → Hp → Prop} {nn : Nat}
    (T : Turn X.prog X.w X.K tg J fp it tn) (hgen : ∀ h : Heap, h.get? a = some go → h.IsGen a g) (hco : scope.isCoroutine = false)
    (hfpN : ∀ b ∈ fp, b ≠ s4.heap.objs.size ∧ b ∉ frs X.stack ∧ b ≠ a ∧ ∀ y c, (cloFrom X.env.cells scope.names []).lookup y = some c → c ≠ b)
    (hg : PG (gCx X s4 H4 scope code fp) tg gg) (he : PE (gCx X s4 H4 scope code fp) elt te)
    (hW : ∀ i H, W i H → (J.stop i H ∧ Q (.bl true) H) ∨ (J.go i H ∧ i < nn ∧ ∀ x H', J.yld i H x H' → gg x (wipe σ vs) H' fun σ2 H2 => wipe σ2 vs = wipe σ vs ∧ te σ2 H2 fun y H4 => ∃ b, y = .bl b ∧ (b = true → W (i + 1) H4) ∧ (b = false → Q (.bl false) H4)))
    (s₀ s : Shared) (H : Hp) (I : Inv (gCx X s4 H4 scope code fp) [(a, go)] (wipe σ vs) H s) (st : tn 0 s.heap) (fr : ∀ b ∈ fp, H b = none) (w : W 0 H) :
      Seg (model X.prog X.w) X.A.in1.in1 (REndA X fp s4 H4 Q) (YItemA X fp s4 H4 a g Q) nn s₀ (.compStart (.GeneratorExp elt [⟨tg, iter, [], 0⟩] scope pos) 0 (.ref it) .none (gEnv X scope s4.heap.objs.size code))
        ((model X.prog X.w).den (.compStart (.GeneratorExp elt [⟨tg, iter, [], 0⟩] scope pos) 0 (.ref it) .none (gEnv X scope s4.heap.objs.size code))) [] s := by
  have loop := seg_allLoop (pos := pos) (iter := iter) T hgen hco hfpN hg he hW nn 0 s₀ s H (by omega) I st fr w
  show Seg _ _ _ _ _ s₀ _ ((compStart (.GeneratorExp elt [⟨tg, iter, [], 0⟩] scope pos) 0 (.ref it) .none (gEnv X scope s4.heap.objs.size code)).onRaise (leaving (gEnv X scope s4.heap.objs.size code))) [] s
  unfold compStart
  rw [Sem.onRaise_eq_wrap]
  show Seg _ _ _ _ _ s₀ _ ((ask >>= _).wrap _ _ _ _) [] s
  refine seg_bind_wrap (wpAny_askSetting ?_)
  split
  · exact seg_again rfl loop
  · first
      | exact seg_bind_wrap (wpAny_rule (seg_bind_wrap (wpAny_standAt (seg_bind_wrap (T.self _ 0 s _ _ st (seg_again rfl loop))))))
      | (refine seg_bind_wrap (wpAny_rule ?_); show Seg _ _ _ _ _ s₀ _ ((standAt iter.pos >>= _).wrap _ _ _ _) [] s; exact seg_bind_wrap (wpAny_standAt (seg_bind_wrap (T.self _ 0 s _ _ st (seg_again rfl loop)))))
/-- the consumer -/
theorem drainAll {fp : List Addr} {s4 : Shared} {H4 : Hp} {a : Addr} {g : Nat} {Q : VK} {R : Result → Shared → Prop} (hh : X.A.handled = none) (hd : X.A.depth < recursionLimit)
    (hend : ∀ b s' H', s'.os = s4.os → AllBare s'.gens → Un (frs X.stack) fp H4 H' s4.heap s'.heap → HOk X.prog X.w H' s'.heap → Q (.bl b) H' → R (.ok (.ret (.bool b))) s') :
    ∀ (m : Nat) (s : Shared), s.heap.IsGen a g → s.heap.NoLimit → AllBare s.gens →
      (∃ gs, s.gens[g]? = some gs ∧ gs.Goes (model X.prog X.w) X.A.in1.in1 (REndA X fp s4 H4 Q) (YItemA X fp s4 H4 a g Q) m (.send .none) (s.setGen g .running)) →
      codeAny (model X.prog X.w) X.A (.builtin "all.loop" ⟨[.ref a], []⟩) R s := by
  intro m
  induction m with
  | zero =>
    intro s hg hl hb ⟨gs, hgs, hgo⟩
    refine codeAny_builtin F.entry_all_loop ?_
    rw [Around.under_plainId F.plain_all_loop _]
    show wpAny _ X.A.in1 (pyNext (.ref a) >>= _) _ _ s
    refine wpAny_bind (wpAny_pyNext_genexpQ (A := X.A.in1) (P := fun n s₀ s1 => ∃ H', s1.os = s4.os ∧ AllBare s1.gens ∧ Un (frs X.stack) fp H4 H' s4.heap s1.heap ∧ HOk X.prog X.w H' s1.heap ∧ Q (.bl true) H') hh hl hd hg hgs hgo (fun v s₁ gs' hbare hv => ?_) (fun s₁ hp h' hk => ?_))
    · obtain ⟨b, H', rfl, o1, b1, un, hok, hg1, hl1, k0, k1⟩ := hv
      refine wpAny_bind (wpAny_holding (wpAny_truthy_bool (wpAny_bind (wpAny_letGo ?_))))
      cases b with
      | true => exact False.elim (k1 rfl s₁ rfl rfl b1)
      | false =>
        simp only [Bool.false_eq_true, if_false]
        exact wpAny_bind (wpAny_rule (wpAny_pure (hend false _ H' o1 (allBare_setGen b1 hbare) un hok (k0 rfl))))
    · obtain ⟨H', o1, b1, un, hok, q⟩ := hp
      exact wpAny_bind (wpAny_rule (wpAny_pure (hend true _ H' o1 (allBare_setGen b1 rfl) (un.trans (Un.kept hk)) (hok.kept hk) q)))
  | succ m ih =>
    intro s hg hl hb ⟨gs, hgs, hgo⟩
    have hgl : g < s.gens.size := (Array.getElem?_eq_some_iff.mp hgs).1
    refine codeAny_builtin F.entry_all_loop ?_
    rw [Around.under_plainId F.plain_all_loop _]
    show wpAny _ X.A.in1 (pyNext (.ref a) >>= _) _ _ s
    refine wpAny_bind (wpAny_gsz (n := g + 1) hgl (wpAny_pyNext_genexpQ (A := X.A.in1) (P := fun n s₀ s1 => ∃ H', s1.os = s4.os ∧ AllBare s1.gens ∧ Un (frs X.stack) fp H4 H' s4.heap s1.heap ∧ HOk X.prog X.w H' s1.heap ∧ Q (.bl true) H') hh hl hd hg hgs hgo (fun v s₁ gs' hbare hv => ?_) (fun s₁ hp h' hk => ?_)))
    · intro hsz
      obtain ⟨b, H', rfl, o1, b1, un, hok, hg1, hl1, k0, k1⟩ := hv
      refine wpAny_bind (wpAny_holding (wpAny_truthy_bool (wpAny_bind (wpAny_letGo ?_))))
      have hsz1 : g < s₁.gens.size := by
        have q : (s₁.setGen g gs').gens.size = s₁.gens.size := setGen_size _ _ _
        have hsz' : g + 1 ≤ (s₁.setGen g gs').gens.size := hsz
        omega
      cases b with
      | true =>
        simp only [if_true]
        refine wpAny_pure ⟨plainId_quiet F.plain_all_loop _, ih (s₁.setGen g gs') hg1 hl1 (allBare_setGen b1 hbare) ⟨gs', setGen_at hsz1, ?_⟩⟩
        exact k1 rfl _ rfl rfl (allBare_setGen (s := s₁.setGen g gs') (allBare_setGen b1 hbare) rfl)
      | false =>
        simp only [Bool.false_eq_true, if_false]
        exact wpAny_bind (wpAny_rule (wpAny_pure (hend false _ H' o1 (allBare_setGen b1 hbare) un hok (k0 rfl))))
    · intro hsz
      obtain ⟨H', o1, b1, un, hok, q⟩ := hp
      exact wpAny_bind (wpAny_rule (wpAny_pure (hend true _ H' o1 (allBare_setGen b1 rfl) (un.trans (Un.kept hk)) (hok.kept hk) q)))
/-- all(elt for tg in iter) -/
def tAllG (P : Addr) (wi : TI) (gg : TG) (te : TE) (vs : List Nat) : TE := fun σ H Q => wi σ H fun J H1 => GxR.TabG H1 P ∧ ∀ H2, GxR.Tabbed P H1 H2 → ∃ (nn : Nat) (W : Nat → Hp → Prop), W 0 H2 ∧ ∀ i H, W i H →
  (J.stop i H ∧ Q (.bl true) H) ∨ (J.go i H ∧ i < nn ∧ ∀ x H', J.yld i H x H' → gg x (wipe σ vs) H' fun σ2 H2 => wipe σ2 vs = wipe σ vs ∧ te σ2 H2 fun y H4 => ∃ b, y = .bl b ∧ (b = true → W (i + 1) H4) ∧ (b = false → Q (.bl false) H4))
theorem pe_allG {c P : Addr} {elt tg iter : Expr} {p pos gpos : Pos} {k : Nat} {wi : TI} {gg : TG} {te : TE} (hr : Room k X.A) (hc : X.calm = true) (hg : Gl X "all") (hm : X.mg "all" = none) (TB : GxR.TabB X.base X.mg c P) (hcode : X.env.code = .ref c) (hN : X.N.Nodup)
    (G : GenSc X.N X.env.scope scope own) (hi : PI X tg iter wi) (hgt : ∀ (s : Shared) (H : Hp) (code : Value) (fp : List Addr), PG (gCx X s H scope code fp) tg gg) (het : ∀ (s : Shared) (H : Hp) (code : Value) (fp : List Addr), PE (gCx X s H scope code fp) elt te)
    (hs : ∀ v, genFold iter X.env v = pure v)
    (he : starEach [.GeneratorExp elt [⟨tg, iter, [], 0⟩] scope gpos] X.env = (false, eval (.GeneratorExp elt [⟨tg, iter, [], 0⟩] scope gpos) X.env) :: starEach [] X.env) :
    PE X (.Call (.Name "all" p) [.GeneratorExp elt [⟨tg, iter, [], 0⟩] scope gpos] [] pos) (tAllG P wi gg te (own.map (·.2))) := by
  refine ⟨fun pins s σ H Q I h => ?_⟩
  refine wpAny_Call_Name_kw (ld_blt I hg hm (by rfl) ?_)
  refine PyProof.Rows.callWith_builtin1 ?_ he (by rfl)
  rw [he]
  show wpAny _ _ (spliced ((false, eval (.GeneratorExp elt [⟨tg, iter, [], 0⟩] scope gpos) X.env) :: backTo pos (starEach [] X.env))) _ _ s
  refine Calls.spliced_cons ?_
  refine wpAny_GeneratorExp_make G.co (closure_ok (G.has I.ok)) G.cell G.dot G.blk.kind (by have := hr.dp; omega) ?_ hs
  refine thn (hi.run pins s σ H _ I h) fun xv s1 h1 => thn h1 fun itv s2 h2 => ?_
  obtain ⟨it, fp, tn, J, H1, rfl, I2, T, st2, f2, hT, hW⟩ := h2
  obtain ⟨ps, hP, ht⟩ := hT
  refine ⟨I2.nolimit, ?_⟩
  have hPs : s2.heap.get? P = some { cls := .none, data := .fields ps } := I2.hok P _ hP
  have cd : PySem.W.CodeHd s2.heap c P := TB.code.keeps fun b u e => I2.bk b u e
  have fpP : ∀ b ∈ fp, b ≠ P := fun b hb z => by
    have q := (f2 b hb).1
    rw [z, hP] at q; cases q
  have fpLt : ∀ b ∈ fp, b < s2.heap.objs.size := fun b hb => by
    obtain ⟨o, e, _⟩ := T.obj _ _ st2 b hb
    exact Heap.lt_size e
  have cont : ∀ (code : Value) (h3 : Heap) (tk : Nat) (ps' : Array Value), Heap.ExtBut P s2.heap h3 → s2.heap.objs.size ≤ h3.objs.size → h3.get? P = some { cls := .none, data := .fields ps' } → (∃ more, ps' = ps ++ more) → TriplesOk ps'.toList →
      wpAny (model X.prog X.w) X.A (builtinsFor X.env.globals X.env.builtins) (fun bi s₄ =>
        ∀ h', h'.Ns s₄.heap.objs.size (fun y => if y = ".0" then some (.ref it) else none) → Heap.SameBut s₄.heap.objs.size (s₄.heap.push { cls := .type "frame", data := .dict #[] }) h' →
          wpAny (model X.prog X.w) X.A (spliced (backTo pos (starEach [] X.env))) (fun vs s' => wpAny (model X.prog X.w) X.A (call (.builtin "all") (.ref h'.objs.size :: vs)) (EP X pins σ Q) X.xe s') X.xe { s₄ with
            gens := s₄.gens.push (.fresh (.compStart (.GeneratorExp elt [⟨tg, iter, [], 0⟩] scope gpos) 0 (.ref it) .none (genEnv scope (cloFrom X.env.cells scope.names []) s₄.heap.objs.size code bi X.env))),
            toks := s₄.toks + 1 + 1 + 1,
            heap := h'.push { cls := .type "generator", data := .fields #[.int s₄.gens.size 0, .str "<genexpr>" (s₄.toks + 1), .str (X.env.qual ++ "<genexpr>") (s₄.toks + 1 + 1)] } }) X.xe { s2 with heap := h3, toks := tk } := by
    intro code h3 tk ps' hx hsz hP3 hmore ht3
    obtain ⟨bm, ob, e1, e2, e3, e4, e5, e6, e7, e8⟩ := TB.bm
    have keep3 : ∀ b u, b ≠ P → s2.heap.get? b = some u → h3.get? b = some u := fun b u hb e => hx b u hb e
    refine wpAny_builtinsFor (m := X.mg) (by rw [I2.ok.glob]; exact (I2.mod.glob.keeps I2.bk).extBut hx TB.gP) e1 e2 (keep3 _ _ e4 (I2.bk _ _ e5)) e6 e7 e8 ?_
    obtain ⟨more, em⟩ := hmore
    have I3 := GxR.inv_tab (more := more) (h' := h3) (g' := s2.gens) (d' := s2.drawn) (t' := tk) I2 hP keep3 (by rw [← em]; exact hP3) I2.bare
    intro h' hns hsb
    have hsz' : h'.objs.size = h3.objs.size + 1 := by rw [hsb.1, Heap.size_push]
    have keep4 : ∀ b o, h3.get? b = some o → h'.get? b = some o := fun b o e => hsb.extBut b o (Nat.ne_of_lt (Heap.lt_size e)) (Heap.get?_push_of_some _ e)
    generalize hgo : ({ cls := .type "generator", data := .fields #[.int s2.gens.size 0, .str "<genexpr>" (tk + 1), .str (X.env.qual ++ "<genexpr>") (tk + 1 + 1)] } : Obj) = go
    have keep5 : ∀ b o, h3.get? b = some o → (h'.push go).get? b = some o := fun b o e => Heap.get?_push_of_some _ (keep4 b o e)
    obtain ⟨nn, W, w0, hturn⟩ := hW (upd H1 P (.tbl (ps ++ more))) ⟨⟨ps ++ more, upd_same, by rw [← em]; exact ht3⟩, fun b hb => upd_ne hb⟩
    have f3 : ∀ b ∈ fp, FpOk X pins (upd H1 P (.tbl (ps ++ more))) b := fun b hb => ⟨by rw [upd_ne (fpP b hb)]; exact (f2 b hb).1, (f2 b hb).2⟩
    have fpLt3 : ∀ b ∈ fp, b < h3.objs.size := fun b hb => Nat.lt_of_lt_of_le (fpLt b hb) hsz
    have I5 := gen_start (fp := fp) (code := code) (h5 := h'.push go) (t' := tk + 1 + 1 + 1) (g' := s2.gens.push (.fresh (.compStart (.GeneratorExp elt [⟨tg, iter, [], 0⟩] scope gpos) 0 (.ref it) .none (gEnv X scope h3.objs.size code)))) I3 G hN hr.hd (fun b hb => ⟨f3 b hb, fpLt3 b hb⟩) (hns.push go) keep5 (AllBare.push I2.bare rfl)
    have hgen : ∀ h : Heap, h.get? h'.objs.size = some go → h.IsGen h'.objs.size s2.gens.size := fun h e => ⟨go, _, _, e, by rw [← hgo], by rw [← hgo], by rw [← hgo]⟩
    have hpush : (h'.push go).get? h'.objs.size = some go := by rw [← hgo]; exact Heap.get?_push_size _ rfl
    have aLt : h3.objs.size < h'.objs.size := by rw [hsz']; exact Nat.lt_succ_self _
    have I6 : Inv (gCx X { s2 with heap := h3, gens := s2.gens, drawn := s2.drawn, toks := tk } (upd H1 P (.tbl (ps ++ more))) scope code fp) [(h'.objs.size, go)] (wipe σ (own.map (·.2))) (upd H1 P (.tbl (ps ++ more)))
        { s2 with heap := h'.push go, gens := s2.gens.push (.fresh (.compStart (.GeneratorExp elt [⟨tg, iter, [], 0⟩] scope gpos) 0 (.ref it) .none (gEnv X scope h3.objs.size code))), toks := tk + 1 + 1 + 1 } := I5.pins_of fun p hp => by
      rw [List.mem_singleton.mp hp]
      exact ⟨hpush, I3.hok.fresh (Nat.le_of_lt aLt), Nat.ne_of_gt aLt, fun z => by
        have q : h'.objs.size ∈ frs X.stack := z
        rcases List.mem_cons.mp (I3.stkSub _ q) with z | z
        · have h1 := I3.lt
          rw [← z] at h1
          exact absurd (Nat.lt_trans h1 aLt) (Nat.lt_irrefl _)
        · exact I3.nofs (Nat.le_of_lt aLt) z, fun v z => by rw [← hgo] at z; cases z⟩
    refine Calls.spliced_nil ?_
    refine call_function_tree F.kind_all F.plain_all F.entry_all (F.args_all1 _) ?_
    unfold Builtin.«all»
    refine wpAny_bind (m := oneArg "all" _) (wpAny_pure ?_)
    refine wpAny_bind (wpAny_pyIter_gen (hgen _ hpush) ?_)
    refine wpAny_pure ⟨plainId_quiet F.plain_all_loop _, ?_⟩
    refine drainAll (fp := fp) (s4 := { s2 with heap := h3, gens := s2.gens, drawn := s2.drawn, toks := tk }) (H4 := upd H1 P (.tbl (ps ++ more))) (a := h'.objs.size) (g := s2.gens.size) (Q := Q) hr.hd (by have := hr.dp; omega) (fun b s' H' o1 b1 un hok q => ?_) nn _ (hgen _ hpush) (I3.nolimit.keeps keep5) (AllBare.push I2.bare rfl) ⟨_, Array.getElem?_push_size .., rfl, ?_⟩
    · refine ⟨.bl b, H', I3.call' (ch := fp) o1 un hok b1 fun b hb => ?_, rfl, q⟩
      obtain ⟨q0, q1, q2, q3, q4, q5⟩ := f3 b hb
      exact ⟨q3, q1, q4, q5⟩
    · refine seg_allStart (pos := gpos) (iter := iter) (go := go) T hgen G.co (fun b hb => ⟨Nat.ne_of_lt (fpLt3 b hb), fun z => ?_, Nat.ne_of_lt (Nat.lt_trans (fpLt3 b hb) aLt), fun y cc e => ?_⟩) (hgt _ _ _ _) (het _ _ _ _) hturn _ _ _ (inv_gens I6 rfl rfl (allBare_setGen (s := { s2 with heap := h'.push go, gens := s2.gens.push _, toks := tk + 1 + 1 + 1 }) (AllBare.push I2.bare rfl) rfl)) ?_ (fun b hb => (f3 b hb).1) w0
      · rcases List.mem_cons.mp (I3.stkSub _ z) with z | z
        · exact (f3 b hb).2.1 z
        · exact (f3 b hb).2.2.1 z
      · have e' : X.env.cells.lookup y = some cc := by
          rcases cloFrom_mem (PySem.mem_of_lookup e) with hm | ⟨h1, h2⟩
          · cases hm
          · obtain ⟨c1, hc⟩ := G.has I2.ok _ h1 rfl
            have hc : X.env.cells.lookup y = some c1 := hc
            have e2 : cc = c1 := by
              rw [h2, hc] <;> rfl
            rw [e2]
            exact hc
        exact (f3 b hb).2.2.2.2.1 y cc e'
      · exact T.keep _ _ _ st2 fun b hb o e => keep5 b o (keep3 b o (fpP b hb) e)
  cases hf : codeAmong gpos ps.toList with
  | none =>
    refine PySem.wpAny_genexprCodeX hcode (cd.code hPs ht) (cd.tab hPs) hf fun c' h' tk hx hge hlt hco' _ htab' _ => ?_
    obtain ⟨o1, vs, f1, tf, fl, tg', inF, tx, tt, op, _, _, _, _, _, _, _, _, _, htr, _⟩ := hco'
    exact cont _ h' tk _ hx (Nat.le_trans hge (Nat.le_of_lt hlt)) htab'.2 ⟨_, rfl⟩ htr
  | some cv =>
    refine PySem.wpAny_genexprCode_hit hcode (cd.code hPs ht) hf ?_
    exact cont cv s2.heap s2.toks ps (Heap.ExtBut.refl _ _) (Nat.le_refl _) hPs ⟨#[], by simp⟩ ht
end
end RK
set_option Elab.async false
set_option linter.all false
set_option maxRecDepth 100000
set_option maxHeartbeats 4000000
/-! RkO: all of a generator expression, by a mirror. -/
namespace RK
open PySem PySem.Spec PyProof.Rows L2 RZ GenW
def allL (vs : List Nat) (g : MG) (elt : ME) : List D → Env → BR
  | [], ρ => .ok true ρ
  | d :: ds, ρ => match g d ρ with
    | none => .fail
    | some ρ1 => match elt ρ1 with
      | .ok (.bl true) ρ2 => allL vs g elt ds (wipeE ρ2 vs)
      | .ok (.bl false) ρ2 => .ok false (wipeE ρ2 vs)
      | _ => .fail
def mAll (vs : List Nat) (it : MA) (g : MG) (elt : ME) : ME := fun ρ => match it ρ with
  | .ok ds ρ1 => (match allL vs g elt ds (wipeE ρ1 vs) with
    | .ok b ρ2 => .ok (.bl b) (restE ρ2 ρ1 vs)
    | _ => .fail)
  | .raise s => .raise s
  | .fail => .fail
theorem allL_noraise {vs : List Nat} {g : MG} {elt : ME} : ∀ {ds : List D} {ρ : Env} {s : Str}, allL vs g elt ds ρ ≠ .raise s
  | [], ρ, s => fun h => by unfold allL at h; cases h
  | d :: ds, ρ, s => fun h => by
    unfold allL at h
    split at h
    · cases h
    · split at h
      · exact allL_noraise h
      · cases h
      · cases h
theorem Rl.tabbed {K : PySem.W.Frag} {T : Tabl} {c : Cfg} {σ : L2.St} {H H2 : Hp} {ρ : Env} {Γ : Gam} {P : Addr} (r : Rl K T c σ H ρ Γ) (hP : P ∈ T.gen) (hl : ∀ p ∈ T.lam, p.1 ≠ P) (t : GxR.Tabbed P H H2) : Rl K T c σ H2 ρ Γ := by
  obtain ⟨ps, h1, h2⟩ := r.good.gen P hP
  obtain ⟨t1, t2⟩ := t
  have ne : ∀ a o, H a = some o → (∀ ps, o ≠ .tbl ps) → a ≠ P := fun a o e n z => by
    rw [z, h1] at e; cases e; exact n _ rfl
  refine r.grow ⟨fun a o h n => by rw [t2 a (ne a o h n)]; exact h, fun a h => ?_, ⟨fun p hp => ?_, fun Q hQ => ?_⟩⟩
  · by_cases e : a = P
    · obtain ⟨qs, q1, _⟩ := t1
      rw [e, q1]; simp
    · rw [t2 a e]; exact h
  · obtain ⟨qs, q1, q2, q3⟩ := r.good.lam p hp
    refine ⟨qs, by rw [t2 _ (hl p hp)]; exact q1, q2, fun pos cv hc => ?_⟩
    obtain ⟨c0, e1, e2⟩ := q3 pos cv hc
    exact ⟨c0, e1, by rw [t2 c0 (ne c0 _ e2 (LamX.codeO_ne))]; exact e2⟩
  · by_cases e : Q = P
    · rw [e]; exact t1
    · obtain ⟨qs, q1, q2⟩ := r.good.gen Q hQ
      exact ⟨qs, by rw [t2 Q e]; exact q1, q2⟩
section
variable {X : Cx} {T : Tabl} {B : Addr} {E : XK} {mi : MA} {mg : MG} {mt : MB} {ma : ME} {vs : List Nat}
theorem ev_all {wi : TI} {P : Addr} (hP : P ∈ T.gen) (hlT : ∀ p ∈ T.lam, p.1 ≠ P) (hi : EvI X T B E wi mi) : EvD X T B E (tAllG P wi (tMirG X.K T mg vs) (tMir X.K T B E0 ma) vs) (mAll vs mi mg ma) := ⟨fun c σ H ρ Γ Q r0 hq hx hf => by
  unfold mAll at hq hx hf
  refine hi.run c σ H ρ Γ _ r0 (fun ds ρ1 J H1 G e1 hG wk r1 => ?_) (fun nm e1 => ?_) fun e1 => ?_
  · simp only [e1] at hq hx hf
    generalize hR : allL vs mg ma ds (wipeE ρ1 vs) = R0 at hq hx hf
    have hR0 : R0 ≠ .fail := fun z => by rw [z] at hf; exact hf rfl
    refine ⟨r1.good.gen P hP, fun H2 ht => ?_⟩
    have r2 := r1.tabbed hP hlT ht
    obtain ⟨Gs, hGs, r3, back⟩ := r2.saves vs
    have fin : ∀ (H' : Hp) (ρ' : Env) (b : Bool), Rl X.K T c (wipe σ vs) H' ρ' (Gs ++ (G ++ Γ)) → R0 = .ok b ρ' → Q (.bl b) H' := fun H' ρ' b r e => by
      subst e
      have r9 := back H' ρ' (Gs ++ (G ++ Γ)) (fun H L h => (imm_app (G := Gs) h).1) r
      rw [← List.append_assoc] at r9
      exact hq (.bl b) _ _ H' rfl ((r9.drop (Gs ++ G)).add fun L _ => scl_bl _ _ _ _)
    refine ⟨ds.length, fun i H' => ∃ ρ', Rl X.K T c (wipe σ vs) H' ρ' (Gs ++ (G ++ Γ)) ∧ i ≤ ds.length ∧ allL vs mg ma (ds.drop i) ρ' = R0, ⟨_, r3, Nat.zero_le _, hR⟩, ?_⟩
    rintro i H' ⟨ρ', r', hi', er⟩
    have hGim : ∀ (H : Hp) (L : Exc), Imm X.K H L (Gs ++ (G ++ Γ)) → Imm X.K H L G := fun H L h => (imm_app (imm_app (G := Gs) h).2).1
    by_cases hlt : i < ds.length
    · refine .inr ?_
      have ed : ds[i]? = some ds[i] := List.getElem?_eq_getElem hlt
      have es : ds.drop i = ds[i] :: ds.drop (i + 1) := List.drop_eq_getElem_cons hlt
      rw [es] at er
      unfold allL at er
      obtain ⟨g1, g2⟩ := wk.step r' hGim ed
      refine ⟨g1, hlt, fun x H2 hy => ?_⟩
      have rx := g2 x H2 hy
      refine ⟨c, ρ', _, _, rx, fun ρ2 σ2 eg r4 w => ⟨w.trans wipe_wipe, ?_⟩, fun eg => ?_⟩
      · simp only [eg] at er
        have w' : wipe σ2 vs = wipe σ vs := w.trans wipe_wipe
        refine ⟨c, ρ2, _, r4, fun y ρ4 v H4 ey r6 => ?_, fun nm ey => ?_, fun ey => ?_⟩
        · simp only [ey] at er
          have r8 := r6.pop.fgts vs
          rw [w'] at r8
          obtain ⟨L, hi2, _⟩ := r6.imm
          cases y with
          | bl b =>
            refine ⟨b, rep_bl hi2.1, fun eb => ?_, fun eb => ?_⟩
            · subst eb
              exact ⟨_, r8, hlt, er⟩
            · subst eb
              exact fin _ _ false r8 er.symm
          | _ => exact absurd er.symm hR0
        · simp only [ey] at er; exact absurd er.symm hR0
        · simp only [ey] at er; exact absurd er.symm hR0
      · simp only [eg] at er; exact absurd er.symm hR0
    · have hle : i = ds.length := by omega
      subst hle
      rw [List.drop_length] at er
      have er' : BR.ok true ρ' = R0 := er
      obtain ⟨L, hi2, _⟩ := r'.imm
      exact .inl ⟨wk.stop H' L (hGim H' L hi2), fin H' ρ' true r' er'.symm⟩
  · simp only [e1] at hx; exact hx nm rfl
  · simp only [e1] at hf; exact hf rfl⟩
/-- all(elt for tg in iter) -/
theorem de_all {cc P : Addr} {elt tg iter : Expr} {p pos gpos : Pos} {scope : Scope} {k : Nat} (own : List (Str × Nat)) (hP : P ∈ T.gen) (hlT : ∀ p ∈ T.lam, p.1 ≠ P) (hr : Room k X.A) (hm : X.mg "all" = none) (TB : GxR.TabB X.base X.mg cc P) (hN : X.N.Nodup)
    (G : GenSc X.N X.env.scope scope own) (hi : DI X T B E tg iter mi) (hv : own.map (·.2) = vs) (hg : ∀ (s : Shared) (H : Hp) (code : Value) (fp : List Addr), DGo (gCx X s H scope code fp) T tg mg vs) (he : ∀ (s : Shared) (H : Hp) (code : Value) (fp : List Addr), DE (gCx X s H scope code fp) T B E0 elt ma)
    (hcode : X.env.code = .ref cc) (hc : X.calm = true := by rfl) (hgl : Gl X "all" := by rfl) (hs : ∀ v, genFold iter X.env v = pure v := by intro _; rfl)
    (hst : starEach [.GeneratorExp elt [⟨tg, iter, [], 0⟩] scope gpos] X.env = (false, eval (.GeneratorExp elt [⟨tg, iter, [], 0⟩] scope gpos) X.env) :: starEach [] X.env := by rfl) :
    DE X T B E (.Call (.Name "all" p) [.GeneratorExp elt [⟨tg, iter, [], 0⟩] scope gpos] [] pos) (mAll vs mi mg ma) := by
  subst hv
  obtain ⟨wi, i1, i2⟩ := hi.ex
  exact ⟨_, pe_allG hr hc hgl hm TB hcode hN G i1 (fun s H code fp => (hg s H code fp).mir) (fun s H code fp => (he s H code fp).mir) hs hst, ev_all hP hlT i2⟩
def genC (N : List Str) (sc scope : Scope) (own : List (Str × Nat)) : Bool :=
  blkC N sc scope own && !scope.isCoroutine && (scope.names.all fun y => !decide (y.2 = .cell)) && decide (scope.names.lookup (".0" : Str) = some NameKind.local)
theorem genSc_by {N : List Str} {sc scope : Scope} {own : List (Str × Nat)} (h : genC N sc scope own = true) : GenSc N sc scope own := by
  unfold genC at h
  simp only [Bool.and_eq_true, Bool.not_eq_true', List.all_eq_true, decide_eq_true_eq, decide_eq_false_iff_not] at h
  exact ⟨blkOk_by h.1.1.1, h.1.1.2, h.1.2, h.2⟩
end
end RK
set_option Elab.async false
set_option linter.all false
set_option maxRecDepth 100000
set_option maxHeartbeats 2000000
namespace RK
open PySem PySem.W PySem.Calls PyProof.Rows PySem.HandSPX

/-! ### the text of BadArgument.__init__ -/
def bA : Arguments := { posonlyargs := [], args := [{ arg := "self", annotation := none, pos := ⟨4, 17, 4, 21⟩ }, { arg := "name", annotation := none, pos := ⟨4, 23, 4, 27⟩ }], vararg := none, kwonlyargs := [], kw_defaults := [], kwarg := none, defaults := [] }
def bS : Scope := { kind := .function, names := [(PySem.Str.ofString "self", .local), (PySem.Str.ofString "name", .local), (PySem.Str.ofString "__class__", .free), (PySem.Str.ofString "super", .globalImplicit)], isGenerator := false, isCoroutine := false, more := [] }
def bE : Expr := .BinOp (.Constant (.str "bad argument: ") 0 ⟨5, 25, 5, 41⟩) .Add (.Name "name" ⟨5, 44, 5, 48⟩) ⟨5, 25, 5, 48⟩
def bB : List Stmt :=
  [.Expr (.Call (.Attribute (.Call (.Name "super" ⟨5, 8, 5, 13⟩) [] [] ⟨5, 8, 5, 15⟩) "__init__" ⟨5, 8, 5, 24⟩) [.BinOp (.Constant (.str "bad argument: ") 0 ⟨5, 25, 5, 41⟩) .Add (.Name "name" ⟨5, 44, 5, 48⟩) ⟨5, 25, 5, 48⟩] [] ⟨5, 8, 5, 49⟩) ⟨5, 8, 5, 49⟩,
   .Assign [.Attribute (.Name "self" ⟨6, 8, 6, 12⟩) "name" ⟨6, 8, 6, 17⟩] (.Name "name" ⟨6, 20, 6, 24⟩) ⟨6, 8, 6, 24⟩]

/-- what the written part says of BadArgument (at C) and of its __init__ (at fI) -/
structure BadTxt (prog : Program) (K : Frag) (mg : Str → Option Value) (C fI : Addr) : Prop where
  gC : mg "BadArgument" = some (.ref C)
  cls : ∃ nm q N bs bm sn sub ab col dd k0 k1 k2 k3 k5, K.lookup C = some (excClassObj nm q C N bs bm true sn sub ab col dd k0 k1 k2 k3 k5 "ValueError.__new__") ∧ refsVE bm = true
  sa : findIn K (.ref C) "__setattr__" = some (some (.builtin "object.__setattr__"))
  noN : findIn K (.ref C) "name" = some none
  iC : findIn K (.ref C) "__init__" = some (some (.ref fI))
  tC : typeIn K (.ref fI) = some (.type "function")
  kC : keepIn K (.ref C) = true
  exC : subIn K (.ref C) (.type "BaseException") = some true
  veC : subIn K (.ref C) (.type "ValueError") = some true
  tyC : typeIn K (.ref C) = some (.type "type")
  te : exmOne K (.ref C) (.ref C) = some true
  sup : ks_superIn K C C "__init__" = some (some (.builtin "ValueError.__init__"))
  selfC : mroIn K C (.ref C) = some true
  tp : nsIn K cStatics "thirdparty.any" = some none
  noS : mg "super" = none
  top : (prog.main.scope.names.lookup ("super" : Str)).isSome = false
  fn : ∃ (oc : Value) (od : Option Addr) (doc pm : Value) (an : Option Addr) (cc cda : Addr) (ct : Value) (osl : Array (Option Value)) (qn : Str) (ccl : Value) (cdd : Option Addr) (vs : Array Value) (ccs : Array (Option Value)) (file : Str) (tf : Tok)
      (cl : Value) (cld : Option Addr) (csl : Array (Option Value)),
    K.lookup fI = some ⟨oc, od, .func (ksFn "__init__" qn bA bB bS .none .none doc pm an (.ref cda) ct cc), osl⟩ ∧ codeIn K (.ref cda) qn = true ∧
    K.lookup cda = some ⟨ccl, cdd, .fields vs, ccs⟩ ∧ vs[2]? = some (.str file tf) ∧ ((prog.main.file : Str) == file) = true ∧ K.lookup cc = some ⟨cl, cld, .cell (some (.ref C)), csl⟩

/-- what __init__ leaves of a fresh exception at x -/
structure BInit (h h' : Heap) (x C dx t1 : Addr) (v : Value) : Prop where
  keep : ∀ b o, b ≠ x → h.get? b = some o → h'.get? b = some o
  obj : h'.get? x = some { cls := .ref C, dict := some dx, data := .fields #[.ref t1, .none, .none, .none, .bool false, .none] }
  dbig : h.objs.size ≤ dx
  dne : dx ≠ x
  ns : h'.Ns1 dx (fun y => if y = "name" then some v else none)
structure BMade (h h' : Heap) (e C d : Addr) (v : Value) : Prop where
  keep : ∀ b o, h.get? b = some o → h'.get? b = some o
  new : h.objs.size ≤ e
  obj : ∃ oe vs, h'.get? e = some oe ∧ oe.cls = .ref C ∧ oe.dict = some d ∧ oe.data = .fields vs ∧ vs[1]? = some .none
  dbig : h.objs.size ≤ d
  dne : d ≠ e
  ns : h'.Ns1 d (fun y => if y = "name" then some v else none)
section
variable {prog : Program} {w : World} {A : Around} {E : Value → Shared → Prop} {R : Result → Shared → Prop} {s : Shared} {K : Frag} {mg mb : Str → Option Value} {C fI : Addr}
/-- a call of ValueError.__init__ bound to x -/
theorem call_mwVE {u x t0 : Addr} {rest : List Value} {Q : Value → Shared → Prop} {nm q : Str} {N : Addr} {bs bm : List Value} {hdct : Bool} {sn : List Str} {sub : List Value} {ab : Bool} {col : Option Bool} {dd : Option Addr} {k0 k1 k2 k3 k5 : Option Value}
    (hC : s.heap.get? C = some (excClassObj nm q C N bs bm hdct sn sub ab col dd k0 k1 k2 k3 k5 "ValueError.__new__")) (he : s.heap.get? x = some (excO C t0)) (hu : s.heap.get? u = some (kxs_mw "ValueError.__init__" x)) (hrest : rest.length ≤ sizeLine)
    (hq : ∀ h' t1, (∀ b o, b ≠ x → s.heap.get? b = some o → h'.get? b = some o) → s.heap.objs.size ≤ h'.objs.size → h'.get? x = some (excO C t1) → Q .none { s with heap := h' }) :
    wpAny (model prog w) A (call (.ref u) rest) Q E s := by
  obtain ⟨hh, g, d, tk, os⟩ := s
  have FB := F.excBase_ValueError
  refine wpAny_call (codeAny_of_tree ?_)
  show wpAny _ A.in1 (callAny (.ref u) ⟨rest, []⟩) _ _ _
  simp only [callAny]
  refine wpAny_bind (wpAny_load hu ?_)
  simp only [kxs_mw, show (Value.type "method-wrapper" == Value.type "method" || Value.type "method-wrapper" == Value.type "builtin_function_or_method" || Value.type "method-wrapper" == Value.type "method-wrapper") = true by decide, if_true]
  refine KFB.if_so (by decide) ?_
  refine wpAny_bind (check_bound_init FB.toExcCallFacts hC he rfl ?_)
  refine wpAny_bind (wpAny_pure (wpAny_pure ?_))
  refine ⟨plainId_quiet FB.init.plain _, codeAny_builtin FB.initEntry ?_⟩
  rw [Around.under_plainId FB.init.plain _]
  wp_walk
  refine hq _ hh.objs.size (fun b o hb ho => ?_) ?_ ?_
  · rw [Heap.get?_update_other _ _ (Ne.symm hb)]
    exact Heap.get?_push_of_some _ ho
  · first
      | (rw [Heap.size_update, Heap.size_push]; exact Nat.le_succ _)
      | (simp [Heap.update, Heap.push])
      | skip
  · rw [Heap.get?_update_self _ (Heap.get?_push_of_some _ he) rfl]
    rfl
theorem kept_x {K : Frag} {h h' : Heap} {x : Addr} (X : K.In h) (hx : K.lookup x = none) (k : ∀ b o, b ≠ x → h.get? b = some o → h'.get? b = some o) : K.In h' := fun a o e =>
  k a o (fun z => by rw [z, hx] at e; cases e) (X a o e)
theorem bad_init (T : BadTxt prog K mg C fI) {x t0 : Addr} {nm : Str} {tn : Tok} (X : K.In s.heap) (hlim : s.heap.NoLimit) (hg : s.heap.Ns mainGlobals mg) (hb : s.heap.Ns builtinsNs mb) (hbs : mb "super" = some (.type "super"))
    (hx : s.heap.get? x = some (excO C t0)) (hnx : K.lookup x = none) (hl : nm.length ≤ 1000) (hroom : A.depth < recursionLimit)
    (hq : ∀ h' tk dx t1 tn', BInit s.heap h' x C dx t1 (.str nm tn') → R (.ok (.ret .none)) { s with heap := h', toks := tk }) :
    codeAny (model prog w) A (.call (.ref fI) ⟨[.ref x, .str nm tn], []⟩) R s := by
  obtain ⟨oc, od, doc, pm, an, cc, cda, ct, osl, qn, ccl, cdd, vs, ccs, file, tf, cl, cld, csl, ho, hcd, hcode, hvs, hfile, hcell⟩ := T.fn
  obtain ⟨nmC, q, N, bs, bm, sn, sub, ab, col, dd, k0, k1, k2, k3, k5, hC, hbm⟩ := T.cls
  have hcl : clsIn K C = some { name := nmC, bases := bs, mro := .ref C :: bm, ns := N, qualname := q, hasDict := true, slotNames := sn, subclasses := sub, abstract := ab, collection := col, hasDel := false } := by unfold clsIn; rw [hC] <;> rfl
  have hD2 : (excClassObj nmC q C N bs bm true sn sub ab col dd k0 k1 k2 k3 k5 "ValueError.__new__").data = .cls { name := nmC, bases := bs, mro := .ref C :: bm, ns := N, qualname := q, hasDict := true, slotNames := sn, subclasses := sub, abstract := ab, collection := col, hasDel := false } := rfl
  have xC : x ≠ C := fun z => by rw [z, hC] at hnx; cases hnx
  have xne : ∀ {b : Addr} {o : Obj}, K.lookup b = some o → b ≠ x := fun {b o} e z => by rw [z, hnx] at e; cases e
  refine ks_codeAny_call_defAt (fd := ksFn "__init__" qn bA bB bS .none .none doc pm an (.ref cda) ct cc) (body := bB) (binds := [("self", .ref x), ("name", .str nm tn)]) hroom (X _ _ ho) rfl hlim (codeRec_of X hcd) rfl
    (BindsTo.of_eq (by first | rfl | with_unfolding_all rfl)) (by show ∀ y ∈ bS.names, y.2 ≠ .cell; decide) (fun y hy => ?_) (fun h₀ hns hk => ?_) rfl rfl rfl
  · show bS.names.lookup y.1 = some .local
    rcases List.mem_cons.mp hy with rfl | hy
    · rfl
    · rcases List.mem_cons.mp hy with rfl | hy
      · rfl
      · cases hy
  obtain ⟨hp, g, d, t, os⟩ := s
  dsimp only at X hlim hg hb hx hns hk ⊢
  have hns' : h₀.Ns hp.objs.size (fun y => ([("self", Value.ref x), ("name", Value.str nm tn)] : List (Str × Value)).reverse.lookup y) := hns
  have X₀ : K.In h₀ := X.keeps hk
  have hx₀ := hk _ _ hx
  have Lx : hp.objs.size ≠ x := Nat.ne_of_gt (Heap.lt_size hx)
  have hsub := hns.lt
  -- super().__init__("bad argument: " + name)
  refine ks_wpAt_execs_cons ?_
  refine ks_wpAt_Expr_any ?_
  refine ks_wpAt_MethodCall ?_
  refine ks_wpAt_super_base (fd := ksFn "__init__" qn bA bB bS .none .none doc pm an (.ref cda) ct cc) rfl rfl (by decide) rfl (X₀ _ _ ho) rfl rfl rfl (X₀ _ _ hcode) rfl hvs hfile T.top ?_
  refine ks_loadName_global rfl rfl (loadGlobal_builtin (hg.keeps hk) T.noS (hb.keeps hk) hbs ⟨rfl, ?_⟩)
  refine wpAny_loadName_free rfl rfl rfl ⟨_, X₀ _ _ hcell, rfl⟩ ?_
  refine wpAny_loadName_local rfl rfl hns' rfl ?_
  refine ks_wpAny_isType_cls (X₀ _ _ hC) hD2 ⟨rfl, ?_⟩
  refine ks_wpAny_call_super (X₀ _ _ hC) hD2 hx₀ rfl (fun c e => by cases e) (looks_mroIn X₀ T.selfC) (fun h1 e1 k1 => ?_)
  have X1 : K.In h1 := X₀.keeps k1
  have hx1 := k1 _ _ hx₀
  have I1 : InstAt h1 x (excO C t0) C none := ⟨hx1, rfl, rfl, trivial⟩
  have ns1 := hns'.keeps k1
  have hsup := T.sup
  unfold ks_superIn at hsup
  rw [hcl] at hsup
  refine kxs_getMethod kxs_ValueError e1 (looks_opaque X1 T.tp) (l₀ := .ref C :: bm) ?hm rfl X1 hsup (I1.type.andThen (looks_subIn X1 T.veC)) xC (by decide) ?_
  case hm => exact fun A Q E s k q => wpAny_bind ((looks_clsIn X1 hcl) A _ E s k (wpAny_pure q))
  have hu : (h1.push (kxs_mw "ValueError.__init__" x)).get? h1.objs.size = some (kxs_mw "ValueError.__init__" x) := Heap.get?_push_at rfl rfl
  have k2 : ∀ b o, h1.get? b = some o → (h1.push (kxs_mw "ValueError.__init__" x)).get? b = some o := fun b o e => Heap.get?_push_of_some _ e
  refine wpAny_mono (Q := fun v s' => ∃ tt, v = .none ∧ ∃ h' t1, s' = ⟨h', g, d, tt, os⟩ ∧ (∀ b o, b ≠ x → h1.get? b = some o → h'.get? b = some o) ∧ h1.objs.size ≤ h'.objs.size ∧ h'.get? x = some (excO C t1)) (E := fun _ _ => False) ?_ (fun v s' hv => ?_) (fun _ _ z => z.elim)
  · refine kxs_callWith (i := "ValueError.__init__") (x := x) rfl ?_
    refine evalArgs_plain (spliced_cons ?_)
    refine wpAny_BinOp (wpAny_Constant_str (wpAny_Name (wpAny_loadName_local rfl rfl (ns1.keeps k2) rfl ?_) (by decide)))
    refine add_str (fun t' tk => spliced_nil ?_) ?_
    · refine ⟨hu, call_mwVE (s := ⟨h1.push (kxs_mw "ValueError.__init__" x), g, d, _, os⟩) (X1.keeps k2 _ _ hC) (k2 _ _ hx1) hu (by rw [sizeLine_eq]; exact (by decide : 1 ≤ 16777216)) fun h' t1 kk sz hx' => ?_⟩
      exact ⟨_, rfl, h', t1, rfl, fun b o hb e => kk b o hb (k2 b o e), Nat.le_trans (by rw [Heap.size_push]; exact Nat.le_succ _) sz, hx'⟩
    · rw [sizeLine_eq]
      have e14 : (PySem.Str.ofString "bad argument: ").length = 14 := by decide +kernel
      rw [e14]
      omega
  · obtain ⟨tt, rfl, h', t1, rfl, kk, sz, hx'⟩ := hv
    -- self.name = name
    refine ks_wpAt_execs_cons (wpAt_of_wpAny ?_)
    refine plainObj_wpAny_Assign_Attribute ?_
    have Lx1 : hp.objs.size ≠ x := Lx
    have X3 : K.In h' := kept_x X1 hnx kk
    obtain ⟨oL, es, ep, hoL, rL⟩ := ns1
    have ns3 : h'.Ns hp.objs.size (fun y => ([("self", Value.ref x), ("name", Value.str nm tn)] : List (Str × Value)).reverse.lookup y) := ⟨oL, es, ep, kk _ _ Lx hoL, rL⟩
    refine wpAny_Name (wpAny_loadName_local rfl rfl ns3 rfl ?_) (by decide)
    refine wpAny_Name (wpAny_loadName_local rfl rfl ns3 rfl ?_) (by decide)
    refine set_plain X3 (ox := excO C t1) (od := none) ⟨hx', rfl, rfl, trivial⟩ T.sa ?_
    refine exc_osa X3 hx' hcl (show refsVE (.ref C :: bm) = true from hbm) rfl T.noN (fun h4 tk4 dx k4 dn dne hx4 hn4 => ?_)
    refine wpAt_of_wpAny (wpAny_execs_nil (hq h4 tk4 dx t1 tn ⟨fun b o hb e => k4 b o hb (kk b o hb (k1 b o (hk b o e))), hx4, ?_, dne, hn4⟩))
    have z1 : hp.objs.size < h₀.objs.size := hsub
    have z2 : h₀.objs.size ≤ h1.objs.size := Nat.le_of_lt (Heap.lt_size e1)
    exact Nat.le_of_lt (Nat.lt_of_lt_of_le (Nat.lt_of_lt_of_le (Nat.lt_of_lt_of_le z1 z2) sz) dn)
end
end RK
set_option Elab.async false
set_option linter.all false
set_option maxRecDepth 100000
set_option maxHeartbeats 2000000
namespace RK
open PySem PySem.W PySem.Calls PyProof.Rows PySem.HandSPX
section
variable {prog : Program} {w : World} {A : Around} {E : Value → Shared → Prop} {R : Result → Shared → Prop} {s : Shared} {K : Frag} {mg mb : Str → Option Value} {C fI : Addr}
theorem bad_made (T : BadTxt prog K mg C fI) {nm : Str} {tn : Tok} (X : K.In s.heap) (hlim : s.heap.NoLimit) (hg : s.heap.Ns mainGlobals mg) (hb : s.heap.Ns builtinsNs mb) (hbs : mb "super" = some (.type "super")) (hl : nm.length ≤ 1000) (hroom : A.depth + 1 < recursionLimit)
    (hq : ∀ h' tk e d tn', BMade s.heap h' e C d (.str nm tn') → R (.ok (.ret (.ref e))) { s with heap := h', toks := tk }) :
    codeAny (model prog w) A (.call (.ref C) ⟨[.str nm tn], []⟩) R s := by
  obtain ⟨nm', q, N, bs, bm, sn, sub, ab, col, dd, k0, k1, k2, k3, k5, hC, hbm⟩ := T.cls
  obtain ⟨hp, g, dr, tk, os⟩ := s
  have k : ∀ b o, hp.get? b = some o → ((hp.push (kdv_tup [.str nm tn])).push (excO C hp.objs.size)).get? b = some o := fun b o e => Heap.get?_push_of_some _ (Heap.get?_push_of_some _ e)
  have hget : ((hp.push (kdv_tup [.str nm tn])).push (excO C hp.objs.size)).get? (hp.objs.size + 1) = some (excO C hp.objs.size) := by heap_get
  have hnx : K.lookup (hp.objs.size + 1) = none := by
    cases e : K.lookup (hp.objs.size + 1) with
    | none => rfl
    | some o =>
      have z : hp.get? (hp.objs.size + 1) = some o := X _ _ e
      exact absurd (Nat.lt_of_succ_lt (Heap.lt_size z)) (Nat.lt_irrefl _)
  refine call_own F.excBase_ValueError (fun X => refsVE_contains X bm hbm) (X _ _ hC) (looks_findIn X T.iC) (fun self => bind_fn X self T.tC) (by rw [sizeLine_eq]; exact (by decide : 1 ≤ 16777216)) ?_
  refine bad_init (s := ⟨(hp.push (kdv_tup [.str nm tn])).push (excO C hp.objs.size), g, dr, tk, os⟩) T (X.keeps k) (hlim.keeps k) (hg.keeps k) (hb.keeps k) hbs hget hnx hl ?_ fun h' tk' dx t1 tn' ⟨k', hx, dn, dne, hns⟩ => ?_
  · show A.depth + 1 < recursionLimit
    exact hroom
  · have old : ∀ b o, hp.get? b = some o → h'.get? b = some o := fun b o e => k' b o (Nat.ne_of_lt (Nat.lt_succ_of_lt (Heap.lt_size e))) (k b o e)
    have z : hp.objs.size + 1 + 1 ≤ dx := by
      have q := dn
      rw [Heap.size_push, Heap.size_push] at q
      exact q
    exact ⟨rfl, hq h' tk' (hp.objs.size + 1) dx tn' ⟨old, Nat.le_succ _, ⟨_, _, hx, rfl, rfl, rfl, rfl⟩, Nat.le_trans (Nat.le_trans (Nat.le_succ _) (Nat.le_succ _)) z, dne, hns⟩⟩
end
end RK

namespace RK
open PySem PySem.Spec PyProof.Rows L2
theorem relO_bad {v : V} {v' : Value} (r : RelV v v') (f : Str) : RelO (List.lookup f [((fldN : Str), v)]) (if f = "name" then some v' else none) := by
  by_cases hw : f = "name"
  · subst hw
    rw [if_pos rfl]
    have q : List.lookup (PySem.Str.ofString "name") [((fldN : Str), v)] = some v := by simp [List.lookup, fldN]
    rw [q]
    exact r
  · rw [if_neg hw]
    have qw : (f == (fldN : Str)) = false := by simpa [fldN] using hw
    have q2 : List.lookup f [((fldN : Str), v)] = none := by simp [List.lookup, qw]
    rw [q2]
    trivial
section
variable {X : Cx} {C fI : Addr}
/-- BadArgument(e) -/
def tMkBad (C : Addr) (ta : TA) : L2.St → Hp → XK → Prop := fun σ H Q => ta σ H fun vs H1 => ∃ s : Str, vs = [.str s] ∧ s.length ≤ 1000 ∧ ∀ d, H1 d = none → Q (.ref C) (some d) (upd H1 d (.xd [(fldN, .str s)]))
theorem pmk_bad {a : Expr} {ta : TA} {p pos : Pos} {k : Nat} (T : BadTxt X.prog X.K X.mg C fI) (hr : Room (k + 1) X.A) (ha : PA X [a] ta) (hg : Gl X "BadArgument" := by rfl)
    (he : starEach (a :: []) X.env = (false, eval a X.env) :: starEach [] X.env := by rfl) (hpl : (backTo pos (starEach [] X.env)).any (·.1) = false := by rfl) :
    PMk X (.Call (.Name "BadArgument" p) [a] [] pos) (tMkBad C ta) := by
  intro pins s σ H Q I h
  refine wpAny_Call_Name_kw (ld_glob I hg T.gC ?_)
  refine PySem.W.callWith_K (h₀ := X.base) I.ok.mod.kin T.kC (thn (ha.run pos pins s σ H _ I h) fun us s1 hh => ?_) he hpl
  obtain ⟨vs, H1, I1, r1, nm, ev, hl, q1⟩ := hh
  subst ev
  refine ⟨I1.kIn, ?_⟩
  cases r1 with
  | cons rv rn =>
    rename_i v' us'
    cases rn
    obtain ⟨tn, rfl⟩ := rv
    show wpAny _ _ (call (.ref C) [_]) _ _ _
    have hlim := I1.nolimit
    obtain ⟨mb, b1, b2⟩ := I1.mod.blt
    have hsup : mb "super" = some (.type "super") := (b2 "super" (by decide)).trans (by kernel_rfl)
    obtain ⟨hp, g, dr, tk, os⟩ := s1
    refine wpAny_call (bad_made T I1.kIn hlim (I1.mod.glob.keeps I1.bk) (b1.keeps I1.bk) hsup hl (by have := hr.dp; omega) fun h' tk' e d tn' M => ?_)
    show MkP X pins σ Q (.ref e) ⟨h', g, dr, tk', os⟩
    obtain ⟨oe, fv, hoe, hc, hd, hdat, h1⟩ := M.obj
    have hns := M.ns
    obtain ⟨G', g1, g2⟩ := restrict h' fun b => decide (b ≠ e)
    have gk : ∀ b, b ≠ e → G'.get? b = h'.get? b := fun b hb => g1 b (decide_eq_true hb)
    have ge : G'.get? e = none := g2 e (by simp)
    have old : ∀ b o, hp.get? b = some o → G'.get? b = some o := fun b o q => (gk b (Nat.ne_of_lt (Nat.lt_of_lt_of_le (Heap.lt_size q) M.new))).trans (M.keep b o q)
    have ob : ObjOk X.prog X.w (upd H1 d (.xd [(fldN, .str nm)])) G' d (.xd [(fldN, .str nm)]) :=
      ⟨_, hns.at (fun o q => (gk d M.dne).trans q), fun f => relO_bad (v := .str nm) ⟨tn', rfl⟩ f⟩
    have J : Inv X pins σ (upd H1 d (.xd [(fldN, .str nm)])) ⟨G', g, dr, tk', os⟩ := I1.laid (t' := tk') old M.dbig ob
    refine ⟨e, oe, fv, ⟨G', g, dr, tk', os⟩, _, .ref C, some d, rfl, J, fun b o q => ?_, ge, hoe, ⟨hc, hd⟩, hdat, h1, ?_, rfl, I1.bare, raises_own T.exC T.tyC, q1 d (I1.hok.fresh M.dbig)⟩
    · by_cases hb : b = e
      · have q' : G'.get? b = some o := q
        rw [hb, ge] at q'; cases q'
      · exact (gk b hb).symm.trans q
    · rw [upd_ne (Ne.symm M.dne)]
      exact I1.hok.fresh M.new
/-- raise BadArgument(e) -/
def mRaise (a : ME) : MS := fun ρ => match a ρ with
  | .ok (.str s) _ => if s.length ≤ 1000 then .raise s else .fail
  | .raise s => .raise s
  | _ => .fail
theorem Rx.xd {T : Tabl} {c : Cfg} {H : Hp} {d : Addr} {fs : List (Str × V)} (r : Rx T c H) (n : H d = none) : Rx T c (upd H d (.xd fs)) := r.grow (Grow.new r.good n)
theorem ds_raise {T : Tabl} {E : XK} {a : Expr} {ma : ME} {p pos pos2 : Pos} {k : Nat} (hc : X.calm = true) (Tx : BadTxt X.prog X.K X.mg C fI) (hr : Room (k + 1) X.A) (tk : Takes X fun cls d _ H => E cls d H) (ha : DE X T C E a ma) (hg : Gl X "BadArgument" := by rfl)
    (he : starEach (a :: []) X.env = (false, eval a X.env) :: starEach [] X.env := by rfl) (hpl : (backTo pos (starEach [] X.env)).any (·.1) = false := by rfl) :
    DS X T C E (.Raise (some (.Call (.Name "BadArgument" p) [a] [] pos)) none pos2) (mRaise ma) := by
  obtain ⟨t, h1, h2⟩ := ha.ex
  refine ⟨_, ps_raise hc tk (pmk_bad Tx hr (pa_cons h1 pa_nil he) hg he hpl), ⟨fun c σ H ρ Γ Z r hn hrt hro hb hct hx hf => ?_⟩⟩
  unfold mRaise at hx hf
  refine h2.run c σ H ρ Γ _ r (fun x ρ1 v H1 e1 r1 => ?_) (fun nm e1 => ?_) fun e1 => ?_
  · rw [e1] at hx hf
    cases x with
    | str s =>
      obtain ⟨L, hi, _⟩ := r1.imm
      have ev := hi.1
      unfold Rep at ev
      by_cases hl : s.length ≤ 1000
      · simp only [hl, if_true] at hx
        refine ⟨s, by rw [ev], hl, fun d hd => hx s rfl d _ (Rx.xd r1.rx hd) upd_same⟩
      · simp only [hl, if_false] at hf; exact absurd rfl hf
    | _ => exact absurd rfl hf
  · rw [e1] at hx; exact hx nm rfl
  · rw [e1] at hf; exact hf rfl
end
end RK
set_option Elab.async false
set_option linter.all false
set_option maxRecDepth 100000
set_option maxHeartbeats 2000000
/-! RkR: _law_refused(lambda: ..). -/
namespace RK
open PySem PySem.Spec PyProof.Rows L2 LamX
/-! ### a lambda made: only the table at P is written -/
def OnlyTab (P : Addr) (H H1 : Hp) : Prop := ∀ b o, H b = some o → b ≠ P → H1 b = some o
section
variable {X : Cx} {pins : List (Addr × Obj)} {σ : L2.St} {H : Hp} {s : Shared}
theorem mk_lam {c P : Addr} {params : Arguments} {body : Expr} {scope : Scope} {pos : Pos} {E : Value → Shared → Prop} {Q : Value → Shared → Prop} {q : Str} (I : Inv X pins σ H s) (TB : LamX.TabB X.base X.mg c P) (hcode : X.env.code = .ref c)
    (hq : X.env.qual ++ "<lambda>" = q) (hT : TabS H P q) (hdef : defaultsOf params X.env = ([], [])) (hfree : ∀ y ∈ scope.names, y.2 = .free → ∃ c, X.env.cells.lookup y.1 = some c)
    (h : ∀ (f c' : Addr) (pm ctv : Value) (H1 : Hp) (s' : Shared), Inv X pins σ H1 s' → OnlyTab P H H1 → TabS H1 P q →
      s'.heap.get? f = some (PySem.W.kla_obj "<lambda>" q params body scope (cloFrom X.env.cells scope.names []) pm c' ctv) → H1 f = none → f ∉ frs X.stack → H1 c' = some (CodeO c' q) → Q (.ref f) s') :
    wpAny (model X.prog X.w) X.A (eval (.Lambda params body scope pos) X.env) Q E s := by
  subst hq
  obtain ⟨ps, hP, ht, ha⟩ := hT
  have hob : s.heap.get? P = some { cls := .none, data := .fields ps } := I.hok P _ hP
  have hbi := TB.bm.keeps I.bk
  have far : ∀ f, s.heap.objs.size ≤ f → f ∉ frs X.stack := fun f hf z => by
    rcases List.mem_cons.mp (I.stkSub _ z) with e | e
    · have lt := I.lt
      rw [e] at hf
      exact absurd lt (Nat.not_lt.mpr hf)
    · exact I.nofs hf e
  refine PySem.W.kla_eval hdef ?_
  by_cases hc : ∃ cv, codeAmong pos ps.toList = some cv
  · obtain ⟨cv, hc⟩ := hc
    obtain ⟨c', rfl, hco⟩ := ha pos cv hc
    refine PySem.W.kla_makeFunctionHit (mg := X.mg) (c := c) (P := P) (ps := ps) (closure_ok hfree) I.ok.glob (I.mod.glob.keeps I.bk) hcode (TB.code.keeps I.bk) hob ht hc hbi fun ctv h' tk hx hsz => ?_
    exact h _ c' _ ctv H _ (I.kept (t' := tk) fun b o e => Heap.get?_push_of_some _ (hx b o e)) (fun b o e _ => e) ⟨ps, hP, ht, ha⟩ (Heap.get?_push_size _ rfl) (I.hok.fresh hsz) (far _ hsz) hco
  · have hn : codeAmong pos ps.toList = none := by
      cases e : codeAmong pos ps.toList with
      | none => rfl
      | some cv => exact absurd ⟨cv, e⟩ hc
    refine PySem.W.kla_makeFunction (mg := X.mg) (c := c) (P := P) (ps := ps) (closure_ok hfree) I.ok.glob (I.mod.glob.keeps I.bk) hcode (TB.code.keeps I.bk) hob ht hn TB.gP hbi fun c' ctv h' tk hx hge hlt hrec htb => ?_
    obtain ⟨c2, oc, vs, t, e2, hoc, hd, hv⟩ := hrec
    cases e2
    have new : H c' = none := I.hok.fresh hge
    have nPc : P ≠ c' := ne_of_none hP new
    have big : s.heap.objs.size ≤ h'.objs.size := by omega
    have J := inv_table (t' := tk) (more := #[rawInt pos.line, rawInt pos.col, .ref c']) (h' := h'.push (PySem.W.kla_obj "<lambda>" (X.env.qual ++ "<lambda>") params body scope (cloFrom X.env.cells scope.names []) ((X.mg "__name__").getD .none) c' ctv)) I hP
      (fun b o hb e => Heap.get?_push_of_some _ (hx b o hb e)) (Heap.get?_push_of_some _ htb) hge ⟨oc, vs, t, Heap.get?_push_of_some _ hoc, hd, hv⟩
    have only : OnlyTab P H (upd (upd H P (.tbl (ps ++ #[rawInt pos.line, rawInt pos.col, .ref c']))) c' (CodeO c' (X.env.qual ++ "<lambda>"))) := fun b o e n => by
      rw [upd_ne (ne_of_none e new), upd_ne n]
      exact e
    refine h _ c' _ ctv _ _ J only ⟨_, (upd_ne nPc).trans upd_same, ?_, fun p' cv hcv => ?_⟩ (Heap.get?_push_size _ rfl) ?_ (far _ big) upd_same
    · rw [Array.toList_append]
      exact PySem.TriplesOk_snoc _ _ _ _ ht
    · rw [Array.toList_append] at hcv
      rcases among_app _ ht hcv with z | z
      · obtain ⟨c0, e1, e2⟩ := ha p' cv z
        exact ⟨c0, e1, only _ _ e2 fun e => by rw [e, hP] at e2; exact codeO_ne _ (Option.some.inj e2).symm⟩
      · exact ⟨c', z, upd_same⟩
    · have n1 : h'.objs.size ≠ c' := Nat.ne_of_gt hlt
      have n2 : h'.objs.size ≠ P := Nat.ne_of_gt (Nat.lt_of_lt_of_le (Heap.lt_size hob) big)
      rw [upd_ne n1, upd_ne n2]
      exact I.hok.fresh big
end
/-! ### the def _law_refused -/
def refB (p1 p2 p3 p4 p5 p6 p7 p8 p9 p10 p11 : Pos) : List Stmt :=
  [.Try [.Expr (.Call (.Name "call" p1) [] [] p2) p3] [.ExceptHandler (some (.Name "BadArgument" p4)) (some "e") [.Return (some (.Attribute (.Name "e" p5) "name" p6)) p7] p8] [] [] p9,
   .Return (some (.Constant (.str "") 0 p10)) p11]
abbrev refN : List Str := ["call", "e"]
def refS : Scope := { kind := .function, names := [(PySem.Str.ofString "call", .local), (PySem.Str.ofString "e", .local), (PySem.Str.ofString "BadArgument", .globalImplicit)], isGenerator := false, isCoroutine := false, more := [] }
/-- what a refusal's way out is -/
def refE (C : Addr) (Q : VK) : XK := fun cls d H' => cls = .ref C ∧ ∃ (dd : Addr) (nm : Str), d = some dd ∧ H' dd = some (.xd [(fldN, .str nm)]) ∧ Q (.str nm) H'
def TRef (C : Addr) : (XK → Hp → VK → Prop) → Hp → VK → Prop := fun tl H Q => tl (refE C Q) H fun _ H' => Q (.str "") H'
section
variable {X : Cx} {C fI : Addr}
theorem ref_gives {q : Str} {g : Addr} {cdg : Value} {p1 p2 p3 p4 p5 p6 p7 p8 p9 p10 p11 : Pos} (Tx : BadTxt X.prog X.K X.mg C fI) (xf : XfC X.K C) :
    GivesTo X refN "_law_refused" refS g cdg (refB p1 p2 p3 p4 p5 p6 p7 p8 p9 p10 p11) "call" q (TRef C) := by
  intro f c' s H Q tl act hc h
  refine ⟨tSeq _ (tRet (tC (.str ""))), pss_cons (ps_try_as (X := (cxOf C8.CX0 X.prog X.w X.K X.mg X.base refN "_law_refused" refS g cdg X.A X.stack s H C8.E0).nox) (i := 1) (c := .ref C)
      (tb := fun W D σ H => ∃ Ech : XK, (∀ cls d σ' H', σ'.length = 2 → Ech cls d H' → W cls d σ' H') ∧ σ[0]? = some (some (.ref f)) ∧ H c' = some (CodeO c' q) ∧ tl Ech H fun _ H' => D.nx σ H')
      (ts := fun a cls d => tRet (tXf a cls d C "name" (tVar 1))) (Wout := fun _ _ _ _ => False)
      rfl rfl (show refN.Nodup by decide) rfl rfl ⟨rfl, by decide, .inl Tx.gC⟩ L2.takes0 (fun W pn xe tk _ => ?_) (fun a oe cls d pn hz hf => pss_one (ps_ret (pe_xf xf Tx.noN hz hf (pe_var (i := 1) rfl (Or.inl rfl)))))) (pss_one (ps_ret pe_str)), ?_⟩
  · refine ⟨fun pins s' σ H' D I h' => ?_⟩
    obtain ⟨Ech, hW, h1, h2, h3⟩ := h'
    have tk2 : Takes ((cxOf C8.CX0 X.prog X.w X.K X.mg X.base refN "_law_refused" refS g cdg X.A X.stack s H C8.E0).tr pn xe) fun cls d σ H => σ.length = 2 → W cls d σ H := fun u s' ⟨a, B, sI, pins, σ, H, cls, d, e, I, nb, up, sky, na, os, ag, w⟩ =>
      tk u s' ⟨a, B, sI, pins, σ, H, cls, d, e, I, nb, up, sky, na, os, ag, w I.len⟩
    have hp := act (fun cls d σ H => σ.length = 2 → W cls d σ H) pn xe Ech p1 p2 tk2 fun cls d σ' H' e l => hW cls d σ' H' l e
    exact (pss_one (ps_expr (pos := p3) hp)).run pins s' σ H' D I ⟨h1, h2, h3⟩
  · refine ⟨refE C Q, fun cls d σ' H' hl e => ?_, rfl, hc, h⟩
    obtain ⟨rfl, dd, nm, rfl, hx, hQ⟩ := e
    refine ⟨true, Tx.te, fun _ a na => ?_, fun z => Bool.noConfusion z⟩
    refine ⟨.ref a, ?_, rfl, rfl, dd, _, .str nm, rfl, hx, by simp [List.lookup], hQ⟩
    rw [List.getElem?_set_self (by omega)]
end
/-! ### _law_refused(lambda: body) -/
/-- what the written part says of _law_refused -/
structure RefT (prog : Program) (K : PySem.W.Frag) (mg : Str → Option Value) (C fI : Addr) : Prop where
  bad : BadTxt prog K mg C fI
  xf : XfC K C
  fn : ∃ (g : Addr) (oc : Value) (od : Option Addr) (dV kV doc pm cdv ct : Value) (an : Option Addr) (osl : Array (Option Value)) (pg : Arguments) (p1 p2 p3 p4 p5 p6 p7 p8 p9 p10 p11 : Pos), mg "_law_refused" = some (.ref g) ∧ PySem.W.keepIn K (.ref g) = true ∧
    K.lookup g = some ⟨oc, od, .func (PySem.W.fnOf "_law_refused" "_law_refused" pg (refB p1 p2 p3 p4 p5 p6 p7 p8 p9 p10 p11) refS dV kV doc pm an cdv ct), osl⟩ ∧ PySem.W.codeIn K cdv "_law_refused" = true ∧
    L2.Binds K (PySem.W.fnOf "_law_refused" "_law_refused" pg (refB p1 p2 p3 p4 p5 p6 p7 p8 p9 p10 p11) refS dV kV doc pm an cdv ct) ["call"] []
def tRefd (P C : Addr) (q : Str) (t : XK → TE) : TE := fun σ H Q => TabS H P q ∧ ∀ H1, OnlyTab P H H1 → TabS H1 P q → t (refE C Q) σ H1 fun _ H' => Q (.str "") H'
section
variable {X : Cx} {C fI : Addr}
theorem refScope : FnScope refN ["call"] refS := ⟨rfl, rfl, rfl, by decide +kernel, rfl, by decide +kernel, by decide +kernel⟩
theorem pe_refd {c P : Addr} {k : Nat} {params : Arguments} {body : Expr} {scope : Scope} {t : XK → TE} {p lpos pos : Pos} {q : Str} (Tx : RefT X.prog X.K X.mg C fI) (hg : Gl X "_law_refused")
    (TB : LamX.TabB X.base X.mg c P) (hcode : X.env.code = .ref c) (hq : X.env.qual ++ "<lambda>" = q) (hr : Room (k + 2) X.A) (L : LamS X.env.scope scope) (hdef : defaultsOf params X.env = ([], []))
    (hbind : ∀ (q : Str) (cl : List (Str × Addr)) (pm cv ctv : Value), bindArgs (PySem.W.kla_fn "<lambda>" q params body scope cl pm cv ctv) ⟨[], []⟩ = pure [])
    (hbody : ∀ (A : Around) (outer : List PySem.Env) (s : Shared) (H : Hp) (E : XK) (f c' : Addr), Room k (A.deeper (lamEnv X scope s.heap.objs.size f c')) → PE (lamCx X A outer s H E scope f c') body (t E)) :
    PE X (.Call (.Name "_law_refused" p) [.Lambda params body scope lpos] [] pos) (tRefd P C q t) := by
  obtain ⟨g, oc, od, dV, kV, doc, pm, cdv, ct, an, osl, pg, p1, p2, p3, p4, p5, p6, p7, p8, p9, p10, p11, gx, kp, lk, cd, bd⟩ := Tx.fn
  refine ⟨fun pins s σ H Q I h => ?_⟩
  obtain ⟨hT, h⟩ := h
  refine wpAny_Call_Name_kw (ld_glob I hg gx ?_ (by decide))
  refine PySem.W.callWith_K (h₀ := X.base) I.ok.mod.kin kp ?_ rfl rfl
  refine Calls.spliced_cons (x := eval (.Lambda params body scope lpos) X.env) (rest := backTo pos (starEach [] X.env)) (mk_lam I TB hcode hq hT hdef (L.has I.ok) fun f c' pm' ctv H1 s' I1 only T1 hf hfn hfr hco => ?_)
  subst hq
  refine Calls.spliced_nil ⟨I1.kIn, wpAny_call (codeAny_mono (R := CR C8.CX0 X.stack X.prog X.w H1 s' Q C8.E0) ?_ fun r s2 hq => ?_)⟩
  · refine run_ofS (N := refN) (ps := ["call"]) (us := [.ref f]) (vs := [.ref f]) lk cd refScope hr I1.env0 (bd s' [.ref f] I1.kIn rfl) (.cons rfl .nil) rfl fun hr' => ?_
    obtain ⟨t', ht, hq⟩ := ref_gives (X := X) (q := X.env.qual ++ "<lambda>") (g := g) (cdg := cdv) (p1 := p1) (p2 := p2) (p3 := p3) (p4 := p4) (p5 := p5) (p6 := p6) (p7 := p7) (p8 := p8) (p9 := p9) (p10 := p10) (p11 := p11) Tx.bad Tx.xf f c' s' H1 Q (fun E H' Q' => t E σ H' Q')
      (fun W pn xe E p1 p2 tk hW => pe_act (i := 0) I1 L hf hfn hfr (hbind _ _ _ _ _) tk hW hr' (fun A outer s H hr2 => hbody A outer s H E f c' hr2) rfl (Or.inl rfl)) hco (h H1 only T1)
    exact ⟨t', ht.nox, hq⟩
  · cases r with
    | error e => exact (show False from hq).elim
    | ok fl =>
      cases fl with
      | ret u => exact I1.after hq
      | _ => exact False.elim hq
def hideE (ρ : Env) : Env := ρ.map fun | .im d => .im d | _ => .em
def mRef (m : ME) : ME := fun ρ => match m (hideE ρ) with
  | .ok _ _ => .ok (.str "") ρ
  | .raise s => .ok (.str s) ρ
  | .fail => .fail
theorem Gd.onlyTab {T : Tabl} {H H1 : Hp} {P : Addr} {q : Str} (g : Gd T H) (o : OnlyTab P H H1) (t0 : TabS H P q) (t : TabS H1 P q) (hu : ∀ p ∈ T.lam, p.1 = P → p.2 = q) (hP : P ∉ T.gen) : Grow T H H1 := by
  obtain ⟨ps, h1, _⟩ := t0
  have ne : ∀ a u, H a = some u → Nt u → a ≠ P := fun a u e n z => by
    rw [z, h1] at e; cases e; exact n _ rfl
  refine ⟨fun a u e n => o a u e (ne a u e n), fun a h => ?_, ⟨fun p hp => ?_, fun P' hP' => ?_⟩⟩
  · by_cases e : a = P
    · obtain ⟨qs, q1, _⟩ := t
      rw [e, q1]; simp
    · cases hh : H a with
      | none => exact absurd hh h
      | some u => rw [o a u hh e]; simp
  · by_cases e : p.1 = P
    · rw [hu p hp e, e]; exact t
    · obtain ⟨qs, q1, q2, q3⟩ := g.lam p hp
      refine ⟨qs, o _ _ q1 e, q2, fun pos cv hc => ?_⟩
      obtain ⟨c0, e1, e2⟩ := q3 pos cv hc
      exact ⟨c0, e1, o _ _ e2 (ne c0 _ e2 fun ps => codeO_ne ps)⟩
  · obtain ⟨qs, q1, q2⟩ := g.gen P' hP'
    exact ⟨qs, o _ _ q1 fun e => hP (e ▸ hP'), q2⟩
theorem hide_get {ρ : Env} {i : Nat} {s : Sl} (h : (hideE ρ)[i]? = some s) : s = .em ∨ ∃ d, s = .im d ∧ ρ[i]? = some (.im d) := by
  unfold hideE at h
  rw [List.getElem?_map] at h
  cases e : ρ[i]? with
  | none => rw [e] at h; cases h
  | some x =>
    rw [e] at h
    cases x with
    | im d => exact .inr ⟨d, (Option.some.inj h).symm, rfl⟩
    | em => exact .inl (Option.some.inj h).symm
    | ow d => exact .inl (Option.some.inj h).symm
    | pw d => exact .inl (Option.some.inj h).symm
theorem RlW.hide {K : PySem.W.Frag} {T : Tabl} {c : Cfg} {σ : L2.St} {H : Hp} {ρ : Env} {Γ : Gam} {W : WM} (r : RlW K T c σ H ρ Γ W) : Rl K T ⟨Lx c W, fun _ => False, H, 0⟩ σ H (hideE ρ) [] := by
  refine ⟨fun _ => none, ?_, fun i s h => ?_, trivial, fun _ _ _ h _ => h, fun _ h => h, fun _ h => absurd rfl h, fun _ h => absurd rfl h, r.liveL, fun _ h => absurd rfl h, r.good⟩
  · unfold hideE; rw [List.length_map]; exact r.len
  · rcases hide_get h with rfl | ⟨d, rfl, e⟩
    · trivial
    · obtain ⟨v, ev, rv⟩ := r.sl i _ e
      exact ⟨v, ev, Rep.step (L := Lx c W) ⟨fun _ _ _ h _ => h, fun a q => q.elim .inl fun z => absurd rfl z⟩ d v rv⟩
theorem ev_refd {T : Tabl} {B : Addr} {E : XK} {P : Addr} {q : Str} {m : ME} (hP : (P, q) ∈ T.lam) (hu : ∀ p ∈ T.lam, p.1 = P → p.2 = q) (hG : P ∉ T.gen) : EvD X T B E (tRefd P C q fun E' => tMir X.K T C E' m) (mRef m) := ⟨fun c σ H ρ Γ Q r0 hq hx hf => by
  refine ⟨r0.good.lam (P, q) hP, fun H1 only T1 => ?_⟩
  have g1 := r0.good.onlyTab only (r0.good.lam (P, q) hP) T1 hu hG
  have r1 := r0.grow g1
  obtain ⟨W, rw1⟩ := id r1
  have hI : ∀ a : Addr, ¬ (⟨Lx c W, fun _ => False, H1, 0⟩ : Cfg).I a := fun a z => z
  refine ⟨_, _, [], rw1.hide, fun d ρ' v H' e rr => ?_, fun nm e => ?_, fun e => ?_⟩
  · have g := rr.grown hI
    refine hq (.str "") ρ _ H' ?_ ((r1.grow g).add fun L _ => scl_str _ _ _ _)
    unfold mRef
    rw [e]
  · refine fun dd H' rx hxd => ⟨rfl, dd, nm, rfl, hxd, ?_⟩
    have g : Grow T H1 H' := ⟨fun a o h n => rx.keep a o (hI a) h n, rx.there, rx.good⟩
    refine hq (.str nm) ρ _ H' ?_ ((r1.grow g).add fun L _ => scl_str _ _ _ _)
    unfold mRef
    rw [e]
  · refine hf ?_
    unfold mRef
    rw [e]⟩
/-- _law_refused(lambda: body) -/
theorem de_refused {T : Tabl} {B : Addr} {E : XK} {c P : Addr} {k : Nat} {params : Arguments} {body : Expr} {scope : Scope} {m : ME} {p lpos pos : Pos} (q : Str) (Tx : RefT X.prog X.K X.mg C fI)
    (TB : LamX.TabB X.base X.mg c P) (hcode : X.env.code = .ref c) (hP : (P, q) ∈ T.lam) (hu : ∀ p ∈ T.lam, p.1 = P → p.2 = q) (hG : P ∉ T.gen) (hr : Room (k + 2) X.A)
    (hbody : ∀ (A : Around) (outer : List PySem.Env) (s : Shared) (H : Hp) (E : XK) (f c' : Addr), Room k (A.deeper (lamEnv X scope s.heap.objs.size f c')) → DE (lamCx X A outer s H E scope f c') T C E body m)
    (hq : X.env.qual ++ "<lambda>" = q := by rfl) (L : lamSB X.env.scope scope = true := by kernel_rfl) (hg : Gl X "_law_refused" := by rfl) (hdef : defaultsOf params X.env = ([], []) := by rfl)
    (hbind : ∀ (q : Str) (cl : List (Str × Addr)) (pm cv ctv : Value), bindArgs (PySem.W.kla_fn "<lambda>" q params body scope cl pm cv ctv) ⟨[], []⟩ = pure [] := by intros; rfl) :
    DE X T B E (.Call (.Name "_law_refused" p) [.Lambda params body scope lpos] [] pos) (mRef m) :=
  ⟨_, pe_refd Tx hg TB hcode hq hr (lamS_by L) hdef hbind fun A outer s H E f c' hr2 => (hbody A outer s H E f c' hr2).mir, ev_refd hP hu hG⟩
end
end RK
set_option Elab.async false
set_option linter.all false
set_option maxRecDepth 100000
set_option maxHeartbeats 2000000
/-! RkS: sequences of either kind; list.index; what ends a law. -/
namespace RK
open PySem PySem.Spec PyProof.Rows L2 RZ
theorem room65 {k : Nat} {A : Around} (r : Room k A) : A.units + 65 < cLine := by have := r.un; omega
theorem pi_or {X : Cx} {tg e : Expr} {w w' : TI} (h : PI X tg e w) (h' : PI X tg e w') : PI X tg e (fun σ H R => w σ H R ∨ w' σ H R) :=
  ⟨fun pins s σ H R I q => q.elim (h.run pins s σ H R I) (h'.run pins s σ H R I)⟩
theorem pe_or {X : Cx} {e : Expr} {t t' : TE} (h : PE X e t) (h' : PE X e t') : PE X e (fun σ H Q => t σ H Q ∨ t' σ H Q) :=
  ⟨fun pins s σ H Q I q => q.elim (h.run pins s σ H Q I) (h'.run pins s σ H Q I)⟩
def mIt (a : ME) : MA := fun ρ => match a ρ with
  | .ok (.lst ds) ρ1 => .ok ds ρ1
  | .ok (.tup ds) ρ1 => .ok ds ρ1
  | .raise s => .raise s
  | _ => .fail
section
variable {X : Cx} {T : Tabl} {B : Addr} {E : XK} {ma mb mk ml mh mv : ME} {mt mu : MB} {mr mi : MA} {pos p : Pos} {a b e e2 e3 tg : Expr} {es : List Expr}
theorem evi_or {w w' : TI} (h : EvI X T B E w (mItL ma)) (h' : EvI X T B E w' (mItT ma)) : EvI X T B E (fun σ H R => w σ H R ∨ w' σ H R) (mIt ma) := ⟨fun c σ H ρ Γ R r0 hq hx hf => by
  unfold mIt at hq hx hf
  cases e : ma ρ with
  | ok d ρ1 =>
    rw [e] at hq hx hf
    cases d with
    | lst ds =>
      refine .inl (h.run c σ H ρ Γ R r0 (fun ds' ρ' J H' G e1 => ?_) (fun nm e1 => ?_) fun e1 => ?_)
      · unfold mItL at e1; rw [e] at e1; cases e1; exact hq ds ρ1 J H' G rfl
      · unfold mItL at e1; rw [e] at e1; cases e1
      · unfold mItL at e1; rw [e] at e1; cases e1
    | tup ds =>
      refine .inr (h'.run c σ H ρ Γ R r0 (fun ds' ρ' J H' G e1 => ?_) (fun nm e1 => ?_) fun e1 => ?_)
      · unfold mItT at e1; rw [e] at e1; cases e1; exact hq ds ρ1 J H' G rfl
      · unfold mItT at e1; rw [e] at e1; cases e1
      · unfold mItT at e1; rw [e] at e1; cases e1
    | _ => exact absurd rfl hf
  | raise s =>
    rw [e] at hx
    refine .inl (h.run c σ H ρ Γ R r0 (fun ds' ρ' J H' G e1 => ?_) (fun nm e1 => ?_) fun e1 => ?_)
    · unfold mItL at e1; rw [e] at e1; cases e1
    · unfold mItL at e1; rw [e] at e1; cases e1; exact hx s rfl
    · unfold mItL at e1; rw [e] at e1; cases e1
  | fail => rw [e] at hf; exact absurd rfl hf⟩
/-- a list or a tuple, walked -/
theorem di_seq (h : DE X T B E e ma) : DI X T B E tg e (mIt ma) := by
  obtain ⟨t, h1, h2⟩ := h.ex
  exact ⟨_, pi_or (pi_list h1) (pi_tup h1), evi_or (evi_list h2) (evi_tup h2)⟩
def dSl (x : D) (lo hi : Option Int) : Option D := match x with
  | .tup ds => some (.tup (cutL ds lo hi))
  | .lst ds => some (.lst (cutL ds lo hi))
  | .scr ns => some (.lst ((cutL ns lo hi).map D.int))
  | _ => none
theorem mSl_cong {f g : D → Option Int → Option Int → Option D} {ρ : Env} (h : ∀ x ρ1, ma ρ = .ok x ρ1 → f x = g x) : mSl f ma ml mh ρ = mSl g ma ml mh ρ := by
  unfold mSl
  cases e : ma ρ with
  | ok x ρ1 =>
    have e2 := h x ρ1 e
    simp only [e2]
  | raise s => rfl
  | fail => rfl
theorem ev_or {t t' : TE} {m m1 m2 : ME} (h : EvD X T B E t m1) (h' : EvD X T B E t' m2) (hm : ∀ ρ, m ρ = m1 ρ ∨ m ρ = m2 ρ) : EvD X T B E (fun σ H Q => t σ H Q ∨ t' σ H Q) m := ⟨fun c σ H ρ Γ Q r0 hq hx hf => by
  rcases hm ρ with e | e
  · rw [e] at hf
    exact .inl (h.run c σ H ρ Γ Q r0 (fun d ρ' v H' e1 => hq d ρ' v H' (e.trans e1)) (fun nm e1 => hx nm (e.trans e1)) hf)
  · rw [e] at hf
    exact .inr (h'.run c σ H ρ Γ Q r0 (fun d ρ' v H' e1 => hq d ρ' v H' (e.trans e1)) (fun nm e1 => hx nm (e.trans e1)) hf)⟩
theorem de_sl {lo hi : Option Expr} {p2 : Pos} (ha : DE X T B E a ma) (hl : DP X T B E lo ml) (hh : DP X T B E hi mh) : DE X T B E (.Subscript a (.Slice lo hi none p2) pos) (mSl dSl ma ml mh) := by
  obtain ⟨t1, h1, h2⟩ := (de_slT (pos := pos) (p2 := p2) ha hl hh).ex
  obtain ⟨t3, h3, h4⟩ := (de_slL (pos := pos) (p2 := p2) ha hl hh).ex
  refine ⟨_, pe_or h1 h3, ev_or h2 h4 fun ρ => ?_⟩
  cases e : ma ρ with
  | ok x ρ1 =>
    cases x with
    | tup ds => exact .inl (mSl_cong fun y ρ2 e2 => by rw [e] at e2; cases e2; rfl)
    | lst ds => exact .inr (mSl_cong fun y ρ2 e2 => by rw [e] at e2; cases e2; rfl)
    | scr ds => exact .inr (mSl_cong fun y ρ2 e2 => by rw [e] at e2; cases e2; rfl)
    | non => exact .inl (mSl_cong fun y ρ2 e2 => by rw [e] at e2; cases e2; rfl)
    | bl _ => exact .inl (mSl_cong fun y ρ2 e2 => by rw [e] at e2; cases e2; rfl)
    | int _ => exact .inl (mSl_cong fun y ρ2 e2 => by rw [e] at e2; cases e2; rfl)
    | str _ => exact .inl (mSl_cong fun y ρ2 e2 => by rw [e] at e2; cases e2; rfl)
    | dct _ _ => exact .inl (mSl_cong fun y ρ2 e2 => by rw [e] at e2; cases e2; rfl)
  | raise s => exact .inl (mSl_cong fun y ρ2 e2 => by rw [e] at e2; cases e2)
  | fail => exact .inl (mSl_cong fun y ρ2 e2 => by rw [e] at e2; cases e2)
/-- o.name(e): a method of a built-in type, a value by two; chk: the type -/
def mMeth (chk : D → Bool) (f : D → D → Option D) (a b : ME) : ME := fun ρ => match a ρ with
  | .ok x ρ1 => if chk x = true then (match b ρ1 with
      | .ok y ρ2 => (match f x y with
        | some z => .ok z ρ2
        | none => .fail)
      | .raise s => .raise s
      | .fail => .fail) else .fail
  | .raise s => .raise s
  | .fail => .fail
theorem ev_bm {Ty : String} {r : V → List V → Hp → VK → Prop} {chk : D → Bool} {f : D → D → Option D} {to : TE} {t : TE} (hr : ∀ (H : Hp) (L : Exc) (v w : V) (d x z : D), Rep X.K H L d v → Rep X.K H L x w → f d x = some z → ∃ u, Scl z u ∧ ∀ Q : VK, Q u H → r v [w] H Q)
    (hty : ∀ (H : Hp) (L : Exc) (v : V) (d : D), chk d = true → Rep X.K H L d v → tyV X.K Ty v H) (ho : EvD X T B E to ma) (ha : EvD X T B E t mb) : EvD X T B E (tBM X.K Ty r to (tCons t tNil)) (mMeth chk f ma mb) := ⟨fun c σ H ρ Γ Q r0 h hx hf => by
  unfold mMeth at h hx hf
  refine ho.run c σ H ρ Γ _ r0 (fun x ρ1 v H1 e1 r1 => ?_) (fun nm e1 => ?_) fun e1 => ?_
  · simp only [e1] at h hx hf
    obtain ⟨L, hi, _⟩ := r1.imm
    by_cases dy : chk x = true
    · simp only [dy, if_true] at h hx hf
      refine ⟨hty H1 L v x dy hi.1, ?_⟩
      refine ha.run c σ H1 ρ1 _ _ r1 (fun y ρ2 w H2 e2 r2 => ?_) (fun nm e2 => ?_) fun e2 => ?_
      · simp only [e2] at h hx hf
        cases ef : f x y with
        | none => simp only [ef] at hf; exact absurd rfl hf
        | some z =>
          simp only [ef] at h
          obtain ⟨L2, hi2, _⟩ := r2.imm
          obtain ⟨u, hu, hq⟩ := hr H2 L2 v w x y z hi2.2.1 hi2.1 ef
          exact hq Q (h z ρ2 u H2 rfl (r2.pop.pop.add fun L' _ => hu _ _ _))
      · simp only [e2] at hx; exact hx nm rfl
      · simp only [e2] at hf; exact hf rfl
    · simp only [dy, if_false] at hf; exact absurd rfl hf
  · simp only [e1] at hx; exact hx nm rfl
  · simp only [e1] at hf; exact hf rfl⟩
def isLst : D → Bool
  | .lst _ => true
  | _ => false
def idxD (x : D) : List D → Option Nat
  | [] => none
  | d :: ds => if dEqv d x = true then some 0 else (idxD x ds).map (· + 1)
def dIndex (d x : D) : Option D := match d with
  | .lst ds => if (eqOk x && eqOk (.lst ds)) = true then (idxD x ds).map fun j : Nat => D.int (j : Int) else none
  | _ => none
theorem idxD_some {x : D} : ∀ {ds : List D} {j : Nat}, idxD x ds = some j → ∃ z, ds[j]? = some z ∧ dEqv z x = true ∧ ∀ m z', m < j → ds[m]? = some z' → dEqv z' x = false
  | [], j, h => by cases h
  | d :: ds, j, h => by
    unfold idxD at h
    split at h
    · rename_i q
      cases h
      exact ⟨d, rfl, q, fun m z' hm => absurd hm (Nat.not_lt_zero _)⟩
    · rename_i q
      cases e : idxD x ds with
      | none => rw [e] at h; cases h
      | some k =>
        rw [e] at h
        cases h
        obtain ⟨z, h1, h2, h3⟩ := idxD_some e
        refine ⟨z, h1, h2, fun m z' hm hz => ?_⟩
        cases m with
        | zero => cases hz; exact Bool.eq_false_iff.mpr q
        | succ m => exact h3 m z' (by dsimp only at hm; omega) hz
theorem tyV_list {K : PySem.W.Frag} {H : Hp} {L : Exc} {v : V} {d : D} (c : isLst d = true) (h : Rep K H L d v) : tyV K "list" v H := by
  cases d with
  | lst ds =>
    obtain ⟨a, xs, rfl, ⟨h1, _⟩, _⟩ := rep_lst h
    first
      | exact .inl ⟨rfl, xs, sqL_of h1⟩
      | exact ⟨rfl, xs, sqL_of h1⟩
      | exact ⟨xs, sqL_of h1⟩
      | (unfold tyV; simp; exact ⟨xs, sqL_of h1⟩)
  | _ => cases c
theorem de_index {pa pc : Pos} {j : Nat} (hr : Room j X.A) (ho : DE X T B E a ma) (h : DE X T B E b mb)
    (hbase : attributeBase a "index" X.env (eval a X.env) = eval a X.env := by rfl)
    (hfew : ((backTo pc (starEach [b] X.env)).all (fun x => !x.1) && (backToKw pc (keywordEach [] X.env)).all (fun x => x.1.isSome)
      && decide ([b].length + ([] : List Keyword).length + (if ([] : List Keyword).isEmpty then 0 else 1) < 30)) = true := by rfl)
    (hline : (pa.endLine == pc.line) = true := by rfl) (hs : starEach [b] X.env = (false, eval b X.env) :: starEach [] X.env := by rfl) (hplain : (backTo pc (starEach [] X.env)).any (·.1) = false := by rfl) :
    DE X T B E (.Call (.Attribute a "index" pa) [b] [] pc) (mMeth isLst dIndex ma mb) := by
  obtain ⟨to, o1, o2⟩ := ho.ex
  obtain ⟨t, h1, h2⟩ := h.ex
  refine ⟨_, pe_bm PySem.F.plainAttrs_list PySem.F.slot_list_index PySem.F.type_list_index (mt_indexD (room65 hr)) o1 (pa_cons h1 pa_nil hs) hbase hfew hline hs hplain, ev_bm (fun H L v w d x z r1 r2 e => ?_) (fun H L v d c r => tyV_list c r) o2 h2⟩
  unfold dIndex at e
  cases d with
  | lst ds =>
    dsimp only at e
    split at e
    · rename_i q
      rw [Bool.and_eq_true] at q
      cases ej : idxD x ds with
      | none => rw [ej] at e; cases e
      | some k =>
        rw [ej] at e
        cases e
        obtain ⟨zz, g1, g2, g3⟩ := idxD_some ej
        have l1 : dLay x = true := by have := q.1; unfold eqOk at this; rw [Bool.and_eq_true] at this; exact this.1
        have l2 : dLay (.lst ds) = true := by have := q.2; unfold eqOk at this; rw [Bool.and_eq_true] at this; exact this.1
        have hd2 := rep_dp (.lst ds) v l2 r1
        obtain ⟨ad, xs, ev, _, _⟩ := rep_lst r1
        subst ev
        refine ⟨_, scl_int _, fun Q hQ => ⟨ad, w, toP x, toPs ds, k, toP zz, rfl, rfl, hd2, rep_dp x w l1 r2, eqOk_shaped q.2, eqOk_shaped q.1, ?_, g2, fun m z' hm hz => ?_, hQ⟩⟩
        · rw [toPs_map, List.getElem?_map, g1]; rfl
        · rw [toPs_map, List.getElem?_map] at hz
          cases e3 : ds[m]? with
          | none => rw [e3] at hz; cases hz
          | some y => rw [e3] at hz; cases hz; exact g3 m y hm e3
    · cases e
  | _ => cases e
end
/-! ### the end of a law -/
section
variable {l : PySem.W.OpenLaw} {q : Program} {K : PySem.W.Frag}
/-- the tables of the program's own defs are empty -/
def AllTab (q : Program) (K : PySem.W.Frag) (mg : Str → Option Value) (h : Heap) : Prop := ∀ (x : Str) (fa : Addr), ((recsOf q).any fun e => e.name == x) = true → mg x = some (.ref fa) → LamX.OwnTab K fa h
theorem walk_rk {l : PySem.W.OpenLaw} {n k : Nat} {q : Program} {loose : List Str} {XP : (Str → Option Value) → Heap → Prop} {YP : World → Heap → Prop} {d : DefRec} {K : Params → PySem.W.Frag} {CX : World → CXT} {x : Str}
    (hn : l.most = some n) (hn2 : n ≤ sizeLine) (hdf : d.params.defaults = []) (hr : Room k callerA) (hY : ∀ (w : World) (h : Heap), YP w h → (K w.params).In h)
    (F : ∀ (w : World) (mg : Str → Option Value) (fa : Addr) (h : Heap), (K w.params).In h → h.Ns mainGlobals mg → mg d.name = some (.ref fa) → AllTab q (K w.params) mg h → LamX.LawAtS l w (K w.params) (CX w) k n x mg fa h)
    (hCX : ∀ (w : World) (H : Hp) (s : Shared) (e : Value) (s' : Shared), CX w [] H s (fun _ _ _ => False) e s' → False) :
    PySem.W.WalkO q loose XP YP l.row.toRowW d [] (fun f vs => PySem.call f vs) := by
  refine Att.attach_callB hn hdf fun w s₀ s₁ mg mb fa o pm cd doc a vs ns G Y ho hd hcd hmg hobj hints hlen hbits hg => ?_
  have KX := hY w _ Y
  have all : AllTab q (K w.params) mg s₁.heap := fun y fy hrec hy c P o1 fd1 e dd vs1 sl k1 k2 k3 k4 k5 => by
    obtain ⟨dL, hm, hn1⟩ := List.any_eq_true.mp hrec
    obtain ⟨a', o', fd', c', P', h1, h2, h3, h4, ⟨oc, vc, e1, _, e3, e4⟩, hP⟩ : ∃ (a : Addr) (o : Obj) (fd : FuncData) (c P : Addr), mg dL.name = some (.ref a) ∧ s₁.heap.get? a = some o ∧ o.data = .func fd ∧ fd.code = .ref c ∧ (∃ (oc : Obj) (vc : Array Value), s₁.heap.get? c = some oc ∧ oc.data = .fields vc ∧ oc.data = .fields vc ∧ vc[11]? = some (.ref P)) ∧ s₁.heap.get? P = some { cls := .none, data := .fields #[] } := by
      obtain ⟨a', o', fd', c', P', h1, h2, h3, h4, h5, h6⟩ := G.T.tab dL hm
      obtain ⟨⟨oc, vc, e1, e2, e3, e4⟩, hP⟩ := h6
      first
        | exact ⟨a', o', fd', c', P', h1, h2, h3, h4, ⟨oc, vc, e1, e3, e3, e4⟩, hP⟩
        | exact ⟨a', o', fd', c', P', h1, h2, h3, h4, ⟨oc, vc, e1, e2, e2, e4⟩, hP⟩
    rw [beq_iff_eq.mp hn1, hy] at h1
    cases h1
    rw [KX _ _ k1] at h2
    cases h2
    rw [k2] at h3
    cases h3
    rw [k3] at h4
    cases h4
    rw [KX _ _ k4] at e1
    cases e1
    cases e3
    rw [k5] at e4
    cases e4
    exact hP
  obtain ⟨fd, cs, sp, hT, nT, C, hb, hsp, hF⟩ := F w mg fa _ KX G.T.g hmg all
  exact LamX.law_callTs KX G.T.g G.T.b G.T.builtins G.T.nolimit hg hT nT C G.T.bmain hobj hints (Nat.le_trans hlen hn2) hr hF hb (fun H hH hS => hsp H a ns hlen hbits hH hS) fun H e s' => hCX w H s₁ e s'
theorem cx_no {P : Program} {w : World} {H : Hp} {s : Shared} {e : Value} {s' : Shared} (h : L2.CX P w [] H s (fun _ _ _ => False) e s') : False := by
  obtain ⟨_, _, _, _, _, _, _, _, _, _, _, _, z⟩ := h
  exact z
/-- the law's promise, from its mirror -/
theorem law_sp {K : PySem.W.Frag} {T : Tabl} {B : Addr} {F : List D → DR} {H : Hp} {a : Addr} {ns : List Int} (hT : Gd T H) (hF : F [.scr ns] = .ok (.bl true)) (hS : SqL K H a (ns.map V.int)) :
    spD K T B 1 F [.ref a] H (fun v _ => v = .bl true) fun _ _ _ => False := by
  refine ⟨[.scr ns], fun _ => False, rfl, fun _ z => z.elim, hT, Reps.cons ?_ Reps.nil, (fun z => ?_), (fun z v H' e g r => ?_), (fun z p H' e _ _ _ => ?_), fun nm e _ _ _ _ => ?_⟩
  · unfold Rep
    refine ⟨a, rfl, ?_⟩
    rcases hS with h | h
    · exact .inl ⟨h, fun z => z⟩
    · exact .inr (.inr h)
  · rw [hF] at z; cases z
  · rw [hF] at e
    cases e
    exact rep_bl r
  · rw [hF] at e; cases e
  · rw [hF] at e; cases e
/-- empty tables -/
theorem gd_nil {T : Tabl} {H : Hp} (h1 : ∀ p ∈ T.lam, H p.1 = some (.tbl #[])) (h2 : ∀ P ∈ T.gen, H P = some (.tbl #[])) : Gd T H :=
  ⟨fun p hp => .nil (h1 p hp), fun P hP => ⟨#[], h2 P hP, trivial⟩⟩
end
end RK

namespace RK
open PySem PySem.Spec PyProof.Rows L2 RZ
theorem room_gen {X : Cx} {j : Nat} {s : Shared} {H : Hp} {scope : Scope} {code : Value} {fp : List Addr} (r : Room (j + 3) X.A) : Room j (gCx X s H scope code fp).A := (r.in1.in1).deeper _
/-- a def of the top, and the name by which it is found -/
structure Defd (K : PySem.W.Frag) (mg : Str → Option Value) (x : Str) (st : Stmt) (f : Addr) (fd : FuncData) : Prop where
  fn : L2.Fun K x x st f fd
  gx : mg x = some (.ref f)
/-! ### a, b = x, y where one is a new list that is written later, or both are -/
def slF : Bool → D → Sl
  | true, d => .ow d
  | false, d => .im d
structure DF (o : Bool) (X : Cx) (T : Tabl) (B : Addr) (E : XK) (e : Expr) (m : ME) : Prop where
  ex : ∃ t, PE X e t ∧ ∀ (c : Cfg) (σ : L2.St) (H : Hp) (ρ : Env) (Γ : Gam) (Q : VK), Rl X.K T c σ H ρ Γ → (∀ d ρ' v H', m ρ = .ok d ρ' → Rl X.K T c σ H' ρ' ((v, slF o d) :: Γ) → Q v H') →
    (∀ nm, m ρ = .raise nm → RsOk T c B E nm) → m ρ ≠ .fail → t σ H Q
def mPar2 (oi oj : Bool) (i j : Nat) (a b : ME) : MS := fun ρ => match a ρ with
  | .ok x ρ1 => (match b ρ1 with
    | .ok y ρ2 => .next ((ρ2.set j (slF oj y)).set i (slF oi x))
    | .raise s => .raise s
    | .fail => .fail)
  | .raise s => .raise s
  | .fail => .fail
section
variable {X : Cx} {T : Tabl} {B : Addr} {E : XK} {ma mb : ME} {a b e : Expr} {pos : Pos}
theorem df_im (h : DE X T B E e ma) : DF false X T B E e ma := by
  obtain ⟨t, h1, h2⟩ := h.ex
  exact ⟨t, h1, h2.run⟩
theorem df_ow (h : DO X T B E e ma) : DF true X T B E e ma := by
  obtain ⟨t, h1, h2⟩ := h.ex
  exact ⟨t, h1, h2.run⟩
theorem Rl.setF {K : PySem.W.Frag} {c : Cfg} {σ : L2.St} {H : Hp} {ρ : Env} {Γ : Gam} {v : V} {d : D} {i : Nat} : ∀ {o : Bool}, Rl K T c σ H ρ ((v, slF o d) :: Γ) → Rl K T c (σ.set i (some v)) H (ρ.set i (slF o d)) Γ
  | true, r => Rl.setO r
  | false, r => Rl.set r rfl
theorem ds_par2 (oi oj : Bool) (i j : Nat) {x y : Str} {px py pt : Pos} {kt k2 pt2} (hN : X.N.Nodup) (ha : DF oi X T B E a ma) (hb : DF oj X T B E b mb) (hi : X.N[i]? = some x := by rfl) (hj : X.N[j]? = some y := by rfl) (hij : i ≠ j := by decide) (hc : X.calm = true := by rfl)
    (hx : X.env.scope.names.lookup x = some .local := by rfl) (hy : X.env.scope.names.lookup y = some .local := by rfl) (hw : swappedStores [.Tuple [.Name x px, .Name y py] kt pt] (.Tuple [a, b] k2 pt2) X.env = pure (some [x, y]) := by rfl)
    (hs : swapsWithSole [.Tuple [.Name x px, .Name y py] kt pt] (.Tuple [a, b] k2 pt2) pos.line X.env = pure false := by rfl) (he1 : starEach [a, b] X.env = (false, eval a X.env) :: starEach [b] X.env := by rfl) (he2 : starEach [b] X.env = (false, eval b X.env) :: starEach [] X.env := by rfl) :
    DS X T B E (.Assign [.Tuple [.Name x px, .Name y py] kt pt] (.Tuple [a, b] k2 pt2) pos) (mPar2 oi oj i j ma mb) := by
  obtain ⟨t, h1, h2⟩ := ha.ex
  obtain ⟨u, u1, u2⟩ := hb.ex
  refine ⟨_, ps_par hc hN hi hj hij hx hy (pa_cons h1 (pa_cons u1 pa_nil he2) he1) hw hs, ⟨fun c σ H ρ Γ Z r0 hn hrt hro hbk hct hx hf => ?_⟩⟩
  unfold mPar2 at hn hx hf
  refine h2 c σ H ρ Γ _ r0 (fun x1 ρ1 v H1 e1 r1 => ?_) (fun nm e1 => ?_) fun e1 => ?_
  · simp only [e1] at hn hx hf
    refine u2 c σ H1 ρ1 _ _ r1 (fun y1 ρ2 w H2 e2 r2 => ?_) (fun nm e2 => ?_) fun e2 => ?_
    · simp only [e2] at hn
      refine ⟨v, w, rfl, ?_⟩
      rw [List.set_comm _ _ hij]
      exact hn _ _ H2 rfl (Rl.setF (Rl.setF r2))
    · simp only [e2] at hx; exact hx nm rfl
    · simp only [e2] at hf; exact hf rfl
  · simp only [e1] at hx; exact hx nm rfl
  · simp only [e1] at hf; exact hf rfl
end
end RK
set_option Elab.async false
set_option linter.all false
set_option maxRecDepth 100000
set_option maxHeartbeats 2000000
/-! RkT: how mirrors are reckoned, step by step. -/
namespace RK
open PySem PySem.Spec PyProof.Rows L2 RZ
def oE (o : Option D) (ρ : Env) : ER := match o with
  | some z => .ok z ρ
  | none => .fail
def e3 (f : D → D → Option D) (x : D) (r : ER) : ER := match r with
  | .ok y ρ => oE (f x y) ρ
  | .raise s => .raise s
  | .fail => .fail
def e2 (f : D → D → Option D) (b : ME) (r : ER) : ER := match r with
  | .ok x ρ => e3 f x (b ρ)
  | .raise s => .raise s
  | .fail => .fail
def e1 (f : D → Option D) (r : ER) : ER := match r with
  | .ok x ρ => oE (f x) ρ
  | .raise s => .raise s
  | .fail => .fail
def a3 (x : D) (r : AR) : AR := match r with
  | .ok xs ρ => .ok (x :: xs) ρ
  | .raise s => .raise s
  | .fail => .fail
def a2 (r : MA) (a : ER) : AR := match a with
  | .ok x ρ => a3 x (r ρ)
  | .raise s => .raise s
  | .fail => .fail
def f1 (f : List D → Option D) (r : AR) : ER := match r with
  | .ok xs ρ => oE (f xs) ρ
  | .raise s => .raise s
  | .fail => .fail
def t1 (r : ER) : BR := match r with
  | .ok (.bl b) ρ => .ok b ρ
  | .raise s => .raise s
  | _ => .fail
def v1 (r : BR) : ER := match r with
  | .ok b ρ => .ok (.bl b) ρ
  | .raise s => .raise s
  | .fail => .fail
def n1 (r : BR) : BR := match r with
  | .ok b ρ => .ok (!b) ρ
  | .raise s => .raise s
  | .fail => .fail
def an1 (b : MB) (r : BR) : BR := match r with
  | .ok true ρ => b ρ
  | .ok false ρ => .ok false ρ
  | .raise s => .raise s
  | .fail => .fail
def or1 (b : MB) (r : BR) : BR := match r with
  | .ok true ρ => .ok true ρ
  | .ok false ρ => b ρ
  | .raise s => .raise s
  | .fail => .fail
def i1 (a b : ME) (r : BR) : ER := match r with
  | .ok true ρ => a ρ
  | .ok false ρ => b ρ
  | .raise s => .raise s
  | .fail => .fail
def is1 (a b : MS) (r : BR) : SR := match r with
  | .ok true ρ => a ρ
  | .ok false ρ => b ρ
  | .raise s => .raise s
  | .fail => .fail
def s1 (b : MS) (r : SR) : SR := match r with
  | .next ρ => b ρ
  | r => r
def r1 (r : ER) : SR := match r with
  | .ok d ρ => .ret d ρ
  | .raise s => .raise s
  | .fail => .fail
def ro1 (r : ER) : SR := match r with
  | .ok d ρ => .retO d ρ
  | .raise s => .raise s
  | .fail => .fail
def d1 (r : ER) : SR := match r with
  | .ok d ρ => .next ρ
  | .raise s => .raise s
  | .fail => .fail
def as2 (o : Option Env) : SR := match o with
  | some ρ => .next ρ
  | none => .fail
def as1 (g : MG) (r : ER) : SR := match r with
  | .ok d ρ => as2 (g d ρ)
  | .raise s => .raise s
  | .fail => .fail
def ao1 (i : Nat) (r : ER) : SR := match r with
  | .ok d ρ => .next (ρ.set i (.ow d))
  | .raise s => .raise s
  | .fail => .fail
def p2 (oi oj : Bool) (i j : Nat) (x : D) (r : ER) : SR := match r with
  | .ok y ρ => .next ((ρ.set j (slF oj y)).set i (slF oi x))
  | .raise s => .raise s
  | .fail => .fail
def p1 (oi oj : Bool) (i j : Nat) (b : ME) (r : ER) : SR := match r with
  | .ok x ρ => p2 oi oj i j x (b ρ)
  | .raise s => .raise s
  | .fail => .fail
def own1 (o : Option Sl) : Option D := match o with
  | some s => s.val
  | none => none
def mu3 (i : Nat) (ρ : Env) (s : Sl) (o : Option (List D)) : SR := match o with
  | some ds => .next (ρ.set i (s.put (.lst ds)))
  | none => .fail
def mu2 (f : List D → D → Option (List D)) (i : Nat) (x : D) (ρ : Env) (o : Option Sl) : SR := match o with
  | some s => (match s.val with
    | some (.lst ds) => mu3 i ρ s (f ds x)
    | _ => .fail)
  | none => .fail
def mu1 (f : List D → D → Option (List D)) (i : Nat) (r : ER) : SR := match r with
  | .ok x ρ => mu2 f i x ρ ρ[i]?
  | .raise s => .raise s
  | .fail => .fail
def mu0 (f : List D → D → Option (List D)) (i : Nat) (a : ME) (ρ : Env) (o : Option D) : SR := match o with
  | some (.lst _) => mu1 f i (a ρ)
  | _ => .fail
def si3 (i : Nat) (x : D) (ρ : Env) (k : Int) (o : Option Sl) : SR := match o with
  | some s => (match s.val with
    | some (.lst ds) => (match ixN ds.length k with
      | some j => .next (ρ.set i (s.put (.lst (ds.set j x))))
      | none => .fail)
    | _ => .fail)
  | none => .fail
def si2 (i : Nat) (x : D) (r : ER) : SR := match r with
  | .ok (.int k) ρ => si3 i x ρ k ρ[i]?
  | .raise s => .raise s
  | _ => .fail
def si1 (i : Nat) (x : D) (ix : ME) (ρ : Env) (o : Option D) : SR := match o with
  | some _ => si2 i x (ix ρ)
  | none => .fail
def si0 (i : Nat) (ix : ME) (r : ER) : SR := match r with
  | .ok x ρ => si1 i x ix ρ (ownAt ρ i)
  | .raise s => .raise s
  | .fail => .fail
def rel1 (i : Nat) (m : MS) (ρ : Env) (o : Option Sl) : SR := match o with
  | some (.ow d) => m (ρ.set i (.im d))
  | _ => m ρ
def c2 (ρ : Env) (r : DR) : ER := match r with
  | .ok z => .ok z ρ
  | .okO z => .ok z ρ
  | .raise s => .raise s
  | .fail => .fail
def c1 (F : List D → DR) (r : AR) : ER := match r with
  | .ok ds ρ => c2 ρ (F ds)
  | .raise s => .raise s
  | .fail => .fail
def co2 (ρ : Env) (r : DR) : ER := match r with
  | .okO z => .ok z ρ
  | .raise s => .raise s
  | _ => .fail
def co1 (F : List D → DR) (r : AR) : ER := match r with
  | .ok ds ρ => co2 ρ (F ds)
  | .raise s => .raise s
  | .fail => .fail
def ap2 (ds : List D) (r : AR) : AR := match r with
  | .ok es ρ => .ok (ds ++ es) ρ
  | .raise s => .raise s
  | .fail => .fail
def ap1 (b : MA) (r : AR) : AR := match r with
  | .ok ds ρ => ap2 ds (b ρ)
  | .raise s => .raise s
  | .fail => .fail
def ci3 (i : Nat) (ρ : Env) (s : Sl) (r : IR) : ER := match r with
  | .ok z d => .ok z (ρ.set i (s.put d))
  | .fail => .fail
def ci2 (F : D → List D → IR) (i : Nat) (ds : List D) (ρ : Env) (o : Option Sl) : ER := match o with
  | some s => (match s.val with
    | some d => ci3 i ρ s (F d ds)
    | none => .fail)
  | none => .fail
def ci1 (F : D → List D → IR) (i : Nat) (r : AR) : ER := match r with
  | .ok ds ρ => ci2 F i ds ρ ρ[i]?
  | .raise s => .raise s
  | .fail => .fail
def ci0 (F : D → List D → IR) (i : Nat) (a : MA) (ρ : Env) (o : Option D) : ER := match o with
  | some _ => ci1 F i (a ρ)
  | none => .fail
def cg3 (ρ : Env) (r : IR) : ER := match r with
  | .ok z _ => .ok z ρ
  | .fail => .fail
def cg2 (F : D → List D → IR) (d : D) (r : AR) : ER := match r with
  | .ok ds ρ => cg3 ρ (F d ds)
  | .raise s => .raise s
  | .fail => .fail
def cg1 (F : D → List D → IR) (a : MA) (r : ER) : ER := match r with
  | .ok d ρ => cg2 F d (a ρ)
  | .raise s => .raise s
  | .fail => .fail
def at2 (y : D) (ρ : Env) (o : Option D) : ER := match o with
  | some d => oE (dAt d y) ρ
  | none => .fail
def at1 (i : Nat) (r : ER) : ER := match r with
  | .ok y ρ => at2 y ρ (ownAt ρ i)
  | .raise s => .raise s
  | .fail => .fail
def at0 (i : Nat) (b : ME) (ρ : Env) (o : Option D) : ER := match o with
  | some _ => at1 i (b ρ)
  | none => .fail
def fi1 (f : List D → Option D) (ρ : Env) (o : Option D) : ER := match o with
  | some d => oE (f [d]) ρ
  | none => .fail
def in2 (f : D → D → Option D) (x : D) (ρ : Env) (o : Option D) : ER := match o with
  | some d => oE (f x d) ρ
  | none => .fail
def in1 (f : D → D → Option D) (i : Nat) (r : ER) : ER := match r with
  | .ok x ρ => in2 f x ρ (ownAt ρ i)
  | .raise s => .raise s
  | .fail => .fail
def var1 (ρ : Env) (o : Option Sl) : ER := match o with
  | some (.im d) => .ok d ρ
  | _ => .fail
def pt1 (r : ER) : ER := match r with
  | .ok (.int i) ρ1 => .ok (.int i) ρ1
  | .raise s => .raise s
  | _ => .fail
def sl3 (f : D → Option Int → Option Int → Option D) (x l : D) (r : ER) : ER := match r with
  | .ok h ρ3 => (match partD l, partD h with
    | some l', some h' => oE (f x l' h') ρ3
    | _, _ => .fail)
  | .raise s => .raise s
  | .fail => .fail
def sl2 (f : D → Option Int → Option Int → Option D) (x : D) (hi : ME) (r : ER) : ER := match r with
  | .ok l ρ2 => sl3 f x l (hi ρ2)
  | .raise s => .raise s
  | .fail => .fail
def sl1 (f : D → Option Int → Option Int → Option D) (lo hi : ME) (r : ER) : ER := match r with
  | .ok x ρ1 => sl2 f x hi (lo ρ1)
  | .raise s => .raise s
  | .fail => .fail
def oB (o : Option Bool) (ρ : Env) : ER := match o with
  | some r => .ok (.bl r) ρ
  | none => .fail
def ch4 (g : D → D → Option Bool) (y : D) (r : ER) : ER := match r with
  | .ok z ρ => oB (g y z) ρ
  | .raise s => .raise s
  | .fail => .fail
def ch3 (g : D → D → Option Bool) (y : D) (k : ME) (ρ : Env) (o : Option Bool) : ER := match o with
  | some true => ch4 g y (k ρ)
  | some false => .ok (.bl false) ρ
  | none => .fail
def ch2 (f g : D → D → Option Bool) (x : D) (k : ME) (r : ER) : ER := match r with
  | .ok y ρ => ch3 g y k ρ (f x y)
  | .raise s => .raise s
  | .fail => .fail
def ch1 (f g : D → D → Option Bool) (b k : ME) (r : ER) : ER := match r with
  | .ok x ρ => ch2 f g x k (b ρ)
  | .raise s => .raise s
  | .fail => .fail
def ref1 (ρ : Env) (r : ER) : ER := match r with
  | .ok _ _ => .ok (.str "") ρ
  | .raise s => .ok (.str s) ρ
  | .fail => .fail
def ra1 (r : ER) : SR := match r with
  | .ok (.str s) _ => if s.length ≤ 1000 then .raise s else .fail
  | .raise s => .raise s
  | _ => .fail
def it1 (r : ER) : AR := match r with
  | .ok (.lst ds) ρ1 => .ok ds ρ1
  | .ok (.tup ds) ρ1 => .ok ds ρ1
  | .raise s => .raise s
  | _ => .fail
def rg1 (r : AR) : AR := match r with
  | .ok [.int j] ρ1 => if -(2 ^ 62) ≤ j ∧ j < 2 ^ 62 then .ok (rngD 0 j.toNat) ρ1 else .fail
  | .raise s => .raise s
  | _ => .fail
def rg2 (r : AR) : AR := match r with
  | .ok [.int i, .int j] ρ1 => if -(2 ^ 62) ≤ i ∧ i < 2 ^ 62 ∧ -(2 ^ 62) ≤ j ∧ j < 2 ^ 62 then .ok (rngD i (j - i).toNat) ρ1 else .fail
  | .raise s => .raise s
  | _ => .fail
def zp1 (r : AR) : AR := match r with
  | .ok [.lst as, .lst bs] ρ1 => .ok (zipD as bs) ρ1
  | .ok [.tup as, .tup bs] ρ1 => .ok (zipD as bs) ρ1
  | .raise s => .raise s
  | _ => .fail
def fo1 (g : MG) (b : MS) (r : AR) : SR := match r with
  | .ok ds ρ => mForL g b ds ρ
  | .raise s => .raise s
  | .fail => .fail
def cm2 (ρ1 : Env) (vs : List Nat) (r : AR) : ER := match r with
  | .ok ys ρ2 => .ok (.lst ys) (restE ρ2 ρ1 vs)
  | _ => .fail
def cm1 (vs : List Nat) (g : MG) (tst : MB) (elt : ME) (r : AR) : ER := match r with
  | .ok ds ρ1 => if ds.length ≤ 16000000 then cm2 ρ1 vs (cmpL vs g tst elt ds (wipeE ρ1 vs)) else .fail
  | .raise s => .raise s
  | .fail => .fail
def al2 (ρ1 : Env) (vs : List Nat) (r : BR) : ER := match r with
  | .ok b ρ2 => .ok (.bl b) (restE ρ2 ρ1 vs)
  | _ => .fail
def al1 (vs : List Nat) (g : MG) (elt : ME) (r : AR) : ER := match r with
  | .ok ds ρ1 => al2 ρ1 vs (allL vs g elt ds (wipeE ρ1 vs))
  | .raise s => .raise s
  | .fail => .fail
def me2 (f : D → D → Option D) (x : D) (r : ER) : ER := match r with
  | .ok y ρ => oE (f x y) ρ
  | .raise s => .raise s
  | .fail => .fail
def me1 (chk : D → Bool) (f : D → D → Option D) (b : ME) (r : ER) : ER := match r with
  | .ok x ρ => if chk x = true then me2 f x (b ρ) else .fail
  | .raise s => .raise s
  | .fail => .fail
def au2 (f : D → D → Option D) (i : Nat) (x : D) (r : ER) : SR := match r with
  | .ok y ρ => (match f x y with
    | some z => .next (ρ.set i (.im z))
    | none => .fail)
  | .raise s => .raise s
  | .fail => .fail
def au1 (f : D → D → Option D) (i : Nat) (a : ME) (r : ER) : SR := match r with
  | .ok x ρ => au2 f i x (a ρ)
  | .raise s => .raise s
  | .fail => .fail
def rd1 (r : SR) : DR := match r with
  | .next _ => .ok .non
  | .ret d _ => .ok d
  | .retO d _ => .okO d
  | .raise s => .raise s
  | _ => .fail
def ri2 (z : D) (o : Option Sl) : IR := match o with
  | some (.pw d) => .ok z d
  | _ => .fail
def ri1 (r : SR) : IR := match r with
  | .next ρ => ri2 .non ρ[0]?
  | .ret z ρ => ri2 z ρ[0]?
  | _ => .fail
def gm1 (gs : List MG) (ds : List D) (o : Option Env) : Option Env := match o with
  | some ρ => gMany gs ds ρ
  | none => none
def si4 (i : Nat) (x : D) (ρ : Env) (s : Sl) (ds : List D) (o : Option Nat) : SR := match o with
  | some j => .next (ρ.set i (s.put (.lst (ds.set j x))))
  | none => .fail
def au3 (i : Nat) (ρ : Env) (o : Option D) : SR := match o with
  | some z => .next (ρ.set i (.im z))
  | none => .fail
section
variable {f : D → D → Option D} {u : D → Option D} {ff : List D → Option D} {a b k t : ME} {mt mu : MB} {r r' : MA} {s s' : MS} {g : MG} {i j : Nat} {ρ : Env} {x y z d : D} {ds es : List D} {F : List D → DR} {G : D → List D → IR} {nm : Str} {p q : D → D → Option Bool} {vs : List Nat} {bb oi oj : Bool} {kk ll : Int} {gs : List MG} {sl : Sl} {mm : List D → D → Option (List D)} {ns : List Int} {oa ob : Option Int} {ss : D → Option Int → Option Int → Option D} {ff : List D → Option D} {cc : D → Bool} {ρ2 : Env}
theorem x_var : mVar i ρ = var1 ρ ρ[i]? := by rfl
theorem x_var1 : var1 ρ (some (.im d)) = .ok d ρ := by rfl
theorem x_c : mC d ρ = .ok d ρ := by rfl
theorem x_bin : mBin f a b ρ = e2 f b (a ρ) := by unfold mBin e2 e3 oE; rfl
theorem x_un : mUn u a ρ = e1 u (a ρ) := by unfold mUn e1 oE; rfl
theorem x_nil : mNil ρ = .ok [] ρ := by rfl
theorem x_cons : mCons a r ρ = a2 r (a ρ) := by unfold mCons a2 a3; rfl
theorem x_fn : mFn ff r ρ = f1 ff (r ρ) := by unfold mFn f1 oE; rfl
theorem x_tst : mTst a ρ = t1 (a ρ) := by rfl
theorem x_val : mVal mt ρ = v1 (mt ρ) := by rfl
theorem x_not : mNotB mt ρ = n1 (mt ρ) := by rfl
theorem x_and : mAndB mt mu ρ = an1 mu (mt ρ) := by rfl
theorem x_or : mOrB mt mu ρ = or1 mu (mt ρ) := by rfl
theorem x_ifE : mIfE mt a b ρ = i1 a b (mt ρ) := by rfl
theorem x_ifS : mIfS mt s s' ρ = is1 s s' (mt ρ) := by rfl
theorem x_seq : mSeq s s' ρ = s1 s' (s ρ) := by rfl
theorem x_next : mNext ρ = .next ρ := by rfl
theorem x_brk : mBrk ρ = .brk ρ := by rfl
theorem x_cnt : mCnt ρ = .cont ρ := by rfl
theorem x_ret : mRet a ρ = r1 (a ρ) := by rfl
theorem x_retO : mRetO a ρ = ro1 (a ρ) := by rfl
theorem x_drop : mDrop a ρ = d1 (a ρ) := by rfl
theorem x_asg : mAsg a g ρ = as1 g (a ρ) := by unfold mAsg as1 as2; rfl
theorem x_asgO : mAsgO a i ρ = ao1 i (a ρ) := by rfl
theorem x_par {oi oj : Bool} : mPar2 oi oj i j a b ρ = p1 oi oj i j b (a ρ) := by unfold mPar2 p1 p2; rfl
theorem x_own : ownAt ρ i = own1 ρ[i]? := by rfl
theorem x_own1 : own1 (some (.ow d)) = some d := by rfl
theorem x_own2 : own1 (some (.pw d)) = some d := by rfl
theorem x_mut {m : List D → D → Option (List D)} : mMut m i a ρ = mu0 m i a ρ (ownAt ρ i) := by
  unfold mMut mu0 mu1 mu2 mu3
  rfl
theorem x_setI : mSetI i a b ρ = si0 i b (a ρ) := by
  unfold mSetI si0 si1 si2 si3
  rfl
theorem x_rel : mRel i s ρ = rel1 i s ρ ρ[i]? := by rfl
theorem x_call : mCall F r ρ = c1 F (r ρ) := by unfold mCall c1 c2; rfl
theorem x_callO : mCallO F r ρ = co1 F (r ρ) := by unfold mCallO co1 co2; rfl
theorem x_ap : mApA r r' ρ = ap1 r' (r ρ) := by unfold mApA ap1 ap2; rfl
theorem x_callI : mCallI G i r ρ = ci0 G i r ρ (ownAt ρ i) := by
  unfold mCallI ci0 ci1 ci2 ci3
  rfl
theorem x_callG : mCallG G a r ρ = cg1 G r (a ρ) := by
  unfold mCallG cg1 cg2 cg3
  rfl
theorem x_atO : mAtO i b ρ = at0 i b ρ (ownAt ρ i) := by
  unfold mAtO at0 at1 at2 oE
  rfl
theorem x_fnI : mFnI ff i ρ = fi1 ff ρ (ownAt ρ i) := by
  unfold mFnI fi1 oE
  rfl
theorem x_inO : mInO f a i ρ = in1 f i (a ρ) := by
  unfold mInO in1 in2 oE
  rfl
theorem x_part : mPart a ρ = pt1 (a ρ) := by rfl
theorem x_sl {h : D → Option Int → Option Int → Option D} : mSl h a b k ρ = sl1 h b k (a ρ) := by
  unfold mSl sl1 sl2 sl3 oE
  rfl
theorem x_chn : mChn p q a b k ρ = ch1 p q b k (a ρ) := by
  unfold mChn ch1 ch2 ch3 ch4 oB
  rfl
theorem x_ref : mRef a ρ = ref1 ρ (a (hideE ρ)) := by rfl
theorem x_raise : mRaise a ρ = ra1 (a ρ) := by rfl
theorem x_it : mIt a ρ = it1 (a ρ) := by rfl
theorem x_rng1 : mRng1 r ρ = rg1 (r ρ) := by rfl
theorem x_rng2 : mRng2 r ρ = rg2 (r ρ) := by rfl
theorem x_zip : mZip r ρ = zp1 (r ρ) := by rfl
theorem x_for : mFor r g s ρ = fo1 g s (r ρ) := by rfl
theorem x_comp : mComp vs r g mt a ρ = cm1 vs g mt a (r ρ) := by
  unfold mComp cm1 cm2
  rfl
theorem x_all : mAll vs r g a ρ = al1 vs g a (r ρ) := by
  unfold mAll al1 al2; rfl
theorem x_meth {c : D → Bool} : mMeth c f a b ρ = me1 c f b (a ρ) := by
  unfold mMeth me1 me2 oE
  rfl
theorem x_aug : mAug f i a ρ = au1 f i a (mVar i ρ) := by
  unfold mAug au1 au2; rfl
theorem x_runD {n : Nat} : runD n s ds = rd1 (s (envD n ds)) := by rfl
theorem x_runI {n : Nat} : runI n s d ds = ri1 (s (envI n d ds)) := by
  unfold runI ri1 ri2
  rfl
theorem y0 : oE (some z) ρ = .ok z ρ := by rfl
theorem y1 : oE none ρ = .fail := by rfl
theorem y2 : e3 f x (.ok y ρ) = oE (f x y) ρ := by rfl
theorem y3 : e3 f x (.raise nm) = .raise nm := by rfl
theorem y4 : e3 f x .fail = .fail := by rfl
theorem y5 : e2 f b (.ok x ρ) = e3 f x (b ρ) := by rfl
theorem y6 : e2 f b (.raise nm) = .raise nm := by rfl
theorem y7 : e2 f b .fail = .fail := by rfl
theorem y8 : e1 u (.ok x ρ) = oE (u x) ρ := by rfl
theorem y9 : e1 u (.raise nm) = .raise nm := by rfl
theorem y10 : e1 u .fail = .fail := by rfl
theorem y11 : a3 x (.ok ds ρ) = .ok (x :: ds) ρ := by rfl
theorem y12 : a3 x (.raise nm) = .raise nm := by rfl
theorem y13 : a3 x .fail = .fail := by rfl
theorem y14 : a2 r (.ok x ρ) = a3 x (r ρ) := by rfl
theorem y15 : a2 r (.raise nm) = .raise nm := by rfl
theorem y16 : a2 r .fail = .fail := by rfl
theorem y17 : f1 ff (.ok ds ρ) = oE (ff ds) ρ := by rfl
theorem y18 : f1 ff (.raise nm) = .raise nm := by rfl
theorem y19 : f1 ff .fail = .fail := by rfl
theorem y20 : t1 (.ok (.bl bb) ρ) = .ok bb ρ := by rfl
theorem y21 : t1 (.raise nm) = .raise nm := by rfl
theorem y22 : t1 .fail = .fail := by rfl
theorem y23 : v1 (.ok bb ρ) = .ok (.bl bb) ρ := by rfl
theorem y24 : v1 (.raise nm) = .raise nm := by rfl
theorem y25 : v1 .fail = .fail := by rfl
theorem y26 : n1 (.ok bb ρ) = .ok (!bb) ρ := by rfl
theorem y27 : n1 (.raise nm) = .raise nm := by rfl
theorem y28 : n1 .fail = .fail := by rfl
theorem y29 : an1 mu (.ok true ρ) = mu ρ := by rfl
theorem y30 : an1 mu (.raise nm) = .raise nm := by rfl
theorem y31 : an1 mu .fail = .fail := by rfl
theorem y32 : an1 mu (.ok false ρ) = .ok false ρ := by rfl
theorem y33 : or1 mu (.ok true ρ) = .ok true ρ := by rfl
theorem y34 : or1 mu (.raise nm) = .raise nm := by rfl
theorem y35 : or1 mu .fail = .fail := by rfl
theorem y36 : or1 mu (.ok false ρ) = mu ρ := by rfl
theorem y37 : i1 a b (.ok true ρ) = a ρ := by rfl
theorem y38 : i1 a b (.raise nm) = .raise nm := by rfl
theorem y39 : i1 a b .fail = .fail := by rfl
theorem y40 : i1 a b (.ok false ρ) = b ρ := by rfl
theorem y41 : is1 s s' (.ok true ρ) = s ρ := by rfl
theorem y42 : is1 s s' (.raise nm) = .raise nm := by rfl
theorem y43 : is1 s s' .fail = .fail := by rfl
theorem y44 : is1 s s' (.ok false ρ) = s' ρ := by rfl
theorem y45 : s1 s (.next ρ) = s ρ := by rfl
theorem y46 : s1 s (.ret d ρ) = .ret d ρ := by rfl
theorem y47 : s1 s (.retO d ρ) = .retO d ρ := by rfl
theorem y48 : s1 s (.brk ρ) = .brk ρ := by rfl
theorem y49 : s1 s (.cont ρ) = .cont ρ := by rfl
theorem y50 : s1 s (.raise nm) = .raise nm := by rfl
theorem y51 : s1 s .fail = .fail := by rfl
theorem y52 : r1 (.ok d ρ) = .ret d ρ := by rfl
theorem y53 : r1 (.raise nm) = .raise nm := by rfl
theorem y54 : r1 .fail = .fail := by rfl
theorem y55 : ro1 (.ok d ρ) = .retO d ρ := by rfl
theorem y56 : ro1 (.raise nm) = .raise nm := by rfl
theorem y57 : ro1 .fail = .fail := by rfl
theorem y58 : d1 (.ok d ρ) = .next ρ := by rfl
theorem y59 : d1 (.raise nm) = .raise nm := by rfl
theorem y60 : d1 .fail = .fail := by rfl
theorem y61 : as2 (some ρ) = .next ρ := by rfl
theorem y62 : as2 none = .fail := by rfl
theorem y63 : as1 g (.ok d ρ) = as2 (g d ρ) := by rfl
theorem y64 : as1 g (.raise nm) = .raise nm := by rfl
theorem y65 : as1 g .fail = .fail := by rfl
theorem y66 : ao1 i (.ok d ρ) = .next (ρ.set i (.ow d)) := by rfl
theorem y67 : ao1 i (.raise nm) = .raise nm := by rfl
theorem y68 : ao1 i .fail = .fail := by rfl
theorem y69 : p2 oi oj i j x (.ok y ρ) = .next ((ρ.set j (slF oj y)).set i (slF oi x)) := by rfl
theorem y70 : p2 oi oj i j x (.raise nm) = .raise nm := by rfl
theorem y71 : p2 oi oj i j x .fail = .fail := by rfl
theorem y72 : p1 oi oj i j b (.ok x ρ) = p2 oi oj i j x (b ρ) := by rfl
theorem y73 : p1 oi oj i j b (.raise nm) = .raise nm := by rfl
theorem y74 : p1 oi oj i j b .fail = .fail := by rfl
theorem y75 : slF true d = .ow d := by rfl
theorem y76 : slF false d = .im d := by rfl
theorem y77 : gSet i d ρ = some (ρ.set i (.im d)) := by rfl
theorem y78 : gTupM gs (.tup ds) ρ = gMany gs ds ρ := by rfl
theorem y79 : gMany [] [] ρ = some ρ := by rfl
theorem y80 : gMany (g :: gs) (d :: ds) ρ = gm1 gs ds (g d ρ) := by rfl
theorem y81 : gm1 gs ds (some ρ) = gMany gs ds ρ := by rfl
theorem y82 : gm1 gs ds none = none := by rfl
theorem y83 : mu3 i ρ sl (some ds) = .next (ρ.set i (sl.put (.lst ds))) := by rfl
theorem y84 : mu3 i ρ sl none = .fail := by rfl
theorem y85 : mu2 mm i x ρ (some (.ow (.lst ds))) = mu3 i ρ (.ow (.lst ds)) (mm ds x) := by rfl
theorem y86 : mu2 mm i x ρ (some (.pw (.lst ds))) = mu3 i ρ (.pw (.lst ds)) (mm ds x) := by rfl
theorem y87 : mu1 mm i (.ok x ρ) = mu2 mm i x ρ ρ[i]? := by rfl
theorem y88 : mu1 mm i (.raise nm) = .raise nm := by rfl
theorem y89 : mu1 mm i .fail = .fail := by rfl
theorem y90 : mu0 mm i a ρ (some (.lst ds)) = mu1 mm i (a ρ) := by rfl
theorem y91 : si3 i x ρ kk (some (.ow (.lst ds))) = si4 i x ρ (.ow (.lst ds)) ds (ixN ds.length kk) := by rfl
theorem y92 : si3 i x ρ kk (some (.pw (.lst ds))) = si4 i x ρ (.pw (.lst ds)) ds (ixN ds.length kk) := by rfl
theorem y93 : si4 i x ρ sl ds (some j) = .next (ρ.set i (sl.put (.lst (ds.set j x)))) := by rfl
theorem y94 : si4 i x ρ sl ds none = .fail := by rfl
theorem y95 : si2 i x (.ok (.int kk) ρ) = si3 i x ρ kk ρ[i]? := by rfl
theorem y96 : si2 i x (.raise nm) = .raise nm := by rfl
theorem y97 : si2 i x .fail = .fail := by rfl
theorem y98 : si1 i x b ρ (some d) = si2 i x (b ρ) := by rfl
theorem y99 : si0 i b (.ok x ρ) = si1 i x b ρ (ownAt ρ i) := by rfl
theorem y100 : si0 i b (.raise nm) = .raise nm := by rfl
theorem y101 : si0 i b .fail = .fail := by rfl
theorem y102 : rel1 i s ρ (some (.ow d)) = s (ρ.set i (.im d)) := by rfl
theorem y103 : rel1 i s ρ (some (.im d)) = s ρ := by rfl
theorem y104 : rel1 i s ρ (some .em) = s ρ := by rfl
theorem y105 : rel1 i s ρ (some (.pw d)) = s ρ := by rfl
theorem y106 : c2 ρ (.ok z) = .ok z ρ := by rfl
theorem y107 : c2 ρ (.okO z) = .ok z ρ := by rfl
theorem y108 : c2 ρ (.raise nm) = .raise nm := by rfl
theorem y109 : c2 ρ .fail = .fail := by rfl
theorem y110 : c1 F (.ok ds ρ) = c2 ρ (F ds) := by rfl
theorem y111 : c1 F (.raise nm) = .raise nm := by rfl
theorem y112 : c1 F .fail = .fail := by rfl
theorem y113 : co2 ρ (.okO z) = .ok z ρ := by rfl
theorem y114 : co2 ρ (.raise nm) = .raise nm := by rfl
theorem y115 : co2 ρ .fail = .fail := by rfl
theorem y116 : co1 F (.ok ds ρ) = co2 ρ (F ds) := by rfl
theorem y117 : co1 F (.raise nm) = .raise nm := by rfl
theorem y118 : co1 F .fail = .fail := by rfl
theorem y119 : ap2 es (.ok ds ρ) = .ok (es ++ ds) ρ := by rfl
theorem y120 : ap2 es (.raise nm) = .raise nm := by rfl
theorem y121 : ap2 es .fail = .fail := by rfl
theorem y122 : ap1 r (.ok ds ρ) = ap2 ds (r ρ) := by rfl
theorem y123 : ap1 r (.raise nm) = .raise nm := by rfl
theorem y124 : ap1 r .fail = .fail := by rfl
theorem y125 : ci3 i ρ sl (.ok z d) = .ok z (ρ.set i (sl.put d)) := by rfl
theorem y126 : ci3 i ρ sl .fail = .fail := by rfl
theorem y127 : ci2 G i ds ρ (some (.ow d)) = ci3 i ρ (.ow d) (G d ds) := by rfl
theorem y128 : ci2 G i ds ρ (some (.pw d)) = ci3 i ρ (.pw d) (G d ds) := by rfl
theorem y129 : ci1 G i (.ok ds ρ) = ci2 G i ds ρ ρ[i]? := by rfl
theorem y130 : ci1 G i (.raise nm) = .raise nm := by rfl
theorem y131 : ci1 G i .fail = .fail := by rfl
theorem y132 : ci0 G i r ρ (some d) = ci1 G i (r ρ) := by rfl
theorem y133 : cg3 ρ (.ok z d) = .ok z ρ := by rfl
theorem y134 : cg3 ρ .fail = .fail := by rfl
theorem y135 : cg2 G d (.ok ds ρ) = cg3 ρ (G d ds) := by rfl
theorem y136 : cg2 G d (.raise nm) = .raise nm := by rfl
theorem y137 : cg2 G d .fail = .fail := by rfl
theorem y138 : cg1 G r (.ok d ρ) = cg2 G d (r ρ) := by rfl
theorem y139 : cg1 G r (.raise nm) = .raise nm := by rfl
theorem y140 : cg1 G r .fail = .fail := by rfl
theorem y141 : at2 y ρ (some d) = oE (dAt d y) ρ := by rfl
theorem y142 : at1 i (.ok y ρ) = at2 y ρ (ownAt ρ i) := by rfl
theorem y143 : at1 i (.raise nm) = .raise nm := by rfl
theorem y144 : at1 i .fail = .fail := by rfl
theorem y145 : at0 i b ρ (some d) = at1 i (b ρ) := by rfl
theorem y146 : fi1 ff ρ (some d) = oE (ff [d]) ρ := by rfl
theorem y147 : in2 f x ρ (some d) = oE (f x d) ρ := by rfl
theorem y148 : in1 f i (.ok x ρ) = in2 f x ρ (ownAt ρ i) := by rfl
theorem y149 : in1 f i (.raise nm) = .raise nm := by rfl
theorem y150 : in1 f i .fail = .fail := by rfl
theorem y151 : pt1 (.ok (.int kk) ρ) = .ok (.int kk) ρ := by rfl
theorem y152 : pt1 (.raise nm) = .raise nm := by rfl
theorem y153 : pt1 .fail = .fail := by rfl
theorem y154 : sl3 ss x .non (.ok .non ρ) = oE (ss x none none) ρ := by rfl
theorem y155 : sl3 ss x .non (.ok (.int kk) ρ) = oE (ss x none (some kk)) ρ := by rfl
theorem y156 : sl3 ss x (.int kk) (.ok .non ρ) = oE (ss x (some kk) none) ρ := by rfl
theorem y157 : sl3 ss x (.int kk) (.ok (.int ll) ρ) = oE (ss x (some kk) (some ll)) ρ := by rfl
theorem y158 : sl2 ss x b (.ok y ρ) = sl3 ss x y (b ρ) := by rfl
theorem y159 : sl2 ss x b (.raise nm) = .raise nm := by rfl
theorem y160 : sl2 ss x b .fail = .fail := by rfl
theorem y161 : sl1 ss a b (.ok x ρ) = sl2 ss x b (a ρ) := by rfl
theorem y162 : sl1 ss a b (.raise nm) = .raise nm := by rfl
theorem y163 : sl1 ss a b .fail = .fail := by rfl
theorem y164 : oB (some bb) ρ = .ok (.bl bb) ρ := by rfl
theorem y165 : oB none ρ = .fail := by rfl
theorem y166 : ch4 q y (.ok z ρ) = oB (q y z) ρ := by rfl
theorem y167 : ch4 q y (.raise nm) = .raise nm := by rfl
theorem y168 : ch4 q y .fail = .fail := by rfl
theorem y169 : ch3 q y k ρ (some true) = ch4 q y (k ρ) := by rfl
theorem y170 : ch3 q y k ρ (some false) = .ok (.bl false) ρ := by rfl
theorem y171 : ch3 q y k ρ none = .fail := by rfl
theorem y172 : ch2 p q x k (.ok y ρ) = ch3 q y k ρ (p x y) := by rfl
theorem y173 : ch2 p q x k (.raise nm) = .raise nm := by rfl
theorem y174 : ch2 p q x k .fail = .fail := by rfl
theorem y175 : ch1 p q b k (.ok x ρ) = ch2 p q x k (b ρ) := by rfl
theorem y176 : ch1 p q b k (.raise nm) = .raise nm := by rfl
theorem y177 : ch1 p q b k .fail = .fail := by rfl
theorem y178 : ref1 ρ (.ok d ρ2) = .ok (.str "") ρ := by rfl
theorem y179 : ref1 ρ (.raise nm) = .ok (.str nm) ρ := by rfl
theorem y180 : ref1 ρ .fail = .fail := by rfl
theorem y181 : ra1 (.raise nm) = .raise nm := by rfl
theorem y182 : ra1 (.ok (.str nm) ρ) = if nm.length ≤ 1000 then .raise nm else .fail := by rfl
theorem y183 : it1 (.ok (.lst ds) ρ) = .ok ds ρ := by rfl
theorem y184 : it1 (.raise nm) = .raise nm := by rfl
theorem y185 : it1 .fail = .fail := by rfl
theorem y186 : it1 (.ok (.tup ds) ρ) = .ok ds ρ := by rfl
theorem y187 : rg1 (.ok [.int kk] ρ) = if -(2 ^ 62) ≤ kk ∧ kk < 2 ^ 62 then .ok (rngD 0 kk.toNat) ρ else .fail := by rfl
theorem y188 : rg1 (.raise nm) = .raise nm := by rfl
theorem y189 : rg1 .fail = .fail := by rfl
theorem y190 : rg2 (.ok [.int kk, .int ll] ρ) = if -(2 ^ 62) ≤ kk ∧ kk < 2 ^ 62 ∧ -(2 ^ 62) ≤ ll ∧ ll < 2 ^ 62 then .ok (rngD kk (ll - kk).toNat) ρ else .fail := by rfl
theorem y191 : rg2 (.raise nm) = .raise nm := by rfl
theorem y192 : rg2 .fail = .fail := by rfl
theorem y193 : zp1 (.ok [.tup ds, .tup es] ρ) = .ok (zipD ds es) ρ := by rfl
theorem y194 : zp1 (.raise nm) = .raise nm := by rfl
theorem y195 : zp1 .fail = .fail := by rfl
theorem y196 : zp1 (.ok [.lst ds, .lst es] ρ) = .ok (zipD ds es) ρ := by rfl
theorem y197 : fo1 g s (.ok ds ρ) = mForL g s ds ρ := by rfl
theorem y198 : fo1 g s (.raise nm) = .raise nm := by rfl
theorem y199 : fo1 g s .fail = .fail := by rfl
theorem y200 : cm2 ρ vs (.ok ds ρ2) = .ok (.lst ds) (restE ρ2 ρ vs) := by rfl
theorem y201 : cm2 ρ vs .fail = .fail := by rfl
theorem y202 : cm1 vs g mt a (.ok ds ρ) = if ds.length ≤ 16000000 then cm2 ρ vs (cmpL vs g mt a ds (wipeE ρ vs)) else .fail := by rfl
theorem y203 : cm1 vs g mt a (.raise nm) = .raise nm := by rfl
theorem y204 : cm1 vs g mt a .fail = .fail := by rfl
theorem y205 : al2 ρ vs (.ok bb ρ2) = .ok (.bl bb) (restE ρ2 ρ vs) := by rfl
theorem y206 : al1 vs g a (.ok ds ρ) = al2 ρ vs (allL vs g a ds (wipeE ρ vs)) := by rfl
theorem y207 : al1 vs g a (.raise nm) = .raise nm := by rfl
theorem y208 : al1 vs g a .fail = .fail := by rfl
theorem y209 : me2 f x (.ok y ρ) = oE (f x y) ρ := by rfl
theorem y210 : me2 f x (.raise nm) = .raise nm := by rfl
theorem y211 : me2 f x .fail = .fail := by rfl
theorem y212 : me1 cc f b (.ok x ρ) = if cc x = true then me2 f x (b ρ) else .fail := by rfl
theorem y213 : me1 cc f b (.raise nm) = .raise nm := by rfl
theorem y214 : me1 cc f b .fail = .fail := by rfl
theorem y215 : rd1 (.next ρ) = .ok .non := by rfl
theorem y216 : rd1 (.ret d ρ) = .ok d := by rfl
theorem y217 : rd1 (.retO d ρ) = .okO d := by rfl
theorem y218 : rd1 (.raise nm) = .raise nm := by rfl
theorem y219 : rd1 .fail = .fail := by rfl
theorem y220 : ri2 z (some (.pw d)) = .ok z d := by rfl
theorem y221 : ri1 (.next ρ) = ri2 .non ρ[0]? := by rfl
theorem y222 : ri1 (.ret z ρ) = ri2 z ρ[0]? := by rfl
theorem y223 : Sl.put (.ow x) d = .ow d := by rfl
theorem y224 : Sl.put (.pw x) d = .pw d := by rfl
theorem y225 : mYes ρ = .ok true ρ := by rfl
theorem y226 : wipeE ρ [] = ρ := by rfl
theorem y227 : wipeE ρ (i :: vs) = (wipeE ρ vs).set i .em := by rfl
theorem y228 : restE ρ ρ2 [] = ρ := by rfl
theorem y229 : restE ρ ρ2 (i :: vs) = restE (ρ.set i (keepS (wipeE ρ2 vs)[i]?)) ρ2 vs := by rfl
theorem y230 : keepS (some (.im d)) = .im d := by rfl
theorem y231 : keepS (some .em) = .em := by rfl
theorem y232 : keepS (some (.ow d)) = .em := by rfl
theorem y233 : keepS (some (.pw d)) = .em := by rfl
theorem y234 : hideE [] = [] := by rfl
theorem y235 : hideE (.im d :: ρ) = .im d :: hideE ρ := by rfl
theorem y236 : hideE (.em :: ρ) = .em :: hideE ρ := by rfl
theorem y237 : hideE (.ow d :: ρ) = .em :: hideE ρ := by rfl
theorem y238 : hideE (.pw d :: ρ) = .em :: hideE ρ := by rfl
theorem y239 : au1 f i a (.ok x ρ) = au2 f i x (a ρ) := by rfl
theorem y240 : au2 f i x (.ok y ρ) = au3 i ρ (f x y) := by rfl
theorem y241 : au3 i ρ (some z) = .next (ρ.set i (.im z)) := by rfl
theorem y242 : dAdd (.int kk) (.int ll) = some (.int (kk + ll)) := by rfl
theorem y243 : dSub (.int kk) (.int ll) = some (.int (kk - ll)) := by rfl
theorem y244 : dNeg (.int kk) = some (.int (-kk)) := by rfl
theorem y245 : dMul (.int kk) (.int ll) = if kk.natAbs.log2 + ll.natAbs.log2 < 1000000 then some (.int (kk * ll)) else none := by rfl
theorem y246 : dDiv (.int kk) (.int ll) = if 0 < ll ∧ ll.natAbs.log2 < 9000 then some (.int (kk / ll)) else none := by rfl
theorem y247 : dMod (.int kk) (.int ll) = if 0 < ll then some (.int (kk % ll)) else none := by rfl
theorem y248 : bO dLt (.int kk) (.int ll) = some (.bl (decide (kk < ll))) := by rfl
theorem y249 : dLt (.int kk) (.int ll) = some (decide (kk < ll)) := by rfl
theorem y250 : bO dLe (.int kk) (.int ll) = some (.bl (decide (kk ≤ ll))) := by rfl
theorem y251 : dLe (.int kk) (.int ll) = some (decide (kk ≤ ll)) := by rfl
theorem y252 : bO dGt (.int kk) (.int ll) = some (.bl (decide (ll < kk))) := by rfl
theorem y253 : dGt (.int kk) (.int ll) = some (decide (ll < kk)) := by rfl
theorem y254 : bO dGe (.int kk) (.int ll) = some (.bl (decide (ll ≤ kk))) := by rfl
theorem y255 : dGe (.int kk) (.int ll) = some (decide (ll ≤ kk)) := by rfl
theorem y256 : dLen [.lst ds] = some (.int (ds.length : Int)) := by rfl
theorem y257 : dLen [.tup ds] = some (.int (ds.length : Int)) := by rfl
theorem y258 : dLen [.scr ns] = some (.int (ns.length : Int)) := by rfl
theorem y259 : dAbs [.int kk] = some (.int (if kk < 0 then -kk else kk)) := by rfl
theorem y260 : dInt [.int kk] = some (.int kk) := by rfl
theorem y261 : dMax2 [.int kk, .int ll] = some (.int (if ll > kk then ll else kk)) := by rfl
theorem y262 : dMin2 [.int kk, .int ll] = some (.int (if ll < kk then ll else kk)) := by rfl
theorem y263 : dTuple [.lst ds] = some (.tup ds) := by rfl
theorem y264 : dTuple [.tup ds] = some (.tup ds) := by rfl
theorem y265 : dMkT ds = if ds.length ≤ 1000 then some (.tup ds) else none := by rfl
theorem y266 : dMkL ds = if ds.length ≤ 1000 then some (.lst ds) else none := by rfl
theorem y267 : dAt (.lst ds) (.int kk) = atI ds kk := by rfl
theorem y268 : dAt (.tup ds) (.int kk) = atI ds kk := by rfl
theorem y269 : dAt (.scr ns) (.int kk) = (atI ns kk).map D.int := by rfl
theorem y270 : dSl (.lst ds) oa ob = some (.lst (cutL ds oa ob)) := by rfl
theorem y271 : dSl (.tup ds) oa ob = some (.tup (cutL ds oa ob)) := by rfl
theorem y272 : dSl (.scr ns) oa ob = some (.lst ((cutL ns oa ob).map D.int)) := by rfl
theorem y273 : fApp ds x = if ds.length < 16000000 then some (ds ++ [x]) else none := by rfl
theorem y274 : bO dIsN .non .non = some (.bl true) := by rfl
theorem y275 : bO dIsN (.int kk) .non = some (.bl false) := by rfl
theorem y276 : bO dNotN (.int kk) .non = some (.bl true) := by rfl
theorem y277 : bO dIsN (.bl bb) .non = some (.bl false) := by rfl
theorem y278 : bO dNotN (.bl bb) .non = some (.bl true) := by rfl
theorem y279 : bO dIsN (.str nm) .non = some (.bl false) := by rfl
theorem y280 : bO dNotN (.str nm) .non = some (.bl true) := by rfl
theorem y281 : bO dIsN (.tup ds) .non = some (.bl false) := by rfl
theorem y282 : bO dNotN (.tup ds) .non = some (.bl true) := by rfl
theorem y283 : bO dIsN (.lst ds) .non = some (.bl false) := by rfl
theorem y284 : bO dNotN (.lst ds) .non = some (.bl true) := by rfl
theorem y285 : bO dNotN .non .non = some (.bl false) := by rfl
end
end RK
set_option Elab.async false
set_option linter.all false
set_option maxRecDepth 100000
set_option maxHeartbeats 2000000
/-! RkU: more for reckoning: types, indices, loops. -/
namespace RK
open PySem PySem.Spec PyProof.Rows L2 RZ
theorem u_int_NoneType  : dIsi "int" (.non) = some (.bl false) := by unfold dIsi tyD; kernel_rfl
theorem u_int_bool {b : Bool} : dIsi "int" (.bl b) = some (.bl true) := by unfold dIsi tyD; kernel_rfl
theorem u_int_int {i : Int} : dIsi "int" (.int i) = some (.bl true) := by unfold dIsi tyD; kernel_rfl
theorem u_int_str {s : Str} : dIsi "int" (.str s) = some (.bl false) := by unfold dIsi tyD; kernel_rfl
theorem u_int_tuple {ds : List D} : dIsi "int" (.tup ds) = some (.bl false) := by unfold dIsi tyD; kernel_rfl
theorem u_int_list {ds : List D} : dIsi "int" (.lst ds) = some (.bl false) := by unfold dIsi tyD; kernel_rfl
theorem u_bool_NoneType  : dIsi "bool" (.non) = some (.bl false) := by unfold dIsi tyD; kernel_rfl
theorem u_bool_bool {b : Bool} : dIsi "bool" (.bl b) = some (.bl true) := by unfold dIsi tyD; kernel_rfl
theorem u_bool_int {i : Int} : dIsi "bool" (.int i) = some (.bl false) := by unfold dIsi tyD; kernel_rfl
theorem u_bool_str {s : Str} : dIsi "bool" (.str s) = some (.bl false) := by unfold dIsi tyD; kernel_rfl
theorem u_bool_tuple {ds : List D} : dIsi "bool" (.tup ds) = some (.bl false) := by unfold dIsi tyD; kernel_rfl
theorem u_bool_list {ds : List D} : dIsi "bool" (.lst ds) = some (.bl false) := by unfold dIsi tyD; kernel_rfl
theorem u_tuple_NoneType  : dIsi "tuple" (.non) = some (.bl false) := by unfold dIsi tyD; kernel_rfl
theorem u_tuple_bool {b : Bool} : dIsi "tuple" (.bl b) = some (.bl false) := by unfold dIsi tyD; kernel_rfl
theorem u_tuple_int {i : Int} : dIsi "tuple" (.int i) = some (.bl false) := by unfold dIsi tyD; kernel_rfl
theorem u_tuple_str {s : Str} : dIsi "tuple" (.str s) = some (.bl false) := by unfold dIsi tyD; kernel_rfl
theorem u_tuple_tuple {ds : List D} : dIsi "tuple" (.tup ds) = some (.bl true) := by unfold dIsi tyD; kernel_rfl
theorem u_tuple_list {ds : List D} : dIsi "tuple" (.lst ds) = some (.bl false) := by unfold dIsi tyD; kernel_rfl
theorem u_list_NoneType  : dIsi "list" (.non) = some (.bl false) := by unfold dIsi tyD; kernel_rfl
theorem u_list_bool {b : Bool} : dIsi "list" (.bl b) = some (.bl false) := by unfold dIsi tyD; kernel_rfl
theorem u_list_int {i : Int} : dIsi "list" (.int i) = some (.bl false) := by unfold dIsi tyD; kernel_rfl
theorem u_list_str {s : Str} : dIsi "list" (.str s) = some (.bl false) := by unfold dIsi tyD; kernel_rfl
theorem u_list_tuple {ds : List D} : dIsi "list" (.tup ds) = some (.bl false) := by unfold dIsi tyD; kernel_rfl
theorem u_list_list {ds : List D} : dIsi "list" (.lst ds) = some (.bl true) := by unfold dIsi tyD; kernel_rfl
theorem u_str_NoneType  : dIsi "str" (.non) = some (.bl false) := by unfold dIsi tyD; kernel_rfl
theorem u_str_bool {b : Bool} : dIsi "str" (.bl b) = some (.bl false) := by unfold dIsi tyD; kernel_rfl
theorem u_str_int {i : Int} : dIsi "str" (.int i) = some (.bl false) := by unfold dIsi tyD; kernel_rfl
theorem u_str_str {s : Str} : dIsi "str" (.str s) = some (.bl true) := by unfold dIsi tyD; kernel_rfl
theorem u_str_tuple {ds : List D} : dIsi "str" (.tup ds) = some (.bl false) := by unfold dIsi tyD; kernel_rfl
theorem u_str_list {ds : List D} : dIsi "str" (.lst ds) = some (.bl false) := by unfold dIsi tyD; kernel_rfl
theorem u_replicate0 : List.replicate 0 Sl.em = [] := rfl
theorem u_rng {lo : Int} {n : Nat} : (rngD lo n).length = n := by unfold rngD; simp
/-- a loop over a range, by states -/
theorem forR {g : MG} {b : MS} {n : Nat} {lo : Int} (env : Nat → Env) (h : ∀ i, i < n → ∃ ρ1, g (.int (lo + (i : Int))) (env i) = some ρ1 ∧ (b ρ1 = .next (env (i + 1)) ∨ b ρ1 = .cont (env (i + 1)))) : mForL g b (rngD lo n) (env 0) = .next (env n) := by
  have key : ∀ (k i : Nat), i + k = n → mForL g b ((List.range' i k).map fun j : Nat => D.int (lo + (j : Int))) (env i) = .next (env n) := by
    intro k
    induction k with
    | zero =>
      intro i e
      have e' : i = n := by omega
      subst e'
      rfl
    | succ k ih =>
      intro i e
      obtain ⟨ρ1, h1, h2⟩ := h i (by omega)
      rw [List.range'_succ, List.map_cons]
      unfold mForL
      rw [h1]
      dsimp only
      rcases h2 with h2 | h2
      · rw [h2]; exact ih (i + 1) (by omega)
      · rw [h2]; exact ih (i + 1) (by omega)
  have e := key n 0 (by omega)
  unfold rngD
  rw [List.range_eq_range']
  exact e
/-- .. that may end early: at the first turn that is not plain -/
theorem forR_stop {g : MG} {b : MS} {n m : Nat} {lo : Int} {r : SR} (env : Nat → Env) (hm : m < n) (h : ∀ i, i < m → ∃ ρ1, g (.int (lo + (i : Int))) (env i) = some ρ1 ∧ (b ρ1 = .next (env (i + 1)) ∨ b ρ1 = .cont (env (i + 1))))
    (hs : ∃ ρ1, g (.int (lo + (m : Int))) (env m) = some ρ1 ∧ ((b ρ1 = r ∧ ((∃ d ρ, r = .ret d ρ) ∨ (∃ d ρ, r = .retO d ρ) ∨ ∃ s, r = .raise s)) ∨ ∃ ρ, b ρ1 = .brk ρ ∧ r = .next ρ)) : mForL g b (rngD lo n) (env 0) = r := by
  have key : ∀ (k i : Nat), i + k = m → mForL g b ((List.range' i (n - i)).map fun j : Nat => D.int (lo + (j : Int))) (env i) = r := by
    intro k
    induction k with
    | zero =>
      intro i e
      have e' : i = m := by omega
      subst e'
      have en : n - i = (n - i - 1) + 1 := by omega
      rw [en, List.range'_succ, List.map_cons]
      unfold mForL
      obtain ⟨ρ1, h1, h2⟩ := hs
      rw [h1]
      dsimp only
      rcases h2 with ⟨h2, h3⟩ | ⟨ρ, h2, h3⟩
      · rw [h2]
        rcases h3 with ⟨_, _, rfl⟩ | ⟨_, _, rfl⟩ | ⟨_, rfl⟩ <;> rfl
      · rw [h2, h3]
    | succ k ih =>
      intro i e
      obtain ⟨ρ1, h1, h2⟩ := h i (by omega)
      have en : n - i = (n - (i + 1)) + 1 := by omega
      rw [en, List.range'_succ, List.map_cons]
      unfold mForL
      rw [h1]
      dsimp only
      rcases h2 with h2 | h2
      · rw [h2]; exact ih (i + 1) (by omega)
      · rw [h2]; exact ih (i + 1) (by omega)
  have e := key m 0 (by omega)
  unfold rngD
  rw [List.range_eq_range']
  exact e
/-- a loop over any items, by states -/
theorem forL {g : MG} {b : MS} (env : Nat → Env) {ds : List D} (h : ∀ i d, ds[i]? = some d → ∃ ρ1, g d (env i) = some ρ1 ∧ (b ρ1 = .next (env (i + 1)) ∨ b ρ1 = .cont (env (i + 1)))) : mForL g b ds (env 0) = .next (env ds.length) := by
  have key : ∀ (es : List D) (i : Nat), ds.drop i = es → i ≤ ds.length → mForL g b es (env i) = .next (env ds.length) := by
    intro es
    induction es with
    | nil =>
      intro i e hi
      have : i = ds.length := by
        have := List.drop_eq_nil_iff.mp e
        omega
      subst this
      rfl
    | cons d es ih =>
      intro i e hi
      have hd : ds[i]? = some d := by
        have := congrArg List.head? e
        rw [List.head?_drop] at this
        exact this
      obtain ⟨ρ1, h1, h2⟩ := h i d hd
      have hlt : i < ds.length := (List.getElem?_eq_some_iff.mp hd).1
      have e2 : ds.drop (i + 1) = es := by
        rw [← List.drop_drop, e]
        rfl
      unfold mForL
      rw [h1]
      dsimp only
      rcases h2 with h2 | h2
      · rw [h2]; exact ih (i + 1) e2 hlt
      · rw [h2]; exact ih (i + 1) e2 hlt
  exact key ds 0 rfl (Nat.zero_le _)
/-- a comprehension without a test that leaves its env -/
theorem cmpL_map {vs : List Nat} {g : MG} {elt : ME} {ρ : Env} (hw : wipeE ρ vs = ρ) (f : D → D) : ∀ {ds : List D}, (∀ d ∈ ds, ∃ ρ1 ρ3, g d ρ = some ρ1 ∧ elt ρ1 = .ok (f d) ρ3 ∧ wipeE ρ3 vs = ρ) → cmpL vs g mYes elt ds ρ = .ok (ds.map f) ρ
  | [], _ => rfl
  | d :: ds, h => by
    obtain ⟨ρ1, ρ3, h1, h2, h3⟩ := h d List.mem_cons_self
    have ih := cmpL_map hw f (ds := ds) fun x hx => h x (List.mem_cons_of_mem _ hx)
    unfold cmpL
    simp only [h1, mYes, h2, h3, ih, List.map_cons]
/-- .. with a test -/
theorem cmpL_filter {vs : List Nat} {g : MG} {tst : MB} {elt : ME} {ρ : Env} (p : D → Bool) (f : D → D) : ∀ {ds : List D}, (∀ d ∈ ds, ∃ ρ1 ρ2, g d ρ = some ρ1 ∧ tst ρ1 = .ok (p d) ρ2 ∧ (p d = false → wipeE ρ2 vs = ρ) ∧ (p d = true → ∃ ρ3, elt ρ2 = .ok (f d) ρ3 ∧ wipeE ρ3 vs = ρ)) →
    cmpL vs g tst elt ds ρ = .ok ((ds.filter p).map f) ρ
  | [], _ => rfl
  | d :: ds, h => by
    obtain ⟨ρ1, ρ2, h1, h2, h3, h4⟩ := h d List.mem_cons_self
    have ih := cmpL_filter p f (ds := ds) fun x hx => h x (List.mem_cons_of_mem _ hx)
    unfold cmpL
    cases hp : p d with
    | false =>
      rw [hp] at h2
      simp only [h1, h2, h3 hp, ih]
      rw [List.filter_cons_of_neg (by rw [hp]; simp)]
    | true =>
      rw [hp] at h2
      obtain ⟨ρ3, h5, h6⟩ := h4 hp
      simp only [h1, h2, h5, h6, ih]
      rw [List.filter_cons_of_pos hp, List.map_cons]
theorem allL_eq {vs : List Nat} {g : MG} {elt : ME} {ρ : Env} (p : D → Bool) : ∀ {ds : List D}, (∀ d ∈ ds, ∃ ρ1 ρ3, g d ρ = some ρ1 ∧ elt ρ1 = .ok (.bl (p d)) ρ3 ∧ wipeE ρ3 vs = ρ) → allL vs g elt ds ρ = .ok (ds.all p) ρ
  | [], _ => rfl
  | d :: ds, h => by
    obtain ⟨ρ1, ρ3, h1, h2, h3⟩ := h d List.mem_cons_self
    have ih := allL_eq p (ds := ds) fun x hx => h x (List.mem_cons_of_mem _ hx)
    unfold allL
    cases hp : p d with
    | true =>
      rw [hp] at h2
      simp only [h1, h2, h3, ih, List.all_cons, hp, Bool.true_and]
    | false =>
      rw [hp] at h2
      simp only [h1, h2, h3, List.all_cons, hp, Bool.false_and]
theorem atN {α : Type} {xs : List α} {i : Nat} {x : α} (h : xs[i]? = some x) : atI xs (i : Int) = some x := by
  have hl := (List.getElem?_eq_some_iff.mp h).1
  unfold atI
  have e : ixN xs.length (i : Int) = some i := by
    unfold ixN
    rw [if_pos (by omega), if_pos (by omega)]
    simp
  rw [e]
  exact h
theorem atI_z {α : Type} {x : α} {xs : List α} : atI (x :: xs) 0 = some x := atN (i := 0) rfl
theorem atI_one {α : Type} {x y : α} {xs : List α} : atI (x :: y :: xs) 1 = some y := atN (i := 1) rfl
theorem atI_two {α : Type} {x y z : α} {xs : List α} : atI (x :: y :: z :: xs) 2 = some z := atN (i := 2) rfl
theorem atI_three {α : Type} {x y z u : α} {xs : List α} : atI (x :: y :: z :: u :: xs) 3 = some u := atN (i := 3) rfl
theorem atI_of {α : Type} {xs : List α} {k : Int} {x : α} (h0 : 0 ≤ k) (h : xs[k.toNat]? = some x) : atI xs k = some x := by
  have e : k = ((k.toNat : Nat) : Int) := by omega
  rw [e]
  exact atN h
/-- ints compared by == -/
theorem dEqv_int (i j : Int) : dEqv (.int i) (.int j) = decide (i = j) := by
  unfold dEqv
  unfold toP
  first
    | rfl
    | (simp [PyData.eqv]; done)
    | (unfold PyData.eqv; simp)
theorem dEq_int (i j : Int) : dEq (.int i) (.int j) = some (decide (i = j)) := by
  unfold dEq
  rw [if_pos (by rfl), dEqv_int]
theorem dEqv_bl (i j : Bool) : dEqv (.bl i) (.bl j) = decide (i = j) := by
  unfold dEqv
  unfold toP
  first
    | rfl
    | (simp [PyData.eqv]; done)
    | (cases i <;> cases j <;> rfl)
theorem bO_eq_int (i j : Int) : bO dEq (.int i) (.int j) = some (.bl (decide (i = j))) := by
  unfold bO
  rw [dEq_int]; rfl
theorem bO_ne_int (i j : Int) : bO dNe (.int i) (.int j) = some (.bl (!decide (i = j))) := by
  unfold bO dNe
  rw [dEq_int]; rfl
mutual
theorem eqv_self : ∀ d : D, dLay d = true → dEqv d d = true
  | .non, _ => by unfold dEqv toP; first | rfl | simp [PyData.eqv]
  | .bl b, _ => by rw [dEqv_bl]; simp
  | .int i, _ => by rw [dEqv_int]; simp
  | .str s, _ => by unfold dEqv toP; first | (simp [PyData.eqv]; done) | rfl
  | .tup ds, h => by
    have := eqvs_self ds h
    unfold dEqvs at this
    unfold dEqv toP
    unfold PyData.eqv
    exact this
  | .lst ds, h => by
    have := eqvs_self ds h
    unfold dEqvs at this
    unfold dEqv toP
    unfold PyData.eqv
    exact this
  | .dct _ _, h => by cases h
  | .scr _, h => by cases h
theorem eqvs_self : ∀ ds : List D, dLays ds = true → dEqvs ds ds = true
  | [], _ => by unfold dEqvs toPs; first | rfl | simp [PyData.eqvAll]
  | d :: ds, h => by
    unfold dLays at h
    rw [Bool.and_eq_true] at h
    have h1 := eqv_self d h.1
    have h2 := eqvs_self ds h.2
    unfold dEqvs at h2 ⊢
    unfold dEqv at h1
    unfold toPs PyData.eqvAll
    rw [h1, h2]; rfl
end
/-- equal trees, told apart by != -/
theorem bO_ne_self {d : D} (h : eqOk d = true) : bO dNe d d = some (.bl false) := by
  have h' := h
  unfold eqOk at h'
  rw [Bool.and_eq_true] at h'
  unfold bO dNe dEq
  rw [h, eqv_self d h'.1]; rfl
theorem bO_eq_self {d : D} (h : eqOk d = true) : bO dEq d d = some (.bl true) := by
  have h' := h
  unfold eqOk at h'
  rw [Bool.and_eq_true] at h'
  unfold bO dEq
  rw [h, eqv_self d h'.1]; rfl
end RK
namespace RK
open PySem PySem.Spec PyProof.Rows L2 RZ
/-- a loop over items, by what holds of the env -/
theorem forP {g : MG} {b : MS} {ds : List D} (P : Nat → Env → Prop) {ρ0 : Env} (h0 : P 0 ρ0) (h : ∀ i d ρ, ds[i]? = some d → P i ρ → ∃ ρ1 ρ2, g d ρ = some ρ1 ∧ (b ρ1 = .next ρ2 ∨ b ρ1 = .cont ρ2) ∧ P (i + 1) ρ2) : ∃ ρ, mForL g b ds ρ0 = .next ρ ∧ P ds.length ρ := by
  have key : ∀ (es : List D) (i : Nat) (ρ : Env), ds.drop i = es → i ≤ ds.length → P i ρ → ∃ ρ', mForL g b es ρ = .next ρ' ∧ P ds.length ρ' := by
    intro es
    induction es with
    | nil =>
      intro i ρ e hi hp
      have e2 : i = ds.length := by
        have := List.drop_eq_nil_iff.mp e
        omega
      subst e2
      exact ⟨ρ, rfl, hp⟩
    | cons d es ih =>
      intro i ρ e hi hp
      have hd : ds[i]? = some d := by
        have := congrArg List.head? e
        rw [List.head?_drop] at this
        exact this
      obtain ⟨ρ1, ρ2, h1, h2, h3⟩ := h i d ρ hd hp
      have hlt : i < ds.length := (List.getElem?_eq_some_iff.mp hd).1
      have e2 : ds.drop (i + 1) = es := by
        rw [← List.drop_drop, e]
        rfl
      unfold mForL
      rw [h1]
      dsimp only
      rcases h2 with h2 | h2
      · rw [h2]; exact ih (i + 1) ρ2 e2 hlt h3
      · rw [h2]; exact ih (i + 1) ρ2 e2 hlt h3
  exact key ds 0 ρ0 rfl (Nat.zero_le _) h0
/-- over a range -/
theorem forPR {g : MG} {b : MS} {lo : Int} {n : Nat} (P : Nat → Env → Prop) {ρ0 : Env} (h0 : P 0 ρ0) (h : ∀ i ρ, i < n → P i ρ → ∃ ρ1 ρ2, g (.int (lo + (i : Int))) ρ = some ρ1 ∧ (b ρ1 = .next ρ2 ∨ b ρ1 = .cont ρ2) ∧ P (i + 1) ρ2) : ∃ ρ, mForL g b (rngD lo n) ρ0 = .next ρ ∧ P n ρ := by
  obtain ⟨ρ, h1, h2⟩ := forP (ds := rngD lo n) P h0 fun i d ρ hd hp => by
    obtain ⟨hi, rfl⟩ := rngD_get hd
    exact h i ρ hi hp
  rw [u_rng] at h2
  exact ⟨ρ, h1, h2⟩
/-- ended early, at the item m -/
theorem forPS {g : MG} {b : MS} {ds : List D} {m : Nat} {dm : D} {r : SR} (P : Nat → Env → Prop) {ρ0 : Env} (hm : ds[m]? = some dm) (h0 : P 0 ρ0)
    (h : ∀ i d ρ, i < m → ds[i]? = some d → P i ρ → ∃ ρ1 ρ2, g d ρ = some ρ1 ∧ (b ρ1 = .next ρ2 ∨ b ρ1 = .cont ρ2) ∧ P (i + 1) ρ2)
    (hs : ∀ ρ, P m ρ → ∃ ρ1, g dm ρ = some ρ1 ∧ b ρ1 = r) (hr : (∃ d ρ, r = .ret d ρ) ∨ (∃ d ρ, r = .retO d ρ) ∨ ∃ s, r = .raise s) : mForL g b ds ρ0 = r := by
  have key : ∀ (k i : Nat) (ρ : Env), i + k = m → P i ρ → mForL g b (ds.drop i) ρ = r := by
    intro k
    induction k with
    | zero =>
      intro i ρ e hp
      have e' : i = m := by omega
      subst e'
      have hlt : i < ds.length := (List.getElem?_eq_some_iff.mp hm).1
      obtain ⟨ρ1, h1, h2⟩ := hs ρ hp
      rw [List.drop_eq_getElem_cons hlt]
      have ed : ds[i] = dm := (List.getElem?_eq_some_iff.mp hm).2
      unfold mForL
      rw [ed, h1]
      dsimp only
      rw [h2]
      rcases hr with ⟨_, _, rfl⟩ | ⟨_, _, rfl⟩ | ⟨_, rfl⟩ <;> rfl
    | succ k ih =>
      intro i ρ e hp
      have hlm : m < ds.length := (List.getElem?_eq_some_iff.mp hm).1
      have hlt : i < ds.length := by omega
      obtain ⟨ρ1, ρ2, h1, h2, h3⟩ := h i ds[i] ρ (by omega) (List.getElem?_eq_getElem hlt) hp
      rw [List.drop_eq_getElem_cons hlt]
      unfold mForL
      rw [h1]
      dsimp only
      rcases h2 with h2 | h2
      · rw [h2]; exact ih (i + 1) ρ2 (by omega) h3
      · rw [h2]; exact ih (i + 1) ρ2 (by omega) h3
  exact key m 0 ρ0 (by omega) h0
/-- .. over a range -/
theorem forPSR {g : MG} {b : MS} {lo : Int} {n m : Nat} {r : SR} (P : Nat → Env → Prop) {ρ0 : Env} (hm : m < n) (h0 : P 0 ρ0)
    (h : ∀ i ρ, i < m → P i ρ → ∃ ρ1 ρ2, g (.int (lo + (i : Int))) ρ = some ρ1 ∧ (b ρ1 = .next ρ2 ∨ b ρ1 = .cont ρ2) ∧ P (i + 1) ρ2)
    (hs : ∀ ρ, P m ρ → ∃ ρ1, g (.int (lo + (m : Int))) ρ = some ρ1 ∧ b ρ1 = r) (hr : (∃ d ρ, r = .ret d ρ) ∨ (∃ d ρ, r = .retO d ρ) ∨ ∃ s, r = .raise s) : mForL g b (rngD lo n) ρ0 = r := by
  have e : (rngD lo n)[m]? = some (.int (lo + (m : Int))) := by
    unfold rngD
    rw [List.getElem?_map, List.getElem?_range hm]
    rfl
  refine forPS P e h0 (fun i d ρ hi hd hp => ?_) hs hr
  obtain ⟨_, rfl⟩ := rngD_get hd
  exact h i ρ hi hp
/-- while: one turn -/
theorem wh_more {t : MB} {b : MS} {ρ ρ1 ρ2 : Env} (ht : t ρ = .ok true ρ1) (hb : b ρ1 = .next ρ2 ∨ b ρ1 = .cont ρ2) {r : SR} (h : ∃ n, mWhN t b n ρ2 = r ∧ r ≠ .fail) : ∃ n, mWhN t b n ρ = r ∧ r ≠ .fail := by
  obtain ⟨n, h1, h2⟩ := h
  refine ⟨n + 1, ?_, h2⟩
  unfold mWhN
  rw [ht]
  dsimp only
  rcases hb with hb | hb <;> rw [hb] <;> exact h1
theorem wh_end {t : MB} {b : MS} {ρ ρ1 : Env} (ht : t ρ = .ok false ρ1) : ∃ n, mWhN t b n ρ = .next ρ1 ∧ (SR.next ρ1) ≠ .fail :=
  ⟨1, by unfold mWhN; rw [ht], fun z => by cases z⟩
theorem wh_brk {t : MB} {b : MS} {ρ ρ1 ρ2 : Env} (ht : t ρ = .ok true ρ1) (hb : b ρ1 = .brk ρ2) : ∃ n, mWhN t b n ρ = .next ρ2 ∧ (SR.next ρ2) ≠ .fail :=
  ⟨1, by unfold mWhN; rw [ht]; dsimp only; rw [hb], fun z => by cases z⟩
theorem wh_ret {t : MB} {b : MS} {ρ ρ1 : Env} {r : SR} (ht : t ρ = .ok true ρ1) (hb : b ρ1 = r) (hr : (∃ d ρ, r = .ret d ρ) ∨ (∃ d ρ, r = .retO d ρ) ∨ ∃ s, r = .raise s) : ∃ n, mWhN t b n ρ = r ∧ r ≠ .fail := by
  refine ⟨1, ?_, ?_⟩
  · unfold mWhN; rw [ht]; dsimp only; rw [hb]
    rcases hr with ⟨_, _, rfl⟩ | ⟨_, _, rfl⟩ | ⟨_, rfl⟩ <;> rfl
  · rcases hr with ⟨_, _, rfl⟩ | ⟨_, _, rfl⟩ | ⟨_, rfl⟩ <;> (intro z; cases z)
theorem wh_is {t : MB} {b : MS} {ρ : Env} {r : SR} (h : ∃ n, mWhN t b n ρ = r ∧ r ≠ .fail) : mWh t b ρ = r := by
  obtain ⟨n, h1, h2⟩ := h
  have he : ∃ n, mWhN t b n ρ ≠ .fail := ⟨n, by rw [h1]; exact h2⟩
  unfold mWh
  rw [dif_pos he]
  have hc := he.choose_spec
  rcases Nat.le_total n he.choose with q | q
  · rw [mWhN_more (by rw [h1]; exact h2) q, h1]
  · rw [← mWhN_more hc q, h1]
/-- while, by a measure: what holds at the head holds behind a turn, and the measure falls -/
theorem whP {t : MB} {b : MS} (P : Env → Prop) (μ : Env → Nat) (Q : SR → Prop) (h : ∀ ρ, P ρ → (∃ ρ1, t ρ = .ok false ρ1 ∧ Q (.next ρ1)) ∨ (∃ ρ1, t ρ = .ok true ρ1 ∧ ((∃ ρ2, (b ρ1 = .next ρ2 ∨ b ρ1 = .cont ρ2) ∧ P ρ2 ∧ μ ρ2 < μ ρ) ∨ (∃ ρ2, b ρ1 = .brk ρ2 ∧ Q (.next ρ2)) ∨
    ∃ r, b ρ1 = r ∧ ((∃ d ρ, r = .ret d ρ) ∨ (∃ d ρ, r = .retO d ρ) ∨ ∃ s, r = .raise s) ∧ Q r))) {ρ : Env} (h0 : P ρ) : ∃ r, mWh t b ρ = r ∧ Q r := by
  have key : ∀ (k : Nat) (ρ : Env), μ ρ ≤ k → P ρ → ∃ r, (∃ n, mWhN t b n ρ = r ∧ r ≠ .fail) ∧ Q r := by
    intro k
    induction k with
    | zero =>
      intro ρ hk hp
      rcases h ρ hp with ⟨ρ1, h1, h2⟩ | ⟨ρ1, h1, h2⟩
      · exact ⟨_, wh_end h1, h2⟩
      · rcases h2 with ⟨ρ2, _, _, h5⟩ | ⟨ρ2, h3, h4⟩ | ⟨r, h3, h4, h5⟩
        · omega
        · exact ⟨_, wh_brk h1 h3, h4⟩
        · exact ⟨_, wh_ret h1 h3 h4, h5⟩
    | succ k ih =>
      intro ρ hk hp
      rcases h ρ hp with ⟨ρ1, h1, h2⟩ | ⟨ρ1, h1, h2⟩
      · exact ⟨_, wh_end h1, h2⟩
      · rcases h2 with ⟨ρ2, h3, h4, h5⟩ | ⟨ρ2, h3, h4⟩ | ⟨r, h3, h4, h5⟩
        · obtain ⟨r, h6, h7⟩ := ih ρ2 (by omega) h4
          exact ⟨r, wh_more h1 h3 h6, h7⟩
        · exact ⟨_, wh_brk h1 h3, h4⟩
        · exact ⟨_, wh_ret h1 h3 h4, h5⟩
  obtain ⟨r, h1, h2⟩ := key (μ ρ) ρ (Nat.le_refl _) h0
  exact ⟨r, wh_is h1, h2⟩
end RK
namespace RK
open PySem PySem.Spec PyProof.Rows L2 RZ
theorem log_lt {i : Int} (h : i.natAbs < 2 ^ 64) : i.natAbs.log2 < 64 := by
  by_cases e : i.natAbs = 0
  · rw [e]; decide
  · exact (Nat.log2_lt e).mpr h
theorem mul_ok {i j : Int} (hi : i.natAbs < 2 ^ 64) (hj : j.natAbs < 2 ^ 64) : i.natAbs.log2 + j.natAbs.log2 < 1000000 := by
  have := log_lt hi
  have := log_lt hj
  omega
/-- a product of small numbers -/
theorem dMul_ok {i j : Int} (hi : i.natAbs < 2 ^ 64) (hj : j.natAbs < 2 ^ 64) : dMul (.int i) (.int j) = some (.int (i * j)) := by
  unfold dMul
  exact if_pos (mul_ok hi hj)
theorem dDiv_ok {i j : Int} (h : 0 < j) (hj : j.natAbs < 2 ^ 64) : dDiv (.int i) (.int j) = some (.int (i / j)) := by
  unfold dDiv
  exact if_pos ⟨h, Nat.lt_trans (log_lt hj) (by decide)⟩
theorem dMod_ok {i j : Int} (h : 0 < j) : dMod (.int i) (.int j) = some (.int (i % j)) := by
  unfold dMod
  exact if_pos h
theorem dSum_ints {ns : List Int} : dSum [.lst (ns.map D.int)] = some (.int ns.sum) := by
  show (intsOf (ns.map D.int)).map (fun ns => D.int ns.sum) = _
  rw [intsOf_map]; rfl
theorem dSumT_ints {ns : List Int} : dSum [.tup (ns.map D.int)] = some (.int ns.sum) := by
  show (intsOf (ns.map D.int)).map (fun ns => D.int ns.sum) = _
  rw [intsOf_map]; rfl
theorem small64 {i : Int} (h0 : -1000000000000000000 < i) (h1 : i < 1000000000000000000) : i.natAbs < 2 ^ 64 := by
  have e : (2 : Nat) ^ 64 = 18446744073709551616 := by decide
  rw [e]
  omega
/-- items one by one -/
theorem cmpL_list {vs : List Nat} {g : MG} {tst : MB} {elt : ME} {ρ : Env} : ∀ {ds out : List D}, (out.length = ds.length) → (∀ (i : Nat) (d o : D), ds[i]? = some d → out[i]? = some o → ∃ ρ1 ρ2 ρ3, g d ρ = some ρ1 ∧ tst ρ1 = .ok true ρ2 ∧ elt ρ2 = .ok o ρ3 ∧ wipeE ρ3 vs = ρ) → cmpL vs g tst elt ds ρ = .ok out ρ
  | [], [], _, _ => rfl
  | d :: ds, o :: out, hl, h => by
    obtain ⟨ρ1, ρ2, ρ3, h1, h2, h3, h4⟩ := h 0 d o rfl rfl
    have ih := cmpL_list (ds := ds) (out := out) (by simpa using hl) fun i d' o' hd ho => h (i + 1) d' o' (by simpa using hd) (by simpa using ho)
    unfold cmpL
    simp only [h1, h2, h3, h4, ih]
  | [], _ :: _, hl, _ => by simp at hl
  | _ :: _, [], hl, _ => by simp at hl
end RK
namespace RK
open PySem PySem.Spec PyProof.Rows L2 RZ
theorem forC {g : MG} {b : MS} {d : D} {ds : List D} {ρ ρ1 ρ2 : Env} (h1 : g d ρ = some ρ1) (h2 : b ρ1 = .next ρ2) : mForL g b (d :: ds) ρ = mForL g b ds ρ2 := by
  conv => lhs; unfold mForL
  rw [h1]
  dsimp only
  rw [h2]
theorem forN {g : MG} {b : MS} {ρ : Env} : mForL g b [] ρ = .next ρ := by unfold mForL; rfl
end RK
namespace RK
open PySem PySem.Spec PyProof.Rows L2 RZ
/-- a comprehension, by what holds of its out and env -/
theorem cmpP {vs : List Nat} {g : MG} {tst : MB} {elt : ME} {ds : List D} (P : Nat → List D → Env → Prop) {ρ0 : Env} (h0 : P 0 [] ρ0) (h : ∀ (i : Nat) (d : D) (out : List D) (ρ : Env), ds[i]? = some d → P i out ρ →
    ∃ ρ1, g d ρ = some ρ1 ∧ ((∃ ρ2 y ρ3, tst ρ1 = .ok true ρ2 ∧ elt ρ2 = .ok y ρ3 ∧ P (i + 1) (out ++ [y]) (wipeE ρ3 vs)) ∨ (∃ ρ2, tst ρ1 = .ok false ρ2 ∧ P (i + 1) out (wipeE ρ2 vs)))) : ∃ out ρ, cmpL vs g tst elt ds ρ0 = .ok out ρ ∧ P ds.length out ρ := by
  have key : ∀ (es : List D) (i : Nat) (out : List D) (ρ : Env), ds.drop i = es → i ≤ ds.length → P i out ρ → ∃ out' ρ', cmpL vs g tst elt es ρ = .ok out' ρ' ∧ P ds.length (out ++ out') ρ' := by
    intro es
    induction es with
    | nil =>
      intro i out ρ e hi hp
      have e2 : i = ds.length := by
        have := List.drop_eq_nil_iff.mp e
        omega
      subst e2
      exact ⟨[], ρ, rfl, by rw [List.append_nil]; exact hp⟩
    | cons d es ih =>
      intro i out ρ e hi hp
      have hd : ds[i]? = some d := by
        have := congrArg List.head? e
        rw [List.head?_drop] at this
        exact this
      have hlt : i < ds.length := (List.getElem?_eq_some_iff.mp hd).1
      have e2 : ds.drop (i + 1) = es := by
        rw [← List.drop_drop, e]
        rfl
      obtain ⟨ρ1, h1, h2⟩ := h i d out ρ hd hp
      unfold cmpL
      rw [h1]
      dsimp only
      rcases h2 with ⟨ρ2, y, ρ3, h3, h4, h5⟩ | ⟨ρ2, h3, h5⟩
      · obtain ⟨out', ρ', h6, h7⟩ := ih (i + 1) _ _ e2 hlt h5
        rw [h3]
        dsimp only
        rw [h4]
        dsimp only
        rw [h6]
        exact ⟨y :: out', ρ', rfl, by rw [List.append_assoc] at h7; exact h7⟩
      · obtain ⟨out', ρ', h6, h7⟩ := ih (i + 1) _ _ e2 hlt h5
        rw [h3]
        dsimp only
        rw [h6]
        exact ⟨out', ρ', rfl, h7⟩
  obtain ⟨out, ρ, h1, h2⟩ := key ds 0 [] ρ0 rfl (Nat.zero_le _) h0
  exact ⟨out, ρ, h1, by simpa using h2⟩
/-! ### dice: a list of three ints -/
def dice (x y z : Int) : D := .lst [.int x, .int y, .int z]
def Dice (M : Int) (k : Nat) (d : D) : Prop := ∃ x y z : Int, d = .lst [.int x, .int y, .int z] ∧ 0 ≤ x ∧ 0 ≤ y ∧ y < M ∧ 0 ≤ z ∧ z ≤ (k : Int)
theorem Dice.mono {M : Int} {k l : Nat} {d : D} (h : Dice M k d) (hl : k ≤ l) : Dice M l d := by
  obtain ⟨x, y, z, e, h1, h2, h3, h4, h5⟩ := h
  exact ⟨x, y, z, e, h1, h2, h3, h4, by omega⟩
theorem ix30 : ixN 3 0 = some 0 := by rfl
theorem ix31 : ixN 3 1 = some 1 := by rfl
theorem ix32 : ixN 3 2 = some 2 := by rfl
end RK
namespace RK
open PySem PySem.Spec PyProof.Rows L2 RZ
theorem sIx_nat {n : Nat} {d : Nat} (k : Nat) : HT.sIx n d (some (k : Int)) = min k n := by
  unfold HT.sIx
  dsimp only
  split <;> (try split) <;> omega
theorem cut_to {α : Type} {xs : List α} (k : Nat) : cutL xs none (some (k : Int)) = xs.take k := by
  unfold cutL
  rw [sIx_nat]
  show (xs.drop 0).take (min k xs.length - 0) = _
  rw [List.drop_zero, Nat.sub_zero]
  by_cases h : k ≤ xs.length
  · rw [Nat.min_eq_left h]
  · rw [Nat.min_eq_right (by omega), List.take_length, List.take_of_length_le (by omega)]
theorem cut_mid {α : Type} {xs : List α} {a b : Nat} (hb : b ≤ xs.length) (ha : a ≤ b) : cutL xs (some (a : Int)) (some (b : Int)) = (xs.drop a).take (b - a) := by
  unfold cutL
  rw [sIx_nat, sIx_nat, Nat.min_eq_left hb, Nat.min_eq_left (by omega)]
theorem lays_of : ∀ {ds : List D}, (∀ x ∈ ds, dLay x = true) → dLays ds = true
  | [], _ => rfl
  | d :: ds, h => by
    unfold dLays
    rw [h d List.mem_cons_self, lays_of fun x hx => h x (List.mem_cons_of_mem _ hx)]
    rfl
theorem deps_of {n : Nat} : ∀ {ds : List D}, (∀ x ∈ ds, dDep x ≤ n) → dDeps ds ≤ n
  | [], _ => by unfold dDeps; omega
  | d :: ds, h => by
    unfold dDeps
    have h1 := h d List.mem_cons_self
    have h2 := deps_of (ds := ds) fun x hx => h x (List.mem_cons_of_mem _ hx)
    omega
theorem eqOk_tup {ds : List D} (h : ∀ x ∈ ds, dLay x = true ∧ dDep x ≤ 60) : eqOk (.tup ds) = true := by
  have h1 := lays_of fun x hx => (h x hx).1
  have h2 := deps_of fun x hx => (h x hx).2
  unfold eqOk dLay dDep
  rw [h1, Bool.true_and, decide_eq_true_eq]
  omega
theorem eqOk_lst {ds : List D} (h : ∀ x ∈ ds, dLay x = true ∧ dDep x ≤ 60) : eqOk (.lst ds) = true := by
  have h1 := lays_of fun x hx => (h x hx).1
  have h2 := deps_of fun x hx => (h x hx).2
  unfold eqOk dLay dDep
  rw [h1, Bool.true_and, decide_eq_true_eq]
  omega
theorem dep_int {i : Int} : dLay (.int i) = true ∧ dDep (.int i) ≤ 60 := ⟨rfl, by unfold dDep; omega⟩
theorem maxI_of {l : List Int} {v : Int} (h1 : v ∈ l) (h2 : ∀ x ∈ l, x ≤ v) : maxI l = v := by
  have hne : l ≠ [] := fun e => by rw [e] at h1; cases h1
  obtain ⟨q1, q2⟩ := maxI_spec hne
  exact Int.le_antisymm (h2 _ q1) (q2 _ h1)
theorem minI_of {l : List Int} {v : Int} (h1 : v ∈ l) (h2 : ∀ x ∈ l, v ≤ x) : minI l = v := by
  have hne : l ≠ [] := fun e => by rw [e] at h1; cases h1
  obtain ⟨q1, q2⟩ := minI_spec hne
  exact Int.le_antisymm (q2 _ h1) (h2 _ q1)
theorem dMax1_of {l : List Int} {v : Int} (h1 : v ∈ l) (h2 : ∀ x ∈ l, x ≤ v) : dMax1 [.lst (l.map D.int)] = some (.int v) := by
  have hne : ¬ (l.map D.int).length = 0 := fun e => by
    rw [List.length_map] at e
    have := List.eq_nil_of_length_eq_zero e
    rw [this] at h1; cases h1
  show (if (l.map D.int).length = 0 then none else (intsOf (l.map D.int)).map fun ns => D.int (maxI ns)) = _
  rw [if_neg hne, intsOf_map, Option.map_some, maxI_of h1 h2]
theorem dMin1_of {l : List Int} {v : Int} (h1 : v ∈ l) (h2 : ∀ x ∈ l, v ≤ x) : dMin1 [.lst (l.map D.int)] = some (.int v) := by
  have hne : ¬ (l.map D.int).length = 0 := fun e => by
    rw [List.length_map] at e
    have := List.eq_nil_of_length_eq_zero e
    rw [this] at h1; cases h1
  show (if (l.map D.int).length = 0 then none else (intsOf (l.map D.int)).map fun ns => D.int (minI ns)) = _
  rw [if_neg hne, intsOf_map, Option.map_some, minI_of h1 h2]
theorem idxD_int {v : Int} : ∀ {l : List Int} {j : Nat}, l[j]? = some v → (∀ i x, i < j → l[i]? = some x → x ≠ v) → idxD (.int v) (l.map D.int) = some j
  | [], j, h, _ => by simp at h
  | a :: l, 0, h, _ => by
    simp at h
    subst h
    unfold idxD
    rw [List.map_cons]
    dsimp only
    rw [dEqv_int, if_pos (by simp)]
  | a :: l, j + 1, h, hn => by
    have ih := idxD_int (v := v) (l := l) (j := j) (by simpa using h) fun i x hi hx => hn (i + 1) x (by omega) (by simpa using hx)
    have ha : a ≠ v := hn 0 a (by omega) rfl
    rw [List.map_cons]
    unfold idxD
    rw [dEqv_int, if_neg (by simpa using ha), ih]
    rfl
theorem dIndex_int {v : Int} {l : List Int} {j : Nat} (h : l[j]? = some v) (hn : ∀ i x, i < j → l[i]? = some x → x ≠ v) : dIndex (.lst (l.map D.int)) (.int v) = some (.int (j : Int)) := by
  have h1 : eqOk (.lst (l.map D.int)) = true := eqOk_lst fun x hx => by
    obtain ⟨i, _, rfl⟩ := List.mem_map.mp hx
    exact dep_int
  have h2 : eqOk (.int v) = true := rfl
  show (if (eqOk (.int v) && eqOk (.lst (l.map D.int))) = true then (idxD (.int v) (l.map D.int)).map fun j : Nat => D.int (j : Int) else none) = _
  rw [h1, h2, idxD_int h hn]
  rfl
theorem isLst_lst {ds : List D} : isLst (.lst ds) = true := by rfl
end RK
namespace RK
open PySem PySem.Spec PyProof.Rows L2 RZ
def hs : Sl → Sl
  | .im d => .im d
  | _ => .em
theorem hide_cons {s : Sl} {ρ : Env} : hideE (s :: ρ) = hs s :: hideE ρ := by
  unfold hideE
  rw [List.map_cons]
  cases s <;> rfl
theorem hs_im {d : D} : hs (.im d) = .im d := by rfl
theorem dIn_tup {x : D} {ds : List D} (h : (flatD x && ds.all flatD) = true) : dIn x (.tup ds) = some (ds.any fun z => dEqv z x) := by
  unfold dIn dInF
  dsimp only
  rw [if_pos h]
  rfl
theorem dIn_lst {x : D} {ds : List D} (h : (flatD x && ds.all flatD) = true) : dIn x (.lst ds) = some (ds.any fun z => dEqv z x) := by
  unfold dIn dInF
  dsimp only
  rw [if_pos h]
  rfl
theorem sum_nn : ∀ {l : List Int}, (∀ x ∈ l, 0 ≤ x) → 0 ≤ l.sum
  | [], _ => by simp
  | a :: l, h => by
    have h1 := h a List.mem_cons_self
    have h2 := sum_nn (l := l) fun x hx => h x (List.mem_cons_of_mem _ hx)
    rw [List.sum_cons]
    omega
end RK
set_option Elab.async false
set_option linter.all false
set_option maxRecDepth 100000
set_option maxHeartbeats 4000000
/-! K19M: the mirrors. -/
namespace K19
open PySem PySem.Spec PyProof.Rows L2 RZ RK
/-- is_integer: 0 value -/
noncomputable def mis_integer : MS := mRet (mVal (mAndB (mTst (mUn (dIsi "int") (mVar 0))) (mTst (mVal (mNotB (mTst (mUn (dIsi "bool") (mVar 0))))))))
noncomputable def Fis_integer : List D → DR := runD 1 mis_integer
/-- need_integer: 0 value, 1 name, 2 least, 3 most -/
noncomputable def mneed_integer : MS := mIfS (mOrB (mNotB (mTst (mCall Fis_integer (mCons (mVar 0) (mNil))))) (mOrB (mTst (mBin (bO dLt) (mVar 0) (mVar 2))) (mTst (mBin (bO dGt) (mVar 0) (mVar 3))))) (mRaise (mVar 1)) (mNext)
noncomputable def Fneed_integer : List D → DR := runD 4 mneed_integer
noncomputable def e1is_row : ME := mVal (mAndB (mTst (mCall Fis_integer (mCons (mVar 1) (mNil)))) (mTst (mChn dLe dLe (mC (.int 0)) (mVar 1) (mC (.int 200)))))
/-- is_row: 0 value, 1 one -/
noncomputable def mis_row : MS := mSeq (mIfS (mOrB (mNotB (mTst (mUn (dIsi "tuple") (mVar 0)))) (mNotB (mTst (mChn dLe dLe (mC (.int 1)) (mFn dLen (mCons (mVar 0) (mNil))) (mC (.int 24)))))) (mRet (mC (.bl false))) (mNext)) (mRet (mAll [1] (mIt (mVar 0)) (gSet 1) (e1is_row)))
noncomputable def Fis_row : List D → DR := runD 2 mis_row
noncomputable def e1is_sky : ME := mUn (dIsi "bool") (mVar 1)
/-- is_sky: 0 value, 1 one -/
noncomputable def mis_sky : MS := mSeq (mIfS (mOrB (mNotB (mTst (mUn (dIsi "tuple") (mVar 0)))) (mOrB (mTst (mBin (bO dNe) (mFn dLen (mCons (mVar 0) (mNil))) (mC (.int 2)))) (mOrB (mNotB (mTst (mCall Fis_row (mCons (mBin dAt (mVar 0) (mC (.int 0))) (mNil))))) (mTst (mBin (bO dGt) (mFn dLen (mCons (mBin dAt (mVar 0) (mC (.int 0))) (mNil))) (mC (.int 24))))))) (mRet (mC (.bl false))) (mNext)) (mSeq (mIfS (mOrB (mNotB (mTst (mUn (dIsi "tuple") (mBin dAt (mVar 0) (mC (.int 1)))))) (mTst (mBin (bO dNe) (mFn dLen (mCons (mBin dAt (mVar 0) (mC (.int 1))) (mNil))) (mFn dLen (mCons (mBin dAt (mVar 0) (mC (.int 0))) (mNil)))))) (mRet (mC (.bl false))) (mNext)) (mRet (mAll [1] (mIt (mBin dAt (mVar 0) (mC (.int 1)))) (gSet 1) (e1is_sky))))
noncomputable def Fis_sky : List D → DR := runD 2 mis_sky
/-- need_sky: 0 sky, 1 melt -/
noncomputable def mneed_sky : MS := mSeq (mIfS (mNotB (mTst (mCall Fis_sky (mCons (mVar 0) (mNil))))) (mRaise (mC (.str "sky"))) (mNext)) (mDrop (mCall Fneed_integer (mCons (mVar 1) (mCons (mC (.str "melt")) (mCons (mC (.int 0)) (mCons (mC (.int 1000)) (mNil)))))))
noncomputable def Fneed_sky : List D → DR := runD 2 mneed_sky
/-- one_step: 0 sky, 1 melt, 2 step, 3 pack, 4 place, 5 gone -/
noncomputable def mone_step : MS := mSeq (mAsg (mBin dMod (mVar 2) (mFn dLen (mCons (mBin dAt (mVar 0) (mC (.int 0))) (mNil)))) (gSet 4)) (mSeq (mIfS (mTst (mBin dAt (mBin dAt (mVar 0) (mC (.int 1))) (mVar 4))) (mRet (mFn dMkT (mCons (mBin dAdd (mVar 3) (mBin dAt (mBin dAt (mVar 0) (mC (.int 0))) (mVar 4))) (mCons (mC (.int 0)) (mNil))))) (mNext)) (mSeq (mAsg (mFn dMin2 (mCons (mVar 3) (mCons (mVar 1) (mNil)))) (gSet 5)) (mRet (mFn dMkT (mCons (mBin dSub (mVar 3) (mVar 5)) (mCons (mBin dAdd (mBin dAt (mBin dAt (mVar 0) (mC (.int 0))) (mVar 4)) (mVar 5)) (mNil)))))))
noncomputable def Fone_step : List D → DR := runD 6 mone_step
noncomputable def b1rounds_from : MS := mSeq (mMut fApp 3 (mCall Fone_step (mCons (mVar 0) (mCons (mVar 1) (mCons (mVar 4) (mCons (mVar 2) (mNil))))))) (mAsg (mBin dAt (mAtO 3 (mBin dSub (mFnI dLen 3) (mC (.int 1)))) (mC (.int 0))) (gSet 2))
/-- rounds_from: 0 sky, 1 melt, 2 pack, 3 found, 4 step -/
noncomputable def mrounds_from : MS := mSeq (mAsgO (mFn dMkL (mNil)) 3) (mSeq (mFor (mRng1 (mCons (mFn dLen (mCons (mBin dAt (mVar 0) (mC (.int 0))) (mNil))) (mNil))) (gSet 4) (b1rounds_from)) (mRel 3 (mRet (mVar 3))))
noncomputable def Frounds_from : List D → DR := runD 5 mrounds_from
noncomputable def b1snow_course : MS := mSeq (mAsg (mCall Fone_step (mCons (mVar 0) (mCons (mVar 1) (mCons (mVar 5) (mCons (mVar 4) (mNil)))))) (gSet 6)) (mSeq (mMut fApp 3 (mVar 6)) (mAsg (mBin dAt (mVar 6) (mC (.int 0))) (gSet 4)))
/-- snow_course: 0 sky, 1 melt, 2 many, 3 found, 4 pack, 5 step, 6 row -/
noncomputable def msnow_course : MS := mSeq (mDrop (mCall Fneed_sky (mCons (mVar 0) (mCons (mVar 1) (mNil))))) (mSeq (mDrop (mCall Fneed_integer (mCons (mVar 2) (mCons (mC (.str "many")) (mCons (mC (.int 0)) (mCons (mC (.int 500)) (mNil))))))) (mSeq (mAsgO (mFn dMkL (mNil)) 3) (mSeq (mAsg (mC (.int 0)) (gSet 4)) (mSeq (mFor (mRng1 (mCons (mVar 2) (mNil))) (gSet 5) (b1snow_course)) (mRel 3 (mRet (mFn dTuple (mCons (mVar 3) (mNil)))))))))
noncomputable def Fsnow_course : List D → DR := runD 7 msnow_course
noncomputable def t1grows : MB := mTst (mVar 4)
noncomputable def e1grows : ME := mVar 3
noncomputable def t2grows : MB := mNotB (mTst (mVar 4))
noncomputable def e2grows : ME := mC (.int 1)
/-- grows: 0 sky, 1 melt, 2 cold, 3 fall, 4 is_cold -/
noncomputable def mgrows : MS := mSeq (mDrop (mCall Fneed_sky (mCons (mVar 0) (mCons (mVar 1) (mNil))))) (mSeq (mAsg (mFn dSum (mCons (mComp [3, 4] (mZip (mCons (mBin dAt (mVar 0) (mC (.int 0))) (mCons (mBin dAt (mVar 0) (mC (.int 1))) (mNil)))) (gTupM [gSet 3, gSet 4]) (t1grows) (e1grows)) (mNil))) (gSet 2)) (mRet (mBin (bO dGt) (mVar 2) (mBin dMul (mVar 1) (mFn dLen (mCons (mComp [4] (mIt (mBin dAt (mVar 0) (mC (.int 1)))) (gSet 4) (t2grows) (e2grows)) (mNil)))))))
noncomputable def Fgrows : List D → DR := runD 5 mgrows
noncomputable def b1settled_pack : MS := mSeq (mAsg (mBin dAt (mBin dAt (mCall Frounds_from (mCons (mVar 0) (mCons (mVar 1) (mCons (mVar 2) (mNil))))) (mBin dSub (mFn dLen (mCons (mBin dAt (mVar 0) (mC (.int 0))) (mNil))) (mC (.int 1)))) (mC (.int 0))) (gSet 4)) (mSeq (mAsg (mBin (bO dEq) (mVar 4) (mVar 2)) (gSet 3)) (mAsg (mVar 4) (gSet 2)))
noncomputable def t1settled_pack : MB := mNotB (mTst (mVar 3))
/-- settled_pack: 0 sky, 1 melt, 2 pack, 3 is_done, 4 later -/
noncomputable def msettled_pack : MS := mSeq (mAsg (mC (.int 0)) (gSet 2)) (mSeq (mAsg (mC (.bl false)) (gSet 3)) (mSeq (mWh (t1settled_pack) (b1settled_pack)) (mRet (mVar 2))))
noncomputable def Fsettled_pack : List D → DR := runD 5 msettled_pack
noncomputable def e1water_row : ME := mVar 4
/-- water_row: 0 sky, 1 melt, 2 rows, 3 pack, 4 water -/
noncomputable def mwater_row : MS := mSeq (mIfS (mTst (mCall Fgrows (mCons (mVar 0) (mCons (mVar 1) (mNil))))) (mRet (mC .non)) (mNext)) (mSeq (mAsg (mCall Frounds_from (mCons (mVar 0) (mCons (mVar 1) (mCons (mCall Fsettled_pack (mCons (mVar 0) (mCons (mVar 1) (mNil)))) (mNil))))) (gSet 2)) (mRet (mFn dTuple (mCons (mComp [3, 4] (mIt (mVar 2)) (gTupM [gSet 3, gSet 4]) (mYes) (e1water_row)) (mNil)))))
noncomputable def Fwater_row : List D → DR := runD 5 mwater_row
noncomputable def b1deepest : MS := mSeq (mAsg (mBin dAt (mCall Fone_step (mCons (mVar 0) (mCons (mVar 1) (mCons (mVar 5) (mCons (mVar 3) (mNil)))))) (mC (.int 0))) (gSet 3)) (mIfS (mOrB (mTst (mBin (bO dIsN) (mVar 2) (mC .non))) (mTst (mBin (bO dGt) (mVar 3) (mBin dAt (mVar 2) (mC (.int 0)))))) (mAsg (mFn dMkT (mCons (mVar 3) (mCons (mVar 5) (mNil)))) (gSet 2)) (mNext))
/-- deepest: 0 sky, 1 melt, 2 best, 3 pack, 4 size, 5 step -/
noncomputable def mdeepest : MS := mSeq (mIfS (mTst (mCall Fgrows (mCons (mVar 0) (mCons (mVar 1) (mNil))))) (mRet (mC .non)) (mNext)) (mSeq (mAsg (mC .non) (gSet 2)) (mSeq (mAsg (mC (.int 0)) (gSet 3)) (mSeq (mAsg (mFn dLen (mCons (mBin dAt (mVar 0) (mC (.int 0))) (mNil))) (gSet 4)) (mSeq (mFor (mRng1 (mCons (mBin dMul (mC (.int 3)) (mVar 4)) (mNil))) (gSet 5) (b1deepest)) (mRet (mVar 2))))))
noncomputable def Fdeepest : List D → DR := runD 6 mdeepest
noncomputable def t1bare_steps : MB := mTst (mBin (bO dEq) (mBin dAt (mBin dAt (mVar 2) (mVar 3)) (mC (.int 0))) (mC (.int 0)))
noncomputable def e1bare_steps : ME := mVar 3
/-- bare_steps: 0 sky, 1 melt, 2 rows, 3 step -/
noncomputable def mbare_steps : MS := mSeq (mIfS (mTst (mCall Fgrows (mCons (mVar 0) (mCons (mVar 1) (mNil))))) (mRet (mC .non)) (mNext)) (mSeq (mAsg (mCall Frounds_from (mCons (mVar 0) (mCons (mVar 1) (mCons (mCall Fsettled_pack (mCons (mVar 0) (mCons (mVar 1) (mNil)))) (mNil))))) (gSet 2)) (mRet (mFn dTuple (mCons (mComp [3] (mRng1 (mCons (mFn dLen (mCons (mVar 2) (mNil))) (mNil))) (gSet 3) (t1bare_steps) (e1bare_steps)) (mNil)))))
noncomputable def Fbare_steps : List D → DR := runD 4 mbare_steps
noncomputable def b1pack_at : MS := mAsg (mBin dAt (mCall Fone_step (mCons (mVar 0) (mCons (mVar 1) (mCons (mVar 6) (mCons (mVar 4) (mNil)))))) (mC (.int 0))) (gSet 4)
noncomputable def b2pack_at : MS := mMut fApp 7 (mBin dAt (mBin dAt (mCall Frounds_from (mCons (mVar 0) (mCons (mVar 1) (mCons (mAtO 7 (mVar 8)) (mNil))))) (mBin dSub (mVar 3) (mC (.int 1)))) (mC (.int 0)))
noncomputable def b3pack_at : MS := mAsg (mBin dAt (mCall Fone_step (mCons (mVar 0) (mCons (mVar 1) (mCons (mVar 6) (mCons (mVar 4) (mNil)))))) (mC (.int 0))) (gSet 4)
/-- pack_at: 0 sky, 1 melt, 2 step, 3 size, 4 pack, 5 begin, 6 own, 7 packs, 8 turn, 9 rounds, 10 gain -/
noncomputable def mpack_at : MS := mSeq (mDrop (mCall Fneed_sky (mCons (mVar 0) (mCons (mVar 1) (mNil))))) (mSeq (mDrop (mCall Fneed_integer (mCons (mVar 2) (mCons (mC (.str "step")) (mCons (mC (.int 0)) (mCons (mC (.int 1000000000000)) (mNil))))))) (mSeq (mAsg (mFn dLen (mCons (mBin dAt (mVar 0) (mC (.int 0))) (mNil))) (gSet 3)) (mSeq (mIfS (mNotB (mTst (mCall Fgrows (mCons (mVar 0) (mCons (mVar 1) (mNil)))))) (mSeq (mAsg (mIfE (mTst (mBin (bO dGt) (mBin dDiv (mVar 2) (mVar 3)) (mC (.int 2)))) (mCall Fsettled_pack (mCons (mVar 0) (mCons (mVar 1) (mNil)))) (mC (.int 0))) (gSet 4)) (mSeq (mAsg (mIfE (mTst (mBin (bO dGt) (mBin dDiv (mVar 2) (mVar 3)) (mC (.int 2)))) (mBin dMul (mBin dDiv (mVar 2) (mVar 3)) (mVar 3)) (mC (.int 0))) (gSet 5)) (mSeq (mFor (mRng2 (mCons (mVar 5) (mCons (mVar 2) (mNil)))) (gSet 6) (b1pack_at)) (mRet (mVar 4))))) (mNext)) (mSeq (mAsgO (mFn dMkL (mCons (mC (.int 0)) (mNil))) 7) (mSeq (mFor (mRng1 (mCons (mC (.int 3)) (mNil))) (gSet 8) (b2pack_at)) (mSeq (mAsg (mBin dDiv (mVar 2) (mVar 3)) (gSet 9)) (mSeq (mRel 7 (mAsg (mBin dSub (mBin dAt (mVar 7) (mC (.int 3))) (mBin dAt (mVar 7) (mC (.int 2)))) (gSet 10))) (mSeq (mRel 7 (mAsg (mIfE (mTst (mBin (bO dLt) (mVar 9) (mC (.int 3)))) (mBin dAt (mVar 7) (mVar 9)) (mBin dAdd (mBin dAt (mVar 7) (mC (.int 2))) (mBin dMul (mVar 10) (mBin dSub (mVar 9) (mC (.int 2)))))) (gSet 4))) (mSeq (mFor (mRng2 (mCons (mBin dMul (mVar 9) (mVar 3)) (mCons (mVar 2) (mNil)))) (gSet 6) (b3pack_at)) (mRet (mVar 4)))))))))))
noncomputable def Fpack_at : List D → DR := runD 11 mpack_at
noncomputable def b1least_melt : MS := mIfS (mNotB (mTst (mCall Fgrows (mCons (mVar 0) (mCons (mVar 1) (mNil)))))) (mRet (mVar 1)) (mNext)
/-- least_melt: 0 sky, 1 melt -/
noncomputable def mleast_melt : MS := mSeq (mDrop (mCall Fneed_sky (mCons (mVar 0) (mCons (mC (.int 0)) (mNil))))) (mSeq (mFor (mRng1 (mCons (mBin dAdd (mC (.int 1000)) (mC (.int 1))) (mNil))) (gSet 1) (b1least_melt)) (mRet (mC .non)))
noncomputable def Fleast_melt : List D → DR := runD 2 mleast_melt
noncomputable def b1_law_dice : MS := mAsg (mBin dMod (mFn dInt (mCons (mBin dAdd (mBin dMul (mVar 3) (mC (.int 48271))) (mBin dMod (mFn dInt (mCons (mVar 4) (mNil))) (mC (.int 2147480009)))) (mNil))) (mC (.int 2147480009))) (gSet 3)
/-- _law_dice: 0 script, 1 spot, 2 own, 3 mixed, 4 cell -/
noncomputable def m_law_dice : MS := mSeq (mAsg (mIfE (mTst (mBin (bO dLt) (mVar 1) (mFn dLen (mCons (mVar 0) (mNil))))) (mBin dAt (mVar 0) (mVar 1)) (mBin dAdd (mBin dMul (mC (.int 733)) (mVar 1)) (mC (.int 29)))) (gSet 2)) (mSeq (mAsg (mBin dAdd (mC (.int 930011)) (mBin dMul (mC (.int 7907)) (mVar 1))) (gSet 3)) (mSeq (mFor (mIt (mBin dAdd (mSl dSl (mVar 0) (mC .non) (mPart (mC (.int 6)))) (mFn dMkL (mCons (mVar 2) (mNil))))) (gSet 4) (b1_law_dice)) (mRetO (mFn dMkL (mCons (mIfE (mOrB (mTst (mBin (bO dLt) (mVar 2) (mC (.int 0)))) (mTst (mBin (bO dGe) (mVar 2) (mBin dPow (mC (.int 10)) (mC (.int 16)))))) (mFn dAbs (mCons (mVar 2) (mNil))) (mC (.int 0))) (mCons (mVar 3) (mCons (mC (.int 0)) (mNil))))))))
noncomputable def F_law_dice : List D → DR := runD 5 m_law_dice
/-- _law_roll: 0 dice, 1 many, 2 found -/
noncomputable def m_law_roll : MS := mSeq (mIfS (mTst (mBin (bO dGt) (mAtO 0 (mC (.int 0))) (mC (.int 0)))) (mSeq (mAsg (mBin dMod (mFn dInt (mCons (mAtO 0 (mC (.int 0))) (mNil))) (mVar 1)) (gSet 2)) (mSeq (mSetI 0 (mBin dDiv (mAtO 0 (mC (.int 0))) (mVar 1)) (mC (.int 0))) (mRet (mVar 2)))) (mNext)) (mSeq (mSetI 0 (mBin dAdd (mAtO 0 (mC (.int 2))) (mC (.int 1))) (mC (.int 2))) (mSeq (mSetI 0 (mBin dMod (mFn dInt (mCons (mBin dAdd (mBin dAdd (mBin dMul (mAtO 0 (mC (.int 1))) (mC (.int 52501))) (mBin dMul (mBin dMul (mAtO 0 (mC (.int 2))) (mAtO 0 (mC (.int 2)))) (mC (.int 1009)))) (mC (.int 77))) (mNil))) (mC (.int 2147480009))) (mC (.int 1))) (mRet (mBin dMod (mFn dInt (mCons (mBin dDiv (mAtO 0 (mC (.int 1))) (mC (.int 211))) (mNil))) (mVar 1)))))
noncomputable def F_law_roll : D → List D → IR := runI 3 m_law_roll
/-- _law_pick: 0 dice, 1 things -/
noncomputable def m_law_pick : MS := mRet (mBin dAt (mVar 1) (mCallI F_law_roll 0 (mCons (mFn dLen (mCons (mVar 1) (mNil))) (mNil))))
noncomputable def F_law_pick : D → List D → IR := runI 2 m_law_pick
noncomputable def e1_law_row : ME := mCallI F_law_pick 0 (mCons (mFn dMkL (mCons (mC (.int 0)) (mCons (mCallI F_law_roll 0 (mCons (mBin dAdd (mVar 2) (mC (.int 1))) (mNil))) (mNil)))) (mNil))
/-- _law_row: 0 dice, 1 size, 2 most, 3 turn -/
noncomputable def m_law_row : MS := mRet (mFn dTuple (mCons (mComp [3] (mRng1 (mCons (mBin dAdd (mC (.int 1)) (mCallI F_law_roll 0 (mCons (mVar 1) (mNil)))) (mNil))) (gSet 3) (mYes) (e1_law_row)) (mNil)))
noncomputable def F_law_row : D → List D → IR := runI 4 m_law_row
noncomputable def b1_law_snow : MS := mSeq (mPar2 false false 6 7 (mBin dAt (mBin dAt (mVar 0) (mC (.int 0))) (mBin dMod (mVar 5) (mFn dLen (mCons (mBin dAt (mVar 0) (mC (.int 0))) (mNil))))) (mBin dAt (mBin dAt (mVar 0) (mC (.int 1))) (mBin dMod (mVar 5) (mFn dLen (mCons (mBin dAt (mVar 0) (mC (.int 0))) (mNil)))))) (mSeq (mAsg (mIfE (mTst (mVar 7)) (mC (.int 0)) (mIfE (mTst (mBin (bO dLt) (mVar 1) (mVar 3))) (mVar 1) (mVar 3))) (gSet 8)) (mSeq (mAsg (mIfE (mTst (mVar 7)) (mBin dAdd (mVar 3) (mVar 6)) (mBin dSub (mVar 3) (mVar 8))) (gSet 9)) (mSeq (mMut fApp 4 (mFn dMkT (mCons (mVar 3) (mCons (mIfE (mTst (mVar 7)) (mC (.int 0)) (mBin dAdd (mVar 6) (mVar 8))) (mCons (mVar 9) (mNil)))))) (mAsg (mVar 9) (gSet 3)))))
/-- _law_snow: 0 sky, 1 melt, 2 many, 3 pack, 4 found, 5 step, 6 fall, 7 cold, 8 gone, 9 later -/
noncomputable def m_law_snow : MS := mSeq (mPar2 false true 3 4 (mC (.int 0)) (mFn dMkL (mNil))) (mSeq (mFor (mRng1 (mCons (mVar 2) (mNil))) (gSet 5) (b1_law_snow)) (mRel 4 (mRet (mVar 4))))
noncomputable def F_law_snow : List D → DR := runD 10 m_law_snow
/-- _law_grown: 0 sky, 1 melt, 2 size, 3 rows -/
noncomputable def m_law_grown : MS := mSeq (mAsg (mFn dLen (mCons (mBin dAt (mVar 0) (mC (.int 0))) (mNil))) (gSet 2)) (mSeq (mAsg (mCall F_law_snow (mCons (mVar 0) (mCons (mVar 1) (mCons (mBin dMul (mC (.int 12)) (mVar 2)) (mNil))))) (gSet 3)) (mRet (mBin (bO dGt) (mBin dAt (mBin dAt (mVar 3) (mBin dSub (mBin dMul (mC (.int 12)) (mVar 2)) (mC (.int 1)))) (mC (.int 2))) (mBin dAt (mBin dAt (mVar 3) (mBin dSub (mBin dMul (mC (.int 11)) (mVar 2)) (mC (.int 1)))) (mC (.int 2))))))
noncomputable def F_law_grown : List D → DR := runD 4 m_law_grown
noncomputable def e1_law_right : ME := mBin (bO dEq) (mCallI F_law_roll 0 (mCons (mC (.int 2)) (mNil))) (mC (.int 0))
noncomputable def e2_law_right : ME := mFn dMkT (mCons (mVar 20) (mCons (mVar 19) (mNil)))
noncomputable def e3_law_right : ME := mVar 20
noncomputable def e4_law_right : ME := mVar 19
noncomputable def t1_law_right : MB := mTst (mBin (bO dEq) (mBin dAt (mBin dAt (mVar 8) (mVar 10)) (mC (.int 2))) (mC (.int 0)))
noncomputable def e5_law_right : ME := mVar 10
noncomputable def q1_law_right : MS := mRet (mVal (mAndB (mTst (mBin (bO dEq) (mVar 15) (mVar 16))) (mTst (mVal (mAndB (mTst (mCall Fis_sky (mCons (mVar 2) (mNil)))) (mTst (mVal (mNotB (mTst (mCall Fis_sky (mCons (mVar 14) (mNil))))))))))))
noncomputable def q2_law_right : MS := mSeq (mAsg (mFn dMkL (mCons (mC (.str "sky")) (mCons (mC (.str "melt")) (mCons (mC (.str "many")) (mCons (mC (.str "sky")) (mCons (mC (.str "melt")) (mCons (mC (.str "sky")) (mCons (mC (.str "melt")) (mCons (mC (.str "step")) (mCons (mC (.str "sky")) (mNil))))))))))) (gSet 16)) (q1_law_right)
noncomputable def q3_law_right : MS := mSeq (mAsg (mFn dMkL (mCons (mRef (mCall Fsnow_course (mCons (mVar 14) (mCons (mC .non) (mCons (mC .non) (mNil)))))) (mCons (mRef (mCall Fsnow_course (mCons (mVar 2) (mCons (mC (.int 1001)) (mCons (mC .non) (mNil)))))) (mCons (mRef (mCall Fsnow_course (mCons (mVar 2) (mCons (mVar 3) (mCons (mC (.int 501)) (mNil)))))) (mCons (mRef (mCall Fgrows (mCons (mVar 14) (mCons (mC (.int 0)) (mNil))))) (mCons (mRef (mCall Fwater_row (mCons (mVar 2) (mCons (mUn dNeg (mC (.int 1))) (mNil))))) (mCons (mRef (mCall Fdeepest (mCons (mVar 14) (mCons (mC (.int 0)) (mNil))))) (mCons (mRef (mCall Fbare_steps (mCons (mVar 2) (mCons (mC .non) (mNil))))) (mCons (mRef (mCall Fpack_at (mCons (mVar 2) (mCons (mVar 3) (mCons (mUn dNeg (mC (.int 1))) (mNil)))))) (mCons (mRef (mCall Fleast_melt (mCons (mVar 14) (mNil)))) (mNil))))))))))) (gSet 15)) (q2_law_right)
noncomputable def q4_law_right : MS := mSeq (mAsg (mCallI F_law_pick 0 (mCons (mFn dMkL (mCons (mC .non) (mCons (mFn dMkT (mNil)) (mCons (mFn dMkT (mCons (mFn dMkT (mCons (mC (.int 1)) (mNil))) (mCons (mFn dMkT (mCons (mC (.int 1)) (mNil))) (mNil)))) (mCons (mFn dMkT (mCons (mFn dMkT (mCons (mC (.int 1)) (mCons (mC (.int 2)) (mNil)))) (mCons (mFn dMkT (mCons (mC (.bl true)) (mNil))) (mNil)))) (mCons (mFn dMkT (mCons (mFn dMkT (mNil)) (mCons (mFn dMkT (mNil)) (mNil)))) (mCons (mFn dMkL (mCons (mFn dMkT (mCons (mC (.int 1)) (mNil))) (mCons (mFn dMkT (mCons (mC (.bl true)) (mNil))) (mNil)))) (mCons (mFn dMkT (mCons (mBin dMul (mFn dMkT (mCons (mC (.int 1)) (mNil))) (mC (.int 25))) (mCons (mBin dMul (mFn dMkT (mCons (mC (.bl true)) (mNil))) (mC (.int 25))) (mNil)))) (mCons (mFn dMkT (mCons (mFn dMkT (mCons (mC (.int 201)) (mNil))) (mCons (mFn dMkT (mCons (mC (.bl true)) (mNil))) (mNil)))) (mNil)))))))))) (mNil))) (gSet 14)) (q3_law_right)
noncomputable def q5_law_right : MS := mSeq (mIfS (mTst (mBin (bO dIsN) (mVar 13) (mC .non))) (mIfS (mOrB (mTst (mBin (bO dIn) (mC (.bl false)) (mBin dAt (mVar 2) (mC (.int 1))))) (mTst (mBin (bO dEq) (mFn dSum (mCons (mVar 1) (mNil))) (mC (.int 0))))) (mRet (mC (.bl false))) (mNext)) (mIfS (mOrB (mTst (mCall F_law_grown (mCons (mVar 2) (mCons (mVar 13) (mNil))))) (mAndB (mTst (mBin (bO dGt) (mVar 13) (mC (.int 0)))) (mNotB (mTst (mCall F_law_grown (mCons (mVar 2) (mCons (mBin dSub (mVar 13) (mC (.int 1))) (mNil)))))))) (mRet (mC (.bl false))) (mNext))) (q4_law_right)
noncomputable def q6_law_right : MS := mSeq (mAsg (mCall Fleast_melt (mApA mNil (mCons (mVar 2) (mNil)))) (gSet 13)) (q5_law_right)
noncomputable def q7_law_right : MS := mSeq (mIfS (mTst (mBin (bO dNe) (mCall Fpack_at (mApA (mCons (mVar 2) (mCons (mVar 3) (mNil))) (mCons (mVar 10) (mNil)))) (mBin dAdd (mBin dAt (mBin dAt (mVar 6) (mVar 11)) (mC (.int 0))) (mBin dMul (mBin dDiv (mBin dSub (mVar 10) (mVar 11)) (mVar 4)) (mVar 12))))) (mRet (mC (.bl false))) (mNext)) (q6_law_right)
noncomputable def q8_law_right : MS := mSeq (mAsg (mBin dSub (mBin dAt (mBin dAt (mVar 6) (mBin dMul (mC (.int 12)) (mVar 4))) (mC (.int 0))) (mBin dAt (mBin dAt (mVar 6) (mBin dMul (mC (.int 11)) (mVar 4))) (mC (.int 0)))) (gSet 12)) (q7_law_right)
noncomputable def q9_law_right : MS := mSeq (mAsg (mIfE (mTst (mBin (bO dLt) (mVar 10) (mBin dMul (mC (.int 13)) (mVar 4)))) (mVar 10) (mBin dAdd (mBin dMul (mC (.int 12)) (mVar 4)) (mBin dMod (mVar 10) (mVar 4)))) (gSet 11)) (q8_law_right)
noncomputable def q10_law_right : MS := mSeq (mAsg (mCallI F_law_pick 0 (mCons (mFn dMkL (mCons (mCallI F_law_roll 0 (mCons (mBin dMul (mC (.int 14)) (mVar 4)) (mNil))) (mCons (mBin dSub (mBin dPow (mC (.int 10)) (mC (.int 9))) (mCallI F_law_roll 0 (mCons (mC (.int 60)) (mNil)))) (mNil)))) (mNil))) (gSet 10)) (q9_law_right)
noncomputable def q11_law_right : MS := mSeq (mIfS (mTst (mVar 7)) (mIfS (mOrB (mTst (mBin (bO dNotN) (mCall Fwater_row (mCons (mVar 2) (mCons (mVar 3) (mNil)))) (mC .non))) (mOrB (mTst (mBin (bO dNotN) (mCall Fdeepest (mCons (mVar 2) (mCons (mVar 3) (mNil)))) (mC .non))) (mTst (mBin (bO dNotN) (mCall Fbare_steps (mCons (mVar 2) (mCons (mVar 3) (mNil)))) (mC .non))))) (mRet (mC (.bl false))) (mNext)) (mSeq (mAsgO (mComp [18, 19, 20] (mIt (mSl dSl (mVar 6) (mC .non) (mPart (mBin dMul (mC (.int 13)) (mVar 4))))) (gTupM [gSet 18, gSet 19, gSet 20]) (mYes) (e3_law_right)) 9) (mRel 9 (mSeq (mIfS (mTst (mBin (bO dNe) (mCall Fwater_row (mApA (mCons (mVar 2) (mNil)) (mCons (mVar 3) (mNil)))) (mFn dTuple (mCons (mComp [18, 19, 20] (mIt (mVar 8)) (gTupM [gSet 18, gSet 19, gSet 20]) (mYes) (e4_law_right)) (mNil))))) (mRet (mC (.bl false))) (mNext)) (mSeq (mIfS (mTst (mBin (bO dNe) (mCall Fdeepest (mApA (mCons (mVar 2) (mNil)) (mCons (mVar 3) (mNil)))) (mFn dMkT (mCons (mFn dMax1 (mCons (mVar 9) (mNil))) (mCons (mMeth isLst dIndex (mVar 9) (mFn dMax1 (mCons (mVar 9) (mNil)))) (mNil)))))) (mRet (mC (.bl false))) (mNext)) (mIfS (mTst (mBin (bO dNe) (mCall Fbare_steps (mApA (mCons (mVar 2) (mNil)) (mCons (mVar 3) (mNil)))) (mFn dTuple (mCons (mComp [10] (mRng1 (mCons (mVar 4) (mNil))) (gSet 10) (t1_law_right) (e5_law_right)) (mNil))))) (mRet (mC (.bl false))) (mNext))))))) (q10_law_right)
noncomputable def q12_law_right : MS := mSeq (mAsg (mSl dSl (mVar 6) (mPart (mBin dMul (mC (.int 12)) (mVar 4))) (mPart (mBin dMul (mC (.int 13)) (mVar 4)))) (gSet 8)) (q11_law_right)
noncomputable def q13_law_right : MS := mSeq (mIfS (mTst (mBin (bO dNe) (mCall Fgrows (mApA (mCons (mVar 2) (mNil)) (mCons (mVar 3) (mNil)))) (mVar 7))) (mRet (mC (.bl false))) (mNext)) (q12_law_right)
noncomputable def q14_law_right : MS := mSeq (mAsg (mCall F_law_grown (mCons (mVar 2) (mCons (mVar 3) (mNil)))) (gSet 7)) (q13_law_right)
noncomputable def q15_law_right : MS := mSeq (mIfS (mTst (mBin (bO dNe) (mCall Fsnow_course (mApA (mCons (mVar 2) (mCons (mVar 3) (mNil))) (mCons (mVar 5) (mNil)))) (mFn dTuple (mCons (mComp [18, 19, 20] (mIt (mSl dSl (mVar 6) (mC .non) (mPart (mVar 5)))) (gTupM [gSet 18, gSet 19, gSet 20]) (mYes) (e2_law_right)) (mNil))))) (mRet (mC (.bl false))) (mNext)) (q14_law_right)
noncomputable def q16_law_right : MS := mSeq (mAsg (mCall F_law_snow (mCons (mVar 2) (mCons (mVar 3) (mCons (mBin dAdd (mBin dMul (mC (.int 14)) (mVar 4)) (mC (.int 60))) (mNil))))) (gSet 6)) (q15_law_right)
noncomputable def q17_law_right : MS := mSeq (mPar2 false false 4 5 (mFn dLen (mCons (mVar 1) (mNil))) (mCallI F_law_roll 0 (mCons (mC (.int 40)) (mNil)))) (q16_law_right)
noncomputable def q18_law_right : MS := mSeq (mAsg (mFn dMkT (mCons (mFn dMkT (mCons (mVar 1) (mCons (mFn dTuple (mCons (mComp [17] (mIt (mVar 1)) (gSet 17) (mYes) (e1_law_right)) (mNil))) (mNil)))) (mCons (mCallI F_law_roll 0 (mCons (mC (.int 9)) (mNil))) (mNil)))) (gTupM [gSet 2, gSet 3])) (q17_law_right)
/-- _law_right: 0 dice, 1 falls, 2 sky, 3 melt, 4 size, 5 many, 6 rows, 7 more, 8 last, 9 high, 10 step, 11 near, 12 gain, 13 least, 14 bad, 15 told, 16 due, 17 fall, 18 pack, 19 water, 20 later -/
noncomputable def m_law_right : MS := mSeq (mAsg (mCallI F_law_row 0 (mCons (mC (.int 5)) (mCons (mC (.int 9)) (mNil)))) (gSet 1)) (q18_law_right)
noncomputable def F_law_right : D → List D → IR := runI 21 m_law_right
noncomputable def b1law : MS := mIfS (mNotB (mTst (mCallG F_law_right (mCallO F_law_dice (mCons (mVar 0) (mCons (mVar 1) (mNil)))) (mNil)))) (mRet (mC (.bl false))) (mNext)
/-- law: 0 script, 1 spot -/
noncomputable def mlaw : MS := mSeq (mFor (mRng1 (mCons (mFn dMax2 (mCons (mC (.int 1)) (mCons (mFn dMin2 (mCons (mC (.int 5)) (mCons (mFn dLen (mCons (mVar 0) (mNil))) (mNil)))) (mNil)))) (mNil))) (gSet 1) (b1law)) (mRet (mC (.bl true)))
noncomputable def Flaw : List D → DR := runD 2 mlaw
end K19
set_option Elab.async false
set_option linter.all false
set_option maxRecDepth 100000
set_option maxHeartbeats 4000000
/-! K19X: the mathematics. -/
namespace K19
open PySem PySem.Spec PyProof.Rows L2 RZ RK
/-- a sky: what falls, where it is cold -/
structure Sky where
  fs : List Int
  cs : List Bool
def Sky.d (S : Sky) : D := .tup [.tup (S.fs.map .int), .tup (S.cs.map .bl)]
def Sky.n (S : Sky) : Nat := S.fs.length
def Sky.f (S : Sky) (i : Nat) : Int := S.fs.getD (i % S.n) 0
def Sky.c (S : Sky) (i : Nat) : Bool := S.cs.getD (i % S.n) false
structure Sky.Ok (S : Sky) : Prop where
  pos : 0 < S.n
  few : S.n ≤ 24
  len : S.cs.length = S.n
  lo : ∀ x ∈ S.fs, 0 ≤ x ∧ x ≤ 200
/-- what lies behind a step, what runs off in it -/
def Sky.go (S : Sky) (m : Int) (i : Nat) (p : Int) : Int := if S.c i = true then p + S.f i else p - (if m < p then m else p)
def Sky.off (S : Sky) (m : Int) (i : Nat) (p : Int) : Int := if S.c i = true then 0 else S.f i + (if m < p then m else p)
section
variable {S : Sky}
theorem Sky.Ok.at_f (h : S.Ok) (i : Nat) : atI (S.fs.map D.int) ((i : Int) % (S.n : Int)) = some (.int (S.f i)) := by
  have hp := h.pos
  have hl : i % S.n < S.n := Nat.mod_lt _ hp
  have e : ((i : Int) % (S.n : Int)) = ((i % S.n : Nat) : Int) := by omega
  rw [e]
  refine atN ?_
  rw [List.getElem?_map]
  unfold Sky.f
  have hl' : i % S.n < S.fs.length := hl
  rw [List.getD_eq_getElem?_getD, List.getElem?_eq_getElem hl']
  try rfl
theorem Sky.Ok.at_c (h : S.Ok) (i : Nat) : atI (S.cs.map D.bl) ((i : Int) % (S.n : Int)) = some (.bl (S.c i)) := by
  have hp := h.pos
  have hl : i % S.n < S.n := Nat.mod_lt _ hp
  have e : ((i : Int) % (S.n : Int)) = ((i % S.n : Nat) : Int) := by omega
  rw [e]
  refine atN ?_
  rw [List.getElem?_map]
  unfold Sky.c
  have hl' : i % S.n < S.cs.length := by rw [h.len]; exact hl
  rw [List.getD_eq_getElem?_getD, List.getElem?_eq_getElem hl']
  try rfl
theorem one_step_eq (h : S.Ok) (m p : Int) (i : Nat) : Fone_step [S.d, .int m, .int (i : Int), .int p] = .ok (.tup [.int (S.go m i p), .int (S.off m i p)]) := by
  have hn : (S.fs.length : Int) = (S.n : Int) := rfl
  have hp : (0 : Int) < (S.n : Int) := by have := h.pos; omega
  have h1 := h.at_f i
  have h2 := h.at_c i
  unfold Sky.go Sky.off
  cases hc : S.c i with
  | true =>
    rw [hc] at h2
    simp only [Fone_step, mone_step, Sky.d, envD, x_var, x_var1, x_c, x_bin, x_un, x_nil, x_cons, x_fn, x_tst, x_val, x_not, x_and, x_or, x_ifE, x_ifS, x_seq, x_next, x_brk, x_cnt, x_ret, x_retO, x_drop, x_asg, x_asgO, x_par, x_own, x_own1, x_own2, x_mut, x_setI, x_rel, x_call, x_callO, x_ap, x_callI, x_callG, x_atO, x_fnI, x_inO, x_part, x_sl, x_chn, x_ref, x_raise, x_it, x_rng1, x_rng2, x_zip, x_for, x_comp, x_all, x_meth, x_aug, x_runD, x_runI, y0, y1, y2, y3, y4, y5, y6, y7, y8, y9, y10, y11, y12, y13, y14, y15, y16, y17, y18, y19, y20, y21, y22, y23, y24, y25, y26, y27, y28, y29, y30, y31, y32, y33, y34, y35, y36, y37, y38, y39, y40, y41, y42, y43, y44, y45, y46, y47, y48, y49, y50, y51, y52, y53, y54, y55, y56, y57, y58, y59, y60, y61, y62, y63, y64, y65, y66, y67, y68, y69, y70, y71, y72, y73, y74, y75, y76, y77, y78, y79, y80, y81, y82, y83, y84, y85, y86, y87, y88, y89, y90, y91, y92, y93, y94, y95, y96, y97, y98, y99, y100, y101, y102, y103, y104, y105, y106, y107, y108, y109, y110, y111, y112, y113, y114, y115, y116, y117, y118, y119, y120, y121, y122, y123, y124, y125, y126, y127, y128, y129, y130, y131, y132, y133, y134, y135, y136, y137, y138, y139, y140, y141, y142, y143, y144, y145, y146, y147, y148, y149, y150, y151, y152, y153, y154, y155, y156, y157, y158, y159, y160, y161, y162, y163, y164, y165, y166, y167, y168, y169, y170, y171, y172, y173, y174, y175, y176, y177, y178, y179, y180, y181, y182, y183, y184, y185, y186, y187, y188, y189, y190, y191, y192, y193, y194, y195, y196, y197, y198, y199, y200, y201, y202, y203, y204, y205, y206, y207, y208, y209, y210, y211, y212, y213, y214, y215, y216, y217, y218, y219, y220, y221, y222, y223, y224, y225, y226, y227, y228, y229, y230, y231, y232, y233, y234, y235, y236, y237, y238, y239, y240, y241, y242, y243, y244, y245, y246, y247, y248, y249, y250, y251, y252, y253, y254, y255, y256, y257, y258, y259, y260, y261, y262, y263, y264, y265, y266, y267, y268, y269, y270, y271, y272, y273, y274, y275, y276, y277, y278, y279, y280, y281, y282, y283, y284, y285, List.getElem?_cons_zero, List.getElem?_cons_succ, List.getElem?_nil, List.set_cons_zero, List.set_cons_succ, List.set_nil, Bool.not_true, Bool.not_false, List.length_cons, List.length_nil, List.length_map, if_true, if_false, u_int_NoneType, u_int_bool, u_int_int, u_int_str, u_int_tuple, u_int_list, u_bool_NoneType, u_bool_bool, u_bool_int, u_bool_str, u_bool_tuple, u_bool_list, u_tuple_NoneType, u_tuple_bool, u_tuple_int, u_tuple_str, u_tuple_tuple, u_tuple_list, u_list_NoneType, u_list_bool, u_list_int, u_list_str, u_list_tuple, u_list_list, u_str_NoneType, u_str_bool, u_str_int, u_str_str, u_str_tuple, u_str_list, u_replicate0, List.map_cons, List.map_nil, List.replicate_succ, List.replicate_zero, List.cons_append, List.nil_append, Nat.reduceSub, Nat.reduceAdd, Nat.reduceLeDiff, Nat.reduceLT, Nat.zero_add, Int.reduceLT, Int.reduceLE, decide_true, decide_false, true_and, and_true, and_self, Bool.false_eq_true, List.append_nil, Int.cast_ofNat_Int, Int.natCast_zero, Int.natCast_one, Int.reduceEq, Int.reduceAdd, Int.reduceSub, Int.reduceMul, Int.reduceNeg, Nat.reduceEqDiff, eq_self, atI_z, atI_one, hn, hp, h1, h2]
  | false =>
    rw [hc] at h2
    simp only [Fone_step, mone_step, Sky.d, envD, x_var, x_var1, x_c, x_bin, x_un, x_nil, x_cons, x_fn, x_tst, x_val, x_not, x_and, x_or, x_ifE, x_ifS, x_seq, x_next, x_brk, x_cnt, x_ret, x_retO, x_drop, x_asg, x_asgO, x_par, x_own, x_own1, x_own2, x_mut, x_setI, x_rel, x_call, x_callO, x_ap, x_callI, x_callG, x_atO, x_fnI, x_inO, x_part, x_sl, x_chn, x_ref, x_raise, x_it, x_rng1, x_rng2, x_zip, x_for, x_comp, x_all, x_meth, x_aug, x_runD, x_runI, y0, y1, y2, y3, y4, y5, y6, y7, y8, y9, y10, y11, y12, y13, y14, y15, y16, y17, y18, y19, y20, y21, y22, y23, y24, y25, y26, y27, y28, y29, y30, y31, y32, y33, y34, y35, y36, y37, y38, y39, y40, y41, y42, y43, y44, y45, y46, y47, y48, y49, y50, y51, y52, y53, y54, y55, y56, y57, y58, y59, y60, y61, y62, y63, y64, y65, y66, y67, y68, y69, y70, y71, y72, y73, y74, y75, y76, y77, y78, y79, y80, y81, y82, y83, y84, y85, y86, y87, y88, y89, y90, y91, y92, y93, y94, y95, y96, y97, y98, y99, y100, y101, y102, y103, y104, y105, y106, y107, y108, y109, y110, y111, y112, y113, y114, y115, y116, y117, y118, y119, y120, y121, y122, y123, y124, y125, y126, y127, y128, y129, y130, y131, y132, y133, y134, y135, y136, y137, y138, y139, y140, y141, y142, y143, y144, y145, y146, y147, y148, y149, y150, y151, y152, y153, y154, y155, y156, y157, y158, y159, y160, y161, y162, y163, y164, y165, y166, y167, y168, y169, y170, y171, y172, y173, y174, y175, y176, y177, y178, y179, y180, y181, y182, y183, y184, y185, y186, y187, y188, y189, y190, y191, y192, y193, y194, y195, y196, y197, y198, y199, y200, y201, y202, y203, y204, y205, y206, y207, y208, y209, y210, y211, y212, y213, y214, y215, y216, y217, y218, y219, y220, y221, y222, y223, y224, y225, y226, y227, y228, y229, y230, y231, y232, y233, y234, y235, y236, y237, y238, y239, y240, y241, y242, y243, y244, y245, y246, y247, y248, y249, y250, y251, y252, y253, y254, y255, y256, y257, y258, y259, y260, y261, y262, y263, y264, y265, y266, y267, y268, y269, y270, y271, y272, y273, y274, y275, y276, y277, y278, y279, y280, y281, y282, y283, y284, y285, List.getElem?_cons_zero, List.getElem?_cons_succ, List.getElem?_nil, List.set_cons_zero, List.set_cons_succ, List.set_nil, Bool.not_true, Bool.not_false, List.length_cons, List.length_nil, List.length_map, if_true, if_false, u_int_NoneType, u_int_bool, u_int_int, u_int_str, u_int_tuple, u_int_list, u_bool_NoneType, u_bool_bool, u_bool_int, u_bool_str, u_bool_tuple, u_bool_list, u_tuple_NoneType, u_tuple_bool, u_tuple_int, u_tuple_str, u_tuple_tuple, u_tuple_list, u_list_NoneType, u_list_bool, u_list_int, u_list_str, u_list_tuple, u_list_list, u_str_NoneType, u_str_bool, u_str_int, u_str_str, u_str_tuple, u_str_list, u_replicate0, List.map_cons, List.map_nil, List.replicate_succ, List.replicate_zero, List.cons_append, List.nil_append, Nat.reduceSub, Nat.reduceAdd, Nat.reduceLeDiff, Nat.reduceLT, Nat.zero_add, Int.reduceLT, Int.reduceLE, decide_true, decide_false, true_and, and_true, and_self, Bool.false_eq_true, List.append_nil, Int.cast_ofNat_Int, Int.natCast_zero, Int.natCast_one, Int.reduceEq, Int.reduceAdd, Int.reduceSub, Int.reduceMul, Int.reduceNeg, Nat.reduceEqDiff, eq_self, atI_z, atI_one, hn, hp, h1, h2]
/-! what is asked of arguments -/
theorem is_integer_int (i : Int) : Fis_integer [.int i] = .ok (.bl true) := by simp only [Fis_integer, mis_integer, envD, x_var, x_var1, x_c, x_bin, x_un, x_nil, x_cons, x_fn, x_tst, x_val, x_not, x_and, x_or, x_ifE, x_ifS, x_seq, x_next, x_brk, x_cnt, x_ret, x_retO, x_drop, x_asg, x_asgO, x_par, x_own, x_own1, x_own2, x_mut, x_setI, x_rel, x_call, x_callO, x_ap, x_callI, x_callG, x_atO, x_fnI, x_inO, x_part, x_sl, x_chn, x_ref, x_raise, x_it, x_rng1, x_rng2, x_zip, x_for, x_comp, x_all, x_meth, x_aug, x_runD, x_runI, y0, y1, y2, y3, y4, y5, y6, y7, y8, y9, y10, y11, y12, y13, y14, y15, y16, y17, y18, y19, y20, y21, y22, y23, y24, y25, y26, y27, y28, y29, y30, y31, y32, y33, y34, y35, y36, y37, y38, y39, y40, y41, y42, y43, y44, y45, y46, y47, y48, y49, y50, y51, y52, y53, y54, y55, y56, y57, y58, y59, y60, y61, y62, y63, y64, y65, y66, y67, y68, y69, y70, y71, y72, y73, y74, y75, y76, y77, y78, y79, y80, y81, y82, y83, y84, y85, y86, y87, y88, y89, y90, y91, y92, y93, y94, y95, y96, y97, y98, y99, y100, y101, y102, y103, y104, y105, y106, y107, y108, y109, y110, y111, y112, y113, y114, y115, y116, y117, y118, y119, y120, y121, y122, y123, y124, y125, y126, y127, y128, y129, y130, y131, y132, y133, y134, y135, y136, y137, y138, y139, y140, y141, y142, y143, y144, y145, y146, y147, y148, y149, y150, y151, y152, y153, y154, y155, y156, y157, y158, y159, y160, y161, y162, y163, y164, y165, y166, y167, y168, y169, y170, y171, y172, y173, y174, y175, y176, y177, y178, y179, y180, y181, y182, y183, y184, y185, y186, y187, y188, y189, y190, y191, y192, y193, y194, y195, y196, y197, y198, y199, y200, y201, y202, y203, y204, y205, y206, y207, y208, y209, y210, y211, y212, y213, y214, y215, y216, y217, y218, y219, y220, y221, y222, y223, y224, y225, y226, y227, y228, y229, y230, y231, y232, y233, y234, y235, y236, y237, y238, y239, y240, y241, y242, y243, y244, y245, y246, y247, y248, y249, y250, y251, y252, y253, y254, y255, y256, y257, y258, y259, y260, y261, y262, y263, y264, y265, y266, y267, y268, y269, y270, y271, y272, y273, y274, y275, y276, y277, y278, y279, y280, y281, y282, y283, y284, y285, List.getElem?_cons_zero, List.getElem?_cons_succ, List.getElem?_nil, List.set_cons_zero, List.set_cons_succ, List.set_nil, Bool.not_true, Bool.not_false, List.length_cons, List.length_nil, List.length_map, if_true, if_false, u_int_NoneType, u_int_bool, u_int_int, u_int_str, u_int_tuple, u_int_list, u_bool_NoneType, u_bool_bool, u_bool_int, u_bool_str, u_bool_tuple, u_bool_list, u_tuple_NoneType, u_tuple_bool, u_tuple_int, u_tuple_str, u_tuple_tuple, u_tuple_list, u_list_NoneType, u_list_bool, u_list_int, u_list_str, u_list_tuple, u_list_list, u_str_NoneType, u_str_bool, u_str_int, u_str_str, u_str_tuple, u_str_list, u_replicate0, List.map_cons, List.map_nil, List.replicate_succ, List.replicate_zero, List.cons_append, List.nil_append, Nat.reduceSub, Nat.reduceAdd, Nat.reduceLeDiff, Nat.reduceLT, Nat.zero_add, Int.reduceLT, Int.reduceLE, decide_true, decide_false, true_and, and_true, and_self, Bool.false_eq_true, List.append_nil, Int.cast_ofNat_Int, Int.natCast_zero, Int.natCast_one, Int.reduceEq, Int.reduceAdd, Int.reduceSub, Int.reduceMul, Int.reduceNeg, Nat.reduceEqDiff, eq_self]
theorem is_integer_bl (i : Bool) : Fis_integer [.bl i] = .ok (.bl false) := by simp only [Fis_integer, mis_integer, envD, x_var, x_var1, x_c, x_bin, x_un, x_nil, x_cons, x_fn, x_tst, x_val, x_not, x_and, x_or, x_ifE, x_ifS, x_seq, x_next, x_brk, x_cnt, x_ret, x_retO, x_drop, x_asg, x_asgO, x_par, x_own, x_own1, x_own2, x_mut, x_setI, x_rel, x_call, x_callO, x_ap, x_callI, x_callG, x_atO, x_fnI, x_inO, x_part, x_sl, x_chn, x_ref, x_raise, x_it, x_rng1, x_rng2, x_zip, x_for, x_comp, x_all, x_meth, x_aug, x_runD, x_runI, y0, y1, y2, y3, y4, y5, y6, y7, y8, y9, y10, y11, y12, y13, y14, y15, y16, y17, y18, y19, y20, y21, y22, y23, y24, y25, y26, y27, y28, y29, y30, y31, y32, y33, y34, y35, y36, y37, y38, y39, y40, y41, y42, y43, y44, y45, y46, y47, y48, y49, y50, y51, y52, y53, y54, y55, y56, y57, y58, y59, y60, y61, y62, y63, y64, y65, y66, y67, y68, y69, y70, y71, y72, y73, y74, y75, y76, y77, y78, y79, y80, y81, y82, y83, y84, y85, y86, y87, y88, y89, y90, y91, y92, y93, y94, y95, y96, y97, y98, y99, y100, y101, y102, y103, y104, y105, y106, y107, y108, y109, y110, y111, y112, y113, y114, y115, y116, y117, y118, y119, y120, y121, y122, y123, y124, y125, y126, y127, y128, y129, y130, y131, y132, y133, y134, y135, y136, y137, y138, y139, y140, y141, y142, y143, y144, y145, y146, y147, y148, y149, y150, y151, y152, y153, y154, y155, y156, y157, y158, y159, y160, y161, y162, y163, y164, y165, y166, y167, y168, y169, y170, y171, y172, y173, y174, y175, y176, y177, y178, y179, y180, y181, y182, y183, y184, y185, y186, y187, y188, y189, y190, y191, y192, y193, y194, y195, y196, y197, y198, y199, y200, y201, y202, y203, y204, y205, y206, y207, y208, y209, y210, y211, y212, y213, y214, y215, y216, y217, y218, y219, y220, y221, y222, y223, y224, y225, y226, y227, y228, y229, y230, y231, y232, y233, y234, y235, y236, y237, y238, y239, y240, y241, y242, y243, y244, y245, y246, y247, y248, y249, y250, y251, y252, y253, y254, y255, y256, y257, y258, y259, y260, y261, y262, y263, y264, y265, y266, y267, y268, y269, y270, y271, y272, y273, y274, y275, y276, y277, y278, y279, y280, y281, y282, y283, y284, y285, List.getElem?_cons_zero, List.getElem?_cons_succ, List.getElem?_nil, List.set_cons_zero, List.set_cons_succ, List.set_nil, Bool.not_true, Bool.not_false, List.length_cons, List.length_nil, List.length_map, if_true, if_false, u_int_NoneType, u_int_bool, u_int_int, u_int_str, u_int_tuple, u_int_list, u_bool_NoneType, u_bool_bool, u_bool_int, u_bool_str, u_bool_tuple, u_bool_list, u_tuple_NoneType, u_tuple_bool, u_tuple_int, u_tuple_str, u_tuple_tuple, u_tuple_list, u_list_NoneType, u_list_bool, u_list_int, u_list_str, u_list_tuple, u_list_list, u_str_NoneType, u_str_bool, u_str_int, u_str_str, u_str_tuple, u_str_list, u_replicate0, List.map_cons, List.map_nil, List.replicate_succ, List.replicate_zero, List.cons_append, List.nil_append, Nat.reduceSub, Nat.reduceAdd, Nat.reduceLeDiff, Nat.reduceLT, Nat.zero_add, Int.reduceLT, Int.reduceLE, decide_true, decide_false, true_and, and_true, and_self, Bool.false_eq_true, List.append_nil, Int.cast_ofNat_Int, Int.natCast_zero, Int.natCast_one, Int.reduceEq, Int.reduceAdd, Int.reduceSub, Int.reduceMul, Int.reduceNeg, Nat.reduceEqDiff, eq_self]
theorem is_integer_non : Fis_integer [.non] = .ok (.bl false) := by simp only [Fis_integer, mis_integer, envD, x_var, x_var1, x_c, x_bin, x_un, x_nil, x_cons, x_fn, x_tst, x_val, x_not, x_and, x_or, x_ifE, x_ifS, x_seq, x_next, x_brk, x_cnt, x_ret, x_retO, x_drop, x_asg, x_asgO, x_par, x_own, x_own1, x_own2, x_mut, x_setI, x_rel, x_call, x_callO, x_ap, x_callI, x_callG, x_atO, x_fnI, x_inO, x_part, x_sl, x_chn, x_ref, x_raise, x_it, x_rng1, x_rng2, x_zip, x_for, x_comp, x_all, x_meth, x_aug, x_runD, x_runI, y0, y1, y2, y3, y4, y5, y6, y7, y8, y9, y10, y11, y12, y13, y14, y15, y16, y17, y18, y19, y20, y21, y22, y23, y24, y25, y26, y27, y28, y29, y30, y31, y32, y33, y34, y35, y36, y37, y38, y39, y40, y41, y42, y43, y44, y45, y46, y47, y48, y49, y50, y51, y52, y53, y54, y55, y56, y57, y58, y59, y60, y61, y62, y63, y64, y65, y66, y67, y68, y69, y70, y71, y72, y73, y74, y75, y76, y77, y78, y79, y80, y81, y82, y83, y84, y85, y86, y87, y88, y89, y90, y91, y92, y93, y94, y95, y96, y97, y98, y99, y100, y101, y102, y103, y104, y105, y106, y107, y108, y109, y110, y111, y112, y113, y114, y115, y116, y117, y118, y119, y120, y121, y122, y123, y124, y125, y126, y127, y128, y129, y130, y131, y132, y133, y134, y135, y136, y137, y138, y139, y140, y141, y142, y143, y144, y145, y146, y147, y148, y149, y150, y151, y152, y153, y154, y155, y156, y157, y158, y159, y160, y161, y162, y163, y164, y165, y166, y167, y168, y169, y170, y171, y172, y173, y174, y175, y176, y177, y178, y179, y180, y181, y182, y183, y184, y185, y186, y187, y188, y189, y190, y191, y192, y193, y194, y195, y196, y197, y198, y199, y200, y201, y202, y203, y204, y205, y206, y207, y208, y209, y210, y211, y212, y213, y214, y215, y216, y217, y218, y219, y220, y221, y222, y223, y224, y225, y226, y227, y228, y229, y230, y231, y232, y233, y234, y235, y236, y237, y238, y239, y240, y241, y242, y243, y244, y245, y246, y247, y248, y249, y250, y251, y252, y253, y254, y255, y256, y257, y258, y259, y260, y261, y262, y263, y264, y265, y266, y267, y268, y269, y270, y271, y272, y273, y274, y275, y276, y277, y278, y279, y280, y281, y282, y283, y284, y285, List.getElem?_cons_zero, List.getElem?_cons_succ, List.getElem?_nil, List.set_cons_zero, List.set_cons_succ, List.set_nil, Bool.not_true, Bool.not_false, List.length_cons, List.length_nil, List.length_map, if_true, if_false, u_int_NoneType, u_int_bool, u_int_int, u_int_str, u_int_tuple, u_int_list, u_bool_NoneType, u_bool_bool, u_bool_int, u_bool_str, u_bool_tuple, u_bool_list, u_tuple_NoneType, u_tuple_bool, u_tuple_int, u_tuple_str, u_tuple_tuple, u_tuple_list, u_list_NoneType, u_list_bool, u_list_int, u_list_str, u_list_tuple, u_list_list, u_str_NoneType, u_str_bool, u_str_int, u_str_str, u_str_tuple, u_str_list, u_replicate0, List.map_cons, List.map_nil, List.replicate_succ, List.replicate_zero, List.cons_append, List.nil_append, Nat.reduceSub, Nat.reduceAdd, Nat.reduceLeDiff, Nat.reduceLT, Nat.zero_add, Int.reduceLT, Int.reduceLE, decide_true, decide_false, true_and, and_true, and_self, Bool.false_eq_true, List.append_nil, Int.cast_ofNat_Int, Int.natCast_zero, Int.natCast_one, Int.reduceEq, Int.reduceAdd, Int.reduceSub, Int.reduceMul, Int.reduceNeg, Nat.reduceEqDiff, eq_self]
theorem is_integer_str (s : Str) : Fis_integer [.str s] = .ok (.bl false) := by simp only [Fis_integer, mis_integer, envD, x_var, x_var1, x_c, x_bin, x_un, x_nil, x_cons, x_fn, x_tst, x_val, x_not, x_and, x_or, x_ifE, x_ifS, x_seq, x_next, x_brk, x_cnt, x_ret, x_retO, x_drop, x_asg, x_asgO, x_par, x_own, x_own1, x_own2, x_mut, x_setI, x_rel, x_call, x_callO, x_ap, x_callI, x_callG, x_atO, x_fnI, x_inO, x_part, x_sl, x_chn, x_ref, x_raise, x_it, x_rng1, x_rng2, x_zip, x_for, x_comp, x_all, x_meth, x_aug, x_runD, x_runI, y0, y1, y2, y3, y4, y5, y6, y7, y8, y9, y10, y11, y12, y13, y14, y15, y16, y17, y18, y19, y20, y21, y22, y23, y24, y25, y26, y27, y28, y29, y30, y31, y32, y33, y34, y35, y36, y37, y38, y39, y40, y41, y42, y43, y44, y45, y46, y47, y48, y49, y50, y51, y52, y53, y54, y55, y56, y57, y58, y59, y60, y61, y62, y63, y64, y65, y66, y67, y68, y69, y70, y71, y72, y73, y74, y75, y76, y77, y78, y79, y80, y81, y82, y83, y84, y85, y86, y87, y88, y89, y90, y91, y92, y93, y94, y95, y96, y97, y98, y99, y100, y101, y102, y103, y104, y105, y106, y107, y108, y109, y110, y111, y112, y113, y114, y115, y116, y117, y118, y119, y120, y121, y122, y123, y124, y125, y126, y127, y128, y129, y130, y131, y132, y133, y134, y135, y136, y137, y138, y139, y140, y141, y142, y143, y144, y145, y146, y147, y148, y149, y150, y151, y152, y153, y154, y155, y156, y157, y158, y159, y160, y161, y162, y163, y164, y165, y166, y167, y168, y169, y170, y171, y172, y173, y174, y175, y176, y177, y178, y179, y180, y181, y182, y183, y184, y185, y186, y187, y188, y189, y190, y191, y192, y193, y194, y195, y196, y197, y198, y199, y200, y201, y202, y203, y204, y205, y206, y207, y208, y209, y210, y211, y212, y213, y214, y215, y216, y217, y218, y219, y220, y221, y222, y223, y224, y225, y226, y227, y228, y229, y230, y231, y232, y233, y234, y235, y236, y237, y238, y239, y240, y241, y242, y243, y244, y245, y246, y247, y248, y249, y250, y251, y252, y253, y254, y255, y256, y257, y258, y259, y260, y261, y262, y263, y264, y265, y266, y267, y268, y269, y270, y271, y272, y273, y274, y275, y276, y277, y278, y279, y280, y281, y282, y283, y284, y285, List.getElem?_cons_zero, List.getElem?_cons_succ, List.getElem?_nil, List.set_cons_zero, List.set_cons_succ, List.set_nil, Bool.not_true, Bool.not_false, List.length_cons, List.length_nil, List.length_map, if_true, if_false, u_int_NoneType, u_int_bool, u_int_int, u_int_str, u_int_tuple, u_int_list, u_bool_NoneType, u_bool_bool, u_bool_int, u_bool_str, u_bool_tuple, u_bool_list, u_tuple_NoneType, u_tuple_bool, u_tuple_int, u_tuple_str, u_tuple_tuple, u_tuple_list, u_list_NoneType, u_list_bool, u_list_int, u_list_str, u_list_tuple, u_list_list, u_str_NoneType, u_str_bool, u_str_int, u_str_str, u_str_tuple, u_str_list, u_replicate0, List.map_cons, List.map_nil, List.replicate_succ, List.replicate_zero, List.cons_append, List.nil_append, Nat.reduceSub, Nat.reduceAdd, Nat.reduceLeDiff, Nat.reduceLT, Nat.zero_add, Int.reduceLT, Int.reduceLE, decide_true, decide_false, true_and, and_true, and_self, Bool.false_eq_true, List.append_nil, Int.cast_ofNat_Int, Int.natCast_zero, Int.natCast_one, Int.reduceEq, Int.reduceAdd, Int.reduceSub, Int.reduceMul, Int.reduceNeg, Nat.reduceEqDiff, eq_self]
theorem is_integer_tup (s : List D) : Fis_integer [.tup s] = .ok (.bl false) := by simp only [Fis_integer, mis_integer, envD, x_var, x_var1, x_c, x_bin, x_un, x_nil, x_cons, x_fn, x_tst, x_val, x_not, x_and, x_or, x_ifE, x_ifS, x_seq, x_next, x_brk, x_cnt, x_ret, x_retO, x_drop, x_asg, x_asgO, x_par, x_own, x_own1, x_own2, x_mut, x_setI, x_rel, x_call, x_callO, x_ap, x_callI, x_callG, x_atO, x_fnI, x_inO, x_part, x_sl, x_chn, x_ref, x_raise, x_it, x_rng1, x_rng2, x_zip, x_for, x_comp, x_all, x_meth, x_aug, x_runD, x_runI, y0, y1, y2, y3, y4, y5, y6, y7, y8, y9, y10, y11, y12, y13, y14, y15, y16, y17, y18, y19, y20, y21, y22, y23, y24, y25, y26, y27, y28, y29, y30, y31, y32, y33, y34, y35, y36, y37, y38, y39, y40, y41, y42, y43, y44, y45, y46, y47, y48, y49, y50, y51, y52, y53, y54, y55, y56, y57, y58, y59, y60, y61, y62, y63, y64, y65, y66, y67, y68, y69, y70, y71, y72, y73, y74, y75, y76, y77, y78, y79, y80, y81, y82, y83, y84, y85, y86, y87, y88, y89, y90, y91, y92, y93, y94, y95, y96, y97, y98, y99, y100, y101, y102, y103, y104, y105, y106, y107, y108, y109, y110, y111, y112, y113, y114, y115, y116, y117, y118, y119, y120, y121, y122, y123, y124, y125, y126, y127, y128, y129, y130, y131, y132, y133, y134, y135, y136, y137, y138, y139, y140, y141, y142, y143, y144, y145, y146, y147, y148, y149, y150, y151, y152, y153, y154, y155, y156, y157, y158, y159, y160, y161, y162, y163, y164, y165, y166, y167, y168, y169, y170, y171, y172, y173, y174, y175, y176, y177, y178, y179, y180, y181, y182, y183, y184, y185, y186, y187, y188, y189, y190, y191, y192, y193, y194, y195, y196, y197, y198, y199, y200, y201, y202, y203, y204, y205, y206, y207, y208, y209, y210, y211, y212, y213, y214, y215, y216, y217, y218, y219, y220, y221, y222, y223, y224, y225, y226, y227, y228, y229, y230, y231, y232, y233, y234, y235, y236, y237, y238, y239, y240, y241, y242, y243, y244, y245, y246, y247, y248, y249, y250, y251, y252, y253, y254, y255, y256, y257, y258, y259, y260, y261, y262, y263, y264, y265, y266, y267, y268, y269, y270, y271, y272, y273, y274, y275, y276, y277, y278, y279, y280, y281, y282, y283, y284, y285, List.getElem?_cons_zero, List.getElem?_cons_succ, List.getElem?_nil, List.set_cons_zero, List.set_cons_succ, List.set_nil, Bool.not_true, Bool.not_false, List.length_cons, List.length_nil, List.length_map, if_true, if_false, u_int_NoneType, u_int_bool, u_int_int, u_int_str, u_int_tuple, u_int_list, u_bool_NoneType, u_bool_bool, u_bool_int, u_bool_str, u_bool_tuple, u_bool_list, u_tuple_NoneType, u_tuple_bool, u_tuple_int, u_tuple_str, u_tuple_tuple, u_tuple_list, u_list_NoneType, u_list_bool, u_list_int, u_list_str, u_list_tuple, u_list_list, u_str_NoneType, u_str_bool, u_str_int, u_str_str, u_str_tuple, u_str_list, u_replicate0, List.map_cons, List.map_nil, List.replicate_succ, List.replicate_zero, List.cons_append, List.nil_append, Nat.reduceSub, Nat.reduceAdd, Nat.reduceLeDiff, Nat.reduceLT, Nat.zero_add, Int.reduceLT, Int.reduceLE, decide_true, decide_false, true_and, and_true, and_self, Bool.false_eq_true, List.append_nil, Int.cast_ofNat_Int, Int.natCast_zero, Int.natCast_one, Int.reduceEq, Int.reduceAdd, Int.reduceSub, Int.reduceMul, Int.reduceNeg, Nat.reduceEqDiff, eq_self]
theorem is_integer_lst (s : List D) : Fis_integer [.lst s] = .ok (.bl false) := by simp only [Fis_integer, mis_integer, envD, x_var, x_var1, x_c, x_bin, x_un, x_nil, x_cons, x_fn, x_tst, x_val, x_not, x_and, x_or, x_ifE, x_ifS, x_seq, x_next, x_brk, x_cnt, x_ret, x_retO, x_drop, x_asg, x_asgO, x_par, x_own, x_own1, x_own2, x_mut, x_setI, x_rel, x_call, x_callO, x_ap, x_callI, x_callG, x_atO, x_fnI, x_inO, x_part, x_sl, x_chn, x_ref, x_raise, x_it, x_rng1, x_rng2, x_zip, x_for, x_comp, x_all, x_meth, x_aug, x_runD, x_runI, y0, y1, y2, y3, y4, y5, y6, y7, y8, y9, y10, y11, y12, y13, y14, y15, y16, y17, y18, y19, y20, y21, y22, y23, y24, y25, y26, y27, y28, y29, y30, y31, y32, y33, y34, y35, y36, y37, y38, y39, y40, y41, y42, y43, y44, y45, y46, y47, y48, y49, y50, y51, y52, y53, y54, y55, y56, y57, y58, y59, y60, y61, y62, y63, y64, y65, y66, y67, y68, y69, y70, y71, y72, y73, y74, y75, y76, y77, y78, y79, y80, y81, y82, y83, y84, y85, y86, y87, y88, y89, y90, y91, y92, y93, y94, y95, y96, y97, y98, y99, y100, y101, y102, y103, y104, y105, y106, y107, y108, y109, y110, y111, y112, y113, y114, y115, y116, y117, y118, y119, y120, y121, y122, y123, y124, y125, y126, y127, y128, y129, y130, y131, y132, y133, y134, y135, y136, y137, y138, y139, y140, y141, y142, y143, y144, y145, y146, y147, y148, y149, y150, y151, y152, y153, y154, y155, y156, y157, y158, y159, y160, y161, y162, y163, y164, y165, y166, y167, y168, y169, y170, y171, y172, y173, y174, y175, y176, y177, y178, y179, y180, y181, y182, y183, y184, y185, y186, y187, y188, y189, y190, y191, y192, y193, y194, y195, y196, y197, y198, y199, y200, y201, y202, y203, y204, y205, y206, y207, y208, y209, y210, y211, y212, y213, y214, y215, y216, y217, y218, y219, y220, y221, y222, y223, y224, y225, y226, y227, y228, y229, y230, y231, y232, y233, y234, y235, y236, y237, y238, y239, y240, y241, y242, y243, y244, y245, y246, y247, y248, y249, y250, y251, y252, y253, y254, y255, y256, y257, y258, y259, y260, y261, y262, y263, y264, y265, y266, y267, y268, y269, y270, y271, y272, y273, y274, y275, y276, y277, y278, y279, y280, y281, y282, y283, y284, y285, List.getElem?_cons_zero, List.getElem?_cons_succ, List.getElem?_nil, List.set_cons_zero, List.set_cons_succ, List.set_nil, Bool.not_true, Bool.not_false, List.length_cons, List.length_nil, List.length_map, if_true, if_false, u_int_NoneType, u_int_bool, u_int_int, u_int_str, u_int_tuple, u_int_list, u_bool_NoneType, u_bool_bool, u_bool_int, u_bool_str, u_bool_tuple, u_bool_list, u_tuple_NoneType, u_tuple_bool, u_tuple_int, u_tuple_str, u_tuple_tuple, u_tuple_list, u_list_NoneType, u_list_bool, u_list_int, u_list_str, u_list_tuple, u_list_list, u_str_NoneType, u_str_bool, u_str_int, u_str_str, u_str_tuple, u_str_list, u_replicate0, List.map_cons, List.map_nil, List.replicate_succ, List.replicate_zero, List.cons_append, List.nil_append, Nat.reduceSub, Nat.reduceAdd, Nat.reduceLeDiff, Nat.reduceLT, Nat.zero_add, Int.reduceLT, Int.reduceLE, decide_true, decide_false, true_and, and_true, and_self, Bool.false_eq_true, List.append_nil, Int.cast_ofNat_Int, Int.natCast_zero, Int.natCast_one, Int.reduceEq, Int.reduceAdd, Int.reduceSub, Int.reduceMul, Int.reduceNeg, Nat.reduceEqDiff, eq_self]
theorem need_int_ok {v lo hi : Int} {nm : Str} (h1 : lo ≤ v) (h2 : v ≤ hi) : Fneed_integer [.int v, .str nm, .int lo, .int hi] = .ok .non := by
  have e1 : ¬ v < lo := by omega
  have e2 : ¬ hi < v := by omega
  simp only [Fneed_integer, mneed_integer, envD, x_var, x_var1, x_c, x_bin, x_un, x_nil, x_cons, x_fn, x_tst, x_val, x_not, x_and, x_or, x_ifE, x_ifS, x_seq, x_next, x_brk, x_cnt, x_ret, x_retO, x_drop, x_asg, x_asgO, x_par, x_own, x_own1, x_own2, x_mut, x_setI, x_rel, x_call, x_callO, x_ap, x_callI, x_callG, x_atO, x_fnI, x_inO, x_part, x_sl, x_chn, x_ref, x_raise, x_it, x_rng1, x_rng2, x_zip, x_for, x_comp, x_all, x_meth, x_aug, x_runD, x_runI, y0, y1, y2, y3, y4, y5, y6, y7, y8, y9, y10, y11, y12, y13, y14, y15, y16, y17, y18, y19, y20, y21, y22, y23, y24, y25, y26, y27, y28, y29, y30, y31, y32, y33, y34, y35, y36, y37, y38, y39, y40, y41, y42, y43, y44, y45, y46, y47, y48, y49, y50, y51, y52, y53, y54, y55, y56, y57, y58, y59, y60, y61, y62, y63, y64, y65, y66, y67, y68, y69, y70, y71, y72, y73, y74, y75, y76, y77, y78, y79, y80, y81, y82, y83, y84, y85, y86, y87, y88, y89, y90, y91, y92, y93, y94, y95, y96, y97, y98, y99, y100, y101, y102, y103, y104, y105, y106, y107, y108, y109, y110, y111, y112, y113, y114, y115, y116, y117, y118, y119, y120, y121, y122, y123, y124, y125, y126, y127, y128, y129, y130, y131, y132, y133, y134, y135, y136, y137, y138, y139, y140, y141, y142, y143, y144, y145, y146, y147, y148, y149, y150, y151, y152, y153, y154, y155, y156, y157, y158, y159, y160, y161, y162, y163, y164, y165, y166, y167, y168, y169, y170, y171, y172, y173, y174, y175, y176, y177, y178, y179, y180, y181, y182, y183, y184, y185, y186, y187, y188, y189, y190, y191, y192, y193, y194, y195, y196, y197, y198, y199, y200, y201, y202, y203, y204, y205, y206, y207, y208, y209, y210, y211, y212, y213, y214, y215, y216, y217, y218, y219, y220, y221, y222, y223, y224, y225, y226, y227, y228, y229, y230, y231, y232, y233, y234, y235, y236, y237, y238, y239, y240, y241, y242, y243, y244, y245, y246, y247, y248, y249, y250, y251, y252, y253, y254, y255, y256, y257, y258, y259, y260, y261, y262, y263, y264, y265, y266, y267, y268, y269, y270, y271, y272, y273, y274, y275, y276, y277, y278, y279, y280, y281, y282, y283, y284, y285, List.getElem?_cons_zero, List.getElem?_cons_succ, List.getElem?_nil, List.set_cons_zero, List.set_cons_succ, List.set_nil, Bool.not_true, Bool.not_false, List.length_cons, List.length_nil, List.length_map, if_true, if_false, u_int_NoneType, u_int_bool, u_int_int, u_int_str, u_int_tuple, u_int_list, u_bool_NoneType, u_bool_bool, u_bool_int, u_bool_str, u_bool_tuple, u_bool_list, u_tuple_NoneType, u_tuple_bool, u_tuple_int, u_tuple_str, u_tuple_tuple, u_tuple_list, u_list_NoneType, u_list_bool, u_list_int, u_list_str, u_list_tuple, u_list_list, u_str_NoneType, u_str_bool, u_str_int, u_str_str, u_str_tuple, u_str_list, u_replicate0, List.map_cons, List.map_nil, List.replicate_succ, List.replicate_zero, List.cons_append, List.nil_append, Nat.reduceSub, Nat.reduceAdd, Nat.reduceLeDiff, Nat.reduceLT, Nat.zero_add, Int.reduceLT, Int.reduceLE, decide_true, decide_false, true_and, and_true, and_self, Bool.false_eq_true, List.append_nil, Int.cast_ofNat_Int, Int.natCast_zero, Int.natCast_one, Int.reduceEq, Int.reduceAdd, Int.reduceSub, Int.reduceMul, Int.reduceNeg, Nat.reduceEqDiff, eq_self, is_integer_int, e1, e2]
theorem need_int_no {v lo hi : Int} {nm : Str} (hn : nm.length ≤ 1000) (h : v < lo ∨ hi < v) : Fneed_integer [.int v, .str nm, .int lo, .int hi] = .raise nm := by
  by_cases e1 : v < lo
  · simp only [Fneed_integer, mneed_integer, envD, x_var, x_var1, x_c, x_bin, x_un, x_nil, x_cons, x_fn, x_tst, x_val, x_not, x_and, x_or, x_ifE, x_ifS, x_seq, x_next, x_brk, x_cnt, x_ret, x_retO, x_drop, x_asg, x_asgO, x_par, x_own, x_own1, x_own2, x_mut, x_setI, x_rel, x_call, x_callO, x_ap, x_callI, x_callG, x_atO, x_fnI, x_inO, x_part, x_sl, x_chn, x_ref, x_raise, x_it, x_rng1, x_rng2, x_zip, x_for, x_comp, x_all, x_meth, x_aug, x_runD, x_runI, y0, y1, y2, y3, y4, y5, y6, y7, y8, y9, y10, y11, y12, y13, y14, y15, y16, y17, y18, y19, y20, y21, y22, y23, y24, y25, y26, y27, y28, y29, y30, y31, y32, y33, y34, y35, y36, y37, y38, y39, y40, y41, y42, y43, y44, y45, y46, y47, y48, y49, y50, y51, y52, y53, y54, y55, y56, y57, y58, y59, y60, y61, y62, y63, y64, y65, y66, y67, y68, y69, y70, y71, y72, y73, y74, y75, y76, y77, y78, y79, y80, y81, y82, y83, y84, y85, y86, y87, y88, y89, y90, y91, y92, y93, y94, y95, y96, y97, y98, y99, y100, y101, y102, y103, y104, y105, y106, y107, y108, y109, y110, y111, y112, y113, y114, y115, y116, y117, y118, y119, y120, y121, y122, y123, y124, y125, y126, y127, y128, y129, y130, y131, y132, y133, y134, y135, y136, y137, y138, y139, y140, y141, y142, y143, y144, y145, y146, y147, y148, y149, y150, y151, y152, y153, y154, y155, y156, y157, y158, y159, y160, y161, y162, y163, y164, y165, y166, y167, y168, y169, y170, y171, y172, y173, y174, y175, y176, y177, y178, y179, y180, y181, y182, y183, y184, y185, y186, y187, y188, y189, y190, y191, y192, y193, y194, y195, y196, y197, y198, y199, y200, y201, y202, y203, y204, y205, y206, y207, y208, y209, y210, y211, y212, y213, y214, y215, y216, y217, y218, y219, y220, y221, y222, y223, y224, y225, y226, y227, y228, y229, y230, y231, y232, y233, y234, y235, y236, y237, y238, y239, y240, y241, y242, y243, y244, y245, y246, y247, y248, y249, y250, y251, y252, y253, y254, y255, y256, y257, y258, y259, y260, y261, y262, y263, y264, y265, y266, y267, y268, y269, y270, y271, y272, y273, y274, y275, y276, y277, y278, y279, y280, y281, y282, y283, y284, y285, List.getElem?_cons_zero, List.getElem?_cons_succ, List.getElem?_nil, List.set_cons_zero, List.set_cons_succ, List.set_nil, Bool.not_true, Bool.not_false, List.length_cons, List.length_nil, List.length_map, if_true, if_false, u_int_NoneType, u_int_bool, u_int_int, u_int_str, u_int_tuple, u_int_list, u_bool_NoneType, u_bool_bool, u_bool_int, u_bool_str, u_bool_tuple, u_bool_list, u_tuple_NoneType, u_tuple_bool, u_tuple_int, u_tuple_str, u_tuple_tuple, u_tuple_list, u_list_NoneType, u_list_bool, u_list_int, u_list_str, u_list_tuple, u_list_list, u_str_NoneType, u_str_bool, u_str_int, u_str_str, u_str_tuple, u_str_list, u_replicate0, List.map_cons, List.map_nil, List.replicate_succ, List.replicate_zero, List.cons_append, List.nil_append, Nat.reduceSub, Nat.reduceAdd, Nat.reduceLeDiff, Nat.reduceLT, Nat.zero_add, Int.reduceLT, Int.reduceLE, decide_true, decide_false, true_and, and_true, and_self, Bool.false_eq_true, List.append_nil, Int.cast_ofNat_Int, Int.natCast_zero, Int.natCast_one, Int.reduceEq, Int.reduceAdd, Int.reduceSub, Int.reduceMul, Int.reduceNeg, Nat.reduceEqDiff, eq_self, is_integer_int, e1, hn]
  · have e2 : hi < v := by omega
    simp only [Fneed_integer, mneed_integer, envD, x_var, x_var1, x_c, x_bin, x_un, x_nil, x_cons, x_fn, x_tst, x_val, x_not, x_and, x_or, x_ifE, x_ifS, x_seq, x_next, x_brk, x_cnt, x_ret, x_retO, x_drop, x_asg, x_asgO, x_par, x_own, x_own1, x_own2, x_mut, x_setI, x_rel, x_call, x_callO, x_ap, x_callI, x_callG, x_atO, x_fnI, x_inO, x_part, x_sl, x_chn, x_ref, x_raise, x_it, x_rng1, x_rng2, x_zip, x_for, x_comp, x_all, x_meth, x_aug, x_runD, x_runI, y0, y1, y2, y3, y4, y5, y6, y7, y8, y9, y10, y11, y12, y13, y14, y15, y16, y17, y18, y19, y20, y21, y22, y23, y24, y25, y26, y27, y28, y29, y30, y31, y32, y33, y34, y35, y36, y37, y38, y39, y40, y41, y42, y43, y44, y45, y46, y47, y48, y49, y50, y51, y52, y53, y54, y55, y56, y57, y58, y59, y60, y61, y62, y63, y64, y65, y66, y67, y68, y69, y70, y71, y72, y73, y74, y75, y76, y77, y78, y79, y80, y81, y82, y83, y84, y85, y86, y87, y88, y89, y90, y91, y92, y93, y94, y95, y96, y97, y98, y99, y100, y101, y102, y103, y104, y105, y106, y107, y108, y109, y110, y111, y112, y113, y114, y115, y116, y117, y118, y119, y120, y121, y122, y123, y124, y125, y126, y127, y128, y129, y130, y131, y132, y133, y134, y135, y136, y137, y138, y139, y140, y141, y142, y143, y144, y145, y146, y147, y148, y149, y150, y151, y152, y153, y154, y155, y156, y157, y158, y159, y160, y161, y162, y163, y164, y165, y166, y167, y168, y169, y170, y171, y172, y173, y174, y175, y176, y177, y178, y179, y180, y181, y182, y183, y184, y185, y186, y187, y188, y189, y190, y191, y192, y193, y194, y195, y196, y197, y198, y199, y200, y201, y202, y203, y204, y205, y206, y207, y208, y209, y210, y211, y212, y213, y214, y215, y216, y217, y218, y219, y220, y221, y222, y223, y224, y225, y226, y227, y228, y229, y230, y231, y232, y233, y234, y235, y236, y237, y238, y239, y240, y241, y242, y243, y244, y245, y246, y247, y248, y249, y250, y251, y252, y253, y254, y255, y256, y257, y258, y259, y260, y261, y262, y263, y264, y265, y266, y267, y268, y269, y270, y271, y272, y273, y274, y275, y276, y277, y278, y279, y280, y281, y282, y283, y284, y285, List.getElem?_cons_zero, List.getElem?_cons_succ, List.getElem?_nil, List.set_cons_zero, List.set_cons_succ, List.set_nil, Bool.not_true, Bool.not_false, List.length_cons, List.length_nil, List.length_map, if_true, if_false, u_int_NoneType, u_int_bool, u_int_int, u_int_str, u_int_tuple, u_int_list, u_bool_NoneType, u_bool_bool, u_bool_int, u_bool_str, u_bool_tuple, u_bool_list, u_tuple_NoneType, u_tuple_bool, u_tuple_int, u_tuple_str, u_tuple_tuple, u_tuple_list, u_list_NoneType, u_list_bool, u_list_int, u_list_str, u_list_tuple, u_list_list, u_str_NoneType, u_str_bool, u_str_int, u_str_str, u_str_tuple, u_str_list, u_replicate0, List.map_cons, List.map_nil, List.replicate_succ, List.replicate_zero, List.cons_append, List.nil_append, Nat.reduceSub, Nat.reduceAdd, Nat.reduceLeDiff, Nat.reduceLT, Nat.zero_add, Int.reduceLT, Int.reduceLE, decide_true, decide_false, true_and, and_true, and_self, Bool.false_eq_true, List.append_nil, Int.cast_ofNat_Int, Int.natCast_zero, Int.natCast_one, Int.reduceEq, Int.reduceAdd, Int.reduceSub, Int.reduceMul, Int.reduceNeg, Nat.reduceEqDiff, eq_self, is_integer_int, e1, e2, hn]
theorem need_int_non {lo hi : Int} {nm : Str} (hn : nm.length ≤ 1000) : Fneed_integer [.non, .str nm, .int lo, .int hi] = .raise nm := by
  simp only [Fneed_integer, mneed_integer, envD, x_var, x_var1, x_c, x_bin, x_un, x_nil, x_cons, x_fn, x_tst, x_val, x_not, x_and, x_or, x_ifE, x_ifS, x_seq, x_next, x_brk, x_cnt, x_ret, x_retO, x_drop, x_asg, x_asgO, x_par, x_own, x_own1, x_own2, x_mut, x_setI, x_rel, x_call, x_callO, x_ap, x_callI, x_callG, x_atO, x_fnI, x_inO, x_part, x_sl, x_chn, x_ref, x_raise, x_it, x_rng1, x_rng2, x_zip, x_for, x_comp, x_all, x_meth, x_aug, x_runD, x_runI, y0, y1, y2, y3, y4, y5, y6, y7, y8, y9, y10, y11, y12, y13, y14, y15, y16, y17, y18, y19, y20, y21, y22, y23, y24, y25, y26, y27, y28, y29, y30, y31, y32, y33, y34, y35, y36, y37, y38, y39, y40, y41, y42, y43, y44, y45, y46, y47, y48, y49, y50, y51, y52, y53, y54, y55, y56, y57, y58, y59, y60, y61, y62, y63, y64, y65, y66, y67, y68, y69, y70, y71, y72, y73, y74, y75, y76, y77, y78, y79, y80, y81, y82, y83, y84, y85, y86, y87, y88, y89, y90, y91, y92, y93, y94, y95, y96, y97, y98, y99, y100, y101, y102, y103, y104, y105, y106, y107, y108, y109, y110, y111, y112, y113, y114, y115, y116, y117, y118, y119, y120, y121, y122, y123, y124, y125, y126, y127, y128, y129, y130, y131, y132, y133, y134, y135, y136, y137, y138, y139, y140, y141, y142, y143, y144, y145, y146, y147, y148, y149, y150, y151, y152, y153, y154, y155, y156, y157, y158, y159, y160, y161, y162, y163, y164, y165, y166, y167, y168, y169, y170, y171, y172, y173, y174, y175, y176, y177, y178, y179, y180, y181, y182, y183, y184, y185, y186, y187, y188, y189, y190, y191, y192, y193, y194, y195, y196, y197, y198, y199, y200, y201, y202, y203, y204, y205, y206, y207, y208, y209, y210, y211, y212, y213, y214, y215, y216, y217, y218, y219, y220, y221, y222, y223, y224, y225, y226, y227, y228, y229, y230, y231, y232, y233, y234, y235, y236, y237, y238, y239, y240, y241, y242, y243, y244, y245, y246, y247, y248, y249, y250, y251, y252, y253, y254, y255, y256, y257, y258, y259, y260, y261, y262, y263, y264, y265, y266, y267, y268, y269, y270, y271, y272, y273, y274, y275, y276, y277, y278, y279, y280, y281, y282, y283, y284, y285, List.getElem?_cons_zero, List.getElem?_cons_succ, List.getElem?_nil, List.set_cons_zero, List.set_cons_succ, List.set_nil, Bool.not_true, Bool.not_false, List.length_cons, List.length_nil, List.length_map, if_true, if_false, u_int_NoneType, u_int_bool, u_int_int, u_int_str, u_int_tuple, u_int_list, u_bool_NoneType, u_bool_bool, u_bool_int, u_bool_str, u_bool_tuple, u_bool_list, u_tuple_NoneType, u_tuple_bool, u_tuple_int, u_tuple_str, u_tuple_tuple, u_tuple_list, u_list_NoneType, u_list_bool, u_list_int, u_list_str, u_list_tuple, u_list_list, u_str_NoneType, u_str_bool, u_str_int, u_str_str, u_str_tuple, u_str_list, u_replicate0, List.map_cons, List.map_nil, List.replicate_succ, List.replicate_zero, List.cons_append, List.nil_append, Nat.reduceSub, Nat.reduceAdd, Nat.reduceLeDiff, Nat.reduceLT, Nat.zero_add, Int.reduceLT, Int.reduceLE, decide_true, decide_false, true_and, and_true, and_self, Bool.false_eq_true, List.append_nil, Int.cast_ofNat_Int, Int.natCast_zero, Int.natCast_one, Int.reduceEq, Int.reduceAdd, Int.reduceSub, Int.reduceMul, Int.reduceNeg, Nat.reduceEqDiff, eq_self, is_integer_non, hn]
def amt : D → Bool
  | .int i => decide (0 ≤ i) && decide (i ≤ 200)
  | _ => false
def plain : D → Bool
  | .dct _ _ => false
  | .scr _ => false
  | _ => true
def rowOk (ds : List D) : Bool := decide (1 ≤ ds.length) && decide (ds.length ≤ 24) && ds.all amt
theorem is_row_eq {ds : List D} (hp : ds.all plain = true) : Fis_row [.tup ds] = .ok (.bl (rowOk ds)) := by
  have ha : allL [1] (gSet 1) e1is_row ds [.im (.tup ds), .em] = .ok (ds.all amt) [.im (.tup ds), .em] := by
    refine allL_eq amt fun d hd => ?_
    have hpd := List.all_eq_true.mp hp d hd
    refine ⟨_, [.im (.tup ds), .im d], rfl, ?_, rfl⟩
    cases d with
    | int i =>
      by_cases h0 : 0 ≤ i <;> by_cases h2 : i ≤ 200 <;> simp only [e1is_row, x_var, x_var1, x_c, x_bin, x_un, x_nil, x_cons, x_fn, x_tst, x_val, x_not, x_and, x_or, x_ifE, x_ifS, x_seq, x_next, x_brk, x_cnt, x_ret, x_retO, x_drop, x_asg, x_asgO, x_par, x_own, x_own1, x_own2, x_mut, x_setI, x_rel, x_call, x_callO, x_ap, x_callI, x_callG, x_atO, x_fnI, x_inO, x_part, x_sl, x_chn, x_ref, x_raise, x_it, x_rng1, x_rng2, x_zip, x_for, x_comp, x_all, x_meth, x_aug, x_runD, x_runI, y0, y1, y2, y3, y4, y5, y6, y7, y8, y9, y10, y11, y12, y13, y14, y15, y16, y17, y18, y19, y20, y21, y22, y23, y24, y25, y26, y27, y28, y29, y30, y31, y32, y33, y34, y35, y36, y37, y38, y39, y40, y41, y42, y43, y44, y45, y46, y47, y48, y49, y50, y51, y52, y53, y54, y55, y56, y57, y58, y59, y60, y61, y62, y63, y64, y65, y66, y67, y68, y69, y70, y71, y72, y73, y74, y75, y76, y77, y78, y79, y80, y81, y82, y83, y84, y85, y86, y87, y88, y89, y90, y91, y92, y93, y94, y95, y96, y97, y98, y99, y100, y101, y102, y103, y104, y105, y106, y107, y108, y109, y110, y111, y112, y113, y114, y115, y116, y117, y118, y119, y120, y121, y122, y123, y124, y125, y126, y127, y128, y129, y130, y131, y132, y133, y134, y135, y136, y137, y138, y139, y140, y141, y142, y143, y144, y145, y146, y147, y148, y149, y150, y151, y152, y153, y154, y155, y156, y157, y158, y159, y160, y161, y162, y163, y164, y165, y166, y167, y168, y169, y170, y171, y172, y173, y174, y175, y176, y177, y178, y179, y180, y181, y182, y183, y184, y185, y186, y187, y188, y189, y190, y191, y192, y193, y194, y195, y196, y197, y198, y199, y200, y201, y202, y203, y204, y205, y206, y207, y208, y209, y210, y211, y212, y213, y214, y215, y216, y217, y218, y219, y220, y221, y222, y223, y224, y225, y226, y227, y228, y229, y230, y231, y232, y233, y234, y235, y236, y237, y238, y239, y240, y241, y242, y243, y244, y245, y246, y247, y248, y249, y250, y251, y252, y253, y254, y255, y256, y257, y258, y259, y260, y261, y262, y263, y264, y265, y266, y267, y268, y269, y270, y271, y272, y273, y274, y275, y276, y277, y278, y279, y280, y281, y282, y283, y284, y285, List.getElem?_cons_zero, List.getElem?_cons_succ, List.getElem?_nil, List.set_cons_zero, List.set_cons_succ, List.set_nil, Bool.not_true, Bool.not_false, List.length_cons, List.length_nil, List.length_map, if_true, if_false, u_int_NoneType, u_int_bool, u_int_int, u_int_str, u_int_tuple, u_int_list, u_bool_NoneType, u_bool_bool, u_bool_int, u_bool_str, u_bool_tuple, u_bool_list, u_tuple_NoneType, u_tuple_bool, u_tuple_int, u_tuple_str, u_tuple_tuple, u_tuple_list, u_list_NoneType, u_list_bool, u_list_int, u_list_str, u_list_tuple, u_list_list, u_str_NoneType, u_str_bool, u_str_int, u_str_str, u_str_tuple, u_str_list, u_replicate0, List.map_cons, List.map_nil, List.replicate_succ, List.replicate_zero, List.cons_append, List.nil_append, Nat.reduceSub, Nat.reduceAdd, Nat.reduceLeDiff, Nat.reduceLT, Nat.zero_add, Int.reduceLT, Int.reduceLE, decide_true, decide_false, true_and, and_true, and_self, Bool.false_eq_true, List.append_nil, Int.cast_ofNat_Int, Int.natCast_zero, Int.natCast_one, Int.reduceEq, Int.reduceAdd, Int.reduceSub, Int.reduceMul, Int.reduceNeg, Nat.reduceEqDiff, eq_self, is_integer_int, amt, h0, h2] <;> rfl
    | non => simp only [e1is_row, x_var, x_var1, x_c, x_bin, x_un, x_nil, x_cons, x_fn, x_tst, x_val, x_not, x_and, x_or, x_ifE, x_ifS, x_seq, x_next, x_brk, x_cnt, x_ret, x_retO, x_drop, x_asg, x_asgO, x_par, x_own, x_own1, x_own2, x_mut, x_setI, x_rel, x_call, x_callO, x_ap, x_callI, x_callG, x_atO, x_fnI, x_inO, x_part, x_sl, x_chn, x_ref, x_raise, x_it, x_rng1, x_rng2, x_zip, x_for, x_comp, x_all, x_meth, x_aug, x_runD, x_runI, y0, y1, y2, y3, y4, y5, y6, y7, y8, y9, y10, y11, y12, y13, y14, y15, y16, y17, y18, y19, y20, y21, y22, y23, y24, y25, y26, y27, y28, y29, y30, y31, y32, y33, y34, y35, y36, y37, y38, y39, y40, y41, y42, y43, y44, y45, y46, y47, y48, y49, y50, y51, y52, y53, y54, y55, y56, y57, y58, y59, y60, y61, y62, y63, y64, y65, y66, y67, y68, y69, y70, y71, y72, y73, y74, y75, y76, y77, y78, y79, y80, y81, y82, y83, y84, y85, y86, y87, y88, y89, y90, y91, y92, y93, y94, y95, y96, y97, y98, y99, y100, y101, y102, y103, y104, y105, y106, y107, y108, y109, y110, y111, y112, y113, y114, y115, y116, y117, y118, y119, y120, y121, y122, y123, y124, y125, y126, y127, y128, y129, y130, y131, y132, y133, y134, y135, y136, y137, y138, y139, y140, y141, y142, y143, y144, y145, y146, y147, y148, y149, y150, y151, y152, y153, y154, y155, y156, y157, y158, y159, y160, y161, y162, y163, y164, y165, y166, y167, y168, y169, y170, y171, y172, y173, y174, y175, y176, y177, y178, y179, y180, y181, y182, y183, y184, y185, y186, y187, y188, y189, y190, y191, y192, y193, y194, y195, y196, y197, y198, y199, y200, y201, y202, y203, y204, y205, y206, y207, y208, y209, y210, y211, y212, y213, y214, y215, y216, y217, y218, y219, y220, y221, y222, y223, y224, y225, y226, y227, y228, y229, y230, y231, y232, y233, y234, y235, y236, y237, y238, y239, y240, y241, y242, y243, y244, y245, y246, y247, y248, y249, y250, y251, y252, y253, y254, y255, y256, y257, y258, y259, y260, y261, y262, y263, y264, y265, y266, y267, y268, y269, y270, y271, y272, y273, y274, y275, y276, y277, y278, y279, y280, y281, y282, y283, y284, y285, List.getElem?_cons_zero, List.getElem?_cons_succ, List.getElem?_nil, List.set_cons_zero, List.set_cons_succ, List.set_nil, Bool.not_true, Bool.not_false, List.length_cons, List.length_nil, List.length_map, if_true, if_false, u_int_NoneType, u_int_bool, u_int_int, u_int_str, u_int_tuple, u_int_list, u_bool_NoneType, u_bool_bool, u_bool_int, u_bool_str, u_bool_tuple, u_bool_list, u_tuple_NoneType, u_tuple_bool, u_tuple_int, u_tuple_str, u_tuple_tuple, u_tuple_list, u_list_NoneType, u_list_bool, u_list_int, u_list_str, u_list_tuple, u_list_list, u_str_NoneType, u_str_bool, u_str_int, u_str_str, u_str_tuple, u_str_list, u_replicate0, List.map_cons, List.map_nil, List.replicate_succ, List.replicate_zero, List.cons_append, List.nil_append, Nat.reduceSub, Nat.reduceAdd, Nat.reduceLeDiff, Nat.reduceLT, Nat.zero_add, Int.reduceLT, Int.reduceLE, decide_true, decide_false, true_and, and_true, and_self, Bool.false_eq_true, List.append_nil, Int.cast_ofNat_Int, Int.natCast_zero, Int.natCast_one, Int.reduceEq, Int.reduceAdd, Int.reduceSub, Int.reduceMul, Int.reduceNeg, Nat.reduceEqDiff, eq_self, is_integer_non, amt]
    | bl _ => simp only [e1is_row, x_var, x_var1, x_c, x_bin, x_un, x_nil, x_cons, x_fn, x_tst, x_val, x_not, x_and, x_or, x_ifE, x_ifS, x_seq, x_next, x_brk, x_cnt, x_ret, x_retO, x_drop, x_asg, x_asgO, x_par, x_own, x_own1, x_own2, x_mut, x_setI, x_rel, x_call, x_callO, x_ap, x_callI, x_callG, x_atO, x_fnI, x_inO, x_part, x_sl, x_chn, x_ref, x_raise, x_it, x_rng1, x_rng2, x_zip, x_for, x_comp, x_all, x_meth, x_aug, x_runD, x_runI, y0, y1, y2, y3, y4, y5, y6, y7, y8, y9, y10, y11, y12, y13, y14, y15, y16, y17, y18, y19, y20, y21, y22, y23, y24, y25, y26, y27, y28, y29, y30, y31, y32, y33, y34, y35, y36, y37, y38, y39, y40, y41, y42, y43, y44, y45, y46, y47, y48, y49, y50, y51, y52, y53, y54, y55, y56, y57, y58, y59, y60, y61, y62, y63, y64, y65, y66, y67, y68, y69, y70, y71, y72, y73, y74, y75, y76, y77, y78, y79, y80, y81, y82, y83, y84, y85, y86, y87, y88, y89, y90, y91, y92, y93, y94, y95, y96, y97, y98, y99, y100, y101, y102, y103, y104, y105, y106, y107, y108, y109, y110, y111, y112, y113, y114, y115, y116, y117, y118, y119, y120, y121, y122, y123, y124, y125, y126, y127, y128, y129, y130, y131, y132, y133, y134, y135, y136, y137, y138, y139, y140, y141, y142, y143, y144, y145, y146, y147, y148, y149, y150, y151, y152, y153, y154, y155, y156, y157, y158, y159, y160, y161, y162, y163, y164, y165, y166, y167, y168, y169, y170, y171, y172, y173, y174, y175, y176, y177, y178, y179, y180, y181, y182, y183, y184, y185, y186, y187, y188, y189, y190, y191, y192, y193, y194, y195, y196, y197, y198, y199, y200, y201, y202, y203, y204, y205, y206, y207, y208, y209, y210, y211, y212, y213, y214, y215, y216, y217, y218, y219, y220, y221, y222, y223, y224, y225, y226, y227, y228, y229, y230, y231, y232, y233, y234, y235, y236, y237, y238, y239, y240, y241, y242, y243, y244, y245, y246, y247, y248, y249, y250, y251, y252, y253, y254, y255, y256, y257, y258, y259, y260, y261, y262, y263, y264, y265, y266, y267, y268, y269, y270, y271, y272, y273, y274, y275, y276, y277, y278, y279, y280, y281, y282, y283, y284, y285, List.getElem?_cons_zero, List.getElem?_cons_succ, List.getElem?_nil, List.set_cons_zero, List.set_cons_succ, List.set_nil, Bool.not_true, Bool.not_false, List.length_cons, List.length_nil, List.length_map, if_true, if_false, u_int_NoneType, u_int_bool, u_int_int, u_int_str, u_int_tuple, u_int_list, u_bool_NoneType, u_bool_bool, u_bool_int, u_bool_str, u_bool_tuple, u_bool_list, u_tuple_NoneType, u_tuple_bool, u_tuple_int, u_tuple_str, u_tuple_tuple, u_tuple_list, u_list_NoneType, u_list_bool, u_list_int, u_list_str, u_list_tuple, u_list_list, u_str_NoneType, u_str_bool, u_str_int, u_str_str, u_str_tuple, u_str_list, u_replicate0, List.map_cons, List.map_nil, List.replicate_succ, List.replicate_zero, List.cons_append, List.nil_append, Nat.reduceSub, Nat.reduceAdd, Nat.reduceLeDiff, Nat.reduceLT, Nat.zero_add, Int.reduceLT, Int.reduceLE, decide_true, decide_false, true_and, and_true, and_self, Bool.false_eq_true, List.append_nil, Int.cast_ofNat_Int, Int.natCast_zero, Int.natCast_one, Int.reduceEq, Int.reduceAdd, Int.reduceSub, Int.reduceMul, Int.reduceNeg, Nat.reduceEqDiff, eq_self, is_integer_bl, amt]
    | str _ => simp only [e1is_row, x_var, x_var1, x_c, x_bin, x_un, x_nil, x_cons, x_fn, x_tst, x_val, x_not, x_and, x_or, x_ifE, x_ifS, x_seq, x_next, x_brk, x_cnt, x_ret, x_retO, x_drop, x_asg, x_asgO, x_par, x_own, x_own1, x_own2, x_mut, x_setI, x_rel, x_call, x_callO, x_ap, x_callI, x_callG, x_atO, x_fnI, x_inO, x_part, x_sl, x_chn, x_ref, x_raise, x_it, x_rng1, x_rng2, x_zip, x_for, x_comp, x_all, x_meth, x_aug, x_runD, x_runI, y0, y1, y2, y3, y4, y5, y6, y7, y8, y9, y10, y11, y12, y13, y14, y15, y16, y17, y18, y19, y20, y21, y22, y23, y24, y25, y26, y27, y28, y29, y30, y31, y32, y33, y34, y35, y36, y37, y38, y39, y40, y41, y42, y43, y44, y45, y46, y47, y48, y49, y50, y51, y52, y53, y54, y55, y56, y57, y58, y59, y60, y61, y62, y63, y64, y65, y66, y67, y68, y69, y70, y71, y72, y73, y74, y75, y76, y77, y78, y79, y80, y81, y82, y83, y84, y85, y86, y87, y88, y89, y90, y91, y92, y93, y94, y95, y96, y97, y98, y99, y100, y101, y102, y103, y104, y105, y106, y107, y108, y109, y110, y111, y112, y113, y114, y115, y116, y117, y118, y119, y120, y121, y122, y123, y124, y125, y126, y127, y128, y129, y130, y131, y132, y133, y134, y135, y136, y137, y138, y139, y140, y141, y142, y143, y144, y145, y146, y147, y148, y149, y150, y151, y152, y153, y154, y155, y156, y157, y158, y159, y160, y161, y162, y163, y164, y165, y166, y167, y168, y169, y170, y171, y172, y173, y174, y175, y176, y177, y178, y179, y180, y181, y182, y183, y184, y185, y186, y187, y188, y189, y190, y191, y192, y193, y194, y195, y196, y197, y198, y199, y200, y201, y202, y203, y204, y205, y206, y207, y208, y209, y210, y211, y212, y213, y214, y215, y216, y217, y218, y219, y220, y221, y222, y223, y224, y225, y226, y227, y228, y229, y230, y231, y232, y233, y234, y235, y236, y237, y238, y239, y240, y241, y242, y243, y244, y245, y246, y247, y248, y249, y250, y251, y252, y253, y254, y255, y256, y257, y258, y259, y260, y261, y262, y263, y264, y265, y266, y267, y268, y269, y270, y271, y272, y273, y274, y275, y276, y277, y278, y279, y280, y281, y282, y283, y284, y285, List.getElem?_cons_zero, List.getElem?_cons_succ, List.getElem?_nil, List.set_cons_zero, List.set_cons_succ, List.set_nil, Bool.not_true, Bool.not_false, List.length_cons, List.length_nil, List.length_map, if_true, if_false, u_int_NoneType, u_int_bool, u_int_int, u_int_str, u_int_tuple, u_int_list, u_bool_NoneType, u_bool_bool, u_bool_int, u_bool_str, u_bool_tuple, u_bool_list, u_tuple_NoneType, u_tuple_bool, u_tuple_int, u_tuple_str, u_tuple_tuple, u_tuple_list, u_list_NoneType, u_list_bool, u_list_int, u_list_str, u_list_tuple, u_list_list, u_str_NoneType, u_str_bool, u_str_int, u_str_str, u_str_tuple, u_str_list, u_replicate0, List.map_cons, List.map_nil, List.replicate_succ, List.replicate_zero, List.cons_append, List.nil_append, Nat.reduceSub, Nat.reduceAdd, Nat.reduceLeDiff, Nat.reduceLT, Nat.zero_add, Int.reduceLT, Int.reduceLE, decide_true, decide_false, true_and, and_true, and_self, Bool.false_eq_true, List.append_nil, Int.cast_ofNat_Int, Int.natCast_zero, Int.natCast_one, Int.reduceEq, Int.reduceAdd, Int.reduceSub, Int.reduceMul, Int.reduceNeg, Nat.reduceEqDiff, eq_self, is_integer_str, amt]
    | tup _ => simp only [e1is_row, x_var, x_var1, x_c, x_bin, x_un, x_nil, x_cons, x_fn, x_tst, x_val, x_not, x_and, x_or, x_ifE, x_ifS, x_seq, x_next, x_brk, x_cnt, x_ret, x_retO, x_drop, x_asg, x_asgO, x_par, x_own, x_own1, x_own2, x_mut, x_setI, x_rel, x_call, x_callO, x_ap, x_callI, x_callG, x_atO, x_fnI, x_inO, x_part, x_sl, x_chn, x_ref, x_raise, x_it, x_rng1, x_rng2, x_zip, x_for, x_comp, x_all, x_meth, x_aug, x_runD, x_runI, y0, y1, y2, y3, y4, y5, y6, y7, y8, y9, y10, y11, y12, y13, y14, y15, y16, y17, y18, y19, y20, y21, y22, y23, y24, y25, y26, y27, y28, y29, y30, y31, y32, y33, y34, y35, y36, y37, y38, y39, y40, y41, y42, y43, y44, y45, y46, y47, y48, y49, y50, y51, y52, y53, y54, y55, y56, y57, y58, y59, y60, y61, y62, y63, y64, y65, y66, y67, y68, y69, y70, y71, y72, y73, y74, y75, y76, y77, y78, y79, y80, y81, y82, y83, y84, y85, y86, y87, y88, y89, y90, y91, y92, y93, y94, y95, y96, y97, y98, y99, y100, y101, y102, y103, y104, y105, y106, y107, y108, y109, y110, y111, y112, y113, y114, y115, y116, y117, y118, y119, y120, y121, y122, y123, y124, y125, y126, y127, y128, y129, y130, y131, y132, y133, y134, y135, y136, y137, y138, y139, y140, y141, y142, y143, y144, y145, y146, y147, y148, y149, y150, y151, y152, y153, y154, y155, y156, y157, y158, y159, y160, y161, y162, y163, y164, y165, y166, y167, y168, y169, y170, y171, y172, y173, y174, y175, y176, y177, y178, y179, y180, y181, y182, y183, y184, y185, y186, y187, y188, y189, y190, y191, y192, y193, y194, y195, y196, y197, y198, y199, y200, y201, y202, y203, y204, y205, y206, y207, y208, y209, y210, y211, y212, y213, y214, y215, y216, y217, y218, y219, y220, y221, y222, y223, y224, y225, y226, y227, y228, y229, y230, y231, y232, y233, y234, y235, y236, y237, y238, y239, y240, y241, y242, y243, y244, y245, y246, y247, y248, y249, y250, y251, y252, y253, y254, y255, y256, y257, y258, y259, y260, y261, y262, y263, y264, y265, y266, y267, y268, y269, y270, y271, y272, y273, y274, y275, y276, y277, y278, y279, y280, y281, y282, y283, y284, y285, List.getElem?_cons_zero, List.getElem?_cons_succ, List.getElem?_nil, List.set_cons_zero, List.set_cons_succ, List.set_nil, Bool.not_true, Bool.not_false, List.length_cons, List.length_nil, List.length_map, if_true, if_false, u_int_NoneType, u_int_bool, u_int_int, u_int_str, u_int_tuple, u_int_list, u_bool_NoneType, u_bool_bool, u_bool_int, u_bool_str, u_bool_tuple, u_bool_list, u_tuple_NoneType, u_tuple_bool, u_tuple_int, u_tuple_str, u_tuple_tuple, u_tuple_list, u_list_NoneType, u_list_bool, u_list_int, u_list_str, u_list_tuple, u_list_list, u_str_NoneType, u_str_bool, u_str_int, u_str_str, u_str_tuple, u_str_list, u_replicate0, List.map_cons, List.map_nil, List.replicate_succ, List.replicate_zero, List.cons_append, List.nil_append, Nat.reduceSub, Nat.reduceAdd, Nat.reduceLeDiff, Nat.reduceLT, Nat.zero_add, Int.reduceLT, Int.reduceLE, decide_true, decide_false, true_and, and_true, and_self, Bool.false_eq_true, List.append_nil, Int.cast_ofNat_Int, Int.natCast_zero, Int.natCast_one, Int.reduceEq, Int.reduceAdd, Int.reduceSub, Int.reduceMul, Int.reduceNeg, Nat.reduceEqDiff, eq_self, is_integer_tup, amt]
    | lst _ => simp only [e1is_row, x_var, x_var1, x_c, x_bin, x_un, x_nil, x_cons, x_fn, x_tst, x_val, x_not, x_and, x_or, x_ifE, x_ifS, x_seq, x_next, x_brk, x_cnt, x_ret, x_retO, x_drop, x_asg, x_asgO, x_par, x_own, x_own1, x_own2, x_mut, x_setI, x_rel, x_call, x_callO, x_ap, x_callI, x_callG, x_atO, x_fnI, x_inO, x_part, x_sl, x_chn, x_ref, x_raise, x_it, x_rng1, x_rng2, x_zip, x_for, x_comp, x_all, x_meth, x_aug, x_runD, x_runI, y0, y1, y2, y3, y4, y5, y6, y7, y8, y9, y10, y11, y12, y13, y14, y15, y16, y17, y18, y19, y20, y21, y22, y23, y24, y25, y26, y27, y28, y29, y30, y31, y32, y33, y34, y35, y36, y37, y38, y39, y40, y41, y42, y43, y44, y45, y46, y47, y48, y49, y50, y51, y52, y53, y54, y55, y56, y57, y58, y59, y60, y61, y62, y63, y64, y65, y66, y67, y68, y69, y70, y71, y72, y73, y74, y75, y76, y77, y78, y79, y80, y81, y82, y83, y84, y85, y86, y87, y88, y89, y90, y91, y92, y93, y94, y95, y96, y97, y98, y99, y100, y101, y102, y103, y104, y105, y106, y107, y108, y109, y110, y111, y112, y113, y114, y115, y116, y117, y118, y119, y120, y121, y122, y123, y124, y125, y126, y127, y128, y129, y130, y131, y132, y133, y134, y135, y136, y137, y138, y139, y140, y141, y142, y143, y144, y145, y146, y147, y148, y149, y150, y151, y152, y153, y154, y155, y156, y157, y158, y159, y160, y161, y162, y163, y164, y165, y166, y167, y168, y169, y170, y171, y172, y173, y174, y175, y176, y177, y178, y179, y180, y181, y182, y183, y184, y185, y186, y187, y188, y189, y190, y191, y192, y193, y194, y195, y196, y197, y198, y199, y200, y201, y202, y203, y204, y205, y206, y207, y208, y209, y210, y211, y212, y213, y214, y215, y216, y217, y218, y219, y220, y221, y222, y223, y224, y225, y226, y227, y228, y229, y230, y231, y232, y233, y234, y235, y236, y237, y238, y239, y240, y241, y242, y243, y244, y245, y246, y247, y248, y249, y250, y251, y252, y253, y254, y255, y256, y257, y258, y259, y260, y261, y262, y263, y264, y265, y266, y267, y268, y269, y270, y271, y272, y273, y274, y275, y276, y277, y278, y279, y280, y281, y282, y283, y284, y285, List.getElem?_cons_zero, List.getElem?_cons_succ, List.getElem?_nil, List.set_cons_zero, List.set_cons_succ, List.set_nil, Bool.not_true, Bool.not_false, List.length_cons, List.length_nil, List.length_map, if_true, if_false, u_int_NoneType, u_int_bool, u_int_int, u_int_str, u_int_tuple, u_int_list, u_bool_NoneType, u_bool_bool, u_bool_int, u_bool_str, u_bool_tuple, u_bool_list, u_tuple_NoneType, u_tuple_bool, u_tuple_int, u_tuple_str, u_tuple_tuple, u_tuple_list, u_list_NoneType, u_list_bool, u_list_int, u_list_str, u_list_tuple, u_list_list, u_str_NoneType, u_str_bool, u_str_int, u_str_str, u_str_tuple, u_str_list, u_replicate0, List.map_cons, List.map_nil, List.replicate_succ, List.replicate_zero, List.cons_append, List.nil_append, Nat.reduceSub, Nat.reduceAdd, Nat.reduceLeDiff, Nat.reduceLT, Nat.zero_add, Int.reduceLT, Int.reduceLE, decide_true, decide_false, true_and, and_true, and_self, Bool.false_eq_true, List.append_nil, Int.cast_ofNat_Int, Int.natCast_zero, Int.natCast_one, Int.reduceEq, Int.reduceAdd, Int.reduceSub, Int.reduceMul, Int.reduceNeg, Nat.reduceEqDiff, eq_self, is_integer_lst, amt]
    | dct _ _ => cases hpd
    | scr _ => cases hpd
  unfold rowOk
  by_cases h1 : 1 ≤ ds.length <;> by_cases h2 : ds.length ≤ 24
  · have e1 : (1 : Int) ≤ (ds.length : Int) := by omega
    have e2 : (ds.length : Int) ≤ 24 := by omega
    simp only [Fis_row, mis_row, envD, x_var, x_var1, x_c, x_bin, x_un, x_nil, x_cons, x_fn, x_tst, x_val, x_not, x_and, x_or, x_ifE, x_ifS, x_seq, x_next, x_brk, x_cnt, x_ret, x_retO, x_drop, x_asg, x_asgO, x_par, x_own, x_own1, x_own2, x_mut, x_setI, x_rel, x_call, x_callO, x_ap, x_callI, x_callG, x_atO, x_fnI, x_inO, x_part, x_sl, x_chn, x_ref, x_raise, x_it, x_rng1, x_rng2, x_zip, x_for, x_comp, x_all, x_meth, x_aug, x_runD, x_runI, y0, y1, y2, y3, y4, y5, y6, y7, y8, y9, y10, y11, y12, y13, y14, y15, y16, y17, y18, y19, y20, y21, y22, y23, y24, y25, y26, y27, y28, y29, y30, y31, y32, y33, y34, y35, y36, y37, y38, y39, y40, y41, y42, y43, y44, y45, y46, y47, y48, y49, y50, y51, y52, y53, y54, y55, y56, y57, y58, y59, y60, y61, y62, y63, y64, y65, y66, y67, y68, y69, y70, y71, y72, y73, y74, y75, y76, y77, y78, y79, y80, y81, y82, y83, y84, y85, y86, y87, y88, y89, y90, y91, y92, y93, y94, y95, y96, y97, y98, y99, y100, y101, y102, y103, y104, y105, y106, y107, y108, y109, y110, y111, y112, y113, y114, y115, y116, y117, y118, y119, y120, y121, y122, y123, y124, y125, y126, y127, y128, y129, y130, y131, y132, y133, y134, y135, y136, y137, y138, y139, y140, y141, y142, y143, y144, y145, y146, y147, y148, y149, y150, y151, y152, y153, y154, y155, y156, y157, y158, y159, y160, y161, y162, y163, y164, y165, y166, y167, y168, y169, y170, y171, y172, y173, y174, y175, y176, y177, y178, y179, y180, y181, y182, y183, y184, y185, y186, y187, y188, y189, y190, y191, y192, y193, y194, y195, y196, y197, y198, y199, y200, y201, y202, y203, y204, y205, y206, y207, y208, y209, y210, y211, y212, y213, y214, y215, y216, y217, y218, y219, y220, y221, y222, y223, y224, y225, y226, y227, y228, y229, y230, y231, y232, y233, y234, y235, y236, y237, y238, y239, y240, y241, y242, y243, y244, y245, y246, y247, y248, y249, y250, y251, y252, y253, y254, y255, y256, y257, y258, y259, y260, y261, y262, y263, y264, y265, y266, y267, y268, y269, y270, y271, y272, y273, y274, y275, y276, y277, y278, y279, y280, y281, y282, y283, y284, y285, List.getElem?_cons_zero, List.getElem?_cons_succ, List.getElem?_nil, List.set_cons_zero, List.set_cons_succ, List.set_nil, Bool.not_true, Bool.not_false, List.length_cons, List.length_nil, List.length_map, if_true, if_false, u_int_NoneType, u_int_bool, u_int_int, u_int_str, u_int_tuple, u_int_list, u_bool_NoneType, u_bool_bool, u_bool_int, u_bool_str, u_bool_tuple, u_bool_list, u_tuple_NoneType, u_tuple_bool, u_tuple_int, u_tuple_str, u_tuple_tuple, u_tuple_list, u_list_NoneType, u_list_bool, u_list_int, u_list_str, u_list_tuple, u_list_list, u_str_NoneType, u_str_bool, u_str_int, u_str_str, u_str_tuple, u_str_list, u_replicate0, List.map_cons, List.map_nil, List.replicate_succ, List.replicate_zero, List.cons_append, List.nil_append, Nat.reduceSub, Nat.reduceAdd, Nat.reduceLeDiff, Nat.reduceLT, Nat.zero_add, Int.reduceLT, Int.reduceLE, decide_true, decide_false, true_and, and_true, and_self, Bool.false_eq_true, List.append_nil, Int.cast_ofNat_Int, Int.natCast_zero, Int.natCast_one, Int.reduceEq, Int.reduceAdd, Int.reduceSub, Int.reduceMul, Int.reduceNeg, Nat.reduceEqDiff, eq_self, e1, e2, ha, h1, h2, Bool.true_and]
  · have e1 : (1 : Int) ≤ (ds.length : Int) := by omega
    have e2 : ¬ (ds.length : Int) ≤ 24 := by omega
    simp only [Fis_row, mis_row, envD, x_var, x_var1, x_c, x_bin, x_un, x_nil, x_cons, x_fn, x_tst, x_val, x_not, x_and, x_or, x_ifE, x_ifS, x_seq, x_next, x_brk, x_cnt, x_ret, x_retO, x_drop, x_asg, x_asgO, x_par, x_own, x_own1, x_own2, x_mut, x_setI, x_rel, x_call, x_callO, x_ap, x_callI, x_callG, x_atO, x_fnI, x_inO, x_part, x_sl, x_chn, x_ref, x_raise, x_it, x_rng1, x_rng2, x_zip, x_for, x_comp, x_all, x_meth, x_aug, x_runD, x_runI, y0, y1, y2, y3, y4, y5, y6, y7, y8, y9, y10, y11, y12, y13, y14, y15, y16, y17, y18, y19, y20, y21, y22, y23, y24, y25, y26, y27, y28, y29, y30, y31, y32, y33, y34, y35, y36, y37, y38, y39, y40, y41, y42, y43, y44, y45, y46, y47, y48, y49, y50, y51, y52, y53, y54, y55, y56, y57, y58, y59, y60, y61, y62, y63, y64, y65, y66, y67, y68, y69, y70, y71, y72, y73, y74, y75, y76, y77, y78, y79, y80, y81, y82, y83, y84, y85, y86, y87, y88, y89, y90, y91, y92, y93, y94, y95, y96, y97, y98, y99, y100, y101, y102, y103, y104, y105, y106, y107, y108, y109, y110, y111, y112, y113, y114, y115, y116, y117, y118, y119, y120, y121, y122, y123, y124, y125, y126, y127, y128, y129, y130, y131, y132, y133, y134, y135, y136, y137, y138, y139, y140, y141, y142, y143, y144, y145, y146, y147, y148, y149, y150, y151, y152, y153, y154, y155, y156, y157, y158, y159, y160, y161, y162, y163, y164, y165, y166, y167, y168, y169, y170, y171, y172, y173, y174, y175, y176, y177, y178, y179, y180, y181, y182, y183, y184, y185, y186, y187, y188, y189, y190, y191, y192, y193, y194, y195, y196, y197, y198, y199, y200, y201, y202, y203, y204, y205, y206, y207, y208, y209, y210, y211, y212, y213, y214, y215, y216, y217, y218, y219, y220, y221, y222, y223, y224, y225, y226, y227, y228, y229, y230, y231, y232, y233, y234, y235, y236, y237, y238, y239, y240, y241, y242, y243, y244, y245, y246, y247, y248, y249, y250, y251, y252, y253, y254, y255, y256, y257, y258, y259, y260, y261, y262, y263, y264, y265, y266, y267, y268, y269, y270, y271, y272, y273, y274, y275, y276, y277, y278, y279, y280, y281, y282, y283, y284, y285, List.getElem?_cons_zero, List.getElem?_cons_succ, List.getElem?_nil, List.set_cons_zero, List.set_cons_succ, List.set_nil, Bool.not_true, Bool.not_false, List.length_cons, List.length_nil, List.length_map, if_true, if_false, u_int_NoneType, u_int_bool, u_int_int, u_int_str, u_int_tuple, u_int_list, u_bool_NoneType, u_bool_bool, u_bool_int, u_bool_str, u_bool_tuple, u_bool_list, u_tuple_NoneType, u_tuple_bool, u_tuple_int, u_tuple_str, u_tuple_tuple, u_tuple_list, u_list_NoneType, u_list_bool, u_list_int, u_list_str, u_list_tuple, u_list_list, u_str_NoneType, u_str_bool, u_str_int, u_str_str, u_str_tuple, u_str_list, u_replicate0, List.map_cons, List.map_nil, List.replicate_succ, List.replicate_zero, List.cons_append, List.nil_append, Nat.reduceSub, Nat.reduceAdd, Nat.reduceLeDiff, Nat.reduceLT, Nat.zero_add, Int.reduceLT, Int.reduceLE, decide_true, decide_false, true_and, and_true, and_self, Bool.false_eq_true, List.append_nil, Int.cast_ofNat_Int, Int.natCast_zero, Int.natCast_one, Int.reduceEq, Int.reduceAdd, Int.reduceSub, Int.reduceMul, Int.reduceNeg, Nat.reduceEqDiff, eq_self, e1, e2, h1, h2, Bool.true_and, Bool.false_and]
  · have e1 : ¬ (1 : Int) ≤ (ds.length : Int) := by omega
    simp only [Fis_row, mis_row, envD, x_var, x_var1, x_c, x_bin, x_un, x_nil, x_cons, x_fn, x_tst, x_val, x_not, x_and, x_or, x_ifE, x_ifS, x_seq, x_next, x_brk, x_cnt, x_ret, x_retO, x_drop, x_asg, x_asgO, x_par, x_own, x_own1, x_own2, x_mut, x_setI, x_rel, x_call, x_callO, x_ap, x_callI, x_callG, x_atO, x_fnI, x_inO, x_part, x_sl, x_chn, x_ref, x_raise, x_it, x_rng1, x_rng2, x_zip, x_for, x_comp, x_all, x_meth, x_aug, x_runD, x_runI, y0, y1, y2, y3, y4, y5, y6, y7, y8, y9, y10, y11, y12, y13, y14, y15, y16, y17, y18, y19, y20, y21, y22, y23, y24, y25, y26, y27, y28, y29, y30, y31, y32, y33, y34, y35, y36, y37, y38, y39, y40, y41, y42, y43, y44, y45, y46, y47, y48, y49, y50, y51, y52, y53, y54, y55, y56, y57, y58, y59, y60, y61, y62, y63, y64, y65, y66, y67, y68, y69, y70, y71, y72, y73, y74, y75, y76, y77, y78, y79, y80, y81, y82, y83, y84, y85, y86, y87, y88, y89, y90, y91, y92, y93, y94, y95, y96, y97, y98, y99, y100, y101, y102, y103, y104, y105, y106, y107, y108, y109, y110, y111, y112, y113, y114, y115, y116, y117, y118, y119, y120, y121, y122, y123, y124, y125, y126, y127, y128, y129, y130, y131, y132, y133, y134, y135, y136, y137, y138, y139, y140, y141, y142, y143, y144, y145, y146, y147, y148, y149, y150, y151, y152, y153, y154, y155, y156, y157, y158, y159, y160, y161, y162, y163, y164, y165, y166, y167, y168, y169, y170, y171, y172, y173, y174, y175, y176, y177, y178, y179, y180, y181, y182, y183, y184, y185, y186, y187, y188, y189, y190, y191, y192, y193, y194, y195, y196, y197, y198, y199, y200, y201, y202, y203, y204, y205, y206, y207, y208, y209, y210, y211, y212, y213, y214, y215, y216, y217, y218, y219, y220, y221, y222, y223, y224, y225, y226, y227, y228, y229, y230, y231, y232, y233, y234, y235, y236, y237, y238, y239, y240, y241, y242, y243, y244, y245, y246, y247, y248, y249, y250, y251, y252, y253, y254, y255, y256, y257, y258, y259, y260, y261, y262, y263, y264, y265, y266, y267, y268, y269, y270, y271, y272, y273, y274, y275, y276, y277, y278, y279, y280, y281, y282, y283, y284, y285, List.getElem?_cons_zero, List.getElem?_cons_succ, List.getElem?_nil, List.set_cons_zero, List.set_cons_succ, List.set_nil, Bool.not_true, Bool.not_false, List.length_cons, List.length_nil, List.length_map, if_true, if_false, u_int_NoneType, u_int_bool, u_int_int, u_int_str, u_int_tuple, u_int_list, u_bool_NoneType, u_bool_bool, u_bool_int, u_bool_str, u_bool_tuple, u_bool_list, u_tuple_NoneType, u_tuple_bool, u_tuple_int, u_tuple_str, u_tuple_tuple, u_tuple_list, u_list_NoneType, u_list_bool, u_list_int, u_list_str, u_list_tuple, u_list_list, u_str_NoneType, u_str_bool, u_str_int, u_str_str, u_str_tuple, u_str_list, u_replicate0, List.map_cons, List.map_nil, List.replicate_succ, List.replicate_zero, List.cons_append, List.nil_append, Nat.reduceSub, Nat.reduceAdd, Nat.reduceLeDiff, Nat.reduceLT, Nat.zero_add, Int.reduceLT, Int.reduceLE, decide_true, decide_false, true_and, and_true, and_self, Bool.false_eq_true, List.append_nil, Int.cast_ofNat_Int, Int.natCast_zero, Int.natCast_one, Int.reduceEq, Int.reduceAdd, Int.reduceSub, Int.reduceMul, Int.reduceNeg, Nat.reduceEqDiff, eq_self, e1, h1, h2, Bool.true_and, Bool.false_and]
  · omega
def isBl : D → Bool
  | .bl _ => true
  | _ => false
theorem is_sky_two {as bs : List D} (ha : as.all plain = true) (hb : bs.all plain = true) : Fis_sky [.tup [.tup as, .tup bs]] = .ok (.bl (rowOk as && decide (bs.length = as.length) && bs.all isBl)) := by
  have hl : allL [1] (gSet 1) e1is_sky bs [.im (.tup [.tup as, .tup bs]), .em] = .ok (bs.all isBl) [.im (.tup [.tup as, .tup bs]), .em] := by
    refine allL_eq isBl fun d hd => ?_
    have hpd := List.all_eq_true.mp hb d hd
    refine ⟨_, [.im (.tup [.tup as, .tup bs]), .im d], rfl, ?_, rfl⟩
    cases d with
    | dct _ _ => cases hpd
    | scr _ => cases hpd
    | _ => simp only [e1is_sky, x_var, x_var1, x_c, x_bin, x_un, x_nil, x_cons, x_fn, x_tst, x_val, x_not, x_and, x_or, x_ifE, x_ifS, x_seq, x_next, x_brk, x_cnt, x_ret, x_retO, x_drop, x_asg, x_asgO, x_par, x_own, x_own1, x_own2, x_mut, x_setI, x_rel, x_call, x_callO, x_ap, x_callI, x_callG, x_atO, x_fnI, x_inO, x_part, x_sl, x_chn, x_ref, x_raise, x_it, x_rng1, x_rng2, x_zip, x_for, x_comp, x_all, x_meth, x_aug, x_runD, x_runI, y0, y1, y2, y3, y4, y5, y6, y7, y8, y9, y10, y11, y12, y13, y14, y15, y16, y17, y18, y19, y20, y21, y22, y23, y24, y25, y26, y27, y28, y29, y30, y31, y32, y33, y34, y35, y36, y37, y38, y39, y40, y41, y42, y43, y44, y45, y46, y47, y48, y49, y50, y51, y52, y53, y54, y55, y56, y57, y58, y59, y60, y61, y62, y63, y64, y65, y66, y67, y68, y69, y70, y71, y72, y73, y74, y75, y76, y77, y78, y79, y80, y81, y82, y83, y84, y85, y86, y87, y88, y89, y90, y91, y92, y93, y94, y95, y96, y97, y98, y99, y100, y101, y102, y103, y104, y105, y106, y107, y108, y109, y110, y111, y112, y113, y114, y115, y116, y117, y118, y119, y120, y121, y122, y123, y124, y125, y126, y127, y128, y129, y130, y131, y132, y133, y134, y135, y136, y137, y138, y139, y140, y141, y142, y143, y144, y145, y146, y147, y148, y149, y150, y151, y152, y153, y154, y155, y156, y157, y158, y159, y160, y161, y162, y163, y164, y165, y166, y167, y168, y169, y170, y171, y172, y173, y174, y175, y176, y177, y178, y179, y180, y181, y182, y183, y184, y185, y186, y187, y188, y189, y190, y191, y192, y193, y194, y195, y196, y197, y198, y199, y200, y201, y202, y203, y204, y205, y206, y207, y208, y209, y210, y211, y212, y213, y214, y215, y216, y217, y218, y219, y220, y221, y222, y223, y224, y225, y226, y227, y228, y229, y230, y231, y232, y233, y234, y235, y236, y237, y238, y239, y240, y241, y242, y243, y244, y245, y246, y247, y248, y249, y250, y251, y252, y253, y254, y255, y256, y257, y258, y259, y260, y261, y262, y263, y264, y265, y266, y267, y268, y269, y270, y271, y272, y273, y274, y275, y276, y277, y278, y279, y280, y281, y282, y283, y284, y285, List.getElem?_cons_zero, List.getElem?_cons_succ, List.getElem?_nil, List.set_cons_zero, List.set_cons_succ, List.set_nil, Bool.not_true, Bool.not_false, List.length_cons, List.length_nil, List.length_map, if_true, if_false, u_int_NoneType, u_int_bool, u_int_int, u_int_str, u_int_tuple, u_int_list, u_bool_NoneType, u_bool_bool, u_bool_int, u_bool_str, u_bool_tuple, u_bool_list, u_tuple_NoneType, u_tuple_bool, u_tuple_int, u_tuple_str, u_tuple_tuple, u_tuple_list, u_list_NoneType, u_list_bool, u_list_int, u_list_str, u_list_tuple, u_list_list, u_str_NoneType, u_str_bool, u_str_int, u_str_str, u_str_tuple, u_str_list, u_replicate0, List.map_cons, List.map_nil, List.replicate_succ, List.replicate_zero, List.cons_append, List.nil_append, Nat.reduceSub, Nat.reduceAdd, Nat.reduceLeDiff, Nat.reduceLT, Nat.zero_add, Int.reduceLT, Int.reduceLE, decide_true, decide_false, true_and, and_true, and_self, Bool.false_eq_true, List.append_nil, Int.cast_ofNat_Int, Int.natCast_zero, Int.natCast_one, Int.reduceEq, Int.reduceAdd, Int.reduceSub, Int.reduceMul, Int.reduceNeg, Nat.reduceEqDiff, eq_self, isBl]
  have hr := is_row_eq ha
  cases hk : rowOk as with
  | false =>
    rw [hk] at hr
    simp only [Fis_sky, mis_sky, envD, x_var, x_var1, x_c, x_bin, x_un, x_nil, x_cons, x_fn, x_tst, x_val, x_not, x_and, x_or, x_ifE, x_ifS, x_seq, x_next, x_brk, x_cnt, x_ret, x_retO, x_drop, x_asg, x_asgO, x_par, x_own, x_own1, x_own2, x_mut, x_setI, x_rel, x_call, x_callO, x_ap, x_callI, x_callG, x_atO, x_fnI, x_inO, x_part, x_sl, x_chn, x_ref, x_raise, x_it, x_rng1, x_rng2, x_zip, x_for, x_comp, x_all, x_meth, x_aug, x_runD, x_runI, y0, y1, y2, y3, y4, y5, y6, y7, y8, y9, y10, y11, y12, y13, y14, y15, y16, y17, y18, y19, y20, y21, y22, y23, y24, y25, y26, y27, y28, y29, y30, y31, y32, y33, y34, y35, y36, y37, y38, y39, y40, y41, y42, y43, y44, y45, y46, y47, y48, y49, y50, y51, y52, y53, y54, y55, y56, y57, y58, y59, y60, y61, y62, y63, y64, y65, y66, y67, y68, y69, y70, y71, y72, y73, y74, y75, y76, y77, y78, y79, y80, y81, y82, y83, y84, y85, y86, y87, y88, y89, y90, y91, y92, y93, y94, y95, y96, y97, y98, y99, y100, y101, y102, y103, y104, y105, y106, y107, y108, y109, y110, y111, y112, y113, y114, y115, y116, y117, y118, y119, y120, y121, y122, y123, y124, y125, y126, y127, y128, y129, y130, y131, y132, y133, y134, y135, y136, y137, y138, y139, y140, y141, y142, y143, y144, y145, y146, y147, y148, y149, y150, y151, y152, y153, y154, y155, y156, y157, y158, y159, y160, y161, y162, y163, y164, y165, y166, y167, y168, y169, y170, y171, y172, y173, y174, y175, y176, y177, y178, y179, y180, y181, y182, y183, y184, y185, y186, y187, y188, y189, y190, y191, y192, y193, y194, y195, y196, y197, y198, y199, y200, y201, y202, y203, y204, y205, y206, y207, y208, y209, y210, y211, y212, y213, y214, y215, y216, y217, y218, y219, y220, y221, y222, y223, y224, y225, y226, y227, y228, y229, y230, y231, y232, y233, y234, y235, y236, y237, y238, y239, y240, y241, y242, y243, y244, y245, y246, y247, y248, y249, y250, y251, y252, y253, y254, y255, y256, y257, y258, y259, y260, y261, y262, y263, y264, y265, y266, y267, y268, y269, y270, y271, y272, y273, y274, y275, y276, y277, y278, y279, y280, y281, y282, y283, y284, y285, List.getElem?_cons_zero, List.getElem?_cons_succ, List.getElem?_nil, List.set_cons_zero, List.set_cons_succ, List.set_nil, Bool.not_true, Bool.not_false, List.length_cons, List.length_nil, List.length_map, if_true, if_false, u_int_NoneType, u_int_bool, u_int_int, u_int_str, u_int_tuple, u_int_list, u_bool_NoneType, u_bool_bool, u_bool_int, u_bool_str, u_bool_tuple, u_bool_list, u_tuple_NoneType, u_tuple_bool, u_tuple_int, u_tuple_str, u_tuple_tuple, u_tuple_list, u_list_NoneType, u_list_bool, u_list_int, u_list_str, u_list_tuple, u_list_list, u_str_NoneType, u_str_bool, u_str_int, u_str_str, u_str_tuple, u_str_list, u_replicate0, List.map_cons, List.map_nil, List.replicate_succ, List.replicate_zero, List.cons_append, List.nil_append, Nat.reduceSub, Nat.reduceAdd, Nat.reduceLeDiff, Nat.reduceLT, Nat.zero_add, Int.reduceLT, Int.reduceLE, decide_true, decide_false, true_and, and_true, and_self, Bool.false_eq_true, List.append_nil, Int.cast_ofNat_Int, Int.natCast_zero, Int.natCast_one, Int.reduceEq, Int.reduceAdd, Int.reduceSub, Int.reduceMul, Int.reduceNeg, Nat.reduceEqDiff, eq_self, atI_z, atI_one, hr, bO_ne_int, Bool.false_and]
    try rfl
  | true =>
    rw [hk] at hr
    have e2 : ¬ (24 : Int) < (as.length : Int) := by
      unfold rowOk at hk
      simp only [Bool.and_eq_true, decide_eq_true_eq] at hk
      omega
    by_cases e3 : bs.length = as.length
    · have e4 : (bs.length : Int) = (as.length : Int) := by omega
      simp only [Fis_sky, mis_sky, envD, x_var, x_var1, x_c, x_bin, x_un, x_nil, x_cons, x_fn, x_tst, x_val, x_not, x_and, x_or, x_ifE, x_ifS, x_seq, x_next, x_brk, x_cnt, x_ret, x_retO, x_drop, x_asg, x_asgO, x_par, x_own, x_own1, x_own2, x_mut, x_setI, x_rel, x_call, x_callO, x_ap, x_callI, x_callG, x_atO, x_fnI, x_inO, x_part, x_sl, x_chn, x_ref, x_raise, x_it, x_rng1, x_rng2, x_zip, x_for, x_comp, x_all, x_meth, x_aug, x_runD, x_runI, y0, y1, y2, y3, y4, y5, y6, y7, y8, y9, y10, y11, y12, y13, y14, y15, y16, y17, y18, y19, y20, y21, y22, y23, y24, y25, y26, y27, y28, y29, y30, y31, y32, y33, y34, y35, y36, y37, y38, y39, y40, y41, y42, y43, y44, y45, y46, y47, y48, y49, y50, y51, y52, y53, y54, y55, y56, y57, y58, y59, y60, y61, y62, y63, y64, y65, y66, y67, y68, y69, y70, y71, y72, y73, y74, y75, y76, y77, y78, y79, y80, y81, y82, y83, y84, y85, y86, y87, y88, y89, y90, y91, y92, y93, y94, y95, y96, y97, y98, y99, y100, y101, y102, y103, y104, y105, y106, y107, y108, y109, y110, y111, y112, y113, y114, y115, y116, y117, y118, y119, y120, y121, y122, y123, y124, y125, y126, y127, y128, y129, y130, y131, y132, y133, y134, y135, y136, y137, y138, y139, y140, y141, y142, y143, y144, y145, y146, y147, y148, y149, y150, y151, y152, y153, y154, y155, y156, y157, y158, y159, y160, y161, y162, y163, y164, y165, y166, y167, y168, y169, y170, y171, y172, y173, y174, y175, y176, y177, y178, y179, y180, y181, y182, y183, y184, y185, y186, y187, y188, y189, y190, y191, y192, y193, y194, y195, y196, y197, y198, y199, y200, y201, y202, y203, y204, y205, y206, y207, y208, y209, y210, y211, y212, y213, y214, y215, y216, y217, y218, y219, y220, y221, y222, y223, y224, y225, y226, y227, y228, y229, y230, y231, y232, y233, y234, y235, y236, y237, y238, y239, y240, y241, y242, y243, y244, y245, y246, y247, y248, y249, y250, y251, y252, y253, y254, y255, y256, y257, y258, y259, y260, y261, y262, y263, y264, y265, y266, y267, y268, y269, y270, y271, y272, y273, y274, y275, y276, y277, y278, y279, y280, y281, y282, y283, y284, y285, List.getElem?_cons_zero, List.getElem?_cons_succ, List.getElem?_nil, List.set_cons_zero, List.set_cons_succ, List.set_nil, Bool.not_true, Bool.not_false, List.length_cons, List.length_nil, List.length_map, if_true, if_false, u_int_NoneType, u_int_bool, u_int_int, u_int_str, u_int_tuple, u_int_list, u_bool_NoneType, u_bool_bool, u_bool_int, u_bool_str, u_bool_tuple, u_bool_list, u_tuple_NoneType, u_tuple_bool, u_tuple_int, u_tuple_str, u_tuple_tuple, u_tuple_list, u_list_NoneType, u_list_bool, u_list_int, u_list_str, u_list_tuple, u_list_list, u_str_NoneType, u_str_bool, u_str_int, u_str_str, u_str_tuple, u_str_list, u_replicate0, List.map_cons, List.map_nil, List.replicate_succ, List.replicate_zero, List.cons_append, List.nil_append, Nat.reduceSub, Nat.reduceAdd, Nat.reduceLeDiff, Nat.reduceLT, Nat.zero_add, Int.reduceLT, Int.reduceLE, decide_true, decide_false, true_and, and_true, and_self, Bool.false_eq_true, List.append_nil, Int.cast_ofNat_Int, Int.natCast_zero, Int.natCast_one, Int.reduceEq, Int.reduceAdd, Int.reduceSub, Int.reduceMul, Int.reduceNeg, Nat.reduceEqDiff, eq_self, atI_z, atI_one, hr, bO_ne_int, Bool.true_and, e2, e3, e4, hl]
      try rfl
    · have e4 : ¬ (bs.length : Int) = (as.length : Int) := by omega
      simp only [Fis_sky, mis_sky, envD, x_var, x_var1, x_c, x_bin, x_un, x_nil, x_cons, x_fn, x_tst, x_val, x_not, x_and, x_or, x_ifE, x_ifS, x_seq, x_next, x_brk, x_cnt, x_ret, x_retO, x_drop, x_asg, x_asgO, x_par, x_own, x_own1, x_own2, x_mut, x_setI, x_rel, x_call, x_callO, x_ap, x_callI, x_callG, x_atO, x_fnI, x_inO, x_part, x_sl, x_chn, x_ref, x_raise, x_it, x_rng1, x_rng2, x_zip, x_for, x_comp, x_all, x_meth, x_aug, x_runD, x_runI, y0, y1, y2, y3, y4, y5, y6, y7, y8, y9, y10, y11, y12, y13, y14, y15, y16, y17, y18, y19, y20, y21, y22, y23, y24, y25, y26, y27, y28, y29, y30, y31, y32, y33, y34, y35, y36, y37, y38, y39, y40, y41, y42, y43, y44, y45, y46, y47, y48, y49, y50, y51, y52, y53, y54, y55, y56, y57, y58, y59, y60, y61, y62, y63, y64, y65, y66, y67, y68, y69, y70, y71, y72, y73, y74, y75, y76, y77, y78, y79, y80, y81, y82, y83, y84, y85, y86, y87, y88, y89, y90, y91, y92, y93, y94, y95, y96, y97, y98, y99, y100, y101, y102, y103, y104, y105, y106, y107, y108, y109, y110, y111, y112, y113, y114, y115, y116, y117, y118, y119, y120, y121, y122, y123, y124, y125, y126, y127, y128, y129, y130, y131, y132, y133, y134, y135, y136, y137, y138, y139, y140, y141, y142, y143, y144, y145, y146, y147, y148, y149, y150, y151, y152, y153, y154, y155, y156, y157, y158, y159, y160, y161, y162, y163, y164, y165, y166, y167, y168, y169, y170, y171, y172, y173, y174, y175, y176, y177, y178, y179, y180, y181, y182, y183, y184, y185, y186, y187, y188, y189, y190, y191, y192, y193, y194, y195, y196, y197, y198, y199, y200, y201, y202, y203, y204, y205, y206, y207, y208, y209, y210, y211, y212, y213, y214, y215, y216, y217, y218, y219, y220, y221, y222, y223, y224, y225, y226, y227, y228, y229, y230, y231, y232, y233, y234, y235, y236, y237, y238, y239, y240, y241, y242, y243, y244, y245, y246, y247, y248, y249, y250, y251, y252, y253, y254, y255, y256, y257, y258, y259, y260, y261, y262, y263, y264, y265, y266, y267, y268, y269, y270, y271, y272, y273, y274, y275, y276, y277, y278, y279, y280, y281, y282, y283, y284, y285, List.getElem?_cons_zero, List.getElem?_cons_succ, List.getElem?_nil, List.set_cons_zero, List.set_cons_succ, List.set_nil, Bool.not_true, Bool.not_false, List.length_cons, List.length_nil, List.length_map, if_true, if_false, u_int_NoneType, u_int_bool, u_int_int, u_int_str, u_int_tuple, u_int_list, u_bool_NoneType, u_bool_bool, u_bool_int, u_bool_str, u_bool_tuple, u_bool_list, u_tuple_NoneType, u_tuple_bool, u_tuple_int, u_tuple_str, u_tuple_tuple, u_tuple_list, u_list_NoneType, u_list_bool, u_list_int, u_list_str, u_list_tuple, u_list_list, u_str_NoneType, u_str_bool, u_str_int, u_str_str, u_str_tuple, u_str_list, u_replicate0, List.map_cons, List.map_nil, List.replicate_succ, List.replicate_zero, List.cons_append, List.nil_append, Nat.reduceSub, Nat.reduceAdd, Nat.reduceLeDiff, Nat.reduceLT, Nat.zero_add, Int.reduceLT, Int.reduceLE, decide_true, decide_false, true_and, and_true, and_self, Bool.false_eq_true, List.append_nil, Int.cast_ofNat_Int, Int.natCast_zero, Int.natCast_one, Int.reduceEq, Int.reduceAdd, Int.reduceSub, Int.reduceMul, Int.reduceNeg, Nat.reduceEqDiff, eq_self, atI_z, atI_one, hr, bO_ne_int, Bool.true_and, Bool.false_and, e2, e3, e4]
      try rfl
theorem is_sky_no1 : Fis_sky [.non] = .ok (.bl false) := by simp only [Fis_sky, mis_sky, envD, x_var, x_var1, x_c, x_bin, x_un, x_nil, x_cons, x_fn, x_tst, x_val, x_not, x_and, x_or, x_ifE, x_ifS, x_seq, x_next, x_brk, x_cnt, x_ret, x_retO, x_drop, x_asg, x_asgO, x_par, x_own, x_own1, x_own2, x_mut, x_setI, x_rel, x_call, x_callO, x_ap, x_callI, x_callG, x_atO, x_fnI, x_inO, x_part, x_sl, x_chn, x_ref, x_raise, x_it, x_rng1, x_rng2, x_zip, x_for, x_comp, x_all, x_meth, x_aug, x_runD, x_runI, y0, y1, y2, y3, y4, y5, y6, y7, y8, y9, y10, y11, y12, y13, y14, y15, y16, y17, y18, y19, y20, y21, y22, y23, y24, y25, y26, y27, y28, y29, y30, y31, y32, y33, y34, y35, y36, y37, y38, y39, y40, y41, y42, y43, y44, y45, y46, y47, y48, y49, y50, y51, y52, y53, y54, y55, y56, y57, y58, y59, y60, y61, y62, y63, y64, y65, y66, y67, y68, y69, y70, y71, y72, y73, y74, y75, y76, y77, y78, y79, y80, y81, y82, y83, y84, y85, y86, y87, y88, y89, y90, y91, y92, y93, y94, y95, y96, y97, y98, y99, y100, y101, y102, y103, y104, y105, y106, y107, y108, y109, y110, y111, y112, y113, y114, y115, y116, y117, y118, y119, y120, y121, y122, y123, y124, y125, y126, y127, y128, y129, y130, y131, y132, y133, y134, y135, y136, y137, y138, y139, y140, y141, y142, y143, y144, y145, y146, y147, y148, y149, y150, y151, y152, y153, y154, y155, y156, y157, y158, y159, y160, y161, y162, y163, y164, y165, y166, y167, y168, y169, y170, y171, y172, y173, y174, y175, y176, y177, y178, y179, y180, y181, y182, y183, y184, y185, y186, y187, y188, y189, y190, y191, y192, y193, y194, y195, y196, y197, y198, y199, y200, y201, y202, y203, y204, y205, y206, y207, y208, y209, y210, y211, y212, y213, y214, y215, y216, y217, y218, y219, y220, y221, y222, y223, y224, y225, y226, y227, y228, y229, y230, y231, y232, y233, y234, y235, y236, y237, y238, y239, y240, y241, y242, y243, y244, y245, y246, y247, y248, y249, y250, y251, y252, y253, y254, y255, y256, y257, y258, y259, y260, y261, y262, y263, y264, y265, y266, y267, y268, y269, y270, y271, y272, y273, y274, y275, y276, y277, y278, y279, y280, y281, y282, y283, y284, y285, List.getElem?_cons_zero, List.getElem?_cons_succ, List.getElem?_nil, List.set_cons_zero, List.set_cons_succ, List.set_nil, Bool.not_true, Bool.not_false, List.length_cons, List.length_nil, List.length_map, if_true, if_false, u_int_NoneType, u_int_bool, u_int_int, u_int_str, u_int_tuple, u_int_list, u_bool_NoneType, u_bool_bool, u_bool_int, u_bool_str, u_bool_tuple, u_bool_list, u_tuple_NoneType, u_tuple_bool, u_tuple_int, u_tuple_str, u_tuple_tuple, u_tuple_list, u_list_NoneType, u_list_bool, u_list_int, u_list_str, u_list_tuple, u_list_list, u_str_NoneType, u_str_bool, u_str_int, u_str_str, u_str_tuple, u_str_list, u_replicate0, List.map_cons, List.map_nil, List.replicate_succ, List.replicate_zero, List.cons_append, List.nil_append, Nat.reduceSub, Nat.reduceAdd, Nat.reduceLeDiff, Nat.reduceLT, Nat.zero_add, Int.reduceLT, Int.reduceLE, decide_true, decide_false, true_and, and_true, and_self, Bool.false_eq_true, List.append_nil, Int.cast_ofNat_Int, Int.natCast_zero, Int.natCast_one, Int.reduceEq, Int.reduceAdd, Int.reduceSub, Int.reduceMul, Int.reduceNeg, Nat.reduceEqDiff, eq_self]
theorem is_sky_no2 : Fis_sky [.tup []] = .ok (.bl false) := by
  simp only [Fis_sky, mis_sky, envD, x_var, x_var1, x_c, x_bin, x_un, x_nil, x_cons, x_fn, x_tst, x_val, x_not, x_and, x_or, x_ifE, x_ifS, x_seq, x_next, x_brk, x_cnt, x_ret, x_retO, x_drop, x_asg, x_asgO, x_par, x_own, x_own1, x_own2, x_mut, x_setI, x_rel, x_call, x_callO, x_ap, x_callI, x_callG, x_atO, x_fnI, x_inO, x_part, x_sl, x_chn, x_ref, x_raise, x_it, x_rng1, x_rng2, x_zip, x_for, x_comp, x_all, x_meth, x_aug, x_runD, x_runI, y0, y1, y2, y3, y4, y5, y6, y7, y8, y9, y10, y11, y12, y13, y14, y15, y16, y17, y18, y19, y20, y21, y22, y23, y24, y25, y26, y27, y28, y29, y30, y31, y32, y33, y34, y35, y36, y37, y38, y39, y40, y41, y42, y43, y44, y45, y46, y47, y48, y49, y50, y51, y52, y53, y54, y55, y56, y57, y58, y59, y60, y61, y62, y63, y64, y65, y66, y67, y68, y69, y70, y71, y72, y73, y74, y75, y76, y77, y78, y79, y80, y81, y82, y83, y84, y85, y86, y87, y88, y89, y90, y91, y92, y93, y94, y95, y96, y97, y98, y99, y100, y101, y102, y103, y104, y105, y106, y107, y108, y109, y110, y111, y112, y113, y114, y115, y116, y117, y118, y119, y120, y121, y122, y123, y124, y125, y126, y127, y128, y129, y130, y131, y132, y133, y134, y135, y136, y137, y138, y139, y140, y141, y142, y143, y144, y145, y146, y147, y148, y149, y150, y151, y152, y153, y154, y155, y156, y157, y158, y159, y160, y161, y162, y163, y164, y165, y166, y167, y168, y169, y170, y171, y172, y173, y174, y175, y176, y177, y178, y179, y180, y181, y182, y183, y184, y185, y186, y187, y188, y189, y190, y191, y192, y193, y194, y195, y196, y197, y198, y199, y200, y201, y202, y203, y204, y205, y206, y207, y208, y209, y210, y211, y212, y213, y214, y215, y216, y217, y218, y219, y220, y221, y222, y223, y224, y225, y226, y227, y228, y229, y230, y231, y232, y233, y234, y235, y236, y237, y238, y239, y240, y241, y242, y243, y244, y245, y246, y247, y248, y249, y250, y251, y252, y253, y254, y255, y256, y257, y258, y259, y260, y261, y262, y263, y264, y265, y266, y267, y268, y269, y270, y271, y272, y273, y274, y275, y276, y277, y278, y279, y280, y281, y282, y283, y284, y285, List.getElem?_cons_zero, List.getElem?_cons_succ, List.getElem?_nil, List.set_cons_zero, List.set_cons_succ, List.set_nil, Bool.not_true, Bool.not_false, List.length_cons, List.length_nil, List.length_map, if_true, if_false, u_int_NoneType, u_int_bool, u_int_int, u_int_str, u_int_tuple, u_int_list, u_bool_NoneType, u_bool_bool, u_bool_int, u_bool_str, u_bool_tuple, u_bool_list, u_tuple_NoneType, u_tuple_bool, u_tuple_int, u_tuple_str, u_tuple_tuple, u_tuple_list, u_list_NoneType, u_list_bool, u_list_int, u_list_str, u_list_tuple, u_list_list, u_str_NoneType, u_str_bool, u_str_int, u_str_str, u_str_tuple, u_str_list, u_replicate0, List.map_cons, List.map_nil, List.replicate_succ, List.replicate_zero, List.cons_append, List.nil_append, Nat.reduceSub, Nat.reduceAdd, Nat.reduceLeDiff, Nat.reduceLT, Nat.zero_add, Int.reduceLT, Int.reduceLE, decide_true, decide_false, true_and, and_true, and_self, Bool.false_eq_true, List.append_nil, Int.cast_ofNat_Int, Int.natCast_zero, Int.natCast_one, Int.reduceEq, Int.reduceAdd, Int.reduceSub, Int.reduceMul, Int.reduceNeg, Nat.reduceEqDiff, eq_self, bO_ne_int]
  try rfl
theorem is_sky_no3 {ds : List D} : Fis_sky [.lst ds] = .ok (.bl false) := by simp only [Fis_sky, mis_sky, envD, x_var, x_var1, x_c, x_bin, x_un, x_nil, x_cons, x_fn, x_tst, x_val, x_not, x_and, x_or, x_ifE, x_ifS, x_seq, x_next, x_brk, x_cnt, x_ret, x_retO, x_drop, x_asg, x_asgO, x_par, x_own, x_own1, x_own2, x_mut, x_setI, x_rel, x_call, x_callO, x_ap, x_callI, x_callG, x_atO, x_fnI, x_inO, x_part, x_sl, x_chn, x_ref, x_raise, x_it, x_rng1, x_rng2, x_zip, x_for, x_comp, x_all, x_meth, x_aug, x_runD, x_runI, y0, y1, y2, y3, y4, y5, y6, y7, y8, y9, y10, y11, y12, y13, y14, y15, y16, y17, y18, y19, y20, y21, y22, y23, y24, y25, y26, y27, y28, y29, y30, y31, y32, y33, y34, y35, y36, y37, y38, y39, y40, y41, y42, y43, y44, y45, y46, y47, y48, y49, y50, y51, y52, y53, y54, y55, y56, y57, y58, y59, y60, y61, y62, y63, y64, y65, y66, y67, y68, y69, y70, y71, y72, y73, y74, y75, y76, y77, y78, y79, y80, y81, y82, y83, y84, y85, y86, y87, y88, y89, y90, y91, y92, y93, y94, y95, y96, y97, y98, y99, y100, y101, y102, y103, y104, y105, y106, y107, y108, y109, y110, y111, y112, y113, y114, y115, y116, y117, y118, y119, y120, y121, y122, y123, y124, y125, y126, y127, y128, y129, y130, y131, y132, y133, y134, y135, y136, y137, y138, y139, y140, y141, y142, y143, y144, y145, y146, y147, y148, y149, y150, y151, y152, y153, y154, y155, y156, y157, y158, y159, y160, y161, y162, y163, y164, y165, y166, y167, y168, y169, y170, y171, y172, y173, y174, y175, y176, y177, y178, y179, y180, y181, y182, y183, y184, y185, y186, y187, y188, y189, y190, y191, y192, y193, y194, y195, y196, y197, y198, y199, y200, y201, y202, y203, y204, y205, y206, y207, y208, y209, y210, y211, y212, y213, y214, y215, y216, y217, y218, y219, y220, y221, y222, y223, y224, y225, y226, y227, y228, y229, y230, y231, y232, y233, y234, y235, y236, y237, y238, y239, y240, y241, y242, y243, y244, y245, y246, y247, y248, y249, y250, y251, y252, y253, y254, y255, y256, y257, y258, y259, y260, y261, y262, y263, y264, y265, y266, y267, y268, y269, y270, y271, y272, y273, y274, y275, y276, y277, y278, y279, y280, y281, y282, y283, y284, y285, List.getElem?_cons_zero, List.getElem?_cons_succ, List.getElem?_nil, List.set_cons_zero, List.set_cons_succ, List.set_nil, Bool.not_true, Bool.not_false, List.length_cons, List.length_nil, List.length_map, if_true, if_false, u_int_NoneType, u_int_bool, u_int_int, u_int_str, u_int_tuple, u_int_list, u_bool_NoneType, u_bool_bool, u_bool_int, u_bool_str, u_bool_tuple, u_bool_list, u_tuple_NoneType, u_tuple_bool, u_tuple_int, u_tuple_str, u_tuple_tuple, u_tuple_list, u_list_NoneType, u_list_bool, u_list_int, u_list_str, u_list_tuple, u_list_list, u_str_NoneType, u_str_bool, u_str_int, u_str_str, u_str_tuple, u_str_list, u_replicate0, List.map_cons, List.map_nil, List.replicate_succ, List.replicate_zero, List.cons_append, List.nil_append, Nat.reduceSub, Nat.reduceAdd, Nat.reduceLeDiff, Nat.reduceLT, Nat.zero_add, Int.reduceLT, Int.reduceLE, decide_true, decide_false, true_and, and_true, and_self, Bool.false_eq_true, List.append_nil, Int.cast_ofNat_Int, Int.natCast_zero, Int.natCast_one, Int.reduceEq, Int.reduceAdd, Int.reduceSub, Int.reduceMul, Int.reduceNeg, Nat.reduceEqDiff, eq_self]
theorem plain_ints (l : List Int) : (l.map D.int).all plain = true := by simp [List.all_eq_true, plain]
theorem plain_bls (l : List Bool) : (l.map D.bl).all plain = true := by simp [List.all_eq_true, plain]
theorem Sky.Ok.is (h : S.Ok) : Fis_sky [S.d] = .ok (.bl true) := by
  have hr : rowOk (S.fs.map D.int) = true := by
    unfold rowOk
    simp only [Bool.and_eq_true, decide_eq_true_eq, List.length_map, List.all_map, List.all_eq_true]
    refine ⟨⟨h.pos, h.few⟩, fun x hx => ?_⟩
    have := h.lo x hx
    simp [amt, this.1, this.2]
  have hl : decide ((S.cs.map D.bl).length = (S.fs.map D.int).length) = true := by
    simp only [List.length_map, decide_eq_true_eq]
    exact h.len
  have hb : (S.cs.map D.bl).all isBl = true := by simp [List.all_eq_true, isBl]
  unfold Sky.d
  rw [is_sky_two (plain_ints _) (plain_bls _), hr, hl, hb]
  try rfl
theorem s_sky : (PySem.Str.ofString "sky").length ≤ 1000 := by decide +kernel
theorem s_melt : (PySem.Str.ofString "melt").length ≤ 1000 := by decide +kernel
theorem s_many : (PySem.Str.ofString "many").length ≤ 1000 := by decide +kernel
theorem s_step : (PySem.Str.ofString "step").length ≤ 1000 := by decide +kernel
theorem need_sky_bad {d x : D} (h : Fis_sky [d] = .ok (.bl false)) : Fneed_sky [d, x] = .raise "sky" := by
  simp only [Fneed_sky, mneed_sky, envD, x_var, x_var1, x_c, x_bin, x_un, x_nil, x_cons, x_fn, x_tst, x_val, x_not, x_and, x_or, x_ifE, x_ifS, x_seq, x_next, x_brk, x_cnt, x_ret, x_retO, x_drop, x_asg, x_asgO, x_par, x_own, x_own1, x_own2, x_mut, x_setI, x_rel, x_call, x_callO, x_ap, x_callI, x_callG, x_atO, x_fnI, x_inO, x_part, x_sl, x_chn, x_ref, x_raise, x_it, x_rng1, x_rng2, x_zip, x_for, x_comp, x_all, x_meth, x_aug, x_runD, x_runI, y0, y1, y2, y3, y4, y5, y6, y7, y8, y9, y10, y11, y12, y13, y14, y15, y16, y17, y18, y19, y20, y21, y22, y23, y24, y25, y26, y27, y28, y29, y30, y31, y32, y33, y34, y35, y36, y37, y38, y39, y40, y41, y42, y43, y44, y45, y46, y47, y48, y49, y50, y51, y52, y53, y54, y55, y56, y57, y58, y59, y60, y61, y62, y63, y64, y65, y66, y67, y68, y69, y70, y71, y72, y73, y74, y75, y76, y77, y78, y79, y80, y81, y82, y83, y84, y85, y86, y87, y88, y89, y90, y91, y92, y93, y94, y95, y96, y97, y98, y99, y100, y101, y102, y103, y104, y105, y106, y107, y108, y109, y110, y111, y112, y113, y114, y115, y116, y117, y118, y119, y120, y121, y122, y123, y124, y125, y126, y127, y128, y129, y130, y131, y132, y133, y134, y135, y136, y137, y138, y139, y140, y141, y142, y143, y144, y145, y146, y147, y148, y149, y150, y151, y152, y153, y154, y155, y156, y157, y158, y159, y160, y161, y162, y163, y164, y165, y166, y167, y168, y169, y170, y171, y172, y173, y174, y175, y176, y177, y178, y179, y180, y181, y182, y183, y184, y185, y186, y187, y188, y189, y190, y191, y192, y193, y194, y195, y196, y197, y198, y199, y200, y201, y202, y203, y204, y205, y206, y207, y208, y209, y210, y211, y212, y213, y214, y215, y216, y217, y218, y219, y220, y221, y222, y223, y224, y225, y226, y227, y228, y229, y230, y231, y232, y233, y234, y235, y236, y237, y238, y239, y240, y241, y242, y243, y244, y245, y246, y247, y248, y249, y250, y251, y252, y253, y254, y255, y256, y257, y258, y259, y260, y261, y262, y263, y264, y265, y266, y267, y268, y269, y270, y271, y272, y273, y274, y275, y276, y277, y278, y279, y280, y281, y282, y283, y284, y285, List.getElem?_cons_zero, List.getElem?_cons_succ, List.getElem?_nil, List.set_cons_zero, List.set_cons_succ, List.set_nil, Bool.not_true, Bool.not_false, List.length_cons, List.length_nil, List.length_map, if_true, if_false, u_int_NoneType, u_int_bool, u_int_int, u_int_str, u_int_tuple, u_int_list, u_bool_NoneType, u_bool_bool, u_bool_int, u_bool_str, u_bool_tuple, u_bool_list, u_tuple_NoneType, u_tuple_bool, u_tuple_int, u_tuple_str, u_tuple_tuple, u_tuple_list, u_list_NoneType, u_list_bool, u_list_int, u_list_str, u_list_tuple, u_list_list, u_str_NoneType, u_str_bool, u_str_int, u_str_str, u_str_tuple, u_str_list, u_replicate0, List.map_cons, List.map_nil, List.replicate_succ, List.replicate_zero, List.cons_append, List.nil_append, Nat.reduceSub, Nat.reduceAdd, Nat.reduceLeDiff, Nat.reduceLT, Nat.zero_add, Int.reduceLT, Int.reduceLE, decide_true, decide_false, true_and, and_true, and_self, Bool.false_eq_true, List.append_nil, Int.cast_ofNat_Int, Int.natCast_zero, Int.natCast_one, Int.reduceEq, Int.reduceAdd, Int.reduceSub, Int.reduceMul, Int.reduceNeg, Nat.reduceEqDiff, eq_self, h, s_sky]
theorem need_sky_ok (h : S.Ok) {m : Int} (h0 : 0 ≤ m) (h1 : m ≤ 1000) : Fneed_sky [S.d, .int m] = .ok .non := by
  simp only [Fneed_sky, mneed_sky, envD, x_var, x_var1, x_c, x_bin, x_un, x_nil, x_cons, x_fn, x_tst, x_val, x_not, x_and, x_or, x_ifE, x_ifS, x_seq, x_next, x_brk, x_cnt, x_ret, x_retO, x_drop, x_asg, x_asgO, x_par, x_own, x_own1, x_own2, x_mut, x_setI, x_rel, x_call, x_callO, x_ap, x_callI, x_callG, x_atO, x_fnI, x_inO, x_part, x_sl, x_chn, x_ref, x_raise, x_it, x_rng1, x_rng2, x_zip, x_for, x_comp, x_all, x_meth, x_aug, x_runD, x_runI, y0, y1, y2, y3, y4, y5, y6, y7, y8, y9, y10, y11, y12, y13, y14, y15, y16, y17, y18, y19, y20, y21, y22, y23, y24, y25, y26, y27, y28, y29, y30, y31, y32, y33, y34, y35, y36, y37, y38, y39, y40, y41, y42, y43, y44, y45, y46, y47, y48, y49, y50, y51, y52, y53, y54, y55, y56, y57, y58, y59, y60, y61, y62, y63, y64, y65, y66, y67, y68, y69, y70, y71, y72, y73, y74, y75, y76, y77, y78, y79, y80, y81, y82, y83, y84, y85, y86, y87, y88, y89, y90, y91, y92, y93, y94, y95, y96, y97, y98, y99, y100, y101, y102, y103, y104, y105, y106, y107, y108, y109, y110, y111, y112, y113, y114, y115, y116, y117, y118, y119, y120, y121, y122, y123, y124, y125, y126, y127, y128, y129, y130, y131, y132, y133, y134, y135, y136, y137, y138, y139, y140, y141, y142, y143, y144, y145, y146, y147, y148, y149, y150, y151, y152, y153, y154, y155, y156, y157, y158, y159, y160, y161, y162, y163, y164, y165, y166, y167, y168, y169, y170, y171, y172, y173, y174, y175, y176, y177, y178, y179, y180, y181, y182, y183, y184, y185, y186, y187, y188, y189, y190, y191, y192, y193, y194, y195, y196, y197, y198, y199, y200, y201, y202, y203, y204, y205, y206, y207, y208, y209, y210, y211, y212, y213, y214, y215, y216, y217, y218, y219, y220, y221, y222, y223, y224, y225, y226, y227, y228, y229, y230, y231, y232, y233, y234, y235, y236, y237, y238, y239, y240, y241, y242, y243, y244, y245, y246, y247, y248, y249, y250, y251, y252, y253, y254, y255, y256, y257, y258, y259, y260, y261, y262, y263, y264, y265, y266, y267, y268, y269, y270, y271, y272, y273, y274, y275, y276, y277, y278, y279, y280, y281, y282, y283, y284, y285, List.getElem?_cons_zero, List.getElem?_cons_succ, List.getElem?_nil, List.set_cons_zero, List.set_cons_succ, List.set_nil, Bool.not_true, Bool.not_false, List.length_cons, List.length_nil, List.length_map, if_true, if_false, u_int_NoneType, u_int_bool, u_int_int, u_int_str, u_int_tuple, u_int_list, u_bool_NoneType, u_bool_bool, u_bool_int, u_bool_str, u_bool_tuple, u_bool_list, u_tuple_NoneType, u_tuple_bool, u_tuple_int, u_tuple_str, u_tuple_tuple, u_tuple_list, u_list_NoneType, u_list_bool, u_list_int, u_list_str, u_list_tuple, u_list_list, u_str_NoneType, u_str_bool, u_str_int, u_str_str, u_str_tuple, u_str_list, u_replicate0, List.map_cons, List.map_nil, List.replicate_succ, List.replicate_zero, List.cons_append, List.nil_append, Nat.reduceSub, Nat.reduceAdd, Nat.reduceLeDiff, Nat.reduceLT, Nat.zero_add, Int.reduceLT, Int.reduceLE, decide_true, decide_false, true_and, and_true, and_self, Bool.false_eq_true, List.append_nil, Int.cast_ofNat_Int, Int.natCast_zero, Int.natCast_one, Int.reduceEq, Int.reduceAdd, Int.reduceSub, Int.reduceMul, Int.reduceNeg, Nat.reduceEqDiff, eq_self, h.is, need_int_ok h0 h1]
theorem need_sky_no (h : S.Ok) {m : Int} (h0 : m < 0 ∨ 1000 < m) : Fneed_sky [S.d, .int m] = .raise "melt" := by
  simp only [Fneed_sky, mneed_sky, envD, x_var, x_var1, x_c, x_bin, x_un, x_nil, x_cons, x_fn, x_tst, x_val, x_not, x_and, x_or, x_ifE, x_ifS, x_seq, x_next, x_brk, x_cnt, x_ret, x_retO, x_drop, x_asg, x_asgO, x_par, x_own, x_own1, x_own2, x_mut, x_setI, x_rel, x_call, x_callO, x_ap, x_callI, x_callG, x_atO, x_fnI, x_inO, x_part, x_sl, x_chn, x_ref, x_raise, x_it, x_rng1, x_rng2, x_zip, x_for, x_comp, x_all, x_meth, x_aug, x_runD, x_runI, y0, y1, y2, y3, y4, y5, y6, y7, y8, y9, y10, y11, y12, y13, y14, y15, y16, y17, y18, y19, y20, y21, y22, y23, y24, y25, y26, y27, y28, y29, y30, y31, y32, y33, y34, y35, y36, y37, y38, y39, y40, y41, y42, y43, y44, y45, y46, y47, y48, y49, y50, y51, y52, y53, y54, y55, y56, y57, y58, y59, y60, y61, y62, y63, y64, y65, y66, y67, y68, y69, y70, y71, y72, y73, y74, y75, y76, y77, y78, y79, y80, y81, y82, y83, y84, y85, y86, y87, y88, y89, y90, y91, y92, y93, y94, y95, y96, y97, y98, y99, y100, y101, y102, y103, y104, y105, y106, y107, y108, y109, y110, y111, y112, y113, y114, y115, y116, y117, y118, y119, y120, y121, y122, y123, y124, y125, y126, y127, y128, y129, y130, y131, y132, y133, y134, y135, y136, y137, y138, y139, y140, y141, y142, y143, y144, y145, y146, y147, y148, y149, y150, y151, y152, y153, y154, y155, y156, y157, y158, y159, y160, y161, y162, y163, y164, y165, y166, y167, y168, y169, y170, y171, y172, y173, y174, y175, y176, y177, y178, y179, y180, y181, y182, y183, y184, y185, y186, y187, y188, y189, y190, y191, y192, y193, y194, y195, y196, y197, y198, y199, y200, y201, y202, y203, y204, y205, y206, y207, y208, y209, y210, y211, y212, y213, y214, y215, y216, y217, y218, y219, y220, y221, y222, y223, y224, y225, y226, y227, y228, y229, y230, y231, y232, y233, y234, y235, y236, y237, y238, y239, y240, y241, y242, y243, y244, y245, y246, y247, y248, y249, y250, y251, y252, y253, y254, y255, y256, y257, y258, y259, y260, y261, y262, y263, y264, y265, y266, y267, y268, y269, y270, y271, y272, y273, y274, y275, y276, y277, y278, y279, y280, y281, y282, y283, y284, y285, List.getElem?_cons_zero, List.getElem?_cons_succ, List.getElem?_nil, List.set_cons_zero, List.set_cons_succ, List.set_nil, Bool.not_true, Bool.not_false, List.length_cons, List.length_nil, List.length_map, if_true, if_false, u_int_NoneType, u_int_bool, u_int_int, u_int_str, u_int_tuple, u_int_list, u_bool_NoneType, u_bool_bool, u_bool_int, u_bool_str, u_bool_tuple, u_bool_list, u_tuple_NoneType, u_tuple_bool, u_tuple_int, u_tuple_str, u_tuple_tuple, u_tuple_list, u_list_NoneType, u_list_bool, u_list_int, u_list_str, u_list_tuple, u_list_list, u_str_NoneType, u_str_bool, u_str_int, u_str_str, u_str_tuple, u_str_list, u_replicate0, List.map_cons, List.map_nil, List.replicate_succ, List.replicate_zero, List.cons_append, List.nil_append, Nat.reduceSub, Nat.reduceAdd, Nat.reduceLeDiff, Nat.reduceLT, Nat.zero_add, Int.reduceLT, Int.reduceLE, decide_true, decide_false, true_and, and_true, and_self, Bool.false_eq_true, List.append_nil, Int.cast_ofNat_Int, Int.natCast_zero, Int.natCast_one, Int.reduceEq, Int.reduceAdd, Int.reduceSub, Int.reduceMul, Int.reduceNeg, Nat.reduceEqDiff, eq_self, h.is, need_int_no s_melt h0]
theorem need_sky_non (h : S.Ok) : Fneed_sky [S.d, .non] = .raise "melt" := by
  simp only [Fneed_sky, mneed_sky, envD, x_var, x_var1, x_c, x_bin, x_un, x_nil, x_cons, x_fn, x_tst, x_val, x_not, x_and, x_or, x_ifE, x_ifS, x_seq, x_next, x_brk, x_cnt, x_ret, x_retO, x_drop, x_asg, x_asgO, x_par, x_own, x_own1, x_own2, x_mut, x_setI, x_rel, x_call, x_callO, x_ap, x_callI, x_callG, x_atO, x_fnI, x_inO, x_part, x_sl, x_chn, x_ref, x_raise, x_it, x_rng1, x_rng2, x_zip, x_for, x_comp, x_all, x_meth, x_aug, x_runD, x_runI, y0, y1, y2, y3, y4, y5, y6, y7, y8, y9, y10, y11, y12, y13, y14, y15, y16, y17, y18, y19, y20, y21, y22, y23, y24, y25, y26, y27, y28, y29, y30, y31, y32, y33, y34, y35, y36, y37, y38, y39, y40, y41, y42, y43, y44, y45, y46, y47, y48, y49, y50, y51, y52, y53, y54, y55, y56, y57, y58, y59, y60, y61, y62, y63, y64, y65, y66, y67, y68, y69, y70, y71, y72, y73, y74, y75, y76, y77, y78, y79, y80, y81, y82, y83, y84, y85, y86, y87, y88, y89, y90, y91, y92, y93, y94, y95, y96, y97, y98, y99, y100, y101, y102, y103, y104, y105, y106, y107, y108, y109, y110, y111, y112, y113, y114, y115, y116, y117, y118, y119, y120, y121, y122, y123, y124, y125, y126, y127, y128, y129, y130, y131, y132, y133, y134, y135, y136, y137, y138, y139, y140, y141, y142, y143, y144, y145, y146, y147, y148, y149, y150, y151, y152, y153, y154, y155, y156, y157, y158, y159, y160, y161, y162, y163, y164, y165, y166, y167, y168, y169, y170, y171, y172, y173, y174, y175, y176, y177, y178, y179, y180, y181, y182, y183, y184, y185, y186, y187, y188, y189, y190, y191, y192, y193, y194, y195, y196, y197, y198, y199, y200, y201, y202, y203, y204, y205, y206, y207, y208, y209, y210, y211, y212, y213, y214, y215, y216, y217, y218, y219, y220, y221, y222, y223, y224, y225, y226, y227, y228, y229, y230, y231, y232, y233, y234, y235, y236, y237, y238, y239, y240, y241, y242, y243, y244, y245, y246, y247, y248, y249, y250, y251, y252, y253, y254, y255, y256, y257, y258, y259, y260, y261, y262, y263, y264, y265, y266, y267, y268, y269, y270, y271, y272, y273, y274, y275, y276, y277, y278, y279, y280, y281, y282, y283, y284, y285, List.getElem?_cons_zero, List.getElem?_cons_succ, List.getElem?_nil, List.set_cons_zero, List.set_cons_succ, List.set_nil, Bool.not_true, Bool.not_false, List.length_cons, List.length_nil, List.length_map, if_true, if_false, u_int_NoneType, u_int_bool, u_int_int, u_int_str, u_int_tuple, u_int_list, u_bool_NoneType, u_bool_bool, u_bool_int, u_bool_str, u_bool_tuple, u_bool_list, u_tuple_NoneType, u_tuple_bool, u_tuple_int, u_tuple_str, u_tuple_tuple, u_tuple_list, u_list_NoneType, u_list_bool, u_list_int, u_list_str, u_list_tuple, u_list_list, u_str_NoneType, u_str_bool, u_str_int, u_str_str, u_str_tuple, u_str_list, u_replicate0, List.map_cons, List.map_nil, List.replicate_succ, List.replicate_zero, List.cons_append, List.nil_append, Nat.reduceSub, Nat.reduceAdd, Nat.reduceLeDiff, Nat.reduceLT, Nat.zero_add, Int.reduceLT, Int.reduceLE, decide_true, decide_false, true_and, and_true, and_self, Bool.false_eq_true, List.append_nil, Int.cast_ofNat_Int, Int.natCast_zero, Int.natCast_one, Int.reduceEq, Int.reduceAdd, Int.reduceSub, Int.reduceMul, Int.reduceNeg, Nat.reduceEqDiff, eq_self, h.is, need_int_non s_melt]
end
end K19
set_option Elab.async false
set_option linter.all false
set_option maxRecDepth 100000
set_option maxHeartbeats 4000000
/-! K19Y: rounds of a sky. -/
namespace K19
open PySem PySem.Spec PyProof.Rows L2 RZ RK
/-- what lies behind j steps, p at first -/
def Sky.pk (S : Sky) (m p : Int) : Nat → Int
  | 0 => p
  | i + 1 => S.go m i (S.pk m p i)
def dl (m : Int) : List Int → List Bool → List Int
  | f :: fs, c :: cs => (if c = true then f else -m) :: dl m fs cs
  | _, _ => []
def coldL : List Int → List Bool → List Int
  | f :: fs, c :: cs => if c = true then f :: coldL fs cs else coldL fs cs
  | _, _ => []
def warmN : List Bool → Nat
  | c :: cs => (if c = true then 0 else 1) + warmN cs
  | [] => 0
theorem dl_sum (m : Int) : ∀ {fs : List Int} {cs : List Bool}, cs.length = fs.length → (dl m fs cs).sum = (coldL fs cs).sum - m * (warmN cs : Int)
  | [], [], _ => by simp [dl, coldL, warmN]
  | f :: fs, c :: cs, h => by
    have ih := dl_sum m (fs := fs) (cs := cs) (by simpa using h)
    unfold dl coldL warmN
    rw [List.sum_cons, ih]
    cases c with
    | true =>
      simp only [if_true, List.sum_cons]
      have : ((0 + warmN cs : Nat) : Int) = (warmN cs : Int) := by omega
      rw [this]
      omega
    | false =>
      simp only [Bool.false_eq_true, if_false]
      have : ((1 + warmN cs : Nat) : Int) = 1 + (warmN cs : Int) := by omega
      rw [this, Int.mul_add]
      omega
  | [], _ :: _, h => by simp at h
  | _ :: _, [], h => by simp at h
theorem dl_len (m : Int) : ∀ {fs : List Int} {cs : List Bool}, cs.length = fs.length → (dl m fs cs).length = fs.length
  | [], [], _ => rfl
  | f :: fs, c :: cs, h => by
    unfold dl
    rw [List.length_cons, List.length_cons, dl_len m (fs := fs) (cs := cs) (by simpa using h)]
  | [], _ :: _, h => by simp at h
  | _ :: _, [], h => by simp at h
theorem dl_at (m : Int) : ∀ {fs : List Int} {cs : List Bool} {i : Nat}, cs.length = fs.length → i < fs.length → (dl m fs cs)[i]? = some (if cs.getD i false = true then fs.getD i 0 else -m)
  | f :: fs, c :: cs, 0, _, _ => by unfold dl; simp
  | f :: fs, c :: cs, i + 1, h, hi => by
    unfold dl
    rw [List.getElem?_cons_succ, dl_at m (fs := fs) (cs := cs) (i := i) (by simpa using h) (by simpa using hi)]
    simp
  | [], _, _, _, hi => by simp at hi
  | _ :: _, [], _, h, _ => by simp at h
/-- the drift of j steps -/
def Sky.a (S : Sky) (m : Int) (j : Nat) : Int := ((dl m S.fs S.cs).take j).sum
def Sky.g (S : Sky) (m : Int) : Int := (dl m S.fs S.cs).sum
section
variable {S : Sky}
theorem Sky.f_lo (h : S.Ok) (i : Nat) : 0 ≤ S.f i := by
  unfold Sky.f
  rw [List.getD_eq_getElem?_getD]
  cases e : S.fs[i % S.n]? with
  | none => simp
  | some x => exact (h.lo x (List.mem_of_getElem? e)).1
theorem Sky.go_lo (h : S.Ok) {m p : Int} (hm : 0 ≤ m) (hp : 0 ≤ p) (i : Nat) : 0 ≤ S.go m i p := by
  have := S.f_lo h i
  unfold Sky.go
  split
  · omega
  · split <;> omega
theorem Sky.pk_lo (h : S.Ok) {m p : Int} (hm : 0 ≤ m) (hp : 0 ≤ p) : ∀ j, 0 ≤ S.pk m p j
  | 0 => hp
  | j + 1 => S.go_lo h hm (Sky.pk_lo h hm hp j) j
theorem Sky.go_per (S : Sky) (m p : Int) (k i : Nat) : S.go m (k * S.n + i) p = S.go m i p := by
  have e : (k * S.n + i) % S.n = i % S.n := by rw [Nat.add_comm, Nat.add_mul_mod_self_right]
  unfold Sky.go Sky.f Sky.c
  rw [e]
theorem Sky.off_per (S : Sky) (m p : Int) (k i : Nat) : S.off m (k * S.n + i) p = S.off m i p := by
  have e : (k * S.n + i) % S.n = i % S.n := by rw [Nat.add_comm, Nat.add_mul_mod_self_right]
  unfold Sky.off Sky.f Sky.c
  rw [e]
theorem Sky.pk_per (S : Sky) (m p : Int) (k : Nat) : ∀ j, S.pk m p (k * S.n + j) = S.pk m (S.pk m p (k * S.n)) j
  | 0 => rfl
  | j + 1 => by
    show S.go m (k * S.n + j) (S.pk m p (k * S.n + j)) = S.go m j (S.pk m (S.pk m p (k * S.n)) j)
    rw [S.go_per, Sky.pk_per S m p k j]
theorem Sky.a_next (h : S.Ok) (m : Int) {j : Nat} (hj : j < S.n) : S.a m (j + 1) = S.a m j + (if S.c j = true then S.f j else -m) := by
  have e := dl_at m (fs := S.fs) (cs := S.cs) (i := j) h.len hj
  unfold Sky.a
  rw [List.take_add_one, e, List.sum_append]
  unfold Sky.c Sky.f
  rw [Nat.mod_eq_of_lt hj]
  simp
theorem Sky.a_zero (S : Sky) (m : Int) : S.a m 0 = 0 := by unfold Sky.a; simp
theorem Sky.a_all (h : S.Ok) (m : Int) : S.a m S.n = S.g m := by
  unfold Sky.a Sky.g
  rw [List.take_of_length_le (by rw [dl_len m h.len]; exact Nat.le_refl _)]
theorem Sky.go_up (h : S.Ok) {m p : Int} (hp : 0 ≤ p) (j : Nat) : p + (if S.c j = true then S.f j else -m) ≤ S.go m j p := by
  unfold Sky.go
  split
  · omega
  · split <;> omega
/-- a walk is the walk from nothing, or the drift -/
theorem Sky.pk_max (h : S.Ok) {m p : Int} (hm : 0 ≤ m) (hp : 0 ≤ p) : ∀ {j : Nat}, j ≤ S.n → S.pk m p j = if p + S.a m j ≤ S.pk m 0 j then S.pk m 0 j else p + S.a m j
  | 0, _ => by
    rw [S.a_zero]
    show p = if p + 0 ≤ 0 then (0 : Int) else p + 0
    split <;> omega
  | j + 1, hj => by
    have ih := Sky.pk_max h hm hp (j := j) (by omega)
    have h0 := S.pk_lo h hm (Int.le_refl 0) j
    have h1 := S.pk_lo h hm hp j
    rw [S.a_next h m (by omega)]
    show S.go m j (S.pk m p j) = if _ ≤ S.go m j (S.pk m 0 j) then S.go m j (S.pk m 0 j) else _
    unfold Sky.go
    cases S.c j with
    | true =>
      simp only [if_true]
      split at ih <;> split <;> omega
    | false =>
      simp only [Bool.false_eq_true, if_false]
      split at ih <;> split <;> (try split) <;> (try split) <;> omega
theorem Sky.pk_ge (h : S.Ok) {m p : Int} (hm : 0 ≤ m) (hp : 0 ≤ p) {i j : Nat} (hij : i ≤ j) (hj : j ≤ S.n) : S.pk m p i - (p + S.a m i) ≤ S.pk m p j - (p + S.a m j) := by
  induction j with
  | zero =>
    have : i = 0 := by omega
    subst this
    omega
  | succ j ih =>
    by_cases e : i = j + 1
    · subst e; omega
    · have := ih (by omega) (by omega)
      have h2 := S.go_up h (m := m) (S.pk_lo h hm hp j) j
      have h3 : S.pk m p (j + 1) = S.go m j (S.pk m p j) := rfl
      rw [S.a_next h m (by omega), h3]
      omega
/-- what lies behind the first round -/
def Sky.b (S : Sky) (m : Int) : Int := S.pk m 0 S.n
theorem Sky.round (h : S.Ok) {m p : Int} (hm : 0 ≤ m) (hp : 0 ≤ p) : S.pk m p S.n = if p + S.g m ≤ S.b m then S.b m else p + S.g m := by
  have e := S.pk_max h hm hp (Nat.le_refl S.n)
  rw [S.a_all h] at e
  exact e
theorem Sky.b_lo (h : S.Ok) {m : Int} (hm : 0 ≤ m) : 0 ≤ S.b m := S.pk_lo h hm (Int.le_refl 0) _
theorem Sky.b_g (h : S.Ok) {m : Int} (hm : 0 ≤ m) : S.g m ≤ S.b m := by
  have := S.round h hm (Int.le_refl 0)
  have e : S.pk m 0 S.n = S.b m := rfl
  rw [e] at this
  split at this <;> omega
theorem Sky.rounds (h : S.Ok) {m : Int} (hm : 0 ≤ m) : ∀ k : Nat, S.pk m 0 ((k + 1) * S.n) = if S.g m ≤ 0 then S.b m else S.b m + (k : Int) * S.g m
  | 0 => by
    rw [Nat.zero_add, Nat.one_mul]
    show S.b m = _
    split <;> simp
  | k + 1 => by
    have ih := Sky.rounds h hm k
    have e : (k + 1 + 1) * S.n = (k + 1) * S.n + S.n := by rw [Nat.add_mul (k + 1) 1, Nat.one_mul]
    have hb := S.b_lo h hm
    rw [e, S.pk_per m 0 (k + 1) S.n, ih]
    by_cases hg : S.g m ≤ 0
    · rw [if_pos hg, if_pos hg, S.round h hm hb]
      split <;> omega
    · rw [if_neg hg, if_neg hg]
      have hk : 0 ≤ (k : Int) * S.g m := Int.mul_nonneg (by omega) (by omega)
      rw [S.round h hm (by omega)]
      have e2 : ((k + 1 : Nat) : Int) * S.g m = (k : Int) * S.g m + S.g m := by
        rw [show ((k + 1 : Nat) : Int) = (k : Int) + 1 by omega, Int.add_mul, Int.one_mul]
      rw [e2]
      split <;> omega
/-- walks far out are walks near by, moved up -/
theorem Sky.far (h : S.Ok) {m : Int} (hm : 0 ≤ m) (hg : 0 < S.g m) (k : Nat) {j : Nat} (hj : j ≤ S.n) : S.pk m 0 ((k + 1) * S.n + j) = S.b m + (k : Int) * S.g m + S.a m j := by
  have hb := S.b_lo h hm
  have hk : 0 ≤ (k : Int) * S.g m := Int.mul_nonneg (by omega) (by omega)
  have e1 := S.rounds h hm k
  rw [if_neg (by omega)] at e1
  rw [S.pk_per, e1]
  have hp : 0 ≤ S.b m + (k : Int) * S.g m := by omega
  have e2 := S.round h hm hp
  have e3 : S.pk m (S.b m + (k : Int) * S.g m) S.n = S.b m + (k : Int) * S.g m + S.g m := by
    rw [e2]
    split <;> omega
  have e4 := S.pk_ge h hm hp hj (Nat.le_refl _)
  have e5 := S.pk_ge h hm hp (Nat.zero_le j) hj
  rw [S.a_zero] at e5
  rw [e3, S.a_all h] at e4
  have e6 : S.pk m (S.b m + (k : Int) * S.g m) 0 = S.b m + (k : Int) * S.g m := rfl
  rw [e6] at e5
  omega
theorem Sky.calm (h : S.Ok) {m : Int} (hm : 0 ≤ m) (hg : S.g m ≤ 0) (k j : Nat) : S.pk m 0 ((k + 1) * S.n + j) = S.pk m (S.b m) j := by
  have e1 := S.rounds h hm k
  rw [if_pos hg] at e1
  rw [S.pk_per, e1]
end
end K19
set_option Elab.async false
set_option linter.all false
set_option maxRecDepth 100000
set_option maxHeartbeats 4000000
/-! K19Z: the program's defs reckoned. -/
namespace K19
open PySem PySem.Spec PyProof.Rows L2 RZ RK
/-- the rows of a walk of k steps from the pack p -/
def Sky.rw (S : Sky) (m p : Int) (k : Nat) : List D := (List.range k).map fun i => D.tup [.int (S.pk m p (i + 1)), .int (S.off m i (S.pk m p i))]
theorem pk_succ (S : Sky) (m p : Int) (i : Nat) : S.pk m p (i + 1) = S.go m i (S.pk m p i) := rfl
theorem rw_next (S : Sky) (m p : Int) (k : Nat) : S.rw m p (k + 1) = S.rw m p k ++ [D.tup [.int (S.pk m p (k + 1)), .int (S.off m k (S.pk m p k))]] := by
  unfold Sky.rw
  rw [List.range_succ, List.map_append]
  rfl
theorem rw_len (S : Sky) (m p : Int) (k : Nat) : (S.rw m p k).length = k := by unfold Sky.rw; simp
theorem rw_at (S : Sky) (m p : Int) {k i : Nat} (h : i < k) : (S.rw m p k)[i]? = some (D.tup [.int (S.pk m p (i + 1)), .int (S.off m i (S.pk m p i))]) := by
  unfold Sky.rw
  rw [List.getElem?_map, List.getElem?_range h]
  rfl
theorem n_range {n : Nat} (h : n ≤ 1000000) : -(2 ^ 62) ≤ ((n : Nat) : Int) ∧ ((n : Nat) : Int) < 2 ^ 62 := by
  have e : (2 : Int) ^ 62 = 4611686018427387904 := by decide
  rw [e]
  omega
section
variable {S : Sky} {m p : Int}
theorem at0 : dAt S.d (.int 0) = some (.tup (S.fs.map D.int)) := by exact atI_z
theorem at1 : dAt S.d (.int 1) = some (.tup (S.cs.map D.bl)) := by exact atI_one
theorem rounds_from_eq (h : S.Ok) : Frounds_from [S.d, .int m, .int p] = .ok (.lst (S.rw m p S.n)) := by
  have hn : (S.fs.length : Int) = (S.n : Int) := rfl
  have hr := n_range (n := S.n) (by have := h.few; omega)
  obtain ⟨ρ, e, x, rfl⟩ := forPR (g := gSet 4) (b := b1rounds_from) (lo := 0) (n := S.n) (fun i ρ => ∃ x, ρ = [.im S.d, .im (.int m), .im (.int (S.pk m p i)), .ow (.lst (S.rw m p i)), x]) (ρ0 := [.im S.d, .im (.int m), .im (.int p), .ow (.lst []), .em]) ⟨_, rfl⟩ (fun i ρ hi ⟨x, hx⟩ => by
    subst hx
    have hlt : (S.rw m p i).length < 16000000 := by have := h.few; rw [rw_len]; omega
    refine ⟨_, _, rfl, .inl ?_, .im (.int (i : Int)), rfl⟩
    have hl : (((S.rw m p i ++ [D.tup [.int (S.go m i (S.pk m p i)), .int (S.off m i (S.pk m p i))]]).length : Nat) : Int) = (i : Int) + 1 := by rw [List.length_append, rw_len]; simp
    have ez : (0 : Int) + (i : Int) = (i : Int) := by omega
    simp only [b1rounds_from, x_var, x_var1, x_c, x_bin, x_un, x_nil, x_cons, x_fn, x_tst, x_val, x_not, x_and, x_or, x_ifE, x_ifS, x_seq, x_next, x_brk, x_cnt, x_ret, x_retO, x_drop, x_asg, x_asgO, x_par, x_own, x_own1, x_own2, x_mut, x_setI, x_rel, x_call, x_callO, x_ap, x_callI, x_callG, x_atO, x_fnI, x_inO, x_part, x_sl, x_chn, x_ref, x_raise, x_it, x_rng1, x_rng2, x_zip, x_for, x_comp, x_all, x_meth, x_aug, x_runD, x_runI, y0, y1, y2, y3, y4, y5, y6, y7, y8, y9, y10, y11, y12, y13, y14, y15, y16, y17, y18, y19, y20, y21, y22, y23, y24, y25, y26, y27, y28, y29, y30, y31, y32, y33, y34, y35, y36, y37, y38, y39, y40, y41, y42, y43, y44, y45, y46, y47, y48, y49, y50, y51, y52, y53, y54, y55, y56, y57, y58, y59, y60, y61, y62, y63, y64, y65, y66, y67, y68, y69, y70, y71, y72, y73, y74, y75, y76, y77, y78, y79, y80, y81, y82, y83, y84, y85, y86, y87, y88, y89, y90, y91, y92, y93, y94, y95, y96, y97, y98, y99, y100, y101, y102, y103, y104, y105, y106, y107, y108, y109, y110, y111, y112, y113, y114, y115, y116, y117, y118, y119, y120, y121, y122, y123, y124, y125, y126, y127, y128, y129, y130, y131, y132, y133, y134, y135, y136, y137, y138, y139, y140, y141, y142, y143, y144, y145, y146, y147, y148, y149, y150, y151, y152, y153, y154, y155, y156, y157, y158, y159, y160, y161, y162, y163, y164, y165, y166, y167, y168, y169, y170, y171, y172, y173, y174, y175, y176, y177, y178, y179, y180, y181, y182, y183, y184, y185, y186, y187, y188, y189, y190, y191, y192, y193, y194, y195, y196, y197, y198, y199, y200, y201, y202, y203, y204, y205, y206, y207, y208, y209, y210, y211, y212, y213, y214, y215, y216, y217, y218, y219, y220, y221, y222, y223, y224, y225, y226, y227, y228, y229, y230, y231, y232, y233, y234, y235, y236, y237, y238, y239, y240, y241, y242, y243, y244, y245, y246, y247, y248, y249, y250, y251, y252, y253, y254, y255, y256, y257, y258, y259, y260, y261, y262, y263, y264, y265, y266, y267, y268, y269, y270, y271, y272, y273, y274, y275, y276, y277, y278, y279, y280, y281, y282, y283, y284, y285, List.getElem?_cons_zero, List.getElem?_cons_succ, List.getElem?_nil, List.set_cons_zero, List.set_cons_succ, List.set_nil, Bool.not_true, Bool.not_false, List.length_cons, List.length_nil, List.length_map, if_true, if_false, u_int_NoneType, u_int_bool, u_int_int, u_int_str, u_int_tuple, u_int_list, u_bool_NoneType, u_bool_bool, u_bool_int, u_bool_str, u_bool_tuple, u_bool_list, u_tuple_NoneType, u_tuple_bool, u_tuple_int, u_tuple_str, u_tuple_tuple, u_tuple_list, u_list_NoneType, u_list_bool, u_list_int, u_list_str, u_list_tuple, u_list_list, u_str_NoneType, u_str_bool, u_str_int, u_str_str, u_str_tuple, u_str_list, u_replicate0, List.map_cons, List.map_nil, List.replicate_succ, List.replicate_zero, List.cons_append, List.nil_append, Nat.reduceSub, Nat.reduceAdd, Nat.reduceLeDiff, Nat.reduceLT, Nat.zero_add, Int.reduceLT, Int.reduceLE, decide_true, decide_false, true_and, and_true, and_self, Bool.false_eq_true, List.append_nil, Int.cast_ofNat_Int, Int.natCast_zero, Int.natCast_one, Int.reduceEq, Int.reduceAdd, Int.reduceSub, Int.reduceMul, Int.reduceNeg, Nat.reduceEqDiff, eq_self, Int.toNat_natCast, ez, one_step_eq h, hlt, hl, atI_z]
    have ht : atI (S.rw m p i ++ [D.tup [.int (S.go m i (S.pk m p i)), .int (S.off m i (S.pk m p i))]]) (((i : Int) + 1) - 1) = some (D.tup [.int (S.go m i (S.pk m p i)), .int (S.off m i (S.pk m p i))]) := by
      rw [show ((i : Int) + 1) - 1 = (i : Int) by omega]
      refine atN ?_
      rw [List.getElem?_append_right (by rw [rw_len]; exact Nat.le_refl _), rw_len, Nat.sub_self]
      rfl
    simp only [ht, x_var, x_var1, x_c, x_bin, x_un, x_nil, x_cons, x_fn, x_tst, x_val, x_not, x_and, x_or, x_ifE, x_ifS, x_seq, x_next, x_brk, x_cnt, x_ret, x_retO, x_drop, x_asg, x_asgO, x_par, x_own, x_own1, x_own2, x_mut, x_setI, x_rel, x_call, x_callO, x_ap, x_callI, x_callG, x_atO, x_fnI, x_inO, x_part, x_sl, x_chn, x_ref, x_raise, x_it, x_rng1, x_rng2, x_zip, x_for, x_comp, x_all, x_meth, x_aug, x_runD, x_runI, y0, y1, y2, y3, y4, y5, y6, y7, y8, y9, y10, y11, y12, y13, y14, y15, y16, y17, y18, y19, y20, y21, y22, y23, y24, y25, y26, y27, y28, y29, y30, y31, y32, y33, y34, y35, y36, y37, y38, y39, y40, y41, y42, y43, y44, y45, y46, y47, y48, y49, y50, y51, y52, y53, y54, y55, y56, y57, y58, y59, y60, y61, y62, y63, y64, y65, y66, y67, y68, y69, y70, y71, y72, y73, y74, y75, y76, y77, y78, y79, y80, y81, y82, y83, y84, y85, y86, y87, y88, y89, y90, y91, y92, y93, y94, y95, y96, y97, y98, y99, y100, y101, y102, y103, y104, y105, y106, y107, y108, y109, y110, y111, y112, y113, y114, y115, y116, y117, y118, y119, y120, y121, y122, y123, y124, y125, y126, y127, y128, y129, y130, y131, y132, y133, y134, y135, y136, y137, y138, y139, y140, y141, y142, y143, y144, y145, y146, y147, y148, y149, y150, y151, y152, y153, y154, y155, y156, y157, y158, y159, y160, y161, y162, y163, y164, y165, y166, y167, y168, y169, y170, y171, y172, y173, y174, y175, y176, y177, y178, y179, y180, y181, y182, y183, y184, y185, y186, y187, y188, y189, y190, y191, y192, y193, y194, y195, y196, y197, y198, y199, y200, y201, y202, y203, y204, y205, y206, y207, y208, y209, y210, y211, y212, y213, y214, y215, y216, y217, y218, y219, y220, y221, y222, y223, y224, y225, y226, y227, y228, y229, y230, y231, y232, y233, y234, y235, y236, y237, y238, y239, y240, y241, y242, y243, y244, y245, y246, y247, y248, y249, y250, y251, y252, y253, y254, y255, y256, y257, y258, y259, y260, y261, y262, y263, y264, y265, y266, y267, y268, y269, y270, y271, y272, y273, y274, y275, y276, y277, y278, y279, y280, y281, y282, y283, y284, y285, List.getElem?_cons_zero, List.getElem?_cons_succ, List.getElem?_nil, List.set_cons_zero, List.set_cons_succ, List.set_nil, Bool.not_true, Bool.not_false, List.length_cons, List.length_nil, List.length_map, if_true, if_false, u_int_NoneType, u_int_bool, u_int_int, u_int_str, u_int_tuple, u_int_list, u_bool_NoneType, u_bool_bool, u_bool_int, u_bool_str, u_bool_tuple, u_bool_list, u_tuple_NoneType, u_tuple_bool, u_tuple_int, u_tuple_str, u_tuple_tuple, u_tuple_list, u_list_NoneType, u_list_bool, u_list_int, u_list_str, u_list_tuple, u_list_list, u_str_NoneType, u_str_bool, u_str_int, u_str_str, u_str_tuple, u_str_list, u_replicate0, List.map_cons, List.map_nil, List.replicate_succ, List.replicate_zero, List.cons_append, List.nil_append, Nat.reduceSub, Nat.reduceAdd, Nat.reduceLeDiff, Nat.reduceLT, Nat.zero_add, Int.reduceLT, Int.reduceLE, decide_true, decide_false, true_and, and_true, and_self, Bool.false_eq_true, List.append_nil, Int.cast_ofNat_Int, Int.natCast_zero, Int.natCast_one, Int.reduceEq, Int.reduceAdd, Int.reduceSub, Int.reduceMul, Int.reduceNeg, Nat.reduceEqDiff, eq_self, Int.toNat_natCast, atI_z, rw_next, pk_succ])
  simp only [Frounds_from, mrounds_from, envD, x_var, x_var1, x_c, x_bin, x_un, x_nil, x_cons, x_fn, x_tst, x_val, x_not, x_and, x_or, x_ifE, x_ifS, x_seq, x_next, x_brk, x_cnt, x_ret, x_retO, x_drop, x_asg, x_asgO, x_par, x_own, x_own1, x_own2, x_mut, x_setI, x_rel, x_call, x_callO, x_ap, x_callI, x_callG, x_atO, x_fnI, x_inO, x_part, x_sl, x_chn, x_ref, x_raise, x_it, x_rng1, x_rng2, x_zip, x_for, x_comp, x_all, x_meth, x_aug, x_runD, x_runI, y0, y1, y2, y3, y4, y5, y6, y7, y8, y9, y10, y11, y12, y13, y14, y15, y16, y17, y18, y19, y20, y21, y22, y23, y24, y25, y26, y27, y28, y29, y30, y31, y32, y33, y34, y35, y36, y37, y38, y39, y40, y41, y42, y43, y44, y45, y46, y47, y48, y49, y50, y51, y52, y53, y54, y55, y56, y57, y58, y59, y60, y61, y62, y63, y64, y65, y66, y67, y68, y69, y70, y71, y72, y73, y74, y75, y76, y77, y78, y79, y80, y81, y82, y83, y84, y85, y86, y87, y88, y89, y90, y91, y92, y93, y94, y95, y96, y97, y98, y99, y100, y101, y102, y103, y104, y105, y106, y107, y108, y109, y110, y111, y112, y113, y114, y115, y116, y117, y118, y119, y120, y121, y122, y123, y124, y125, y126, y127, y128, y129, y130, y131, y132, y133, y134, y135, y136, y137, y138, y139, y140, y141, y142, y143, y144, y145, y146, y147, y148, y149, y150, y151, y152, y153, y154, y155, y156, y157, y158, y159, y160, y161, y162, y163, y164, y165, y166, y167, y168, y169, y170, y171, y172, y173, y174, y175, y176, y177, y178, y179, y180, y181, y182, y183, y184, y185, y186, y187, y188, y189, y190, y191, y192, y193, y194, y195, y196, y197, y198, y199, y200, y201, y202, y203, y204, y205, y206, y207, y208, y209, y210, y211, y212, y213, y214, y215, y216, y217, y218, y219, y220, y221, y222, y223, y224, y225, y226, y227, y228, y229, y230, y231, y232, y233, y234, y235, y236, y237, y238, y239, y240, y241, y242, y243, y244, y245, y246, y247, y248, y249, y250, y251, y252, y253, y254, y255, y256, y257, y258, y259, y260, y261, y262, y263, y264, y265, y266, y267, y268, y269, y270, y271, y272, y273, y274, y275, y276, y277, y278, y279, y280, y281, y282, y283, y284, y285, List.getElem?_cons_zero, List.getElem?_cons_succ, List.getElem?_nil, List.set_cons_zero, List.set_cons_succ, List.set_nil, Bool.not_true, Bool.not_false, List.length_cons, List.length_nil, List.length_map, if_true, if_false, u_int_NoneType, u_int_bool, u_int_int, u_int_str, u_int_tuple, u_int_list, u_bool_NoneType, u_bool_bool, u_bool_int, u_bool_str, u_bool_tuple, u_bool_list, u_tuple_NoneType, u_tuple_bool, u_tuple_int, u_tuple_str, u_tuple_tuple, u_tuple_list, u_list_NoneType, u_list_bool, u_list_int, u_list_str, u_list_tuple, u_list_list, u_str_NoneType, u_str_bool, u_str_int, u_str_str, u_str_tuple, u_str_list, u_replicate0, List.map_cons, List.map_nil, List.replicate_succ, List.replicate_zero, List.cons_append, List.nil_append, Nat.reduceSub, Nat.reduceAdd, Nat.reduceLeDiff, Nat.reduceLT, Nat.zero_add, Int.reduceLT, Int.reduceLE, decide_true, decide_false, true_and, and_true, and_self, Bool.false_eq_true, List.append_nil, Int.cast_ofNat_Int, Int.natCast_zero, Int.natCast_one, Int.reduceEq, Int.reduceAdd, Int.reduceSub, Int.reduceMul, Int.reduceNeg, Nat.reduceEqDiff, eq_self, Int.toNat_natCast, at0, at1, hn, hr, e]
theorem snow_course_eq (h : S.Ok) (hm : 0 ≤ m) (hm2 : m ≤ 1000) {k : Nat} (hk : k ≤ 500) : Fsnow_course [S.d, .int m, .int (k : Int)] = .ok (.tup (S.rw m 0 k)) := by
  have hr := n_range (n := k) (by omega)
  have hi : Fneed_integer [.int (k : Int), .str "many", .int 0, .int 500] = .ok .non := need_int_ok (by omega) (by omega)
  obtain ⟨ρ, e, x, y, rfl⟩ := forPR (g := gSet 5) (b := b1snow_course) (lo := 0) (n := k) (fun i ρ => ∃ x y, ρ = [.im S.d, .im (.int m), .im (.int (k : Int)), .ow (.lst (S.rw m 0 i)), .im (.int (S.pk m 0 i)), x, y]) (ρ0 := [.im S.d, .im (.int m), .im (.int (k : Int)), .ow (.lst []), .im (.int 0), .em, .em]) ⟨_, _, rfl⟩ (fun i ρ hi ⟨x, y, hx⟩ => by
    subst hx
    have hlt : (S.rw m 0 i).length < 16000000 := by rw [rw_len]; omega
    refine ⟨_, _, rfl, .inl ?_, .im (.int (i : Int)), .im (.tup [.int (S.go m i (S.pk m 0 i)), .int (S.off m i (S.pk m 0 i))]), rfl⟩
    have ez : (0 : Int) + (i : Int) = (i : Int) := by omega
    simp only [b1snow_course, x_var, x_var1, x_c, x_bin, x_un, x_nil, x_cons, x_fn, x_tst, x_val, x_not, x_and, x_or, x_ifE, x_ifS, x_seq, x_next, x_brk, x_cnt, x_ret, x_retO, x_drop, x_asg, x_asgO, x_par, x_own, x_own1, x_own2, x_mut, x_setI, x_rel, x_call, x_callO, x_ap, x_callI, x_callG, x_atO, x_fnI, x_inO, x_part, x_sl, x_chn, x_ref, x_raise, x_it, x_rng1, x_rng2, x_zip, x_for, x_comp, x_all, x_meth, x_aug, x_runD, x_runI, y0, y1, y2, y3, y4, y5, y6, y7, y8, y9, y10, y11, y12, y13, y14, y15, y16, y17, y18, y19, y20, y21, y22, y23, y24, y25, y26, y27, y28, y29, y30, y31, y32, y33, y34, y35, y36, y37, y38, y39, y40, y41, y42, y43, y44, y45, y46, y47, y48, y49, y50, y51, y52, y53, y54, y55, y56, y57, y58, y59, y60, y61, y62, y63, y64, y65, y66, y67, y68, y69, y70, y71, y72, y73, y74, y75, y76, y77, y78, y79, y80, y81, y82, y83, y84, y85, y86, y87, y88, y89, y90, y91, y92, y93, y94, y95, y96, y97, y98, y99, y100, y101, y102, y103, y104, y105, y106, y107, y108, y109, y110, y111, y112, y113, y114, y115, y116, y117, y118, y119, y120, y121, y122, y123, y124, y125, y126, y127, y128, y129, y130, y131, y132, y133, y134, y135, y136, y137, y138, y139, y140, y141, y142, y143, y144, y145, y146, y147, y148, y149, y150, y151, y152, y153, y154, y155, y156, y157, y158, y159, y160, y161, y162, y163, y164, y165, y166, y167, y168, y169, y170, y171, y172, y173, y174, y175, y176, y177, y178, y179, y180, y181, y182, y183, y184, y185, y186, y187, y188, y189, y190, y191, y192, y193, y194, y195, y196, y197, y198, y199, y200, y201, y202, y203, y204, y205, y206, y207, y208, y209, y210, y211, y212, y213, y214, y215, y216, y217, y218, y219, y220, y221, y222, y223, y224, y225, y226, y227, y228, y229, y230, y231, y232, y233, y234, y235, y236, y237, y238, y239, y240, y241, y242, y243, y244, y245, y246, y247, y248, y249, y250, y251, y252, y253, y254, y255, y256, y257, y258, y259, y260, y261, y262, y263, y264, y265, y266, y267, y268, y269, y270, y271, y272, y273, y274, y275, y276, y277, y278, y279, y280, y281, y282, y283, y284, y285, List.getElem?_cons_zero, List.getElem?_cons_succ, List.getElem?_nil, List.set_cons_zero, List.set_cons_succ, List.set_nil, Bool.not_true, Bool.not_false, List.length_cons, List.length_nil, List.length_map, if_true, if_false, u_int_NoneType, u_int_bool, u_int_int, u_int_str, u_int_tuple, u_int_list, u_bool_NoneType, u_bool_bool, u_bool_int, u_bool_str, u_bool_tuple, u_bool_list, u_tuple_NoneType, u_tuple_bool, u_tuple_int, u_tuple_str, u_tuple_tuple, u_tuple_list, u_list_NoneType, u_list_bool, u_list_int, u_list_str, u_list_tuple, u_list_list, u_str_NoneType, u_str_bool, u_str_int, u_str_str, u_str_tuple, u_str_list, u_replicate0, List.map_cons, List.map_nil, List.replicate_succ, List.replicate_zero, List.cons_append, List.nil_append, Nat.reduceSub, Nat.reduceAdd, Nat.reduceLeDiff, Nat.reduceLT, Nat.zero_add, Int.reduceLT, Int.reduceLE, decide_true, decide_false, true_and, and_true, and_self, Bool.false_eq_true, List.append_nil, Int.cast_ofNat_Int, Int.natCast_zero, Int.natCast_one, Int.reduceEq, Int.reduceAdd, Int.reduceSub, Int.reduceMul, Int.reduceNeg, Nat.reduceEqDiff, eq_self, Int.toNat_natCast, ez, one_step_eq h, hlt, atI_z, rw_next, pk_succ])
  simp only [Fsnow_course, msnow_course, envD, x_var, x_var1, x_c, x_bin, x_un, x_nil, x_cons, x_fn, x_tst, x_val, x_not, x_and, x_or, x_ifE, x_ifS, x_seq, x_next, x_brk, x_cnt, x_ret, x_retO, x_drop, x_asg, x_asgO, x_par, x_own, x_own1, x_own2, x_mut, x_setI, x_rel, x_call, x_callO, x_ap, x_callI, x_callG, x_atO, x_fnI, x_inO, x_part, x_sl, x_chn, x_ref, x_raise, x_it, x_rng1, x_rng2, x_zip, x_for, x_comp, x_all, x_meth, x_aug, x_runD, x_runI, y0, y1, y2, y3, y4, y5, y6, y7, y8, y9, y10, y11, y12, y13, y14, y15, y16, y17, y18, y19, y20, y21, y22, y23, y24, y25, y26, y27, y28, y29, y30, y31, y32, y33, y34, y35, y36, y37, y38, y39, y40, y41, y42, y43, y44, y45, y46, y47, y48, y49, y50, y51, y52, y53, y54, y55, y56, y57, y58, y59, y60, y61, y62, y63, y64, y65, y66, y67, y68, y69, y70, y71, y72, y73, y74, y75, y76, y77, y78, y79, y80, y81, y82, y83, y84, y85, y86, y87, y88, y89, y90, y91, y92, y93, y94, y95, y96, y97, y98, y99, y100, y101, y102, y103, y104, y105, y106, y107, y108, y109, y110, y111, y112, y113, y114, y115, y116, y117, y118, y119, y120, y121, y122, y123, y124, y125, y126, y127, y128, y129, y130, y131, y132, y133, y134, y135, y136, y137, y138, y139, y140, y141, y142, y143, y144, y145, y146, y147, y148, y149, y150, y151, y152, y153, y154, y155, y156, y157, y158, y159, y160, y161, y162, y163, y164, y165, y166, y167, y168, y169, y170, y171, y172, y173, y174, y175, y176, y177, y178, y179, y180, y181, y182, y183, y184, y185, y186, y187, y188, y189, y190, y191, y192, y193, y194, y195, y196, y197, y198, y199, y200, y201, y202, y203, y204, y205, y206, y207, y208, y209, y210, y211, y212, y213, y214, y215, y216, y217, y218, y219, y220, y221, y222, y223, y224, y225, y226, y227, y228, y229, y230, y231, y232, y233, y234, y235, y236, y237, y238, y239, y240, y241, y242, y243, y244, y245, y246, y247, y248, y249, y250, y251, y252, y253, y254, y255, y256, y257, y258, y259, y260, y261, y262, y263, y264, y265, y266, y267, y268, y269, y270, y271, y272, y273, y274, y275, y276, y277, y278, y279, y280, y281, y282, y283, y284, y285, List.getElem?_cons_zero, List.getElem?_cons_succ, List.getElem?_nil, List.set_cons_zero, List.set_cons_succ, List.set_nil, Bool.not_true, Bool.not_false, List.length_cons, List.length_nil, List.length_map, if_true, if_false, u_int_NoneType, u_int_bool, u_int_int, u_int_str, u_int_tuple, u_int_list, u_bool_NoneType, u_bool_bool, u_bool_int, u_bool_str, u_bool_tuple, u_bool_list, u_tuple_NoneType, u_tuple_bool, u_tuple_int, u_tuple_str, u_tuple_tuple, u_tuple_list, u_list_NoneType, u_list_bool, u_list_int, u_list_str, u_list_tuple, u_list_list, u_str_NoneType, u_str_bool, u_str_int, u_str_str, u_str_tuple, u_str_list, u_replicate0, List.map_cons, List.map_nil, List.replicate_succ, List.replicate_zero, List.cons_append, List.nil_append, Nat.reduceSub, Nat.reduceAdd, Nat.reduceLeDiff, Nat.reduceLT, Nat.zero_add, Int.reduceLT, Int.reduceLE, decide_true, decide_false, true_and, and_true, and_self, Bool.false_eq_true, List.append_nil, Int.cast_ofNat_Int, Int.natCast_zero, Int.natCast_one, Int.reduceEq, Int.reduceAdd, Int.reduceSub, Int.reduceMul, Int.reduceNeg, Nat.reduceEqDiff, eq_self, Int.toNat_natCast, need_sky_ok h hm hm2, hi, hr, e]
theorem snow_bad {d : D} (hb : Fis_sky [d] = .ok (.bl false)) : Fsnow_course [d, .non, .non] = .raise "sky" := by
  simp only [Fsnow_course, msnow_course, envD, x_var, x_var1, x_c, x_bin, x_un, x_nil, x_cons, x_fn, x_tst, x_val, x_not, x_and, x_or, x_ifE, x_ifS, x_seq, x_next, x_brk, x_cnt, x_ret, x_retO, x_drop, x_asg, x_asgO, x_par, x_own, x_own1, x_own2, x_mut, x_setI, x_rel, x_call, x_callO, x_ap, x_callI, x_callG, x_atO, x_fnI, x_inO, x_part, x_sl, x_chn, x_ref, x_raise, x_it, x_rng1, x_rng2, x_zip, x_for, x_comp, x_all, x_meth, x_aug, x_runD, x_runI, y0, y1, y2, y3, y4, y5, y6, y7, y8, y9, y10, y11, y12, y13, y14, y15, y16, y17, y18, y19, y20, y21, y22, y23, y24, y25, y26, y27, y28, y29, y30, y31, y32, y33, y34, y35, y36, y37, y38, y39, y40, y41, y42, y43, y44, y45, y46, y47, y48, y49, y50, y51, y52, y53, y54, y55, y56, y57, y58, y59, y60, y61, y62, y63, y64, y65, y66, y67, y68, y69, y70, y71, y72, y73, y74, y75, y76, y77, y78, y79, y80, y81, y82, y83, y84, y85, y86, y87, y88, y89, y90, y91, y92, y93, y94, y95, y96, y97, y98, y99, y100, y101, y102, y103, y104, y105, y106, y107, y108, y109, y110, y111, y112, y113, y114, y115, y116, y117, y118, y119, y120, y121, y122, y123, y124, y125, y126, y127, y128, y129, y130, y131, y132, y133, y134, y135, y136, y137, y138, y139, y140, y141, y142, y143, y144, y145, y146, y147, y148, y149, y150, y151, y152, y153, y154, y155, y156, y157, y158, y159, y160, y161, y162, y163, y164, y165, y166, y167, y168, y169, y170, y171, y172, y173, y174, y175, y176, y177, y178, y179, y180, y181, y182, y183, y184, y185, y186, y187, y188, y189, y190, y191, y192, y193, y194, y195, y196, y197, y198, y199, y200, y201, y202, y203, y204, y205, y206, y207, y208, y209, y210, y211, y212, y213, y214, y215, y216, y217, y218, y219, y220, y221, y222, y223, y224, y225, y226, y227, y228, y229, y230, y231, y232, y233, y234, y235, y236, y237, y238, y239, y240, y241, y242, y243, y244, y245, y246, y247, y248, y249, y250, y251, y252, y253, y254, y255, y256, y257, y258, y259, y260, y261, y262, y263, y264, y265, y266, y267, y268, y269, y270, y271, y272, y273, y274, y275, y276, y277, y278, y279, y280, y281, y282, y283, y284, y285, List.getElem?_cons_zero, List.getElem?_cons_succ, List.getElem?_nil, List.set_cons_zero, List.set_cons_succ, List.set_nil, Bool.not_true, Bool.not_false, List.length_cons, List.length_nil, List.length_map, if_true, if_false, u_int_NoneType, u_int_bool, u_int_int, u_int_str, u_int_tuple, u_int_list, u_bool_NoneType, u_bool_bool, u_bool_int, u_bool_str, u_bool_tuple, u_bool_list, u_tuple_NoneType, u_tuple_bool, u_tuple_int, u_tuple_str, u_tuple_tuple, u_tuple_list, u_list_NoneType, u_list_bool, u_list_int, u_list_str, u_list_tuple, u_list_list, u_str_NoneType, u_str_bool, u_str_int, u_str_str, u_str_tuple, u_str_list, u_replicate0, List.map_cons, List.map_nil, List.replicate_succ, List.replicate_zero, List.cons_append, List.nil_append, Nat.reduceSub, Nat.reduceAdd, Nat.reduceLeDiff, Nat.reduceLT, Nat.zero_add, Int.reduceLT, Int.reduceLE, decide_true, decide_false, true_and, and_true, and_self, Bool.false_eq_true, List.append_nil, Int.cast_ofNat_Int, Int.natCast_zero, Int.natCast_one, Int.reduceEq, Int.reduceAdd, Int.reduceSub, Int.reduceMul, Int.reduceNeg, Nat.reduceEqDiff, eq_self, Int.toNat_natCast, need_sky_bad hb]
theorem snow_melt (h : S.Ok) : Fsnow_course [S.d, .int 1001, .non] = .raise "melt" := by
  simp only [Fsnow_course, msnow_course, envD, x_var, x_var1, x_c, x_bin, x_un, x_nil, x_cons, x_fn, x_tst, x_val, x_not, x_and, x_or, x_ifE, x_ifS, x_seq, x_next, x_brk, x_cnt, x_ret, x_retO, x_drop, x_asg, x_asgO, x_par, x_own, x_own1, x_own2, x_mut, x_setI, x_rel, x_call, x_callO, x_ap, x_callI, x_callG, x_atO, x_fnI, x_inO, x_part, x_sl, x_chn, x_ref, x_raise, x_it, x_rng1, x_rng2, x_zip, x_for, x_comp, x_all, x_meth, x_aug, x_runD, x_runI, y0, y1, y2, y3, y4, y5, y6, y7, y8, y9, y10, y11, y12, y13, y14, y15, y16, y17, y18, y19, y20, y21, y22, y23, y24, y25, y26, y27, y28, y29, y30, y31, y32, y33, y34, y35, y36, y37, y38, y39, y40, y41, y42, y43, y44, y45, y46, y47, y48, y49, y50, y51, y52, y53, y54, y55, y56, y57, y58, y59, y60, y61, y62, y63, y64, y65, y66, y67, y68, y69, y70, y71, y72, y73, y74, y75, y76, y77, y78, y79, y80, y81, y82, y83, y84, y85, y86, y87, y88, y89, y90, y91, y92, y93, y94, y95, y96, y97, y98, y99, y100, y101, y102, y103, y104, y105, y106, y107, y108, y109, y110, y111, y112, y113, y114, y115, y116, y117, y118, y119, y120, y121, y122, y123, y124, y125, y126, y127, y128, y129, y130, y131, y132, y133, y134, y135, y136, y137, y138, y139, y140, y141, y142, y143, y144, y145, y146, y147, y148, y149, y150, y151, y152, y153, y154, y155, y156, y157, y158, y159, y160, y161, y162, y163, y164, y165, y166, y167, y168, y169, y170, y171, y172, y173, y174, y175, y176, y177, y178, y179, y180, y181, y182, y183, y184, y185, y186, y187, y188, y189, y190, y191, y192, y193, y194, y195, y196, y197, y198, y199, y200, y201, y202, y203, y204, y205, y206, y207, y208, y209, y210, y211, y212, y213, y214, y215, y216, y217, y218, y219, y220, y221, y222, y223, y224, y225, y226, y227, y228, y229, y230, y231, y232, y233, y234, y235, y236, y237, y238, y239, y240, y241, y242, y243, y244, y245, y246, y247, y248, y249, y250, y251, y252, y253, y254, y255, y256, y257, y258, y259, y260, y261, y262, y263, y264, y265, y266, y267, y268, y269, y270, y271, y272, y273, y274, y275, y276, y277, y278, y279, y280, y281, y282, y283, y284, y285, List.getElem?_cons_zero, List.getElem?_cons_succ, List.getElem?_nil, List.set_cons_zero, List.set_cons_succ, List.set_nil, Bool.not_true, Bool.not_false, List.length_cons, List.length_nil, List.length_map, if_true, if_false, u_int_NoneType, u_int_bool, u_int_int, u_int_str, u_int_tuple, u_int_list, u_bool_NoneType, u_bool_bool, u_bool_int, u_bool_str, u_bool_tuple, u_bool_list, u_tuple_NoneType, u_tuple_bool, u_tuple_int, u_tuple_str, u_tuple_tuple, u_tuple_list, u_list_NoneType, u_list_bool, u_list_int, u_list_str, u_list_tuple, u_list_list, u_str_NoneType, u_str_bool, u_str_int, u_str_str, u_str_tuple, u_str_list, u_replicate0, List.map_cons, List.map_nil, List.replicate_succ, List.replicate_zero, List.cons_append, List.nil_append, Nat.reduceSub, Nat.reduceAdd, Nat.reduceLeDiff, Nat.reduceLT, Nat.zero_add, Int.reduceLT, Int.reduceLE, decide_true, decide_false, true_and, and_true, and_self, Bool.false_eq_true, List.append_nil, Int.cast_ofNat_Int, Int.natCast_zero, Int.natCast_one, Int.reduceEq, Int.reduceAdd, Int.reduceSub, Int.reduceMul, Int.reduceNeg, Nat.reduceEqDiff, eq_self, Int.toNat_natCast, need_sky_no h (m := 1001) (by omega)]
theorem snow_many (h : S.Ok) (hm : 0 ≤ m) (hm2 : m ≤ 1000) : Fsnow_course [S.d, .int m, .int 501] = .raise "many" := by
  simp only [Fsnow_course, msnow_course, envD, x_var, x_var1, x_c, x_bin, x_un, x_nil, x_cons, x_fn, x_tst, x_val, x_not, x_and, x_or, x_ifE, x_ifS, x_seq, x_next, x_brk, x_cnt, x_ret, x_retO, x_drop, x_asg, x_asgO, x_par, x_own, x_own1, x_own2, x_mut, x_setI, x_rel, x_call, x_callO, x_ap, x_callI, x_callG, x_atO, x_fnI, x_inO, x_part, x_sl, x_chn, x_ref, x_raise, x_it, x_rng1, x_rng2, x_zip, x_for, x_comp, x_all, x_meth, x_aug, x_runD, x_runI, y0, y1, y2, y3, y4, y5, y6, y7, y8, y9, y10, y11, y12, y13, y14, y15, y16, y17, y18, y19, y20, y21, y22, y23, y24, y25, y26, y27, y28, y29, y30, y31, y32, y33, y34, y35, y36, y37, y38, y39, y40, y41, y42, y43, y44, y45, y46, y47, y48, y49, y50, y51, y52, y53, y54, y55, y56, y57, y58, y59, y60, y61, y62, y63, y64, y65, y66, y67, y68, y69, y70, y71, y72, y73, y74, y75, y76, y77, y78, y79, y80, y81, y82, y83, y84, y85, y86, y87, y88, y89, y90, y91, y92, y93, y94, y95, y96, y97, y98, y99, y100, y101, y102, y103, y104, y105, y106, y107, y108, y109, y110, y111, y112, y113, y114, y115, y116, y117, y118, y119, y120, y121, y122, y123, y124, y125, y126, y127, y128, y129, y130, y131, y132, y133, y134, y135, y136, y137, y138, y139, y140, y141, y142, y143, y144, y145, y146, y147, y148, y149, y150, y151, y152, y153, y154, y155, y156, y157, y158, y159, y160, y161, y162, y163, y164, y165, y166, y167, y168, y169, y170, y171, y172, y173, y174, y175, y176, y177, y178, y179, y180, y181, y182, y183, y184, y185, y186, y187, y188, y189, y190, y191, y192, y193, y194, y195, y196, y197, y198, y199, y200, y201, y202, y203, y204, y205, y206, y207, y208, y209, y210, y211, y212, y213, y214, y215, y216, y217, y218, y219, y220, y221, y222, y223, y224, y225, y226, y227, y228, y229, y230, y231, y232, y233, y234, y235, y236, y237, y238, y239, y240, y241, y242, y243, y244, y245, y246, y247, y248, y249, y250, y251, y252, y253, y254, y255, y256, y257, y258, y259, y260, y261, y262, y263, y264, y265, y266, y267, y268, y269, y270, y271, y272, y273, y274, y275, y276, y277, y278, y279, y280, y281, y282, y283, y284, y285, List.getElem?_cons_zero, List.getElem?_cons_succ, List.getElem?_nil, List.set_cons_zero, List.set_cons_succ, List.set_nil, Bool.not_true, Bool.not_false, List.length_cons, List.length_nil, List.length_map, if_true, if_false, u_int_NoneType, u_int_bool, u_int_int, u_int_str, u_int_tuple, u_int_list, u_bool_NoneType, u_bool_bool, u_bool_int, u_bool_str, u_bool_tuple, u_bool_list, u_tuple_NoneType, u_tuple_bool, u_tuple_int, u_tuple_str, u_tuple_tuple, u_tuple_list, u_list_NoneType, u_list_bool, u_list_int, u_list_str, u_list_tuple, u_list_list, u_str_NoneType, u_str_bool, u_str_int, u_str_str, u_str_tuple, u_str_list, u_replicate0, List.map_cons, List.map_nil, List.replicate_succ, List.replicate_zero, List.cons_append, List.nil_append, Nat.reduceSub, Nat.reduceAdd, Nat.reduceLeDiff, Nat.reduceLT, Nat.zero_add, Int.reduceLT, Int.reduceLE, decide_true, decide_false, true_and, and_true, and_self, Bool.false_eq_true, List.append_nil, Int.cast_ofNat_Int, Int.natCast_zero, Int.natCast_one, Int.reduceEq, Int.reduceAdd, Int.reduceSub, Int.reduceMul, Int.reduceNeg, Nat.reduceEqDiff, eq_self, Int.toNat_natCast, need_sky_ok h hm hm2, need_int_no s_many (v := 501) (lo := 0) (hi := 500) (by omega)]
/-! grows -/
theorem cold_list : ∀ {fs : List Int} {cs : List Bool}, cs.length = fs.length → ((zipD (fs.map D.int) (cs.map D.bl)).filter fun d => match d with | .tup [_, .bl c] => c | _ => false).map (fun d => match d with | .tup [x, _] => x | _ => .non) = (coldL fs cs).map D.int
  | [], [], _ => rfl
  | f :: fs, c :: cs, hl => by
    have ih := cold_list (fs := fs) (cs := cs) (by simpa using hl)
    show ((D.tup [.int f, .bl c] :: zipD (fs.map D.int) (cs.map D.bl)).filter _).map _ = _
    unfold coldL
    cases c with
    | true => rw [List.filter_cons_of_pos (by rfl), List.map_cons, ih]; rfl
    | false => rw [List.filter_cons_of_neg (by simp), ih]; rfl
  | [], _ :: _, hl => by simp at hl
  | _ :: _, [], hl => by simp at hl
theorem warm_list : ∀ {cs : List Bool}, ((cs.map D.bl).filter fun d => match d with | .bl c => !c | _ => false).length = warmN cs
  | [] => rfl
  | c :: cs => by
    have ih := warm_list (cs := cs)
    rw [List.map_cons]
    unfold warmN
    cases c with
    | true => rw [List.filter_cons_of_neg (by simp), ih]; simp
    | false => rw [List.filter_cons_of_pos (by rfl), List.length_cons, ih]; simp; omega
theorem warm_le : ∀ {cs : List Bool}, warmN cs ≤ cs.length
  | [] => Nat.le_refl _
  | c :: cs => by
    have := warm_le (cs := cs)
    unfold warmN
    rw [List.length_cons]
    split <;> omega
theorem zipD_length : ∀ {as bs : List D}, (zipD as bs).length ≤ as.length
  | [], _ => by unfold zipD; simp
  | _ :: _, [] => by unfold zipD; simp
  | a :: as, b :: bs => by
    unfold zipD
    have := zipD_length (as := as) (bs := bs)
    rw [List.length_cons, List.length_cons]
    omega
theorem zipD_mem : ∀ {fs : List Int} {cs : List Bool} {d : D}, d ∈ zipD (fs.map D.int) (cs.map D.bl) → ∃ f c, d = .tup [.int f, .bl c]
  | f :: fs, c :: cs, d, hd => by
    have hd' : d ∈ D.tup [.int f, .bl c] :: zipD (fs.map D.int) (cs.map D.bl) := hd
    rcases List.mem_cons.mp hd' with e | e
    · exact ⟨f, c, e⟩
    · exact zipD_mem e
  | [], _, d, hd => by unfold zipD at hd; simp at hd
  | _ :: _, [], d, hd => by unfold zipD at hd; simp at hd
theorem grows_eq (h : S.Ok) (hm : 0 ≤ m) (hm2 : m ≤ 1000) : Fgrows [S.d, .int m] = .ok (.bl (decide (0 < S.g m))) := by
  have hg : S.g m = (coldL S.fs S.cs).sum - m * (warmN S.cs : Int) := dl_sum m h.len
  have hz : (zipD (S.fs.map D.int) (S.cs.map D.bl)).length ≤ 16000000 := by
    have := zipD_length (as := S.fs.map D.int) (bs := S.cs.map D.bl)
    rw [List.length_map] at this
    have h2 : S.fs.length ≤ 24 := h.few
    omega
  have hw := warm_le (cs := S.cs)
  have hcl : S.cs.length ≤ 24 := by rw [h.len]; exact h.few
  have hc1 : cmpL [3, 4] (gTupM [gSet 3, gSet 4]) t1grows e1grows (zipD (S.fs.map D.int) (S.cs.map D.bl)) [.im S.d, .im (.int m), .em, .em, .em] = .ok ((coldL S.fs S.cs).map D.int) [.im S.d, .im (.int m), .em, .em, .em] := by
    rw [← cold_list h.len]
    refine cmpL_filter _ _ fun d hd => ?_
    obtain ⟨f, c, rfl⟩ := zipD_mem hd
    refine ⟨[.im S.d, .im (.int m), .em, .im (.int f), .im (.bl c)], [.im S.d, .im (.int m), .em, .im (.int f), .im (.bl c)], rfl, rfl, fun _ => rfl, fun _ => ⟨_, rfl, rfl⟩⟩
  have hc2 : cmpL [4] (gSet 4) t2grows e2grows (S.cs.map D.bl) [.im S.d, .im (.int m), .im (.int (coldL S.fs S.cs).sum), .em, .em] = .ok (((S.cs.map D.bl).filter fun d => match d with | .bl c => !c | _ => false).map fun _ => D.int 1) [.im S.d, .im (.int m), .im (.int (coldL S.fs S.cs).sum), .em, .em] := by
    refine cmpL_filter _ _ fun d hd => ?_
    obtain ⟨c, _, rfl⟩ := List.mem_map.mp hd
    refine ⟨[.im S.d, .im (.int m), .im (.int (coldL S.fs S.cs).sum), .em, .im (.bl c)], [.im S.d, .im (.int m), .im (.int (coldL S.fs S.cs).sum), .em, .im (.bl c)], rfl, rfl, fun _ => rfl, fun _ => ⟨_, rfl, rfl⟩⟩
  have hl2 : S.cs.length ≤ 16000000 := by omega
  have hmul : m.natAbs.log2 + (warmN S.cs : Int).natAbs.log2 < 1000000 := mul_ok (small64 (by omega) (by omega)) (small64 (by omega) (by omega))
  have hd : (m * (warmN S.cs : Int) < (coldL S.fs S.cs).sum) = (0 < S.g m) := by
    rw [hg]
    exact propext ⟨fun q => by omega, fun q => by omega⟩
  have hsky : ([.im S.d, .im (.int m), .em, .em, .em] : RK.Env) = [.im (.tup [.tup (S.fs.map D.int), .tup (S.cs.map D.bl)]), .im (.int m), .em, .em, .em] := rfl
  simp only [Fgrows, mgrows, envD, x_var, x_var1, x_c, x_bin, x_un, x_nil, x_cons, x_fn, x_tst, x_val, x_not, x_and, x_or, x_ifE, x_ifS, x_seq, x_next, x_brk, x_cnt, x_ret, x_retO, x_drop, x_asg, x_asgO, x_par, x_own, x_own1, x_own2, x_mut, x_setI, x_rel, x_call, x_callO, x_ap, x_callI, x_callG, x_atO, x_fnI, x_inO, x_part, x_sl, x_chn, x_ref, x_raise, x_it, x_rng1, x_rng2, x_zip, x_for, x_comp, x_all, x_meth, x_aug, x_runD, x_runI, y0, y1, y2, y3, y4, y5, y6, y7, y8, y9, y10, y11, y12, y13, y14, y15, y16, y17, y18, y19, y20, y21, y22, y23, y24, y25, y26, y27, y28, y29, y30, y31, y32, y33, y34, y35, y36, y37, y38, y39, y40, y41, y42, y43, y44, y45, y46, y47, y48, y49, y50, y51, y52, y53, y54, y55, y56, y57, y58, y59, y60, y61, y62, y63, y64, y65, y66, y67, y68, y69, y70, y71, y72, y73, y74, y75, y76, y77, y78, y79, y80, y81, y82, y83, y84, y85, y86, y87, y88, y89, y90, y91, y92, y93, y94, y95, y96, y97, y98, y99, y100, y101, y102, y103, y104, y105, y106, y107, y108, y109, y110, y111, y112, y113, y114, y115, y116, y117, y118, y119, y120, y121, y122, y123, y124, y125, y126, y127, y128, y129, y130, y131, y132, y133, y134, y135, y136, y137, y138, y139, y140, y141, y142, y143, y144, y145, y146, y147, y148, y149, y150, y151, y152, y153, y154, y155, y156, y157, y158, y159, y160, y161, y162, y163, y164, y165, y166, y167, y168, y169, y170, y171, y172, y173, y174, y175, y176, y177, y178, y179, y180, y181, y182, y183, y184, y185, y186, y187, y188, y189, y190, y191, y192, y193, y194, y195, y196, y197, y198, y199, y200, y201, y202, y203, y204, y205, y206, y207, y208, y209, y210, y211, y212, y213, y214, y215, y216, y217, y218, y219, y220, y221, y222, y223, y224, y225, y226, y227, y228, y229, y230, y231, y232, y233, y234, y235, y236, y237, y238, y239, y240, y241, y242, y243, y244, y245, y246, y247, y248, y249, y250, y251, y252, y253, y254, y255, y256, y257, y258, y259, y260, y261, y262, y263, y264, y265, y266, y267, y268, y269, y270, y271, y272, y273, y274, y275, y276, y277, y278, y279, y280, y281, y282, y283, y284, y285, List.getElem?_cons_zero, List.getElem?_cons_succ, List.getElem?_nil, List.set_cons_zero, List.set_cons_succ, List.set_nil, Bool.not_true, Bool.not_false, List.length_cons, List.length_nil, List.length_map, if_true, if_false, u_int_NoneType, u_int_bool, u_int_int, u_int_str, u_int_tuple, u_int_list, u_bool_NoneType, u_bool_bool, u_bool_int, u_bool_str, u_bool_tuple, u_bool_list, u_tuple_NoneType, u_tuple_bool, u_tuple_int, u_tuple_str, u_tuple_tuple, u_tuple_list, u_list_NoneType, u_list_bool, u_list_int, u_list_str, u_list_tuple, u_list_list, u_str_NoneType, u_str_bool, u_str_int, u_str_str, u_str_tuple, u_str_list, u_replicate0, List.map_cons, List.map_nil, List.replicate_succ, List.replicate_zero, List.cons_append, List.nil_append, Nat.reduceSub, Nat.reduceAdd, Nat.reduceLeDiff, Nat.reduceLT, Nat.zero_add, Int.reduceLT, Int.reduceLE, decide_true, decide_false, true_and, and_true, and_self, Bool.false_eq_true, List.append_nil, Int.cast_ofNat_Int, Int.natCast_zero, Int.natCast_one, Int.reduceEq, Int.reduceAdd, Int.reduceSub, Int.reduceMul, Int.reduceNeg, Nat.reduceEqDiff, eq_self, Int.toNat_natCast, need_sky_ok h hm hm2, at0, at1, hz, hc1, dSum_ints, hl2, hc2, warm_list, hmul, hd]
end
end K19
set_option Elab.async false
set_option linter.all false
set_option maxRecDepth 100000
set_option maxHeartbeats 4000000
/-! K19V: the program's defs reckoned, further. -/
namespace K19
open PySem PySem.Spec PyProof.Rows L2 RZ RK
section
variable {S : Sky} {m p : Int}
theorem last_at (h : S.Ok) : atI (S.rw m p S.n) ((S.n : Int) - 1) = some (D.tup [.int (S.pk m p S.n), .int (S.off m (S.n - 1) (S.pk m p (S.n - 1)))]) := by
  have hp := h.pos
  have e : ((S.n : Int) - 1) = ((S.n - 1 : Nat) : Int) := by omega
  rw [e]
  refine atN ?_
  have q := rw_at S m p (k := S.n) (i := S.n - 1) (by omega)
  rw [Nat.sub_add_cancel hp] at q
  exact q
theorem settled_eq (h : S.Ok) (hm : 0 ≤ m) (hg : S.g m ≤ 0) : Fsettled_pack [S.d, .int m] = .ok (.int (S.b m)) := by
  have hn : (S.fs.length : Int) = (S.n : Int) := rfl
  have hb := S.b_lo h hm
  have e1 : S.pk m 0 S.n = S.b m := rfl
  have e2 : S.pk m (S.b m) S.n = S.b m := by
    rw [S.round h hm hb]
    split <;> omega
  have turn : ∀ {p : Int} {x : Sl}, b1settled_pack [.im S.d, .im (.int m), .im (.int p), .im (.bl false), x] = .next [.im S.d, .im (.int m), .im (.int (S.pk m p S.n)), .im (.bl (decide (S.pk m p S.n = p))), .im (.int (S.pk m p S.n))] := by
    intro p x
    simp only [b1settled_pack, x_var, x_var1, x_c, x_bin, x_un, x_nil, x_cons, x_fn, x_tst, x_val, x_not, x_and, x_or, x_ifE, x_ifS, x_seq, x_next, x_brk, x_cnt, x_ret, x_retO, x_drop, x_asg, x_asgO, x_par, x_own, x_own1, x_own2, x_mut, x_setI, x_rel, x_call, x_callO, x_ap, x_callI, x_callG, x_atO, x_fnI, x_inO, x_part, x_sl, x_chn, x_ref, x_raise, x_it, x_rng1, x_rng2, x_zip, x_for, x_comp, x_all, x_meth, x_aug, x_runD, x_runI, y0, y1, y2, y3, y4, y5, y6, y7, y8, y9, y10, y11, y12, y13, y14, y15, y16, y17, y18, y19, y20, y21, y22, y23, y24, y25, y26, y27, y28, y29, y30, y31, y32, y33, y34, y35, y36, y37, y38, y39, y40, y41, y42, y43, y44, y45, y46, y47, y48, y49, y50, y51, y52, y53, y54, y55, y56, y57, y58, y59, y60, y61, y62, y63, y64, y65, y66, y67, y68, y69, y70, y71, y72, y73, y74, y75, y76, y77, y78, y79, y80, y81, y82, y83, y84, y85, y86, y87, y88, y89, y90, y91, y92, y93, y94, y95, y96, y97, y98, y99, y100, y101, y102, y103, y104, y105, y106, y107, y108, y109, y110, y111, y112, y113, y114, y115, y116, y117, y118, y119, y120, y121, y122, y123, y124, y125, y126, y127, y128, y129, y130, y131, y132, y133, y134, y135, y136, y137, y138, y139, y140, y141, y142, y143, y144, y145, y146, y147, y148, y149, y150, y151, y152, y153, y154, y155, y156, y157, y158, y159, y160, y161, y162, y163, y164, y165, y166, y167, y168, y169, y170, y171, y172, y173, y174, y175, y176, y177, y178, y179, y180, y181, y182, y183, y184, y185, y186, y187, y188, y189, y190, y191, y192, y193, y194, y195, y196, y197, y198, y199, y200, y201, y202, y203, y204, y205, y206, y207, y208, y209, y210, y211, y212, y213, y214, y215, y216, y217, y218, y219, y220, y221, y222, y223, y224, y225, y226, y227, y228, y229, y230, y231, y232, y233, y234, y235, y236, y237, y238, y239, y240, y241, y242, y243, y244, y245, y246, y247, y248, y249, y250, y251, y252, y253, y254, y255, y256, y257, y258, y259, y260, y261, y262, y263, y264, y265, y266, y267, y268, y269, y270, y271, y272, y273, y274, y275, y276, y277, y278, y279, y280, y281, y282, y283, y284, y285, List.getElem?_cons_zero, List.getElem?_cons_succ, List.getElem?_nil, List.set_cons_zero, List.set_cons_succ, List.set_nil, Bool.not_true, Bool.not_false, List.length_cons, List.length_nil, List.length_map, if_true, if_false, u_int_NoneType, u_int_bool, u_int_int, u_int_str, u_int_tuple, u_int_list, u_bool_NoneType, u_bool_bool, u_bool_int, u_bool_str, u_bool_tuple, u_bool_list, u_tuple_NoneType, u_tuple_bool, u_tuple_int, u_tuple_str, u_tuple_tuple, u_tuple_list, u_list_NoneType, u_list_bool, u_list_int, u_list_str, u_list_tuple, u_list_list, u_str_NoneType, u_str_bool, u_str_int, u_str_str, u_str_tuple, u_str_list, u_replicate0, List.map_cons, List.map_nil, List.replicate_succ, List.replicate_zero, List.cons_append, List.nil_append, Nat.reduceSub, Nat.reduceAdd, Nat.reduceLeDiff, Nat.reduceLT, Nat.zero_add, Int.reduceLT, Int.reduceLE, decide_true, decide_false, true_and, and_true, and_self, Bool.false_eq_true, List.append_nil, Int.cast_ofNat_Int, Int.natCast_zero, Int.natCast_one, Int.reduceEq, Int.reduceAdd, Int.reduceSub, Int.reduceMul, Int.reduceNeg, Nat.reduceEqDiff, eq_self, Int.toNat_natCast, rounds_from_eq h, at0, hn, last_at h, atI_z, bO_eq_int]
  have tst : ∀ {p : Int} {x : Sl} {c : Bool}, t1settled_pack [.im S.d, .im (.int m), .im (.int p), .im (.bl c), x] = .ok (!c) [.im S.d, .im (.int m), .im (.int p), .im (.bl c), x] := by
    intro p x c
    simp only [t1settled_pack, x_var, x_var1, x_c, x_bin, x_un, x_nil, x_cons, x_fn, x_tst, x_val, x_not, x_and, x_or, x_ifE, x_ifS, x_seq, x_next, x_brk, x_cnt, x_ret, x_retO, x_drop, x_asg, x_asgO, x_par, x_own, x_own1, x_own2, x_mut, x_setI, x_rel, x_call, x_callO, x_ap, x_callI, x_callG, x_atO, x_fnI, x_inO, x_part, x_sl, x_chn, x_ref, x_raise, x_it, x_rng1, x_rng2, x_zip, x_for, x_comp, x_all, x_meth, x_aug, x_runD, x_runI, y0, y1, y2, y3, y4, y5, y6, y7, y8, y9, y10, y11, y12, y13, y14, y15, y16, y17, y18, y19, y20, y21, y22, y23, y24, y25, y26, y27, y28, y29, y30, y31, y32, y33, y34, y35, y36, y37, y38, y39, y40, y41, y42, y43, y44, y45, y46, y47, y48, y49, y50, y51, y52, y53, y54, y55, y56, y57, y58, y59, y60, y61, y62, y63, y64, y65, y66, y67, y68, y69, y70, y71, y72, y73, y74, y75, y76, y77, y78, y79, y80, y81, y82, y83, y84, y85, y86, y87, y88, y89, y90, y91, y92, y93, y94, y95, y96, y97, y98, y99, y100, y101, y102, y103, y104, y105, y106, y107, y108, y109, y110, y111, y112, y113, y114, y115, y116, y117, y118, y119, y120, y121, y122, y123, y124, y125, y126, y127, y128, y129, y130, y131, y132, y133, y134, y135, y136, y137, y138, y139, y140, y141, y142, y143, y144, y145, y146, y147, y148, y149, y150, y151, y152, y153, y154, y155, y156, y157, y158, y159, y160, y161, y162, y163, y164, y165, y166, y167, y168, y169, y170, y171, y172, y173, y174, y175, y176, y177, y178, y179, y180, y181, y182, y183, y184, y185, y186, y187, y188, y189, y190, y191, y192, y193, y194, y195, y196, y197, y198, y199, y200, y201, y202, y203, y204, y205, y206, y207, y208, y209, y210, y211, y212, y213, y214, y215, y216, y217, y218, y219, y220, y221, y222, y223, y224, y225, y226, y227, y228, y229, y230, y231, y232, y233, y234, y235, y236, y237, y238, y239, y240, y241, y242, y243, y244, y245, y246, y247, y248, y249, y250, y251, y252, y253, y254, y255, y256, y257, y258, y259, y260, y261, y262, y263, y264, y265, y266, y267, y268, y269, y270, y271, y272, y273, y274, y275, y276, y277, y278, y279, y280, y281, y282, y283, y284, y285, List.getElem?_cons_zero, List.getElem?_cons_succ, List.getElem?_nil, List.set_cons_zero, List.set_cons_succ, List.set_nil, Bool.not_true, Bool.not_false, List.length_cons, List.length_nil, List.length_map, if_true, if_false, u_int_NoneType, u_int_bool, u_int_int, u_int_str, u_int_tuple, u_int_list, u_bool_NoneType, u_bool_bool, u_bool_int, u_bool_str, u_bool_tuple, u_bool_list, u_tuple_NoneType, u_tuple_bool, u_tuple_int, u_tuple_str, u_tuple_tuple, u_tuple_list, u_list_NoneType, u_list_bool, u_list_int, u_list_str, u_list_tuple, u_list_list, u_str_NoneType, u_str_bool, u_str_int, u_str_str, u_str_tuple, u_str_list, u_replicate0, List.map_cons, List.map_nil, List.replicate_succ, List.replicate_zero, List.cons_append, List.nil_append, Nat.reduceSub, Nat.reduceAdd, Nat.reduceLeDiff, Nat.reduceLT, Nat.zero_add, Int.reduceLT, Int.reduceLE, decide_true, decide_false, true_and, and_true, and_self, Bool.false_eq_true, List.append_nil, Int.cast_ofNat_Int, Int.natCast_zero, Int.natCast_one, Int.reduceEq, Int.reduceAdd, Int.reduceSub, Int.reduceMul, Int.reduceNeg, Nat.reduceEqDiff, eq_self, Int.toNat_natCast]
  have w : mWh t1settled_pack b1settled_pack [.im S.d, .im (.int m), .im (.int 0), .im (.bl false), .em] = .next [.im S.d, .im (.int m), .im (.int (S.b m)), .im (.bl true), .im (.int (S.b m))] := by
    refine wh_is (wh_more tst (.inl turn) ?_)
    rw [e1]
    by_cases hz : S.b m = 0
    · rw [hz]
      exact wh_end tst
    · rw [decide_eq_false hz]
      refine wh_more tst (.inl turn) ?_
      rw [e2, decide_eq_true rfl]
      exact wh_end tst
  simp only [Fsettled_pack, msettled_pack, envD, x_var, x_var1, x_c, x_bin, x_un, x_nil, x_cons, x_fn, x_tst, x_val, x_not, x_and, x_or, x_ifE, x_ifS, x_seq, x_next, x_brk, x_cnt, x_ret, x_retO, x_drop, x_asg, x_asgO, x_par, x_own, x_own1, x_own2, x_mut, x_setI, x_rel, x_call, x_callO, x_ap, x_callI, x_callG, x_atO, x_fnI, x_inO, x_part, x_sl, x_chn, x_ref, x_raise, x_it, x_rng1, x_rng2, x_zip, x_for, x_comp, x_all, x_meth, x_aug, x_runD, x_runI, y0, y1, y2, y3, y4, y5, y6, y7, y8, y9, y10, y11, y12, y13, y14, y15, y16, y17, y18, y19, y20, y21, y22, y23, y24, y25, y26, y27, y28, y29, y30, y31, y32, y33, y34, y35, y36, y37, y38, y39, y40, y41, y42, y43, y44, y45, y46, y47, y48, y49, y50, y51, y52, y53, y54, y55, y56, y57, y58, y59, y60, y61, y62, y63, y64, y65, y66, y67, y68, y69, y70, y71, y72, y73, y74, y75, y76, y77, y78, y79, y80, y81, y82, y83, y84, y85, y86, y87, y88, y89, y90, y91, y92, y93, y94, y95, y96, y97, y98, y99, y100, y101, y102, y103, y104, y105, y106, y107, y108, y109, y110, y111, y112, y113, y114, y115, y116, y117, y118, y119, y120, y121, y122, y123, y124, y125, y126, y127, y128, y129, y130, y131, y132, y133, y134, y135, y136, y137, y138, y139, y140, y141, y142, y143, y144, y145, y146, y147, y148, y149, y150, y151, y152, y153, y154, y155, y156, y157, y158, y159, y160, y161, y162, y163, y164, y165, y166, y167, y168, y169, y170, y171, y172, y173, y174, y175, y176, y177, y178, y179, y180, y181, y182, y183, y184, y185, y186, y187, y188, y189, y190, y191, y192, y193, y194, y195, y196, y197, y198, y199, y200, y201, y202, y203, y204, y205, y206, y207, y208, y209, y210, y211, y212, y213, y214, y215, y216, y217, y218, y219, y220, y221, y222, y223, y224, y225, y226, y227, y228, y229, y230, y231, y232, y233, y234, y235, y236, y237, y238, y239, y240, y241, y242, y243, y244, y245, y246, y247, y248, y249, y250, y251, y252, y253, y254, y255, y256, y257, y258, y259, y260, y261, y262, y263, y264, y265, y266, y267, y268, y269, y270, y271, y272, y273, y274, y275, y276, y277, y278, y279, y280, y281, y282, y283, y284, y285, List.getElem?_cons_zero, List.getElem?_cons_succ, List.getElem?_nil, List.set_cons_zero, List.set_cons_succ, List.set_nil, Bool.not_true, Bool.not_false, List.length_cons, List.length_nil, List.length_map, if_true, if_false, u_int_NoneType, u_int_bool, u_int_int, u_int_str, u_int_tuple, u_int_list, u_bool_NoneType, u_bool_bool, u_bool_int, u_bool_str, u_bool_tuple, u_bool_list, u_tuple_NoneType, u_tuple_bool, u_tuple_int, u_tuple_str, u_tuple_tuple, u_tuple_list, u_list_NoneType, u_list_bool, u_list_int, u_list_str, u_list_tuple, u_list_list, u_str_NoneType, u_str_bool, u_str_int, u_str_str, u_str_tuple, u_str_list, u_replicate0, List.map_cons, List.map_nil, List.replicate_succ, List.replicate_zero, List.cons_append, List.nil_append, Nat.reduceSub, Nat.reduceAdd, Nat.reduceLeDiff, Nat.reduceLT, Nat.zero_add, Int.reduceLT, Int.reduceLE, decide_true, decide_false, true_and, and_true, and_self, Bool.false_eq_true, List.append_nil, Int.cast_ofNat_Int, Int.natCast_zero, Int.natCast_one, Int.reduceEq, Int.reduceAdd, Int.reduceSub, Int.reduceMul, Int.reduceNeg, Nat.reduceEqDiff, eq_self, Int.toNat_natCast, w]
theorem water_eq (h : S.Ok) (hm : 0 ≤ m) (hm2 : m ≤ 1000) : Fwater_row [S.d, .int m] = .ok (if 0 < S.g m then .non else .tup ((List.range S.n).map fun i => D.int (S.off m i (S.pk m (S.b m) i)))) := by
  by_cases hg : 0 < S.g m
  · have hgt : decide (0 < S.g m) = true := decide_eq_true hg
    rw [if_pos hg]
    simp only [Fwater_row, mwater_row, envD, x_var, x_var1, x_c, x_bin, x_un, x_nil, x_cons, x_fn, x_tst, x_val, x_not, x_and, x_or, x_ifE, x_ifS, x_seq, x_next, x_brk, x_cnt, x_ret, x_retO, x_drop, x_asg, x_asgO, x_par, x_own, x_own1, x_own2, x_mut, x_setI, x_rel, x_call, x_callO, x_ap, x_callI, x_callG, x_atO, x_fnI, x_inO, x_part, x_sl, x_chn, x_ref, x_raise, x_it, x_rng1, x_rng2, x_zip, x_for, x_comp, x_all, x_meth, x_aug, x_runD, x_runI, y0, y1, y2, y3, y4, y5, y6, y7, y8, y9, y10, y11, y12, y13, y14, y15, y16, y17, y18, y19, y20, y21, y22, y23, y24, y25, y26, y27, y28, y29, y30, y31, y32, y33, y34, y35, y36, y37, y38, y39, y40, y41, y42, y43, y44, y45, y46, y47, y48, y49, y50, y51, y52, y53, y54, y55, y56, y57, y58, y59, y60, y61, y62, y63, y64, y65, y66, y67, y68, y69, y70, y71, y72, y73, y74, y75, y76, y77, y78, y79, y80, y81, y82, y83, y84, y85, y86, y87, y88, y89, y90, y91, y92, y93, y94, y95, y96, y97, y98, y99, y100, y101, y102, y103, y104, y105, y106, y107, y108, y109, y110, y111, y112, y113, y114, y115, y116, y117, y118, y119, y120, y121, y122, y123, y124, y125, y126, y127, y128, y129, y130, y131, y132, y133, y134, y135, y136, y137, y138, y139, y140, y141, y142, y143, y144, y145, y146, y147, y148, y149, y150, y151, y152, y153, y154, y155, y156, y157, y158, y159, y160, y161, y162, y163, y164, y165, y166, y167, y168, y169, y170, y171, y172, y173, y174, y175, y176, y177, y178, y179, y180, y181, y182, y183, y184, y185, y186, y187, y188, y189, y190, y191, y192, y193, y194, y195, y196, y197, y198, y199, y200, y201, y202, y203, y204, y205, y206, y207, y208, y209, y210, y211, y212, y213, y214, y215, y216, y217, y218, y219, y220, y221, y222, y223, y224, y225, y226, y227, y228, y229, y230, y231, y232, y233, y234, y235, y236, y237, y238, y239, y240, y241, y242, y243, y244, y245, y246, y247, y248, y249, y250, y251, y252, y253, y254, y255, y256, y257, y258, y259, y260, y261, y262, y263, y264, y265, y266, y267, y268, y269, y270, y271, y272, y273, y274, y275, y276, y277, y278, y279, y280, y281, y282, y283, y284, y285, List.getElem?_cons_zero, List.getElem?_cons_succ, List.getElem?_nil, List.set_cons_zero, List.set_cons_succ, List.set_nil, Bool.not_true, Bool.not_false, List.length_cons, List.length_nil, List.length_map, if_true, if_false, u_int_NoneType, u_int_bool, u_int_int, u_int_str, u_int_tuple, u_int_list, u_bool_NoneType, u_bool_bool, u_bool_int, u_bool_str, u_bool_tuple, u_bool_list, u_tuple_NoneType, u_tuple_bool, u_tuple_int, u_tuple_str, u_tuple_tuple, u_tuple_list, u_list_NoneType, u_list_bool, u_list_int, u_list_str, u_list_tuple, u_list_list, u_str_NoneType, u_str_bool, u_str_int, u_str_str, u_str_tuple, u_str_list, u_replicate0, List.map_cons, List.map_nil, List.replicate_succ, List.replicate_zero, List.cons_append, List.nil_append, Nat.reduceSub, Nat.reduceAdd, Nat.reduceLeDiff, Nat.reduceLT, Nat.zero_add, Int.reduceLT, Int.reduceLE, decide_true, decide_false, true_and, and_true, and_self, Bool.false_eq_true, List.append_nil, Int.cast_ofNat_Int, Int.natCast_zero, Int.natCast_one, Int.reduceEq, Int.reduceAdd, Int.reduceSub, Int.reduceMul, Int.reduceNeg, Nat.reduceEqDiff, eq_self, Int.toNat_natCast, grows_eq h hm hm2, hgt]
  · have hgt : decide (0 < S.g m) = false := decide_eq_false hg
    have hl : (S.rw m (S.b m) S.n).length ≤ 16000000 := by have := h.few; rw [rw_len]; omega
    have hc : cmpL [3, 4] (gTupM [gSet 3, gSet 4]) mYes e1water_row (S.rw m (S.b m) S.n) [.im S.d, .im (.int m), .im (.lst (S.rw m (S.b m) S.n)), .em, .em] = .ok ((List.range S.n).map fun i => D.int (S.off m i (S.pk m (S.b m) i))) [.im S.d, .im (.int m), .im (.lst (S.rw m (S.b m) S.n)), .em, .em] := by
      refine cmpL_list (by rw [rw_len]; simp) fun i d o hd ho => ?_
      have hi : i < S.n := by
        have := (List.getElem?_eq_some_iff.mp hd).1
        rw [rw_len] at this
        exact this
      rw [rw_at S m _ hi] at hd
      cases hd
      rw [List.getElem?_map, List.getElem?_range hi] at ho
      cases ho
      exact ⟨[.im S.d, .im (.int m), .im (.lst (S.rw m (S.b m) S.n)), .im (.int (S.pk m (S.b m) (i + 1))), .im (.int (S.off m i (S.pk m (S.b m) i)))], _, _, rfl, rfl, rfl, rfl⟩
    rw [if_neg hg]
    simp only [Fwater_row, mwater_row, envD, x_var, x_var1, x_c, x_bin, x_un, x_nil, x_cons, x_fn, x_tst, x_val, x_not, x_and, x_or, x_ifE, x_ifS, x_seq, x_next, x_brk, x_cnt, x_ret, x_retO, x_drop, x_asg, x_asgO, x_par, x_own, x_own1, x_own2, x_mut, x_setI, x_rel, x_call, x_callO, x_ap, x_callI, x_callG, x_atO, x_fnI, x_inO, x_part, x_sl, x_chn, x_ref, x_raise, x_it, x_rng1, x_rng2, x_zip, x_for, x_comp, x_all, x_meth, x_aug, x_runD, x_runI, y0, y1, y2, y3, y4, y5, y6, y7, y8, y9, y10, y11, y12, y13, y14, y15, y16, y17, y18, y19, y20, y21, y22, y23, y24, y25, y26, y27, y28, y29, y30, y31, y32, y33, y34, y35, y36, y37, y38, y39, y40, y41, y42, y43, y44, y45, y46, y47, y48, y49, y50, y51, y52, y53, y54, y55, y56, y57, y58, y59, y60, y61, y62, y63, y64, y65, y66, y67, y68, y69, y70, y71, y72, y73, y74, y75, y76, y77, y78, y79, y80, y81, y82, y83, y84, y85, y86, y87, y88, y89, y90, y91, y92, y93, y94, y95, y96, y97, y98, y99, y100, y101, y102, y103, y104, y105, y106, y107, y108, y109, y110, y111, y112, y113, y114, y115, y116, y117, y118, y119, y120, y121, y122, y123, y124, y125, y126, y127, y128, y129, y130, y131, y132, y133, y134, y135, y136, y137, y138, y139, y140, y141, y142, y143, y144, y145, y146, y147, y148, y149, y150, y151, y152, y153, y154, y155, y156, y157, y158, y159, y160, y161, y162, y163, y164, y165, y166, y167, y168, y169, y170, y171, y172, y173, y174, y175, y176, y177, y178, y179, y180, y181, y182, y183, y184, y185, y186, y187, y188, y189, y190, y191, y192, y193, y194, y195, y196, y197, y198, y199, y200, y201, y202, y203, y204, y205, y206, y207, y208, y209, y210, y211, y212, y213, y214, y215, y216, y217, y218, y219, y220, y221, y222, y223, y224, y225, y226, y227, y228, y229, y230, y231, y232, y233, y234, y235, y236, y237, y238, y239, y240, y241, y242, y243, y244, y245, y246, y247, y248, y249, y250, y251, y252, y253, y254, y255, y256, y257, y258, y259, y260, y261, y262, y263, y264, y265, y266, y267, y268, y269, y270, y271, y272, y273, y274, y275, y276, y277, y278, y279, y280, y281, y282, y283, y284, y285, List.getElem?_cons_zero, List.getElem?_cons_succ, List.getElem?_nil, List.set_cons_zero, List.set_cons_succ, List.set_nil, Bool.not_true, Bool.not_false, List.length_cons, List.length_nil, List.length_map, if_true, if_false, u_int_NoneType, u_int_bool, u_int_int, u_int_str, u_int_tuple, u_int_list, u_bool_NoneType, u_bool_bool, u_bool_int, u_bool_str, u_bool_tuple, u_bool_list, u_tuple_NoneType, u_tuple_bool, u_tuple_int, u_tuple_str, u_tuple_tuple, u_tuple_list, u_list_NoneType, u_list_bool, u_list_int, u_list_str, u_list_tuple, u_list_list, u_str_NoneType, u_str_bool, u_str_int, u_str_str, u_str_tuple, u_str_list, u_replicate0, List.map_cons, List.map_nil, List.replicate_succ, List.replicate_zero, List.cons_append, List.nil_append, Nat.reduceSub, Nat.reduceAdd, Nat.reduceLeDiff, Nat.reduceLT, Nat.zero_add, Int.reduceLT, Int.reduceLE, decide_true, decide_false, true_and, and_true, and_self, Bool.false_eq_true, List.append_nil, Int.cast_ofNat_Int, Int.natCast_zero, Int.natCast_one, Int.reduceEq, Int.reduceAdd, Int.reduceSub, Int.reduceMul, Int.reduceNeg, Nat.reduceEqDiff, eq_self, Int.toNat_natCast, grows_eq h hm hm2, hgt, settled_eq h hm (Int.not_lt.mp hg), rounds_from_eq h, hl, hc]
theorem bare_eq (h : S.Ok) (hm : 0 ≤ m) (hm2 : m ≤ 1000) : Fbare_steps [S.d, .int m] = .ok (if 0 < S.g m then .non else .tup (((List.range S.n).filter fun i => decide (S.pk m (S.b m) (i + 1) = 0)).map fun i : Nat => D.int (i : Int))) := by
  by_cases hg : 0 < S.g m
  · have hgt : decide (0 < S.g m) = true := decide_eq_true hg
    rw [if_pos hg]
    simp only [Fbare_steps, mbare_steps, envD, x_var, x_var1, x_c, x_bin, x_un, x_nil, x_cons, x_fn, x_tst, x_val, x_not, x_and, x_or, x_ifE, x_ifS, x_seq, x_next, x_brk, x_cnt, x_ret, x_retO, x_drop, x_asg, x_asgO, x_par, x_own, x_own1, x_own2, x_mut, x_setI, x_rel, x_call, x_callO, x_ap, x_callI, x_callG, x_atO, x_fnI, x_inO, x_part, x_sl, x_chn, x_ref, x_raise, x_it, x_rng1, x_rng2, x_zip, x_for, x_comp, x_all, x_meth, x_aug, x_runD, x_runI, y0, y1, y2, y3, y4, y5, y6, y7, y8, y9, y10, y11, y12, y13, y14, y15, y16, y17, y18, y19, y20, y21, y22, y23, y24, y25, y26, y27, y28, y29, y30, y31, y32, y33, y34, y35, y36, y37, y38, y39, y40, y41, y42, y43, y44, y45, y46, y47, y48, y49, y50, y51, y52, y53, y54, y55, y56, y57, y58, y59, y60, y61, y62, y63, y64, y65, y66, y67, y68, y69, y70, y71, y72, y73, y74, y75, y76, y77, y78, y79, y80, y81, y82, y83, y84, y85, y86, y87, y88, y89, y90, y91, y92, y93, y94, y95, y96, y97, y98, y99, y100, y101, y102, y103, y104, y105, y106, y107, y108, y109, y110, y111, y112, y113, y114, y115, y116, y117, y118, y119, y120, y121, y122, y123, y124, y125, y126, y127, y128, y129, y130, y131, y132, y133, y134, y135, y136, y137, y138, y139, y140, y141, y142, y143, y144, y145, y146, y147, y148, y149, y150, y151, y152, y153, y154, y155, y156, y157, y158, y159, y160, y161, y162, y163, y164, y165, y166, y167, y168, y169, y170, y171, y172, y173, y174, y175, y176, y177, y178, y179, y180, y181, y182, y183, y184, y185, y186, y187, y188, y189, y190, y191, y192, y193, y194, y195, y196, y197, y198, y199, y200, y201, y202, y203, y204, y205, y206, y207, y208, y209, y210, y211, y212, y213, y214, y215, y216, y217, y218, y219, y220, y221, y222, y223, y224, y225, y226, y227, y228, y229, y230, y231, y232, y233, y234, y235, y236, y237, y238, y239, y240, y241, y242, y243, y244, y245, y246, y247, y248, y249, y250, y251, y252, y253, y254, y255, y256, y257, y258, y259, y260, y261, y262, y263, y264, y265, y266, y267, y268, y269, y270, y271, y272, y273, y274, y275, y276, y277, y278, y279, y280, y281, y282, y283, y284, y285, List.getElem?_cons_zero, List.getElem?_cons_succ, List.getElem?_nil, List.set_cons_zero, List.set_cons_succ, List.set_nil, Bool.not_true, Bool.not_false, List.length_cons, List.length_nil, List.length_map, if_true, if_false, u_int_NoneType, u_int_bool, u_int_int, u_int_str, u_int_tuple, u_int_list, u_bool_NoneType, u_bool_bool, u_bool_int, u_bool_str, u_bool_tuple, u_bool_list, u_tuple_NoneType, u_tuple_bool, u_tuple_int, u_tuple_str, u_tuple_tuple, u_tuple_list, u_list_NoneType, u_list_bool, u_list_int, u_list_str, u_list_tuple, u_list_list, u_str_NoneType, u_str_bool, u_str_int, u_str_str, u_str_tuple, u_str_list, u_replicate0, List.map_cons, List.map_nil, List.replicate_succ, List.replicate_zero, List.cons_append, List.nil_append, Nat.reduceSub, Nat.reduceAdd, Nat.reduceLeDiff, Nat.reduceLT, Nat.zero_add, Int.reduceLT, Int.reduceLE, decide_true, decide_false, true_and, and_true, and_self, Bool.false_eq_true, List.append_nil, Int.cast_ofNat_Int, Int.natCast_zero, Int.natCast_one, Int.reduceEq, Int.reduceAdd, Int.reduceSub, Int.reduceMul, Int.reduceNeg, Nat.reduceEqDiff, eq_self, Int.toNat_natCast, grows_eq h hm hm2, hgt]
  · have hgt : decide (0 < S.g m) = false := decide_eq_false hg
    have hr := n_range (n := S.n) (by have := h.few; omega)
    have hl : (rngD 0 S.n).length ≤ 16000000 := by have := h.few; rw [u_rng]; omega
    have hc : cmpL [3] (gSet 3) t1bare_steps e1bare_steps (rngD 0 S.n) [.im S.d, .im (.int m), .im (.lst (S.rw m (S.b m) S.n)), .em] = .ok (((List.range S.n).filter fun i => decide (S.pk m (S.b m) (i + 1) = 0)).map fun i : Nat => D.int (i : Int)) [.im S.d, .im (.int m), .im (.lst (S.rw m (S.b m) S.n)), .em] := by
      have e := cmpL_filter (vs := [3]) (g := gSet 3) (tst := t1bare_steps) (elt := e1bare_steps) (ρ := [.im S.d, .im (.int m), .im (.lst (S.rw m (S.b m) S.n)), .em]) (fun d => match d with | .int j => decide (S.pk m (S.b m) (j.toNat + 1) = 0) | _ => false) (fun d => d) (ds := rngD 0 S.n) fun d hd => by
        obtain ⟨i, hi⟩ := List.mem_iff_getElem?.mp hd
        obtain ⟨hlt, rfl⟩ := rngD_get hi
        have ez : (0 : Int) + (i : Int) = (i : Int) := by omega
        have ha : atI (S.rw m (S.b m) S.n) (i : Int) = some (D.tup [.int (S.pk m (S.b m) (i + 1)), .int (S.off m i (S.pk m (S.b m) i))]) := atN (rw_at S m _ hlt)
        refine ⟨[.im S.d, .im (.int m), .im (.lst (S.rw m (S.b m) S.n)), .im (.int (i : Int))], [.im S.d, .im (.int m), .im (.lst (S.rw m (S.b m) S.n)), .im (.int (i : Int))], by rw [ez]; rfl, ?_, fun _ => rfl, fun _ => ⟨_, by rw [ez]; rfl, rfl⟩⟩
        simp only [t1bare_steps, x_var, x_var1, x_c, x_bin, x_un, x_nil, x_cons, x_fn, x_tst, x_val, x_not, x_and, x_or, x_ifE, x_ifS, x_seq, x_next, x_brk, x_cnt, x_ret, x_retO, x_drop, x_asg, x_asgO, x_par, x_own, x_own1, x_own2, x_mut, x_setI, x_rel, x_call, x_callO, x_ap, x_callI, x_callG, x_atO, x_fnI, x_inO, x_part, x_sl, x_chn, x_ref, x_raise, x_it, x_rng1, x_rng2, x_zip, x_for, x_comp, x_all, x_meth, x_aug, x_runD, x_runI, y0, y1, y2, y3, y4, y5, y6, y7, y8, y9, y10, y11, y12, y13, y14, y15, y16, y17, y18, y19, y20, y21, y22, y23, y24, y25, y26, y27, y28, y29, y30, y31, y32, y33, y34, y35, y36, y37, y38, y39, y40, y41, y42, y43, y44, y45, y46, y47, y48, y49, y50, y51, y52, y53, y54, y55, y56, y57, y58, y59, y60, y61, y62, y63, y64, y65, y66, y67, y68, y69, y70, y71, y72, y73, y74, y75, y76, y77, y78, y79, y80, y81, y82, y83, y84, y85, y86, y87, y88, y89, y90, y91, y92, y93, y94, y95, y96, y97, y98, y99, y100, y101, y102, y103, y104, y105, y106, y107, y108, y109, y110, y111, y112, y113, y114, y115, y116, y117, y118, y119, y120, y121, y122, y123, y124, y125, y126, y127, y128, y129, y130, y131, y132, y133, y134, y135, y136, y137, y138, y139, y140, y141, y142, y143, y144, y145, y146, y147, y148, y149, y150, y151, y152, y153, y154, y155, y156, y157, y158, y159, y160, y161, y162, y163, y164, y165, y166, y167, y168, y169, y170, y171, y172, y173, y174, y175, y176, y177, y178, y179, y180, y181, y182, y183, y184, y185, y186, y187, y188, y189, y190, y191, y192, y193, y194, y195, y196, y197, y198, y199, y200, y201, y202, y203, y204, y205, y206, y207, y208, y209, y210, y211, y212, y213, y214, y215, y216, y217, y218, y219, y220, y221, y222, y223, y224, y225, y226, y227, y228, y229, y230, y231, y232, y233, y234, y235, y236, y237, y238, y239, y240, y241, y242, y243, y244, y245, y246, y247, y248, y249, y250, y251, y252, y253, y254, y255, y256, y257, y258, y259, y260, y261, y262, y263, y264, y265, y266, y267, y268, y269, y270, y271, y272, y273, y274, y275, y276, y277, y278, y279, y280, y281, y282, y283, y284, y285, List.getElem?_cons_zero, List.getElem?_cons_succ, List.getElem?_nil, List.set_cons_zero, List.set_cons_succ, List.set_nil, Bool.not_true, Bool.not_false, List.length_cons, List.length_nil, List.length_map, if_true, if_false, u_int_NoneType, u_int_bool, u_int_int, u_int_str, u_int_tuple, u_int_list, u_bool_NoneType, u_bool_bool, u_bool_int, u_bool_str, u_bool_tuple, u_bool_list, u_tuple_NoneType, u_tuple_bool, u_tuple_int, u_tuple_str, u_tuple_tuple, u_tuple_list, u_list_NoneType, u_list_bool, u_list_int, u_list_str, u_list_tuple, u_list_list, u_str_NoneType, u_str_bool, u_str_int, u_str_str, u_str_tuple, u_str_list, u_replicate0, List.map_cons, List.map_nil, List.replicate_succ, List.replicate_zero, List.cons_append, List.nil_append, Nat.reduceSub, Nat.reduceAdd, Nat.reduceLeDiff, Nat.reduceLT, Nat.zero_add, Int.reduceLT, Int.reduceLE, decide_true, decide_false, true_and, and_true, and_self, Bool.false_eq_true, List.append_nil, Int.cast_ofNat_Int, Int.natCast_zero, Int.natCast_one, Int.reduceEq, Int.reduceAdd, Int.reduceSub, Int.reduceMul, Int.reduceNeg, Nat.reduceEqDiff, eq_self, Int.toNat_natCast, ha, atI_z, bO_eq_int, ez]
      rw [e]
      congr 1
      rw [List.map_id']
      unfold rngD
      rw [List.filter_map]
      have e1 : (fun k : Nat => D.int (0 + (k : Int))) = fun k : Nat => D.int (k : Int) := by
        funext k
        rw [Int.zero_add]
      rw [e1]
      congr 1
    rw [if_neg hg]
    simp only [Fbare_steps, mbare_steps, envD, x_var, x_var1, x_c, x_bin, x_un, x_nil, x_cons, x_fn, x_tst, x_val, x_not, x_and, x_or, x_ifE, x_ifS, x_seq, x_next, x_brk, x_cnt, x_ret, x_retO, x_drop, x_asg, x_asgO, x_par, x_own, x_own1, x_own2, x_mut, x_setI, x_rel, x_call, x_callO, x_ap, x_callI, x_callG, x_atO, x_fnI, x_inO, x_part, x_sl, x_chn, x_ref, x_raise, x_it, x_rng1, x_rng2, x_zip, x_for, x_comp, x_all, x_meth, x_aug, x_runD, x_runI, y0, y1, y2, y3, y4, y5, y6, y7, y8, y9, y10, y11, y12, y13, y14, y15, y16, y17, y18, y19, y20, y21, y22, y23, y24, y25, y26, y27, y28, y29, y30, y31, y32, y33, y34, y35, y36, y37, y38, y39, y40, y41, y42, y43, y44, y45, y46, y47, y48, y49, y50, y51, y52, y53, y54, y55, y56, y57, y58, y59, y60, y61, y62, y63, y64, y65, y66, y67, y68, y69, y70, y71, y72, y73, y74, y75, y76, y77, y78, y79, y80, y81, y82, y83, y84, y85, y86, y87, y88, y89, y90, y91, y92, y93, y94, y95, y96, y97, y98, y99, y100, y101, y102, y103, y104, y105, y106, y107, y108, y109, y110, y111, y112, y113, y114, y115, y116, y117, y118, y119, y120, y121, y122, y123, y124, y125, y126, y127, y128, y129, y130, y131, y132, y133, y134, y135, y136, y137, y138, y139, y140, y141, y142, y143, y144, y145, y146, y147, y148, y149, y150, y151, y152, y153, y154, y155, y156, y157, y158, y159, y160, y161, y162, y163, y164, y165, y166, y167, y168, y169, y170, y171, y172, y173, y174, y175, y176, y177, y178, y179, y180, y181, y182, y183, y184, y185, y186, y187, y188, y189, y190, y191, y192, y193, y194, y195, y196, y197, y198, y199, y200, y201, y202, y203, y204, y205, y206, y207, y208, y209, y210, y211, y212, y213, y214, y215, y216, y217, y218, y219, y220, y221, y222, y223, y224, y225, y226, y227, y228, y229, y230, y231, y232, y233, y234, y235, y236, y237, y238, y239, y240, y241, y242, y243, y244, y245, y246, y247, y248, y249, y250, y251, y252, y253, y254, y255, y256, y257, y258, y259, y260, y261, y262, y263, y264, y265, y266, y267, y268, y269, y270, y271, y272, y273, y274, y275, y276, y277, y278, y279, y280, y281, y282, y283, y284, y285, List.getElem?_cons_zero, List.getElem?_cons_succ, List.getElem?_nil, List.set_cons_zero, List.set_cons_succ, List.set_nil, Bool.not_true, Bool.not_false, List.length_cons, List.length_nil, List.length_map, if_true, if_false, u_int_NoneType, u_int_bool, u_int_int, u_int_str, u_int_tuple, u_int_list, u_bool_NoneType, u_bool_bool, u_bool_int, u_bool_str, u_bool_tuple, u_bool_list, u_tuple_NoneType, u_tuple_bool, u_tuple_int, u_tuple_str, u_tuple_tuple, u_tuple_list, u_list_NoneType, u_list_bool, u_list_int, u_list_str, u_list_tuple, u_list_list, u_str_NoneType, u_str_bool, u_str_int, u_str_str, u_str_tuple, u_str_list, u_replicate0, List.map_cons, List.map_nil, List.replicate_succ, List.replicate_zero, List.cons_append, List.nil_append, Nat.reduceSub, Nat.reduceAdd, Nat.reduceLeDiff, Nat.reduceLT, Nat.zero_add, Int.reduceLT, Int.reduceLE, decide_true, decide_false, true_and, and_true, and_self, Bool.false_eq_true, List.append_nil, Int.cast_ofNat_Int, Int.natCast_zero, Int.natCast_one, Int.reduceEq, Int.reduceAdd, Int.reduceSub, Int.reduceMul, Int.reduceNeg, Nat.reduceEqDiff, eq_self, Int.toNat_natCast, grows_eq h hm hm2, hgt, settled_eq h hm (Int.not_lt.mp hg), rounds_from_eq h, rw_len, hr, hl, hc]
theorem grows_bad {d : D} (hb : Fis_sky [d] = .ok (.bl false)) : Fgrows [d, .int 0] = .raise "sky" := by
  simp only [Fgrows, mgrows, envD, x_var, x_var1, x_c, x_bin, x_un, x_nil, x_cons, x_fn, x_tst, x_val, x_not, x_and, x_or, x_ifE, x_ifS, x_seq, x_next, x_brk, x_cnt, x_ret, x_retO, x_drop, x_asg, x_asgO, x_par, x_own, x_own1, x_own2, x_mut, x_setI, x_rel, x_call, x_callO, x_ap, x_callI, x_callG, x_atO, x_fnI, x_inO, x_part, x_sl, x_chn, x_ref, x_raise, x_it, x_rng1, x_rng2, x_zip, x_for, x_comp, x_all, x_meth, x_aug, x_runD, x_runI, y0, y1, y2, y3, y4, y5, y6, y7, y8, y9, y10, y11, y12, y13, y14, y15, y16, y17, y18, y19, y20, y21, y22, y23, y24, y25, y26, y27, y28, y29, y30, y31, y32, y33, y34, y35, y36, y37, y38, y39, y40, y41, y42, y43, y44, y45, y46, y47, y48, y49, y50, y51, y52, y53, y54, y55, y56, y57, y58, y59, y60, y61, y62, y63, y64, y65, y66, y67, y68, y69, y70, y71, y72, y73, y74, y75, y76, y77, y78, y79, y80, y81, y82, y83, y84, y85, y86, y87, y88, y89, y90, y91, y92, y93, y94, y95, y96, y97, y98, y99, y100, y101, y102, y103, y104, y105, y106, y107, y108, y109, y110, y111, y112, y113, y114, y115, y116, y117, y118, y119, y120, y121, y122, y123, y124, y125, y126, y127, y128, y129, y130, y131, y132, y133, y134, y135, y136, y137, y138, y139, y140, y141, y142, y143, y144, y145, y146, y147, y148, y149, y150, y151, y152, y153, y154, y155, y156, y157, y158, y159, y160, y161, y162, y163, y164, y165, y166, y167, y168, y169, y170, y171, y172, y173, y174, y175, y176, y177, y178, y179, y180, y181, y182, y183, y184, y185, y186, y187, y188, y189, y190, y191, y192, y193, y194, y195, y196, y197, y198, y199, y200, y201, y202, y203, y204, y205, y206, y207, y208, y209, y210, y211, y212, y213, y214, y215, y216, y217, y218, y219, y220, y221, y222, y223, y224, y225, y226, y227, y228, y229, y230, y231, y232, y233, y234, y235, y236, y237, y238, y239, y240, y241, y242, y243, y244, y245, y246, y247, y248, y249, y250, y251, y252, y253, y254, y255, y256, y257, y258, y259, y260, y261, y262, y263, y264, y265, y266, y267, y268, y269, y270, y271, y272, y273, y274, y275, y276, y277, y278, y279, y280, y281, y282, y283, y284, y285, List.getElem?_cons_zero, List.getElem?_cons_succ, List.getElem?_nil, List.set_cons_zero, List.set_cons_succ, List.set_nil, Bool.not_true, Bool.not_false, List.length_cons, List.length_nil, List.length_map, if_true, if_false, u_int_NoneType, u_int_bool, u_int_int, u_int_str, u_int_tuple, u_int_list, u_bool_NoneType, u_bool_bool, u_bool_int, u_bool_str, u_bool_tuple, u_bool_list, u_tuple_NoneType, u_tuple_bool, u_tuple_int, u_tuple_str, u_tuple_tuple, u_tuple_list, u_list_NoneType, u_list_bool, u_list_int, u_list_str, u_list_tuple, u_list_list, u_str_NoneType, u_str_bool, u_str_int, u_str_str, u_str_tuple, u_str_list, u_replicate0, List.map_cons, List.map_nil, List.replicate_succ, List.replicate_zero, List.cons_append, List.nil_append, Nat.reduceSub, Nat.reduceAdd, Nat.reduceLeDiff, Nat.reduceLT, Nat.zero_add, Int.reduceLT, Int.reduceLE, decide_true, decide_false, true_and, and_true, and_self, Bool.false_eq_true, List.append_nil, Int.cast_ofNat_Int, Int.natCast_zero, Int.natCast_one, Int.reduceEq, Int.reduceAdd, Int.reduceSub, Int.reduceMul, Int.reduceNeg, Nat.reduceEqDiff, eq_self, Int.toNat_natCast, need_sky_bad hb]
theorem deep_bad {d : D} (hb : Fis_sky [d] = .ok (.bl false)) : Fdeepest [d, .int 0] = .raise "sky" := by
  simp only [Fdeepest, mdeepest, envD, x_var, x_var1, x_c, x_bin, x_un, x_nil, x_cons, x_fn, x_tst, x_val, x_not, x_and, x_or, x_ifE, x_ifS, x_seq, x_next, x_brk, x_cnt, x_ret, x_retO, x_drop, x_asg, x_asgO, x_par, x_own, x_own1, x_own2, x_mut, x_setI, x_rel, x_call, x_callO, x_ap, x_callI, x_callG, x_atO, x_fnI, x_inO, x_part, x_sl, x_chn, x_ref, x_raise, x_it, x_rng1, x_rng2, x_zip, x_for, x_comp, x_all, x_meth, x_aug, x_runD, x_runI, y0, y1, y2, y3, y4, y5, y6, y7, y8, y9, y10, y11, y12, y13, y14, y15, y16, y17, y18, y19, y20, y21, y22, y23, y24, y25, y26, y27, y28, y29, y30, y31, y32, y33, y34, y35, y36, y37, y38, y39, y40, y41, y42, y43, y44, y45, y46, y47, y48, y49, y50, y51, y52, y53, y54, y55, y56, y57, y58, y59, y60, y61, y62, y63, y64, y65, y66, y67, y68, y69, y70, y71, y72, y73, y74, y75, y76, y77, y78, y79, y80, y81, y82, y83, y84, y85, y86, y87, y88, y89, y90, y91, y92, y93, y94, y95, y96, y97, y98, y99, y100, y101, y102, y103, y104, y105, y106, y107, y108, y109, y110, y111, y112, y113, y114, y115, y116, y117, y118, y119, y120, y121, y122, y123, y124, y125, y126, y127, y128, y129, y130, y131, y132, y133, y134, y135, y136, y137, y138, y139, y140, y141, y142, y143, y144, y145, y146, y147, y148, y149, y150, y151, y152, y153, y154, y155, y156, y157, y158, y159, y160, y161, y162, y163, y164, y165, y166, y167, y168, y169, y170, y171, y172, y173, y174, y175, y176, y177, y178, y179, y180, y181, y182, y183, y184, y185, y186, y187, y188, y189, y190, y191, y192, y193, y194, y195, y196, y197, y198, y199, y200, y201, y202, y203, y204, y205, y206, y207, y208, y209, y210, y211, y212, y213, y214, y215, y216, y217, y218, y219, y220, y221, y222, y223, y224, y225, y226, y227, y228, y229, y230, y231, y232, y233, y234, y235, y236, y237, y238, y239, y240, y241, y242, y243, y244, y245, y246, y247, y248, y249, y250, y251, y252, y253, y254, y255, y256, y257, y258, y259, y260, y261, y262, y263, y264, y265, y266, y267, y268, y269, y270, y271, y272, y273, y274, y275, y276, y277, y278, y279, y280, y281, y282, y283, y284, y285, List.getElem?_cons_zero, List.getElem?_cons_succ, List.getElem?_nil, List.set_cons_zero, List.set_cons_succ, List.set_nil, Bool.not_true, Bool.not_false, List.length_cons, List.length_nil, List.length_map, if_true, if_false, u_int_NoneType, u_int_bool, u_int_int, u_int_str, u_int_tuple, u_int_list, u_bool_NoneType, u_bool_bool, u_bool_int, u_bool_str, u_bool_tuple, u_bool_list, u_tuple_NoneType, u_tuple_bool, u_tuple_int, u_tuple_str, u_tuple_tuple, u_tuple_list, u_list_NoneType, u_list_bool, u_list_int, u_list_str, u_list_tuple, u_list_list, u_str_NoneType, u_str_bool, u_str_int, u_str_str, u_str_tuple, u_str_list, u_replicate0, List.map_cons, List.map_nil, List.replicate_succ, List.replicate_zero, List.cons_append, List.nil_append, Nat.reduceSub, Nat.reduceAdd, Nat.reduceLeDiff, Nat.reduceLT, Nat.zero_add, Int.reduceLT, Int.reduceLE, decide_true, decide_false, true_and, and_true, and_self, Bool.false_eq_true, List.append_nil, Int.cast_ofNat_Int, Int.natCast_zero, Int.natCast_one, Int.reduceEq, Int.reduceAdd, Int.reduceSub, Int.reduceMul, Int.reduceNeg, Nat.reduceEqDiff, eq_self, Int.toNat_natCast, grows_bad hb]
theorem water_no (h : S.Ok) : Fwater_row [S.d, .int (-1)] = .raise "melt" := by
  have e : Fgrows [S.d, .int (-1)] = .raise "melt" := by simp only [Fgrows, mgrows, envD, x_var, x_var1, x_c, x_bin, x_un, x_nil, x_cons, x_fn, x_tst, x_val, x_not, x_and, x_or, x_ifE, x_ifS, x_seq, x_next, x_brk, x_cnt, x_ret, x_retO, x_drop, x_asg, x_asgO, x_par, x_own, x_own1, x_own2, x_mut, x_setI, x_rel, x_call, x_callO, x_ap, x_callI, x_callG, x_atO, x_fnI, x_inO, x_part, x_sl, x_chn, x_ref, x_raise, x_it, x_rng1, x_rng2, x_zip, x_for, x_comp, x_all, x_meth, x_aug, x_runD, x_runI, y0, y1, y2, y3, y4, y5, y6, y7, y8, y9, y10, y11, y12, y13, y14, y15, y16, y17, y18, y19, y20, y21, y22, y23, y24, y25, y26, y27, y28, y29, y30, y31, y32, y33, y34, y35, y36, y37, y38, y39, y40, y41, y42, y43, y44, y45, y46, y47, y48, y49, y50, y51, y52, y53, y54, y55, y56, y57, y58, y59, y60, y61, y62, y63, y64, y65, y66, y67, y68, y69, y70, y71, y72, y73, y74, y75, y76, y77, y78, y79, y80, y81, y82, y83, y84, y85, y86, y87, y88, y89, y90, y91, y92, y93, y94, y95, y96, y97, y98, y99, y100, y101, y102, y103, y104, y105, y106, y107, y108, y109, y110, y111, y112, y113, y114, y115, y116, y117, y118, y119, y120, y121, y122, y123, y124, y125, y126, y127, y128, y129, y130, y131, y132, y133, y134, y135, y136, y137, y138, y139, y140, y141, y142, y143, y144, y145, y146, y147, y148, y149, y150, y151, y152, y153, y154, y155, y156, y157, y158, y159, y160, y161, y162, y163, y164, y165, y166, y167, y168, y169, y170, y171, y172, y173, y174, y175, y176, y177, y178, y179, y180, y181, y182, y183, y184, y185, y186, y187, y188, y189, y190, y191, y192, y193, y194, y195, y196, y197, y198, y199, y200, y201, y202, y203, y204, y205, y206, y207, y208, y209, y210, y211, y212, y213, y214, y215, y216, y217, y218, y219, y220, y221, y222, y223, y224, y225, y226, y227, y228, y229, y230, y231, y232, y233, y234, y235, y236, y237, y238, y239, y240, y241, y242, y243, y244, y245, y246, y247, y248, y249, y250, y251, y252, y253, y254, y255, y256, y257, y258, y259, y260, y261, y262, y263, y264, y265, y266, y267, y268, y269, y270, y271, y272, y273, y274, y275, y276, y277, y278, y279, y280, y281, y282, y283, y284, y285, List.getElem?_cons_zero, List.getElem?_cons_succ, List.getElem?_nil, List.set_cons_zero, List.set_cons_succ, List.set_nil, Bool.not_true, Bool.not_false, List.length_cons, List.length_nil, List.length_map, if_true, if_false, u_int_NoneType, u_int_bool, u_int_int, u_int_str, u_int_tuple, u_int_list, u_bool_NoneType, u_bool_bool, u_bool_int, u_bool_str, u_bool_tuple, u_bool_list, u_tuple_NoneType, u_tuple_bool, u_tuple_int, u_tuple_str, u_tuple_tuple, u_tuple_list, u_list_NoneType, u_list_bool, u_list_int, u_list_str, u_list_tuple, u_list_list, u_str_NoneType, u_str_bool, u_str_int, u_str_str, u_str_tuple, u_str_list, u_replicate0, List.map_cons, List.map_nil, List.replicate_succ, List.replicate_zero, List.cons_append, List.nil_append, Nat.reduceSub, Nat.reduceAdd, Nat.reduceLeDiff, Nat.reduceLT, Nat.zero_add, Int.reduceLT, Int.reduceLE, decide_true, decide_false, true_and, and_true, and_self, Bool.false_eq_true, List.append_nil, Int.cast_ofNat_Int, Int.natCast_zero, Int.natCast_one, Int.reduceEq, Int.reduceAdd, Int.reduceSub, Int.reduceMul, Int.reduceNeg, Nat.reduceEqDiff, eq_self, Int.toNat_natCast, need_sky_no h (m := -1) (by omega)]
  simp only [Fwater_row, mwater_row, envD, x_var, x_var1, x_c, x_bin, x_un, x_nil, x_cons, x_fn, x_tst, x_val, x_not, x_and, x_or, x_ifE, x_ifS, x_seq, x_next, x_brk, x_cnt, x_ret, x_retO, x_drop, x_asg, x_asgO, x_par, x_own, x_own1, x_own2, x_mut, x_setI, x_rel, x_call, x_callO, x_ap, x_callI, x_callG, x_atO, x_fnI, x_inO, x_part, x_sl, x_chn, x_ref, x_raise, x_it, x_rng1, x_rng2, x_zip, x_for, x_comp, x_all, x_meth, x_aug, x_runD, x_runI, y0, y1, y2, y3, y4, y5, y6, y7, y8, y9, y10, y11, y12, y13, y14, y15, y16, y17, y18, y19, y20, y21, y22, y23, y24, y25, y26, y27, y28, y29, y30, y31, y32, y33, y34, y35, y36, y37, y38, y39, y40, y41, y42, y43, y44, y45, y46, y47, y48, y49, y50, y51, y52, y53, y54, y55, y56, y57, y58, y59, y60, y61, y62, y63, y64, y65, y66, y67, y68, y69, y70, y71, y72, y73, y74, y75, y76, y77, y78, y79, y80, y81, y82, y83, y84, y85, y86, y87, y88, y89, y90, y91, y92, y93, y94, y95, y96, y97, y98, y99, y100, y101, y102, y103, y104, y105, y106, y107, y108, y109, y110, y111, y112, y113, y114, y115, y116, y117, y118, y119, y120, y121, y122, y123, y124, y125, y126, y127, y128, y129, y130, y131, y132, y133, y134, y135, y136, y137, y138, y139, y140, y141, y142, y143, y144, y145, y146, y147, y148, y149, y150, y151, y152, y153, y154, y155, y156, y157, y158, y159, y160, y161, y162, y163, y164, y165, y166, y167, y168, y169, y170, y171, y172, y173, y174, y175, y176, y177, y178, y179, y180, y181, y182, y183, y184, y185, y186, y187, y188, y189, y190, y191, y192, y193, y194, y195, y196, y197, y198, y199, y200, y201, y202, y203, y204, y205, y206, y207, y208, y209, y210, y211, y212, y213, y214, y215, y216, y217, y218, y219, y220, y221, y222, y223, y224, y225, y226, y227, y228, y229, y230, y231, y232, y233, y234, y235, y236, y237, y238, y239, y240, y241, y242, y243, y244, y245, y246, y247, y248, y249, y250, y251, y252, y253, y254, y255, y256, y257, y258, y259, y260, y261, y262, y263, y264, y265, y266, y267, y268, y269, y270, y271, y272, y273, y274, y275, y276, y277, y278, y279, y280, y281, y282, y283, y284, y285, List.getElem?_cons_zero, List.getElem?_cons_succ, List.getElem?_nil, List.set_cons_zero, List.set_cons_succ, List.set_nil, Bool.not_true, Bool.not_false, List.length_cons, List.length_nil, List.length_map, if_true, if_false, u_int_NoneType, u_int_bool, u_int_int, u_int_str, u_int_tuple, u_int_list, u_bool_NoneType, u_bool_bool, u_bool_int, u_bool_str, u_bool_tuple, u_bool_list, u_tuple_NoneType, u_tuple_bool, u_tuple_int, u_tuple_str, u_tuple_tuple, u_tuple_list, u_list_NoneType, u_list_bool, u_list_int, u_list_str, u_list_tuple, u_list_list, u_str_NoneType, u_str_bool, u_str_int, u_str_str, u_str_tuple, u_str_list, u_replicate0, List.map_cons, List.map_nil, List.replicate_succ, List.replicate_zero, List.cons_append, List.nil_append, Nat.reduceSub, Nat.reduceAdd, Nat.reduceLeDiff, Nat.reduceLT, Nat.zero_add, Int.reduceLT, Int.reduceLE, decide_true, decide_false, true_and, and_true, and_self, Bool.false_eq_true, List.append_nil, Int.cast_ofNat_Int, Int.natCast_zero, Int.natCast_one, Int.reduceEq, Int.reduceAdd, Int.reduceSub, Int.reduceMul, Int.reduceNeg, Nat.reduceEqDiff, eq_self, Int.toNat_natCast, e]
theorem bare_no (h : S.Ok) : Fbare_steps [S.d, .non] = .raise "melt" := by
  have e : Fgrows [S.d, .non] = .raise "melt" := by simp only [Fgrows, mgrows, envD, x_var, x_var1, x_c, x_bin, x_un, x_nil, x_cons, x_fn, x_tst, x_val, x_not, x_and, x_or, x_ifE, x_ifS, x_seq, x_next, x_brk, x_cnt, x_ret, x_retO, x_drop, x_asg, x_asgO, x_par, x_own, x_own1, x_own2, x_mut, x_setI, x_rel, x_call, x_callO, x_ap, x_callI, x_callG, x_atO, x_fnI, x_inO, x_part, x_sl, x_chn, x_ref, x_raise, x_it, x_rng1, x_rng2, x_zip, x_for, x_comp, x_all, x_meth, x_aug, x_runD, x_runI, y0, y1, y2, y3, y4, y5, y6, y7, y8, y9, y10, y11, y12, y13, y14, y15, y16, y17, y18, y19, y20, y21, y22, y23, y24, y25, y26, y27, y28, y29, y30, y31, y32, y33, y34, y35, y36, y37, y38, y39, y40, y41, y42, y43, y44, y45, y46, y47, y48, y49, y50, y51, y52, y53, y54, y55, y56, y57, y58, y59, y60, y61, y62, y63, y64, y65, y66, y67, y68, y69, y70, y71, y72, y73, y74, y75, y76, y77, y78, y79, y80, y81, y82, y83, y84, y85, y86, y87, y88, y89, y90, y91, y92, y93, y94, y95, y96, y97, y98, y99, y100, y101, y102, y103, y104, y105, y106, y107, y108, y109, y110, y111, y112, y113, y114, y115, y116, y117, y118, y119, y120, y121, y122, y123, y124, y125, y126, y127, y128, y129, y130, y131, y132, y133, y134, y135, y136, y137, y138, y139, y140, y141, y142, y143, y144, y145, y146, y147, y148, y149, y150, y151, y152, y153, y154, y155, y156, y157, y158, y159, y160, y161, y162, y163, y164, y165, y166, y167, y168, y169, y170, y171, y172, y173, y174, y175, y176, y177, y178, y179, y180, y181, y182, y183, y184, y185, y186, y187, y188, y189, y190, y191, y192, y193, y194, y195, y196, y197, y198, y199, y200, y201, y202, y203, y204, y205, y206, y207, y208, y209, y210, y211, y212, y213, y214, y215, y216, y217, y218, y219, y220, y221, y222, y223, y224, y225, y226, y227, y228, y229, y230, y231, y232, y233, y234, y235, y236, y237, y238, y239, y240, y241, y242, y243, y244, y245, y246, y247, y248, y249, y250, y251, y252, y253, y254, y255, y256, y257, y258, y259, y260, y261, y262, y263, y264, y265, y266, y267, y268, y269, y270, y271, y272, y273, y274, y275, y276, y277, y278, y279, y280, y281, y282, y283, y284, y285, List.getElem?_cons_zero, List.getElem?_cons_succ, List.getElem?_nil, List.set_cons_zero, List.set_cons_succ, List.set_nil, Bool.not_true, Bool.not_false, List.length_cons, List.length_nil, List.length_map, if_true, if_false, u_int_NoneType, u_int_bool, u_int_int, u_int_str, u_int_tuple, u_int_list, u_bool_NoneType, u_bool_bool, u_bool_int, u_bool_str, u_bool_tuple, u_bool_list, u_tuple_NoneType, u_tuple_bool, u_tuple_int, u_tuple_str, u_tuple_tuple, u_tuple_list, u_list_NoneType, u_list_bool, u_list_int, u_list_str, u_list_tuple, u_list_list, u_str_NoneType, u_str_bool, u_str_int, u_str_str, u_str_tuple, u_str_list, u_replicate0, List.map_cons, List.map_nil, List.replicate_succ, List.replicate_zero, List.cons_append, List.nil_append, Nat.reduceSub, Nat.reduceAdd, Nat.reduceLeDiff, Nat.reduceLT, Nat.zero_add, Int.reduceLT, Int.reduceLE, decide_true, decide_false, true_and, and_true, and_self, Bool.false_eq_true, List.append_nil, Int.cast_ofNat_Int, Int.natCast_zero, Int.natCast_one, Int.reduceEq, Int.reduceAdd, Int.reduceSub, Int.reduceMul, Int.reduceNeg, Nat.reduceEqDiff, eq_self, Int.toNat_natCast, need_sky_non h]
  simp only [Fbare_steps, mbare_steps, envD, x_var, x_var1, x_c, x_bin, x_un, x_nil, x_cons, x_fn, x_tst, x_val, x_not, x_and, x_or, x_ifE, x_ifS, x_seq, x_next, x_brk, x_cnt, x_ret, x_retO, x_drop, x_asg, x_asgO, x_par, x_own, x_own1, x_own2, x_mut, x_setI, x_rel, x_call, x_callO, x_ap, x_callI, x_callG, x_atO, x_fnI, x_inO, x_part, x_sl, x_chn, x_ref, x_raise, x_it, x_rng1, x_rng2, x_zip, x_for, x_comp, x_all, x_meth, x_aug, x_runD, x_runI, y0, y1, y2, y3, y4, y5, y6, y7, y8, y9, y10, y11, y12, y13, y14, y15, y16, y17, y18, y19, y20, y21, y22, y23, y24, y25, y26, y27, y28, y29, y30, y31, y32, y33, y34, y35, y36, y37, y38, y39, y40, y41, y42, y43, y44, y45, y46, y47, y48, y49, y50, y51, y52, y53, y54, y55, y56, y57, y58, y59, y60, y61, y62, y63, y64, y65, y66, y67, y68, y69, y70, y71, y72, y73, y74, y75, y76, y77, y78, y79, y80, y81, y82, y83, y84, y85, y86, y87, y88, y89, y90, y91, y92, y93, y94, y95, y96, y97, y98, y99, y100, y101, y102, y103, y104, y105, y106, y107, y108, y109, y110, y111, y112, y113, y114, y115, y116, y117, y118, y119, y120, y121, y122, y123, y124, y125, y126, y127, y128, y129, y130, y131, y132, y133, y134, y135, y136, y137, y138, y139, y140, y141, y142, y143, y144, y145, y146, y147, y148, y149, y150, y151, y152, y153, y154, y155, y156, y157, y158, y159, y160, y161, y162, y163, y164, y165, y166, y167, y168, y169, y170, y171, y172, y173, y174, y175, y176, y177, y178, y179, y180, y181, y182, y183, y184, y185, y186, y187, y188, y189, y190, y191, y192, y193, y194, y195, y196, y197, y198, y199, y200, y201, y202, y203, y204, y205, y206, y207, y208, y209, y210, y211, y212, y213, y214, y215, y216, y217, y218, y219, y220, y221, y222, y223, y224, y225, y226, y227, y228, y229, y230, y231, y232, y233, y234, y235, y236, y237, y238, y239, y240, y241, y242, y243, y244, y245, y246, y247, y248, y249, y250, y251, y252, y253, y254, y255, y256, y257, y258, y259, y260, y261, y262, y263, y264, y265, y266, y267, y268, y269, y270, y271, y272, y273, y274, y275, y276, y277, y278, y279, y280, y281, y282, y283, y284, y285, List.getElem?_cons_zero, List.getElem?_cons_succ, List.getElem?_nil, List.set_cons_zero, List.set_cons_succ, List.set_nil, Bool.not_true, Bool.not_false, List.length_cons, List.length_nil, List.length_map, if_true, if_false, u_int_NoneType, u_int_bool, u_int_int, u_int_str, u_int_tuple, u_int_list, u_bool_NoneType, u_bool_bool, u_bool_int, u_bool_str, u_bool_tuple, u_bool_list, u_tuple_NoneType, u_tuple_bool, u_tuple_int, u_tuple_str, u_tuple_tuple, u_tuple_list, u_list_NoneType, u_list_bool, u_list_int, u_list_str, u_list_tuple, u_list_list, u_str_NoneType, u_str_bool, u_str_int, u_str_str, u_str_tuple, u_str_list, u_replicate0, List.map_cons, List.map_nil, List.replicate_succ, List.replicate_zero, List.cons_append, List.nil_append, Nat.reduceSub, Nat.reduceAdd, Nat.reduceLeDiff, Nat.reduceLT, Nat.zero_add, Int.reduceLT, Int.reduceLE, decide_true, decide_false, true_and, and_true, and_self, Bool.false_eq_true, List.append_nil, Int.cast_ofNat_Int, Int.natCast_zero, Int.natCast_one, Int.reduceEq, Int.reduceAdd, Int.reduceSub, Int.reduceMul, Int.reduceNeg, Nat.reduceEqDiff, eq_self, Int.toNat_natCast, e]
theorem pack_no (h : S.Ok) (hm : 0 ≤ m) (hm2 : m ≤ 1000) : Fpack_at [S.d, .int m, .int (-1)] = .raise "step" := by
  simp only [Fpack_at, mpack_at, envD, x_var, x_var1, x_c, x_bin, x_un, x_nil, x_cons, x_fn, x_tst, x_val, x_not, x_and, x_or, x_ifE, x_ifS, x_seq, x_next, x_brk, x_cnt, x_ret, x_retO, x_drop, x_asg, x_asgO, x_par, x_own, x_own1, x_own2, x_mut, x_setI, x_rel, x_call, x_callO, x_ap, x_callI, x_callG, x_atO, x_fnI, x_inO, x_part, x_sl, x_chn, x_ref, x_raise, x_it, x_rng1, x_rng2, x_zip, x_for, x_comp, x_all, x_meth, x_aug, x_runD, x_runI, y0, y1, y2, y3, y4, y5, y6, y7, y8, y9, y10, y11, y12, y13, y14, y15, y16, y17, y18, y19, y20, y21, y22, y23, y24, y25, y26, y27, y28, y29, y30, y31, y32, y33, y34, y35, y36, y37, y38, y39, y40, y41, y42, y43, y44, y45, y46, y47, y48, y49, y50, y51, y52, y53, y54, y55, y56, y57, y58, y59, y60, y61, y62, y63, y64, y65, y66, y67, y68, y69, y70, y71, y72, y73, y74, y75, y76, y77, y78, y79, y80, y81, y82, y83, y84, y85, y86, y87, y88, y89, y90, y91, y92, y93, y94, y95, y96, y97, y98, y99, y100, y101, y102, y103, y104, y105, y106, y107, y108, y109, y110, y111, y112, y113, y114, y115, y116, y117, y118, y119, y120, y121, y122, y123, y124, y125, y126, y127, y128, y129, y130, y131, y132, y133, y134, y135, y136, y137, y138, y139, y140, y141, y142, y143, y144, y145, y146, y147, y148, y149, y150, y151, y152, y153, y154, y155, y156, y157, y158, y159, y160, y161, y162, y163, y164, y165, y166, y167, y168, y169, y170, y171, y172, y173, y174, y175, y176, y177, y178, y179, y180, y181, y182, y183, y184, y185, y186, y187, y188, y189, y190, y191, y192, y193, y194, y195, y196, y197, y198, y199, y200, y201, y202, y203, y204, y205, y206, y207, y208, y209, y210, y211, y212, y213, y214, y215, y216, y217, y218, y219, y220, y221, y222, y223, y224, y225, y226, y227, y228, y229, y230, y231, y232, y233, y234, y235, y236, y237, y238, y239, y240, y241, y242, y243, y244, y245, y246, y247, y248, y249, y250, y251, y252, y253, y254, y255, y256, y257, y258, y259, y260, y261, y262, y263, y264, y265, y266, y267, y268, y269, y270, y271, y272, y273, y274, y275, y276, y277, y278, y279, y280, y281, y282, y283, y284, y285, List.getElem?_cons_zero, List.getElem?_cons_succ, List.getElem?_nil, List.set_cons_zero, List.set_cons_succ, List.set_nil, Bool.not_true, Bool.not_false, List.length_cons, List.length_nil, List.length_map, if_true, if_false, u_int_NoneType, u_int_bool, u_int_int, u_int_str, u_int_tuple, u_int_list, u_bool_NoneType, u_bool_bool, u_bool_int, u_bool_str, u_bool_tuple, u_bool_list, u_tuple_NoneType, u_tuple_bool, u_tuple_int, u_tuple_str, u_tuple_tuple, u_tuple_list, u_list_NoneType, u_list_bool, u_list_int, u_list_str, u_list_tuple, u_list_list, u_str_NoneType, u_str_bool, u_str_int, u_str_str, u_str_tuple, u_str_list, u_replicate0, List.map_cons, List.map_nil, List.replicate_succ, List.replicate_zero, List.cons_append, List.nil_append, Nat.reduceSub, Nat.reduceAdd, Nat.reduceLeDiff, Nat.reduceLT, Nat.zero_add, Int.reduceLT, Int.reduceLE, decide_true, decide_false, true_and, and_true, and_self, Bool.false_eq_true, List.append_nil, Int.cast_ofNat_Int, Int.natCast_zero, Int.natCast_one, Int.reduceEq, Int.reduceAdd, Int.reduceSub, Int.reduceMul, Int.reduceNeg, Nat.reduceEqDiff, eq_self, Int.toNat_natCast, need_sky_ok h hm hm2, need_int_no s_step (v := -1) (lo := 0) (hi := 1000000000000) (by omega)]
theorem least_bad {d : D} (hb : Fis_sky [d] = .ok (.bl false)) : Fleast_melt [d] = .raise "sky" := by
  simp only [Fleast_melt, mleast_melt, envD, x_var, x_var1, x_c, x_bin, x_un, x_nil, x_cons, x_fn, x_tst, x_val, x_not, x_and, x_or, x_ifE, x_ifS, x_seq, x_next, x_brk, x_cnt, x_ret, x_retO, x_drop, x_asg, x_asgO, x_par, x_own, x_own1, x_own2, x_mut, x_setI, x_rel, x_call, x_callO, x_ap, x_callI, x_callG, x_atO, x_fnI, x_inO, x_part, x_sl, x_chn, x_ref, x_raise, x_it, x_rng1, x_rng2, x_zip, x_for, x_comp, x_all, x_meth, x_aug, x_runD, x_runI, y0, y1, y2, y3, y4, y5, y6, y7, y8, y9, y10, y11, y12, y13, y14, y15, y16, y17, y18, y19, y20, y21, y22, y23, y24, y25, y26, y27, y28, y29, y30, y31, y32, y33, y34, y35, y36, y37, y38, y39, y40, y41, y42, y43, y44, y45, y46, y47, y48, y49, y50, y51, y52, y53, y54, y55, y56, y57, y58, y59, y60, y61, y62, y63, y64, y65, y66, y67, y68, y69, y70, y71, y72, y73, y74, y75, y76, y77, y78, y79, y80, y81, y82, y83, y84, y85, y86, y87, y88, y89, y90, y91, y92, y93, y94, y95, y96, y97, y98, y99, y100, y101, y102, y103, y104, y105, y106, y107, y108, y109, y110, y111, y112, y113, y114, y115, y116, y117, y118, y119, y120, y121, y122, y123, y124, y125, y126, y127, y128, y129, y130, y131, y132, y133, y134, y135, y136, y137, y138, y139, y140, y141, y142, y143, y144, y145, y146, y147, y148, y149, y150, y151, y152, y153, y154, y155, y156, y157, y158, y159, y160, y161, y162, y163, y164, y165, y166, y167, y168, y169, y170, y171, y172, y173, y174, y175, y176, y177, y178, y179, y180, y181, y182, y183, y184, y185, y186, y187, y188, y189, y190, y191, y192, y193, y194, y195, y196, y197, y198, y199, y200, y201, y202, y203, y204, y205, y206, y207, y208, y209, y210, y211, y212, y213, y214, y215, y216, y217, y218, y219, y220, y221, y222, y223, y224, y225, y226, y227, y228, y229, y230, y231, y232, y233, y234, y235, y236, y237, y238, y239, y240, y241, y242, y243, y244, y245, y246, y247, y248, y249, y250, y251, y252, y253, y254, y255, y256, y257, y258, y259, y260, y261, y262, y263, y264, y265, y266, y267, y268, y269, y270, y271, y272, y273, y274, y275, y276, y277, y278, y279, y280, y281, y282, y283, y284, y285, List.getElem?_cons_zero, List.getElem?_cons_succ, List.getElem?_nil, List.set_cons_zero, List.set_cons_succ, List.set_nil, Bool.not_true, Bool.not_false, List.length_cons, List.length_nil, List.length_map, if_true, if_false, u_int_NoneType, u_int_bool, u_int_int, u_int_str, u_int_tuple, u_int_list, u_bool_NoneType, u_bool_bool, u_bool_int, u_bool_str, u_bool_tuple, u_bool_list, u_tuple_NoneType, u_tuple_bool, u_tuple_int, u_tuple_str, u_tuple_tuple, u_tuple_list, u_list_NoneType, u_list_bool, u_list_int, u_list_str, u_list_tuple, u_list_list, u_str_NoneType, u_str_bool, u_str_int, u_str_str, u_str_tuple, u_str_list, u_replicate0, List.map_cons, List.map_nil, List.replicate_succ, List.replicate_zero, List.cons_append, List.nil_append, Nat.reduceSub, Nat.reduceAdd, Nat.reduceLeDiff, Nat.reduceLT, Nat.zero_add, Int.reduceLT, Int.reduceLE, decide_true, decide_false, true_and, and_true, and_self, Bool.false_eq_true, List.append_nil, Int.cast_ofNat_Int, Int.natCast_zero, Int.natCast_one, Int.reduceEq, Int.reduceAdd, Int.reduceSub, Int.reduceMul, Int.reduceNeg, Nat.reduceEqDiff, eq_self, Int.toNat_natCast, need_sky_bad hb]
/-- the deepest: the first of the greatest -/
def Top (S : Sky) (m : Int) (k j : Nat) : Prop := j < k ∧ (∀ i, i < k → S.pk m 0 (i + 1) ≤ S.pk m 0 (j + 1)) ∧ ∀ i, i < j → S.pk m 0 (i + 1) < S.pk m 0 (j + 1)
theorem deep_eq (h : S.Ok) (hm : 0 ≤ m) (hm2 : m ≤ 1000) (hg : ¬ 0 < S.g m) : ∃ j, Top S m (3 * S.n) j ∧ Fdeepest [S.d, .int m] = .ok (.tup [.int (S.pk m 0 (j + 1)), .int (j : Int)]) := by
  have hgt : decide (0 < S.g m) = false := decide_eq_false hg
  have hn : (S.fs.length : Int) = (S.n : Int) := rfl
  have hp := h.pos
  have hf := h.few
  have hr := n_range (n := 3 * S.n) (by omega)
  obtain ⟨ρ, e, x, d, hd, rfl⟩ := forPR (g := gSet 5) (b := b1deepest) (lo := 0) (n := 3 * S.n) (fun i ρ => ∃ x d, ((i = 0 ∧ d = D.non) ∨ ∃ j, Top S m i j ∧ d = .tup [.int (S.pk m 0 (j + 1)), .int (j : Int)]) ∧ ρ = [.im S.d, .im (.int m), .im d, .im (.int (S.pk m 0 i)), .im (.int (S.n : Int)), x])
    (ρ0 := [.im S.d, .im (.int m), .im .non, .im (.int 0), .im (.int (S.n : Int)), .em]) ⟨_, _, .inl ⟨rfl, rfl⟩, rfl⟩ (fun i ρ hi ⟨x, d, hd, hx⟩ => by
    subst hx
    have ez : (0 : Int) + (i : Int) = (i : Int) := by omega
    rcases hd with ⟨rfl, rfl⟩ | ⟨j, ⟨hj1, hj2, hj3⟩, rfl⟩
    · refine ⟨_, [.im S.d, .im (.int m), .im (.tup [.int (S.pk m 0 1), .int ((0 : Nat) : Int)]), .im (.int (S.pk m 0 1)), .im (.int (S.n : Int)), .im (.int ((0 : Nat) : Int))], rfl, .inl ?_, _, _, .inr ⟨0, ⟨by omega, fun i hi => ?_, fun i hi => by omega⟩, rfl⟩, rfl⟩
      · have e0 := one_step_eq h m (S.pk m 0 0) 0
        rw [Int.natCast_zero] at e0
        simp only [b1deepest, x_var, x_var1, x_c, x_bin, x_un, x_nil, x_cons, x_fn, x_tst, x_val, x_not, x_and, x_or, x_ifE, x_ifS, x_seq, x_next, x_brk, x_cnt, x_ret, x_retO, x_drop, x_asg, x_asgO, x_par, x_own, x_own1, x_own2, x_mut, x_setI, x_rel, x_call, x_callO, x_ap, x_callI, x_callG, x_atO, x_fnI, x_inO, x_part, x_sl, x_chn, x_ref, x_raise, x_it, x_rng1, x_rng2, x_zip, x_for, x_comp, x_all, x_meth, x_aug, x_runD, x_runI, y0, y1, y2, y3, y4, y5, y6, y7, y8, y9, y10, y11, y12, y13, y14, y15, y16, y17, y18, y19, y20, y21, y22, y23, y24, y25, y26, y27, y28, y29, y30, y31, y32, y33, y34, y35, y36, y37, y38, y39, y40, y41, y42, y43, y44, y45, y46, y47, y48, y49, y50, y51, y52, y53, y54, y55, y56, y57, y58, y59, y60, y61, y62, y63, y64, y65, y66, y67, y68, y69, y70, y71, y72, y73, y74, y75, y76, y77, y78, y79, y80, y81, y82, y83, y84, y85, y86, y87, y88, y89, y90, y91, y92, y93, y94, y95, y96, y97, y98, y99, y100, y101, y102, y103, y104, y105, y106, y107, y108, y109, y110, y111, y112, y113, y114, y115, y116, y117, y118, y119, y120, y121, y122, y123, y124, y125, y126, y127, y128, y129, y130, y131, y132, y133, y134, y135, y136, y137, y138, y139, y140, y141, y142, y143, y144, y145, y146, y147, y148, y149, y150, y151, y152, y153, y154, y155, y156, y157, y158, y159, y160, y161, y162, y163, y164, y165, y166, y167, y168, y169, y170, y171, y172, y173, y174, y175, y176, y177, y178, y179, y180, y181, y182, y183, y184, y185, y186, y187, y188, y189, y190, y191, y192, y193, y194, y195, y196, y197, y198, y199, y200, y201, y202, y203, y204, y205, y206, y207, y208, y209, y210, y211, y212, y213, y214, y215, y216, y217, y218, y219, y220, y221, y222, y223, y224, y225, y226, y227, y228, y229, y230, y231, y232, y233, y234, y235, y236, y237, y238, y239, y240, y241, y242, y243, y244, y245, y246, y247, y248, y249, y250, y251, y252, y253, y254, y255, y256, y257, y258, y259, y260, y261, y262, y263, y264, y265, y266, y267, y268, y269, y270, y271, y272, y273, y274, y275, y276, y277, y278, y279, y280, y281, y282, y283, y284, y285, List.getElem?_cons_zero, List.getElem?_cons_succ, List.getElem?_nil, List.set_cons_zero, List.set_cons_succ, List.set_nil, Bool.not_true, Bool.not_false, List.length_cons, List.length_nil, List.length_map, if_true, if_false, u_int_NoneType, u_int_bool, u_int_int, u_int_str, u_int_tuple, u_int_list, u_bool_NoneType, u_bool_bool, u_bool_int, u_bool_str, u_bool_tuple, u_bool_list, u_tuple_NoneType, u_tuple_bool, u_tuple_int, u_tuple_str, u_tuple_tuple, u_tuple_list, u_list_NoneType, u_list_bool, u_list_int, u_list_str, u_list_tuple, u_list_list, u_str_NoneType, u_str_bool, u_str_int, u_str_str, u_str_tuple, u_str_list, u_replicate0, List.map_cons, List.map_nil, List.replicate_succ, List.replicate_zero, List.cons_append, List.nil_append, Nat.reduceSub, Nat.reduceAdd, Nat.reduceLeDiff, Nat.reduceLT, Nat.zero_add, Int.reduceLT, Int.reduceLE, decide_true, decide_false, true_and, and_true, and_self, Bool.false_eq_true, List.append_nil, Int.cast_ofNat_Int, Int.natCast_zero, Int.natCast_one, Int.reduceEq, Int.reduceAdd, Int.reduceSub, Int.reduceMul, Int.reduceNeg, Nat.reduceEqDiff, eq_self, Int.toNat_natCast, ez, e0, atI_z, pk_succ, Int.zero_add]
      · have : i = 0 := by omega
        subst this
        exact Int.le_refl _
    · have e0 := one_step_eq h m (S.pk m 0 i) i
      by_cases c : S.pk m 0 (j + 1) < S.pk m 0 (i + 1)
      · refine ⟨_, [.im S.d, .im (.int m), .im (.tup [.int (S.pk m 0 (i + 1)), .int (i : Int)]), .im (.int (S.pk m 0 (i + 1))), .im (.int (S.n : Int)), .im (.int (i : Int))], rfl, .inl ?_, _, _, .inr ⟨i, ⟨by omega, fun k hk => ?_, fun k hk => ?_⟩, rfl⟩, rfl⟩
        · have c' : S.pk m 0 (j + 1) < S.go m i (S.pk m 0 i) := c
          simp only [b1deepest, x_var, x_var1, x_c, x_bin, x_un, x_nil, x_cons, x_fn, x_tst, x_val, x_not, x_and, x_or, x_ifE, x_ifS, x_seq, x_next, x_brk, x_cnt, x_ret, x_retO, x_drop, x_asg, x_asgO, x_par, x_own, x_own1, x_own2, x_mut, x_setI, x_rel, x_call, x_callO, x_ap, x_callI, x_callG, x_atO, x_fnI, x_inO, x_part, x_sl, x_chn, x_ref, x_raise, x_it, x_rng1, x_rng2, x_zip, x_for, x_comp, x_all, x_meth, x_aug, x_runD, x_runI, y0, y1, y2, y3, y4, y5, y6, y7, y8, y9, y10, y11, y12, y13, y14, y15, y16, y17, y18, y19, y20, y21, y22, y23, y24, y25, y26, y27, y28, y29, y30, y31, y32, y33, y34, y35, y36, y37, y38, y39, y40, y41, y42, y43, y44, y45, y46, y47, y48, y49, y50, y51, y52, y53, y54, y55, y56, y57, y58, y59, y60, y61, y62, y63, y64, y65, y66, y67, y68, y69, y70, y71, y72, y73, y74, y75, y76, y77, y78, y79, y80, y81, y82, y83, y84, y85, y86, y87, y88, y89, y90, y91, y92, y93, y94, y95, y96, y97, y98, y99, y100, y101, y102, y103, y104, y105, y106, y107, y108, y109, y110, y111, y112, y113, y114, y115, y116, y117, y118, y119, y120, y121, y122, y123, y124, y125, y126, y127, y128, y129, y130, y131, y132, y133, y134, y135, y136, y137, y138, y139, y140, y141, y142, y143, y144, y145, y146, y147, y148, y149, y150, y151, y152, y153, y154, y155, y156, y157, y158, y159, y160, y161, y162, y163, y164, y165, y166, y167, y168, y169, y170, y171, y172, y173, y174, y175, y176, y177, y178, y179, y180, y181, y182, y183, y184, y185, y186, y187, y188, y189, y190, y191, y192, y193, y194, y195, y196, y197, y198, y199, y200, y201, y202, y203, y204, y205, y206, y207, y208, y209, y210, y211, y212, y213, y214, y215, y216, y217, y218, y219, y220, y221, y222, y223, y224, y225, y226, y227, y228, y229, y230, y231, y232, y233, y234, y235, y236, y237, y238, y239, y240, y241, y242, y243, y244, y245, y246, y247, y248, y249, y250, y251, y252, y253, y254, y255, y256, y257, y258, y259, y260, y261, y262, y263, y264, y265, y266, y267, y268, y269, y270, y271, y272, y273, y274, y275, y276, y277, y278, y279, y280, y281, y282, y283, y284, y285, List.getElem?_cons_zero, List.getElem?_cons_succ, List.getElem?_nil, List.set_cons_zero, List.set_cons_succ, List.set_nil, Bool.not_true, Bool.not_false, List.length_cons, List.length_nil, List.length_map, if_true, if_false, u_int_NoneType, u_int_bool, u_int_int, u_int_str, u_int_tuple, u_int_list, u_bool_NoneType, u_bool_bool, u_bool_int, u_bool_str, u_bool_tuple, u_bool_list, u_tuple_NoneType, u_tuple_bool, u_tuple_int, u_tuple_str, u_tuple_tuple, u_tuple_list, u_list_NoneType, u_list_bool, u_list_int, u_list_str, u_list_tuple, u_list_list, u_str_NoneType, u_str_bool, u_str_int, u_str_str, u_str_tuple, u_str_list, u_replicate0, List.map_cons, List.map_nil, List.replicate_succ, List.replicate_zero, List.cons_append, List.nil_append, Nat.reduceSub, Nat.reduceAdd, Nat.reduceLeDiff, Nat.reduceLT, Nat.zero_add, Int.reduceLT, Int.reduceLE, decide_true, decide_false, true_and, and_true, and_self, Bool.false_eq_true, List.append_nil, Int.cast_ofNat_Int, Int.natCast_zero, Int.natCast_one, Int.reduceEq, Int.reduceAdd, Int.reduceSub, Int.reduceMul, Int.reduceNeg, Nat.reduceEqDiff, eq_self, Int.toNat_natCast, ez, e0, atI_z, c']
          rfl
        · by_cases ek : k = i
          · subst ek; exact Int.le_refl _
          · have := hj2 k (by omega); omega
        · have := hj2 k hk; omega
      · refine ⟨_, [.im S.d, .im (.int m), .im (.tup [.int (S.pk m 0 (j + 1)), .int (j : Int)]), .im (.int (S.pk m 0 (i + 1))), .im (.int (S.n : Int)), .im (.int (i : Int))], rfl, .inl ?_, _, _, .inr ⟨j, ⟨by omega, fun k hk => ?_, hj3⟩, rfl⟩, rfl⟩
        · have c' : ¬ S.pk m 0 (j + 1) < S.go m i (S.pk m 0 i) := c
          simp only [b1deepest, x_var, x_var1, x_c, x_bin, x_un, x_nil, x_cons, x_fn, x_tst, x_val, x_not, x_and, x_or, x_ifE, x_ifS, x_seq, x_next, x_brk, x_cnt, x_ret, x_retO, x_drop, x_asg, x_asgO, x_par, x_own, x_own1, x_own2, x_mut, x_setI, x_rel, x_call, x_callO, x_ap, x_callI, x_callG, x_atO, x_fnI, x_inO, x_part, x_sl, x_chn, x_ref, x_raise, x_it, x_rng1, x_rng2, x_zip, x_for, x_comp, x_all, x_meth, x_aug, x_runD, x_runI, y0, y1, y2, y3, y4, y5, y6, y7, y8, y9, y10, y11, y12, y13, y14, y15, y16, y17, y18, y19, y20, y21, y22, y23, y24, y25, y26, y27, y28, y29, y30, y31, y32, y33, y34, y35, y36, y37, y38, y39, y40, y41, y42, y43, y44, y45, y46, y47, y48, y49, y50, y51, y52, y53, y54, y55, y56, y57, y58, y59, y60, y61, y62, y63, y64, y65, y66, y67, y68, y69, y70, y71, y72, y73, y74, y75, y76, y77, y78, y79, y80, y81, y82, y83, y84, y85, y86, y87, y88, y89, y90, y91, y92, y93, y94, y95, y96, y97, y98, y99, y100, y101, y102, y103, y104, y105, y106, y107, y108, y109, y110, y111, y112, y113, y114, y115, y116, y117, y118, y119, y120, y121, y122, y123, y124, y125, y126, y127, y128, y129, y130, y131, y132, y133, y134, y135, y136, y137, y138, y139, y140, y141, y142, y143, y144, y145, y146, y147, y148, y149, y150, y151, y152, y153, y154, y155, y156, y157, y158, y159, y160, y161, y162, y163, y164, y165, y166, y167, y168, y169, y170, y171, y172, y173, y174, y175, y176, y177, y178, y179, y180, y181, y182, y183, y184, y185, y186, y187, y188, y189, y190, y191, y192, y193, y194, y195, y196, y197, y198, y199, y200, y201, y202, y203, y204, y205, y206, y207, y208, y209, y210, y211, y212, y213, y214, y215, y216, y217, y218, y219, y220, y221, y222, y223, y224, y225, y226, y227, y228, y229, y230, y231, y232, y233, y234, y235, y236, y237, y238, y239, y240, y241, y242, y243, y244, y245, y246, y247, y248, y249, y250, y251, y252, y253, y254, y255, y256, y257, y258, y259, y260, y261, y262, y263, y264, y265, y266, y267, y268, y269, y270, y271, y272, y273, y274, y275, y276, y277, y278, y279, y280, y281, y282, y283, y284, y285, List.getElem?_cons_zero, List.getElem?_cons_succ, List.getElem?_nil, List.set_cons_zero, List.set_cons_succ, List.set_nil, Bool.not_true, Bool.not_false, List.length_cons, List.length_nil, List.length_map, if_true, if_false, u_int_NoneType, u_int_bool, u_int_int, u_int_str, u_int_tuple, u_int_list, u_bool_NoneType, u_bool_bool, u_bool_int, u_bool_str, u_bool_tuple, u_bool_list, u_tuple_NoneType, u_tuple_bool, u_tuple_int, u_tuple_str, u_tuple_tuple, u_tuple_list, u_list_NoneType, u_list_bool, u_list_int, u_list_str, u_list_tuple, u_list_list, u_str_NoneType, u_str_bool, u_str_int, u_str_str, u_str_tuple, u_str_list, u_replicate0, List.map_cons, List.map_nil, List.replicate_succ, List.replicate_zero, List.cons_append, List.nil_append, Nat.reduceSub, Nat.reduceAdd, Nat.reduceLeDiff, Nat.reduceLT, Nat.zero_add, Int.reduceLT, Int.reduceLE, decide_true, decide_false, true_and, and_true, and_self, Bool.false_eq_true, List.append_nil, Int.cast_ofNat_Int, Int.natCast_zero, Int.natCast_one, Int.reduceEq, Int.reduceAdd, Int.reduceSub, Int.reduceMul, Int.reduceNeg, Nat.reduceEqDiff, eq_self, Int.toNat_natCast, ez, e0, atI_z, c']
          rfl
        · by_cases ek : k = i
          · subst ek; omega
          · exact hj2 k (by omega))
  rcases hd with ⟨e0, _⟩ | ⟨j, hj, rfl⟩
  · omega
  · have e3 : (3 : Int) * (S.n : Int) = ((3 * S.n : Nat) : Int) := by omega
    have hmo : (3 : Int).natAbs.log2 + (S.n : Int).natAbs.log2 < 1000000 := mul_ok (small64 (by omega) (by omega)) (small64 (by omega) (by omega))
    refine ⟨j, hj, ?_⟩
    simp only [Fdeepest, mdeepest, envD, x_var, x_var1, x_c, x_bin, x_un, x_nil, x_cons, x_fn, x_tst, x_val, x_not, x_and, x_or, x_ifE, x_ifS, x_seq, x_next, x_brk, x_cnt, x_ret, x_retO, x_drop, x_asg, x_asgO, x_par, x_own, x_own1, x_own2, x_mut, x_setI, x_rel, x_call, x_callO, x_ap, x_callI, x_callG, x_atO, x_fnI, x_inO, x_part, x_sl, x_chn, x_ref, x_raise, x_it, x_rng1, x_rng2, x_zip, x_for, x_comp, x_all, x_meth, x_aug, x_runD, x_runI, y0, y1, y2, y3, y4, y5, y6, y7, y8, y9, y10, y11, y12, y13, y14, y15, y16, y17, y18, y19, y20, y21, y22, y23, y24, y25, y26, y27, y28, y29, y30, y31, y32, y33, y34, y35, y36, y37, y38, y39, y40, y41, y42, y43, y44, y45, y46, y47, y48, y49, y50, y51, y52, y53, y54, y55, y56, y57, y58, y59, y60, y61, y62, y63, y64, y65, y66, y67, y68, y69, y70, y71, y72, y73, y74, y75, y76, y77, y78, y79, y80, y81, y82, y83, y84, y85, y86, y87, y88, y89, y90, y91, y92, y93, y94, y95, y96, y97, y98, y99, y100, y101, y102, y103, y104, y105, y106, y107, y108, y109, y110, y111, y112, y113, y114, y115, y116, y117, y118, y119, y120, y121, y122, y123, y124, y125, y126, y127, y128, y129, y130, y131, y132, y133, y134, y135, y136, y137, y138, y139, y140, y141, y142, y143, y144, y145, y146, y147, y148, y149, y150, y151, y152, y153, y154, y155, y156, y157, y158, y159, y160, y161, y162, y163, y164, y165, y166, y167, y168, y169, y170, y171, y172, y173, y174, y175, y176, y177, y178, y179, y180, y181, y182, y183, y184, y185, y186, y187, y188, y189, y190, y191, y192, y193, y194, y195, y196, y197, y198, y199, y200, y201, y202, y203, y204, y205, y206, y207, y208, y209, y210, y211, y212, y213, y214, y215, y216, y217, y218, y219, y220, y221, y222, y223, y224, y225, y226, y227, y228, y229, y230, y231, y232, y233, y234, y235, y236, y237, y238, y239, y240, y241, y242, y243, y244, y245, y246, y247, y248, y249, y250, y251, y252, y253, y254, y255, y256, y257, y258, y259, y260, y261, y262, y263, y264, y265, y266, y267, y268, y269, y270, y271, y272, y273, y274, y275, y276, y277, y278, y279, y280, y281, y282, y283, y284, y285, List.getElem?_cons_zero, List.getElem?_cons_succ, List.getElem?_nil, List.set_cons_zero, List.set_cons_succ, List.set_nil, Bool.not_true, Bool.not_false, List.length_cons, List.length_nil, List.length_map, if_true, if_false, u_int_NoneType, u_int_bool, u_int_int, u_int_str, u_int_tuple, u_int_list, u_bool_NoneType, u_bool_bool, u_bool_int, u_bool_str, u_bool_tuple, u_bool_list, u_tuple_NoneType, u_tuple_bool, u_tuple_int, u_tuple_str, u_tuple_tuple, u_tuple_list, u_list_NoneType, u_list_bool, u_list_int, u_list_str, u_list_tuple, u_list_list, u_str_NoneType, u_str_bool, u_str_int, u_str_str, u_str_tuple, u_str_list, u_replicate0, List.map_cons, List.map_nil, List.replicate_succ, List.replicate_zero, List.cons_append, List.nil_append, Nat.reduceSub, Nat.reduceAdd, Nat.reduceLeDiff, Nat.reduceLT, Nat.zero_add, Int.reduceLT, Int.reduceLE, decide_true, decide_false, true_and, and_true, and_self, Bool.false_eq_true, List.append_nil, Int.cast_ofNat_Int, Int.natCast_zero, Int.natCast_one, Int.reduceEq, Int.reduceAdd, Int.reduceSub, Int.reduceMul, Int.reduceNeg, Nat.reduceEqDiff, eq_self, Int.toNat_natCast, grows_eq h hm hm2, hgt, at0, hn, hmo, e3, hr, e]
end
end K19
set_option Elab.async false
set_option linter.all false
set_option maxRecDepth 100000
set_option maxHeartbeats 4000000
/-! K19U: far steps, the least melt. -/
namespace K19
open PySem PySem.Spec PyProof.Rows L2 RZ RK
theorem big_range {n : Nat} (h : n ≤ 2000000000000) : -(2 ^ 62) ≤ ((n : Nat) : Int) ∧ ((n : Nat) : Int) < 2 ^ 62 := by
  have e : (2 : Int) ^ 62 = 4611686018427387904 := by decide
  rw [e]
  omega
section
variable {S : Sky} {m p : Int}
theorem cold_le : ∀ {fs : List Int} {cs : List Bool}, (∀ x ∈ fs, 0 ≤ x ∧ x ≤ 200) → (coldL fs cs).sum ≤ 200 * (fs.length : Int)
  | f :: fs, c :: cs, h => by
    have ih := cold_le (fs := fs) (cs := cs) fun x hx => h x (List.mem_cons_of_mem _ hx)
    have h0 := h f List.mem_cons_self
    unfold coldL
    rw [List.length_cons]
    split
    · rw [List.sum_cons]; omega
    · omega
  | [], _, _ => by unfold coldL; simp
  | _ :: _, [], _ => by unfold coldL; simp; omega
theorem Sky.g_le (h : S.Ok) (hm : 0 ≤ m) : S.g m ≤ 4800 := by
  have e : S.g m = (coldL S.fs S.cs).sum - m * (warmN S.cs : Int) := dl_sum m h.len
  have c := cold_le (fs := S.fs) (cs := S.cs) h.lo
  have hw : 0 ≤ m * (warmN S.cs : Int) := Int.mul_nonneg hm (by omega)
  have hn : S.fs.length ≤ 24 := h.few
  omega
theorem walk1 (h : S.Ok) (s c : Nat) (z0 z1 z2 z3 z4 z5 z6 z7 z8 : Sl) : ∃ x, mForL (gSet 6) b1pack_at (rngD (s : Int) c) [.im S.d, .im (.int m), z0, z1, .im (.int (S.pk m p s)), z2, z3, z4, z5, z6, z7] = .next [.im S.d, .im (.int m), z0, z1, .im (.int (S.pk m p (s + c))), z2, x, z4, z5, z6, z7] := by
  obtain ⟨ρ, e, x, rfl⟩ := forPR (g := gSet 6) (b := b1pack_at) (lo := (s : Int)) (n := c) (fun i ρ => ∃ x, ρ = [.im S.d, .im (.int m), z0, z1, .im (.int (S.pk m p (s + i))), z2, x, z4, z5, z6, z7]) (ρ0 := [.im S.d, .im (.int m), z0, z1, .im (.int (S.pk m p s)), z2, z3, z4, z5, z6, z7]) ⟨_, rfl⟩ (fun i ρ hi ⟨x, hx⟩ => by
    subst hx
    have e0 := one_step_eq h m (S.pk m p (s + i)) (s + i)
    have ez : (s : Int) + (i : Int) = ((s + i : Nat) : Int) := by omega
    refine ⟨_, _, rfl, .inl ?_, .im (.int ((s + i : Nat) : Int)), rfl⟩
    simp only [b1pack_at, x_var, x_var1, x_c, x_bin, x_un, x_nil, x_cons, x_fn, x_tst, x_val, x_not, x_and, x_or, x_ifE, x_ifS, x_seq, x_next, x_brk, x_cnt, x_ret, x_retO, x_drop, x_asg, x_asgO, x_par, x_own, x_own1, x_own2, x_mut, x_setI, x_rel, x_call, x_callO, x_ap, x_callI, x_callG, x_atO, x_fnI, x_inO, x_part, x_sl, x_chn, x_ref, x_raise, x_it, x_rng1, x_rng2, x_zip, x_for, x_comp, x_all, x_meth, x_aug, x_runD, x_runI, y0, y1, y2, y3, y4, y5, y6, y7, y8, y9, y10, y11, y12, y13, y14, y15, y16, y17, y18, y19, y20, y21, y22, y23, y24, y25, y26, y27, y28, y29, y30, y31, y32, y33, y34, y35, y36, y37, y38, y39, y40, y41, y42, y43, y44, y45, y46, y47, y48, y49, y50, y51, y52, y53, y54, y55, y56, y57, y58, y59, y60, y61, y62, y63, y64, y65, y66, y67, y68, y69, y70, y71, y72, y73, y74, y75, y76, y77, y78, y79, y80, y81, y82, y83, y84, y85, y86, y87, y88, y89, y90, y91, y92, y93, y94, y95, y96, y97, y98, y99, y100, y101, y102, y103, y104, y105, y106, y107, y108, y109, y110, y111, y112, y113, y114, y115, y116, y117, y118, y119, y120, y121, y122, y123, y124, y125, y126, y127, y128, y129, y130, y131, y132, y133, y134, y135, y136, y137, y138, y139, y140, y141, y142, y143, y144, y145, y146, y147, y148, y149, y150, y151, y152, y153, y154, y155, y156, y157, y158, y159, y160, y161, y162, y163, y164, y165, y166, y167, y168, y169, y170, y171, y172, y173, y174, y175, y176, y177, y178, y179, y180, y181, y182, y183, y184, y185, y186, y187, y188, y189, y190, y191, y192, y193, y194, y195, y196, y197, y198, y199, y200, y201, y202, y203, y204, y205, y206, y207, y208, y209, y210, y211, y212, y213, y214, y215, y216, y217, y218, y219, y220, y221, y222, y223, y224, y225, y226, y227, y228, y229, y230, y231, y232, y233, y234, y235, y236, y237, y238, y239, y240, y241, y242, y243, y244, y245, y246, y247, y248, y249, y250, y251, y252, y253, y254, y255, y256, y257, y258, y259, y260, y261, y262, y263, y264, y265, y266, y267, y268, y269, y270, y271, y272, y273, y274, y275, y276, y277, y278, y279, y280, y281, y282, y283, y284, y285, List.getElem?_cons_zero, List.getElem?_cons_succ, List.getElem?_nil, List.set_cons_zero, List.set_cons_succ, List.set_nil, Bool.not_true, Bool.not_false, List.length_cons, List.length_nil, List.length_map, if_true, if_false, u_int_NoneType, u_int_bool, u_int_int, u_int_str, u_int_tuple, u_int_list, u_bool_NoneType, u_bool_bool, u_bool_int, u_bool_str, u_bool_tuple, u_bool_list, u_tuple_NoneType, u_tuple_bool, u_tuple_int, u_tuple_str, u_tuple_tuple, u_tuple_list, u_list_NoneType, u_list_bool, u_list_int, u_list_str, u_list_tuple, u_list_list, u_str_NoneType, u_str_bool, u_str_int, u_str_str, u_str_tuple, u_str_list, u_replicate0, List.map_cons, List.map_nil, List.replicate_succ, List.replicate_zero, List.cons_append, List.nil_append, Nat.reduceSub, Nat.reduceAdd, Nat.reduceLeDiff, Nat.reduceLT, Nat.zero_add, Int.reduceLT, Int.reduceLE, decide_true, decide_false, true_and, and_true, and_self, Bool.false_eq_true, List.append_nil, Int.cast_ofNat_Int, Int.natCast_zero, Int.natCast_one, Int.reduceEq, Int.reduceAdd, Int.reduceSub, Int.reduceMul, Int.reduceNeg, Nat.reduceEqDiff, eq_self, Int.toNat_natCast, ez, e0, atI_z]
    rfl)
  exact ⟨x, e⟩
theorem walk3 (h : S.Ok) (s c : Nat) (z0 z1 z2 z3 z4 z5 z6 z7 z8 : Sl) : ∃ x, mForL (gSet 6) b3pack_at (rngD (s : Int) c) [.im S.d, .im (.int m), z0, z1, .im (.int (S.pk m p s)), z2, z3, z4, z5, z6, z7] = .next [.im S.d, .im (.int m), z0, z1, .im (.int (S.pk m p (s + c))), z2, x, z4, z5, z6, z7] := walk1 h s c z0 z1 z2 z3 z4 z5 z6 z7 z8
theorem rounds4 (h : S.Ok) (z0 : Sl) : ∃ x, mForL (gSet 8) b2pack_at (rngD 0 3) [.im S.d, .im (.int m), z0, .im (.int (S.n : Int)), .em, .em, .em, .ow (.lst [.int 0]), .em, .em, .em] =
    .next [.im S.d, .im (.int m), z0, .im (.int (S.n : Int)), .em, .em, .em, .ow (.lst [.int (S.pk m 0 (0 * S.n)), .int (S.pk m 0 (1 * S.n)), .int (S.pk m 0 (2 * S.n)), .int (S.pk m 0 (3 * S.n))]), x, .em, .em] := by
  have pn : ∀ k : Nat, S.pk m (S.pk m 0 (k * S.n)) S.n = S.pk m 0 ((k + 1) * S.n) := fun k => by
    rw [Nat.add_mul, Nat.one_mul, S.pk_per]
  have p0 : S.pk m 0 (0 * S.n) = 0 := by rw [Nat.zero_mul]; rfl
  have p1 := pn 0
  have p2 := pn 1
  have p3 := pn 2
  rw [p0] at p1
  have e : rngD 0 3 = [.int 0, .int 1, .int 2] := rfl
  have l1 : ∀ {p : Int}, atI (S.rw m p S.n) ((S.n : Int) - 1) = some (D.tup [.int (S.pk m p S.n), .int (S.off m (S.n - 1) (S.pk m p (S.n - 1)))]) := fun {p} => last_at h
  refine ⟨.im (.int 2), ?_⟩
  have turn : ∀ (k : Int) (L : List D) (q : Int), atI L k = some (.int q) → L.length < 16000000 → b2pack_at [.im S.d, .im (.int m), z0, .im (.int (S.n : Int)), .em, .em, .em, .ow (.lst L), .im (.int k), .em, .em] = .next [.im S.d, .im (.int m), z0, .im (.int (S.n : Int)), .em, .em, .em, .ow (.lst (L ++ [.int (S.pk m q S.n)])), .im (.int k), .em, .em] := by
    intro k L q hk hl
    simp only [b2pack_at, x_var, x_var1, x_c, x_bin, x_un, x_nil, x_cons, x_fn, x_tst, x_val, x_not, x_and, x_or, x_ifE, x_ifS, x_seq, x_next, x_brk, x_cnt, x_ret, x_retO, x_drop, x_asg, x_asgO, x_par, x_own, x_own1, x_own2, x_mut, x_setI, x_rel, x_call, x_callO, x_ap, x_callI, x_callG, x_atO, x_fnI, x_inO, x_part, x_sl, x_chn, x_ref, x_raise, x_it, x_rng1, x_rng2, x_zip, x_for, x_comp, x_all, x_meth, x_aug, x_runD, x_runI, y0, y1, y2, y3, y4, y5, y6, y7, y8, y9, y10, y11, y12, y13, y14, y15, y16, y17, y18, y19, y20, y21, y22, y23, y24, y25, y26, y27, y28, y29, y30, y31, y32, y33, y34, y35, y36, y37, y38, y39, y40, y41, y42, y43, y44, y45, y46, y47, y48, y49, y50, y51, y52, y53, y54, y55, y56, y57, y58, y59, y60, y61, y62, y63, y64, y65, y66, y67, y68, y69, y70, y71, y72, y73, y74, y75, y76, y77, y78, y79, y80, y81, y82, y83, y84, y85, y86, y87, y88, y89, y90, y91, y92, y93, y94, y95, y96, y97, y98, y99, y100, y101, y102, y103, y104, y105, y106, y107, y108, y109, y110, y111, y112, y113, y114, y115, y116, y117, y118, y119, y120, y121, y122, y123, y124, y125, y126, y127, y128, y129, y130, y131, y132, y133, y134, y135, y136, y137, y138, y139, y140, y141, y142, y143, y144, y145, y146, y147, y148, y149, y150, y151, y152, y153, y154, y155, y156, y157, y158, y159, y160, y161, y162, y163, y164, y165, y166, y167, y168, y169, y170, y171, y172, y173, y174, y175, y176, y177, y178, y179, y180, y181, y182, y183, y184, y185, y186, y187, y188, y189, y190, y191, y192, y193, y194, y195, y196, y197, y198, y199, y200, y201, y202, y203, y204, y205, y206, y207, y208, y209, y210, y211, y212, y213, y214, y215, y216, y217, y218, y219, y220, y221, y222, y223, y224, y225, y226, y227, y228, y229, y230, y231, y232, y233, y234, y235, y236, y237, y238, y239, y240, y241, y242, y243, y244, y245, y246, y247, y248, y249, y250, y251, y252, y253, y254, y255, y256, y257, y258, y259, y260, y261, y262, y263, y264, y265, y266, y267, y268, y269, y270, y271, y272, y273, y274, y275, y276, y277, y278, y279, y280, y281, y282, y283, y284, y285, List.getElem?_cons_zero, List.getElem?_cons_succ, List.getElem?_nil, List.set_cons_zero, List.set_cons_succ, List.set_nil, Bool.not_true, Bool.not_false, List.length_cons, List.length_nil, List.length_map, if_true, if_false, u_int_NoneType, u_int_bool, u_int_int, u_int_str, u_int_tuple, u_int_list, u_bool_NoneType, u_bool_bool, u_bool_int, u_bool_str, u_bool_tuple, u_bool_list, u_tuple_NoneType, u_tuple_bool, u_tuple_int, u_tuple_str, u_tuple_tuple, u_tuple_list, u_list_NoneType, u_list_bool, u_list_int, u_list_str, u_list_tuple, u_list_list, u_str_NoneType, u_str_bool, u_str_int, u_str_str, u_str_tuple, u_str_list, u_replicate0, List.map_cons, List.map_nil, List.replicate_succ, List.replicate_zero, List.cons_append, List.nil_append, Nat.reduceSub, Nat.reduceAdd, Nat.reduceLeDiff, Nat.reduceLT, Nat.zero_add, Int.reduceLT, Int.reduceLE, decide_true, decide_false, true_and, and_true, and_self, Bool.false_eq_true, List.append_nil, Int.cast_ofNat_Int, Int.natCast_zero, Int.natCast_one, Int.reduceEq, Int.reduceAdd, Int.reduceSub, Int.reduceMul, Int.reduceNeg, Nat.reduceEqDiff, eq_self, Int.toNat_natCast, hk, rounds_from_eq h, l1, atI_z, hl]
  rw [e]
  rw [forC (ρ1 := [.im S.d, .im (.int m), z0, .im (.int (S.n : Int)), .em, .em, .em, .ow (.lst [.int 0]), .im (.int 0), .em, .em]) rfl (turn 0 _ 0 atI_z (by simp)), p1]
  rw [forC (ρ1 := [.im S.d, .im (.int m), z0, .im (.int (S.n : Int)), .em, .em, .em, .ow (.lst [.int 0, .int (S.pk m 0 ((0 + 1) * S.n))]), .im (.int 1), .em, .em]) rfl (turn 1 _ _ atI_one (by simp)), p2]
  rw [forC (ρ1 := [.im S.d, .im (.int m), z0, .im (.int (S.n : Int)), .em, .em, .em, .ow (.lst [.int 0, .int (S.pk m 0 ((0 + 1) * S.n)), .int (S.pk m 0 ((1 + 1) * S.n))]), .im (.int 2), .em, .em]) rfl (turn 2 _ _ atI_two (by simp)), p3, p0, forN]
  rfl
theorem pack_eq (h : S.Ok) (hm : 0 ≤ m) (hm2 : m ≤ 1000) {t : Nat} (ht : t ≤ 1000000000000) : Fpack_at [S.d, .int m, .int (t : Int)] = .ok (.int (S.pk m 0 t)) := by
  have hn : (S.fs.length : Int) = (S.n : Int) := rfl
  have hp := h.pos
  have hf := h.few
  have hi : Fneed_integer [.int (t : Int), .str "step", .int 0, .int 1000000000000] = .ok .non := need_int_ok (by omega) (by omega)
  have hnp : (0 : Int) < (S.n : Int) := by omega
  have hnl : (S.n : Int).natAbs.log2 < 9000 := Nat.lt_trans (log_lt (small64 (by omega) (by omega))) (by decide)
  have hqt0 : t / S.n * S.n ≤ t := Nat.div_mul_le_self t S.n
  have hql0 : t / S.n ≤ t := Nat.div_le_self t S.n
  have hq0 : (t : Int) / (S.n : Int) = ((t / S.n : Nat) : Int) := by rw [Int.natCast_ediv]
  obtain ⟨q, hq, hqt, hql⟩ : ∃ q : Nat, (t : Int) / (S.n : Int) = (q : Int) ∧ q * S.n ≤ t ∧ q ≤ t := ⟨_, hq0, hqt0, hql0⟩
  have hcast : (q : Int) * (S.n : Int) = ((q * S.n : Nat) : Int) := by rw [Int.natCast_mul]
  have hmo : (q : Int).natAbs.log2 + (S.n : Int).natAbs.log2 < 1000000 := mul_ok (small64 (by omega) (by omega)) (small64 (by omega) (by omega))
  have hrt := big_range (n := t) (by omega)
  have hrb := big_range (n := q * S.n) (by omega)
  have hsub : ((t : Int) - ((q * S.n : Nat) : Int)).toNat = t - q * S.n := by omega
  have hback : q * S.n + (t - q * S.n) = t := by omega
  by_cases hg : 0 < S.g m
  · have hgt : decide (0 < S.g m) = true := decide_eq_true hg
    have hr3 : -(2 ^ 62) ≤ (3 : Int) ∧ (3 : Int) < 2 ^ 62 := by decide
    have h3 : (3 : Int).toNat = 3 := rfl
    obtain ⟨x, e⟩ := rounds4 (S := S) (m := m) h (.im (.int (t : Int)))
    by_cases c : q < 3
    · have c' : (q : Int) < 3 := by omega
      have ha : atI [D.int (S.pk m 0 (0 * S.n)), .int (S.pk m 0 (1 * S.n)), .int (S.pk m 0 (2 * S.n)), .int (S.pk m 0 (3 * S.n))] (q : Int) = some (.int (S.pk m 0 (q * S.n))) := by
        refine atN ?_
        have : q = 0 ∨ q = 1 ∨ q = 2 := by omega
        rcases this with e | e | e <;> rw [e] <;> rfl
      obtain ⟨z, w⟩ := walk3 (S := S) (m := m) (p := 0) h (q * S.n) (t - q * S.n) (.im (.int (t : Int))) (.im (.int (S.n : Int))) .em .em (.im (.lst [D.int (S.pk m 0 (0 * S.n)), .int (S.pk m 0 (1 * S.n)), .int (S.pk m 0 (2 * S.n)), .int (S.pk m 0 (3 * S.n))])) x (.im (.int (q : Int))) (.im (.int (S.pk m 0 (3 * S.n) - S.pk m 0 (2 * S.n)))) .em
      rw [hback] at w
      simp only [Fpack_at, mpack_at, envD, x_var, x_var1, x_c, x_bin, x_un, x_nil, x_cons, x_fn, x_tst, x_val, x_not, x_and, x_or, x_ifE, x_ifS, x_seq, x_next, x_brk, x_cnt, x_ret, x_retO, x_drop, x_asg, x_asgO, x_par, x_own, x_own1, x_own2, x_mut, x_setI, x_rel, x_call, x_callO, x_ap, x_callI, x_callG, x_atO, x_fnI, x_inO, x_part, x_sl, x_chn, x_ref, x_raise, x_it, x_rng1, x_rng2, x_zip, x_for, x_comp, x_all, x_meth, x_aug, x_runD, x_runI, y0, y1, y2, y3, y4, y5, y6, y7, y8, y9, y10, y11, y12, y13, y14, y15, y16, y17, y18, y19, y20, y21, y22, y23, y24, y25, y26, y27, y28, y29, y30, y31, y32, y33, y34, y35, y36, y37, y38, y39, y40, y41, y42, y43, y44, y45, y46, y47, y48, y49, y50, y51, y52, y53, y54, y55, y56, y57, y58, y59, y60, y61, y62, y63, y64, y65, y66, y67, y68, y69, y70, y71, y72, y73, y74, y75, y76, y77, y78, y79, y80, y81, y82, y83, y84, y85, y86, y87, y88, y89, y90, y91, y92, y93, y94, y95, y96, y97, y98, y99, y100, y101, y102, y103, y104, y105, y106, y107, y108, y109, y110, y111, y112, y113, y114, y115, y116, y117, y118, y119, y120, y121, y122, y123, y124, y125, y126, y127, y128, y129, y130, y131, y132, y133, y134, y135, y136, y137, y138, y139, y140, y141, y142, y143, y144, y145, y146, y147, y148, y149, y150, y151, y152, y153, y154, y155, y156, y157, y158, y159, y160, y161, y162, y163, y164, y165, y166, y167, y168, y169, y170, y171, y172, y173, y174, y175, y176, y177, y178, y179, y180, y181, y182, y183, y184, y185, y186, y187, y188, y189, y190, y191, y192, y193, y194, y195, y196, y197, y198, y199, y200, y201, y202, y203, y204, y205, y206, y207, y208, y209, y210, y211, y212, y213, y214, y215, y216, y217, y218, y219, y220, y221, y222, y223, y224, y225, y226, y227, y228, y229, y230, y231, y232, y233, y234, y235, y236, y237, y238, y239, y240, y241, y242, y243, y244, y245, y246, y247, y248, y249, y250, y251, y252, y253, y254, y255, y256, y257, y258, y259, y260, y261, y262, y263, y264, y265, y266, y267, y268, y269, y270, y271, y272, y273, y274, y275, y276, y277, y278, y279, y280, y281, y282, y283, y284, y285, List.getElem?_cons_zero, List.getElem?_cons_succ, List.getElem?_nil, List.set_cons_zero, List.set_cons_succ, List.set_nil, Bool.not_true, Bool.not_false, List.length_cons, List.length_nil, List.length_map, if_true, if_false, u_int_NoneType, u_int_bool, u_int_int, u_int_str, u_int_tuple, u_int_list, u_bool_NoneType, u_bool_bool, u_bool_int, u_bool_str, u_bool_tuple, u_bool_list, u_tuple_NoneType, u_tuple_bool, u_tuple_int, u_tuple_str, u_tuple_tuple, u_tuple_list, u_list_NoneType, u_list_bool, u_list_int, u_list_str, u_list_tuple, u_list_list, u_str_NoneType, u_str_bool, u_str_int, u_str_str, u_str_tuple, u_str_list, u_replicate0, List.map_cons, List.map_nil, List.replicate_succ, List.replicate_zero, List.cons_append, List.nil_append, Nat.reduceSub, Nat.reduceAdd, Nat.reduceLeDiff, Nat.reduceLT, Nat.zero_add, Int.reduceLT, Int.reduceLE, decide_true, decide_false, true_and, and_true, and_self, Bool.false_eq_true, List.append_nil, Int.cast_ofNat_Int, Int.natCast_zero, Int.natCast_one, Int.reduceEq, Int.reduceAdd, Int.reduceSub, Int.reduceMul, Int.reduceNeg, Nat.reduceEqDiff, eq_self, Int.toNat_natCast, need_sky_ok h hm hm2, hi, at0, hn, grows_eq h hm hm2, hgt, hr3, h3, e, hnp, hnl, hq, atI_two, atI_three, c', ha, hmo, hcast, hrb, hrt, hsub, w]
    · have c' : ¬ (q : Int) < 3 := by omega
      have r2 := S.rounds h hm 1
      have r3 := S.rounds h hm 2
      have rq := S.rounds h hm (q - 1)
      rw [if_neg (by omega)] at r2 r3 rq
      rw [Nat.sub_add_cancel (by omega)] at rq
      have hgl := S.g_le h hm
      have gain : S.pk m 0 (3 * S.n) - S.pk m 0 (2 * S.n) = S.g m := by
        have a : S.pk m 0 (3 * S.n) = S.b m + ((2 : Nat) : Int) * S.g m := r3
        have b : S.pk m 0 (2 * S.n) = S.b m + ((1 : Nat) : Int) * S.g m := r2
        omega
      have val : S.pk m 0 (2 * S.n) + S.g m * ((q : Int) - 2) = S.pk m 0 (q * S.n) := by
        have b : S.pk m 0 (2 * S.n) = S.b m + ((1 : Nat) : Int) * S.g m := r2
        rw [rq, b]
        have e1 : ((q - 1 : Nat) : Int) = 1 + ((q : Int) - 2) := by omega
        rw [e1, Int.add_mul, Int.mul_comm (S.g m)]
        omega
      have hm3 : (S.g m).natAbs.log2 + ((q : Int) - 2).natAbs.log2 < 1000000 := mul_ok (small64 (by omega) (by omega)) (small64 (by omega) (by omega))
      obtain ⟨z, w⟩ := walk3 (S := S) (m := m) (p := 0) h (q * S.n) (t - q * S.n) (.im (.int (t : Int))) (.im (.int (S.n : Int))) .em .em (.im (.lst [D.int (S.pk m 0 (0 * S.n)), .int (S.pk m 0 (1 * S.n)), .int (S.pk m 0 (2 * S.n)), .int (S.pk m 0 (3 * S.n))])) x (.im (.int (q : Int))) (.im (.int (S.g m))) .em
      rw [hback] at w
      simp only [Fpack_at, mpack_at, envD, x_var, x_var1, x_c, x_bin, x_un, x_nil, x_cons, x_fn, x_tst, x_val, x_not, x_and, x_or, x_ifE, x_ifS, x_seq, x_next, x_brk, x_cnt, x_ret, x_retO, x_drop, x_asg, x_asgO, x_par, x_own, x_own1, x_own2, x_mut, x_setI, x_rel, x_call, x_callO, x_ap, x_callI, x_callG, x_atO, x_fnI, x_inO, x_part, x_sl, x_chn, x_ref, x_raise, x_it, x_rng1, x_rng2, x_zip, x_for, x_comp, x_all, x_meth, x_aug, x_runD, x_runI, y0, y1, y2, y3, y4, y5, y6, y7, y8, y9, y10, y11, y12, y13, y14, y15, y16, y17, y18, y19, y20, y21, y22, y23, y24, y25, y26, y27, y28, y29, y30, y31, y32, y33, y34, y35, y36, y37, y38, y39, y40, y41, y42, y43, y44, y45, y46, y47, y48, y49, y50, y51, y52, y53, y54, y55, y56, y57, y58, y59, y60, y61, y62, y63, y64, y65, y66, y67, y68, y69, y70, y71, y72, y73, y74, y75, y76, y77, y78, y79, y80, y81, y82, y83, y84, y85, y86, y87, y88, y89, y90, y91, y92, y93, y94, y95, y96, y97, y98, y99, y100, y101, y102, y103, y104, y105, y106, y107, y108, y109, y110, y111, y112, y113, y114, y115, y116, y117, y118, y119, y120, y121, y122, y123, y124, y125, y126, y127, y128, y129, y130, y131, y132, y133, y134, y135, y136, y137, y138, y139, y140, y141, y142, y143, y144, y145, y146, y147, y148, y149, y150, y151, y152, y153, y154, y155, y156, y157, y158, y159, y160, y161, y162, y163, y164, y165, y166, y167, y168, y169, y170, y171, y172, y173, y174, y175, y176, y177, y178, y179, y180, y181, y182, y183, y184, y185, y186, y187, y188, y189, y190, y191, y192, y193, y194, y195, y196, y197, y198, y199, y200, y201, y202, y203, y204, y205, y206, y207, y208, y209, y210, y211, y212, y213, y214, y215, y216, y217, y218, y219, y220, y221, y222, y223, y224, y225, y226, y227, y228, y229, y230, y231, y232, y233, y234, y235, y236, y237, y238, y239, y240, y241, y242, y243, y244, y245, y246, y247, y248, y249, y250, y251, y252, y253, y254, y255, y256, y257, y258, y259, y260, y261, y262, y263, y264, y265, y266, y267, y268, y269, y270, y271, y272, y273, y274, y275, y276, y277, y278, y279, y280, y281, y282, y283, y284, y285, List.getElem?_cons_zero, List.getElem?_cons_succ, List.getElem?_nil, List.set_cons_zero, List.set_cons_succ, List.set_nil, Bool.not_true, Bool.not_false, List.length_cons, List.length_nil, List.length_map, if_true, if_false, u_int_NoneType, u_int_bool, u_int_int, u_int_str, u_int_tuple, u_int_list, u_bool_NoneType, u_bool_bool, u_bool_int, u_bool_str, u_bool_tuple, u_bool_list, u_tuple_NoneType, u_tuple_bool, u_tuple_int, u_tuple_str, u_tuple_tuple, u_tuple_list, u_list_NoneType, u_list_bool, u_list_int, u_list_str, u_list_tuple, u_list_list, u_str_NoneType, u_str_bool, u_str_int, u_str_str, u_str_tuple, u_str_list, u_replicate0, List.map_cons, List.map_nil, List.replicate_succ, List.replicate_zero, List.cons_append, List.nil_append, Nat.reduceSub, Nat.reduceAdd, Nat.reduceLeDiff, Nat.reduceLT, Nat.zero_add, Int.reduceLT, Int.reduceLE, decide_true, decide_false, true_and, and_true, and_self, Bool.false_eq_true, List.append_nil, Int.cast_ofNat_Int, Int.natCast_zero, Int.natCast_one, Int.reduceEq, Int.reduceAdd, Int.reduceSub, Int.reduceMul, Int.reduceNeg, Nat.reduceEqDiff, eq_self, Int.toNat_natCast, need_sky_ok h hm hm2, hi, at0, hn, grows_eq h hm hm2, hgt, hr3, h3, e, hnp, hnl, hq, atI_two, atI_three, c', gain, hm3, val, hmo, hcast, hrb, hrt, hsub, w]
  · have hgt : decide (0 < S.g m) = false := decide_eq_false hg
    by_cases c : 2 < q
    · have c' : (2 : Int) < (q : Int) := by omega
      have rq := S.rounds h hm (q - 1)
      rw [if_pos (by omega), Nat.sub_add_cancel (by omega)] at rq
      obtain ⟨z, w⟩ := walk1 (S := S) (m := m) (p := 0) h (q * S.n) (t - q * S.n) (.im (.int (t : Int))) (.im (.int (S.n : Int))) (.im (.int ((q * S.n : Nat) : Int))) .em .em .em .em .em .em
      rw [hback, rq] at w
      simp only [Fpack_at, mpack_at, envD, x_var, x_var1, x_c, x_bin, x_un, x_nil, x_cons, x_fn, x_tst, x_val, x_not, x_and, x_or, x_ifE, x_ifS, x_seq, x_next, x_brk, x_cnt, x_ret, x_retO, x_drop, x_asg, x_asgO, x_par, x_own, x_own1, x_own2, x_mut, x_setI, x_rel, x_call, x_callO, x_ap, x_callI, x_callG, x_atO, x_fnI, x_inO, x_part, x_sl, x_chn, x_ref, x_raise, x_it, x_rng1, x_rng2, x_zip, x_for, x_comp, x_all, x_meth, x_aug, x_runD, x_runI, y0, y1, y2, y3, y4, y5, y6, y7, y8, y9, y10, y11, y12, y13, y14, y15, y16, y17, y18, y19, y20, y21, y22, y23, y24, y25, y26, y27, y28, y29, y30, y31, y32, y33, y34, y35, y36, y37, y38, y39, y40, y41, y42, y43, y44, y45, y46, y47, y48, y49, y50, y51, y52, y53, y54, y55, y56, y57, y58, y59, y60, y61, y62, y63, y64, y65, y66, y67, y68, y69, y70, y71, y72, y73, y74, y75, y76, y77, y78, y79, y80, y81, y82, y83, y84, y85, y86, y87, y88, y89, y90, y91, y92, y93, y94, y95, y96, y97, y98, y99, y100, y101, y102, y103, y104, y105, y106, y107, y108, y109, y110, y111, y112, y113, y114, y115, y116, y117, y118, y119, y120, y121, y122, y123, y124, y125, y126, y127, y128, y129, y130, y131, y132, y133, y134, y135, y136, y137, y138, y139, y140, y141, y142, y143, y144, y145, y146, y147, y148, y149, y150, y151, y152, y153, y154, y155, y156, y157, y158, y159, y160, y161, y162, y163, y164, y165, y166, y167, y168, y169, y170, y171, y172, y173, y174, y175, y176, y177, y178, y179, y180, y181, y182, y183, y184, y185, y186, y187, y188, y189, y190, y191, y192, y193, y194, y195, y196, y197, y198, y199, y200, y201, y202, y203, y204, y205, y206, y207, y208, y209, y210, y211, y212, y213, y214, y215, y216, y217, y218, y219, y220, y221, y222, y223, y224, y225, y226, y227, y228, y229, y230, y231, y232, y233, y234, y235, y236, y237, y238, y239, y240, y241, y242, y243, y244, y245, y246, y247, y248, y249, y250, y251, y252, y253, y254, y255, y256, y257, y258, y259, y260, y261, y262, y263, y264, y265, y266, y267, y268, y269, y270, y271, y272, y273, y274, y275, y276, y277, y278, y279, y280, y281, y282, y283, y284, y285, List.getElem?_cons_zero, List.getElem?_cons_succ, List.getElem?_nil, List.set_cons_zero, List.set_cons_succ, List.set_nil, Bool.not_true, Bool.not_false, List.length_cons, List.length_nil, List.length_map, if_true, if_false, u_int_NoneType, u_int_bool, u_int_int, u_int_str, u_int_tuple, u_int_list, u_bool_NoneType, u_bool_bool, u_bool_int, u_bool_str, u_bool_tuple, u_bool_list, u_tuple_NoneType, u_tuple_bool, u_tuple_int, u_tuple_str, u_tuple_tuple, u_tuple_list, u_list_NoneType, u_list_bool, u_list_int, u_list_str, u_list_tuple, u_list_list, u_str_NoneType, u_str_bool, u_str_int, u_str_str, u_str_tuple, u_str_list, u_replicate0, List.map_cons, List.map_nil, List.replicate_succ, List.replicate_zero, List.cons_append, List.nil_append, Nat.reduceSub, Nat.reduceAdd, Nat.reduceLeDiff, Nat.reduceLT, Nat.zero_add, Int.reduceLT, Int.reduceLE, decide_true, decide_false, true_and, and_true, and_self, Bool.false_eq_true, List.append_nil, Int.cast_ofNat_Int, Int.natCast_zero, Int.natCast_one, Int.reduceEq, Int.reduceAdd, Int.reduceSub, Int.reduceMul, Int.reduceNeg, Nat.reduceEqDiff, eq_self, Int.toNat_natCast, need_sky_ok h hm hm2, hi, at0, hn, grows_eq h hm hm2, hgt, hnp, hnl, hq, c', settled_eq h hm (Int.not_lt.mp hg), hmo, hcast, hrb, hrt, hsub, w]
    · have c' : ¬ (2 : Int) < (q : Int) := by omega
      obtain ⟨z, w⟩ := walk1 (S := S) (m := m) (p := 0) h 0 t (.im (.int (t : Int))) (.im (.int (S.n : Int))) (.im (.int 0)) .em .em .em .em .em .em
      rw [Nat.zero_add] at w
      have hr0 : -(2 ^ 62) ≤ (0 : Int) ∧ (0 : Int) < 2 ^ 62 := by decide
      have hs0 : ((t : Int) - 0).toNat = t := by omega
      have w' : mForL (gSet 6) b1pack_at (rngD 0 t) [.im S.d, .im (.int m), .im (.int (t : Int)), .im (.int (S.n : Int)), .im (.int 0), .im (.int 0), .em, .em, .em, .em, .em] = .next [.im S.d, .im (.int m), .im (.int (t : Int)), .im (.int (S.n : Int)), .im (.int (S.pk m 0 t)), .im (.int 0), z, .em, .em, .em, .em] := w
      simp only [Fpack_at, mpack_at, envD, x_var, x_var1, x_c, x_bin, x_un, x_nil, x_cons, x_fn, x_tst, x_val, x_not, x_and, x_or, x_ifE, x_ifS, x_seq, x_next, x_brk, x_cnt, x_ret, x_retO, x_drop, x_asg, x_asgO, x_par, x_own, x_own1, x_own2, x_mut, x_setI, x_rel, x_call, x_callO, x_ap, x_callI, x_callG, x_atO, x_fnI, x_inO, x_part, x_sl, x_chn, x_ref, x_raise, x_it, x_rng1, x_rng2, x_zip, x_for, x_comp, x_all, x_meth, x_aug, x_runD, x_runI, y0, y1, y2, y3, y4, y5, y6, y7, y8, y9, y10, y11, y12, y13, y14, y15, y16, y17, y18, y19, y20, y21, y22, y23, y24, y25, y26, y27, y28, y29, y30, y31, y32, y33, y34, y35, y36, y37, y38, y39, y40, y41, y42, y43, y44, y45, y46, y47, y48, y49, y50, y51, y52, y53, y54, y55, y56, y57, y58, y59, y60, y61, y62, y63, y64, y65, y66, y67, y68, y69, y70, y71, y72, y73, y74, y75, y76, y77, y78, y79, y80, y81, y82, y83, y84, y85, y86, y87, y88, y89, y90, y91, y92, y93, y94, y95, y96, y97, y98, y99, y100, y101, y102, y103, y104, y105, y106, y107, y108, y109, y110, y111, y112, y113, y114, y115, y116, y117, y118, y119, y120, y121, y122, y123, y124, y125, y126, y127, y128, y129, y130, y131, y132, y133, y134, y135, y136, y137, y138, y139, y140, y141, y142, y143, y144, y145, y146, y147, y148, y149, y150, y151, y152, y153, y154, y155, y156, y157, y158, y159, y160, y161, y162, y163, y164, y165, y166, y167, y168, y169, y170, y171, y172, y173, y174, y175, y176, y177, y178, y179, y180, y181, y182, y183, y184, y185, y186, y187, y188, y189, y190, y191, y192, y193, y194, y195, y196, y197, y198, y199, y200, y201, y202, y203, y204, y205, y206, y207, y208, y209, y210, y211, y212, y213, y214, y215, y216, y217, y218, y219, y220, y221, y222, y223, y224, y225, y226, y227, y228, y229, y230, y231, y232, y233, y234, y235, y236, y237, y238, y239, y240, y241, y242, y243, y244, y245, y246, y247, y248, y249, y250, y251, y252, y253, y254, y255, y256, y257, y258, y259, y260, y261, y262, y263, y264, y265, y266, y267, y268, y269, y270, y271, y272, y273, y274, y275, y276, y277, y278, y279, y280, y281, y282, y283, y284, y285, List.getElem?_cons_zero, List.getElem?_cons_succ, List.getElem?_nil, List.set_cons_zero, List.set_cons_succ, List.set_nil, Bool.not_true, Bool.not_false, List.length_cons, List.length_nil, List.length_map, if_true, if_false, u_int_NoneType, u_int_bool, u_int_int, u_int_str, u_int_tuple, u_int_list, u_bool_NoneType, u_bool_bool, u_bool_int, u_bool_str, u_bool_tuple, u_bool_list, u_tuple_NoneType, u_tuple_bool, u_tuple_int, u_tuple_str, u_tuple_tuple, u_tuple_list, u_list_NoneType, u_list_bool, u_list_int, u_list_str, u_list_tuple, u_list_list, u_str_NoneType, u_str_bool, u_str_int, u_str_str, u_str_tuple, u_str_list, u_replicate0, List.map_cons, List.map_nil, List.replicate_succ, List.replicate_zero, List.cons_append, List.nil_append, Nat.reduceSub, Nat.reduceAdd, Nat.reduceLeDiff, Nat.reduceLT, Nat.zero_add, Int.reduceLT, Int.reduceLE, decide_true, decide_false, true_and, and_true, and_self, Bool.false_eq_true, List.append_nil, Int.cast_ofNat_Int, Int.natCast_zero, Int.natCast_one, Int.reduceEq, Int.reduceAdd, Int.reduceSub, Int.reduceMul, Int.reduceNeg, Nat.reduceEqDiff, eq_self, Int.toNat_natCast, need_sky_ok h hm hm2, hi, at0, hn, grows_eq h hm hm2, hgt, hnp, hnl, hq, c', hr0, hrt, hs0, w']
theorem least_eq (h : S.Ok) : (∃ k : Nat, k ≤ 1000 ∧ S.g (k : Int) ≤ 0 ∧ (∀ j : Nat, j < k → 0 < S.g (j : Int)) ∧ Fleast_melt [S.d] = .ok (.int (k : Int))) ∨ ((∀ k : Nat, k ≤ 1000 → 0 < S.g (k : Int)) ∧ Fleast_melt [S.d] = .ok .non) := by
  have hr : -(2 ^ 62) ≤ (1001 : Int) ∧ (1001 : Int) < 2 ^ 62 := by decide
  have ht : (1001 : Int).toNat = 1001 := rfl
  have turn : ∀ (k : Nat) (x : Sl), k ≤ 1000 → b1least_melt [.im S.d, .im (.int (k : Int))] = if 0 < S.g (k : Int) then .next [.im S.d, .im (.int (k : Int))] else .ret (.int (k : Int)) [.im S.d, .im (.int (k : Int))] := by
    intro k x hk
    by_cases hg : 0 < S.g (k : Int)
    · have hgt : decide (0 < S.g (k : Int)) = true := decide_eq_true hg
      simp only [b1least_melt, x_var, x_var1, x_c, x_bin, x_un, x_nil, x_cons, x_fn, x_tst, x_val, x_not, x_and, x_or, x_ifE, x_ifS, x_seq, x_next, x_brk, x_cnt, x_ret, x_retO, x_drop, x_asg, x_asgO, x_par, x_own, x_own1, x_own2, x_mut, x_setI, x_rel, x_call, x_callO, x_ap, x_callI, x_callG, x_atO, x_fnI, x_inO, x_part, x_sl, x_chn, x_ref, x_raise, x_it, x_rng1, x_rng2, x_zip, x_for, x_comp, x_all, x_meth, x_aug, x_runD, x_runI, y0, y1, y2, y3, y4, y5, y6, y7, y8, y9, y10, y11, y12, y13, y14, y15, y16, y17, y18, y19, y20, y21, y22, y23, y24, y25, y26, y27, y28, y29, y30, y31, y32, y33, y34, y35, y36, y37, y38, y39, y40, y41, y42, y43, y44, y45, y46, y47, y48, y49, y50, y51, y52, y53, y54, y55, y56, y57, y58, y59, y60, y61, y62, y63, y64, y65, y66, y67, y68, y69, y70, y71, y72, y73, y74, y75, y76, y77, y78, y79, y80, y81, y82, y83, y84, y85, y86, y87, y88, y89, y90, y91, y92, y93, y94, y95, y96, y97, y98, y99, y100, y101, y102, y103, y104, y105, y106, y107, y108, y109, y110, y111, y112, y113, y114, y115, y116, y117, y118, y119, y120, y121, y122, y123, y124, y125, y126, y127, y128, y129, y130, y131, y132, y133, y134, y135, y136, y137, y138, y139, y140, y141, y142, y143, y144, y145, y146, y147, y148, y149, y150, y151, y152, y153, y154, y155, y156, y157, y158, y159, y160, y161, y162, y163, y164, y165, y166, y167, y168, y169, y170, y171, y172, y173, y174, y175, y176, y177, y178, y179, y180, y181, y182, y183, y184, y185, y186, y187, y188, y189, y190, y191, y192, y193, y194, y195, y196, y197, y198, y199, y200, y201, y202, y203, y204, y205, y206, y207, y208, y209, y210, y211, y212, y213, y214, y215, y216, y217, y218, y219, y220, y221, y222, y223, y224, y225, y226, y227, y228, y229, y230, y231, y232, y233, y234, y235, y236, y237, y238, y239, y240, y241, y242, y243, y244, y245, y246, y247, y248, y249, y250, y251, y252, y253, y254, y255, y256, y257, y258, y259, y260, y261, y262, y263, y264, y265, y266, y267, y268, y269, y270, y271, y272, y273, y274, y275, y276, y277, y278, y279, y280, y281, y282, y283, y284, y285, List.getElem?_cons_zero, List.getElem?_cons_succ, List.getElem?_nil, List.set_cons_zero, List.set_cons_succ, List.set_nil, Bool.not_true, Bool.not_false, List.length_cons, List.length_nil, List.length_map, if_true, if_false, u_int_NoneType, u_int_bool, u_int_int, u_int_str, u_int_tuple, u_int_list, u_bool_NoneType, u_bool_bool, u_bool_int, u_bool_str, u_bool_tuple, u_bool_list, u_tuple_NoneType, u_tuple_bool, u_tuple_int, u_tuple_str, u_tuple_tuple, u_tuple_list, u_list_NoneType, u_list_bool, u_list_int, u_list_str, u_list_tuple, u_list_list, u_str_NoneType, u_str_bool, u_str_int, u_str_str, u_str_tuple, u_str_list, u_replicate0, List.map_cons, List.map_nil, List.replicate_succ, List.replicate_zero, List.cons_append, List.nil_append, Nat.reduceSub, Nat.reduceAdd, Nat.reduceLeDiff, Nat.reduceLT, Nat.zero_add, Int.reduceLT, Int.reduceLE, decide_true, decide_false, true_and, and_true, and_self, Bool.false_eq_true, List.append_nil, Int.cast_ofNat_Int, Int.natCast_zero, Int.natCast_one, Int.reduceEq, Int.reduceAdd, Int.reduceSub, Int.reduceMul, Int.reduceNeg, Nat.reduceEqDiff, eq_self, Int.toNat_natCast, grows_eq h (m := (k : Int)) (by omega) (by omega), hgt, hg]
    · have hgt : decide (0 < S.g (k : Int)) = false := decide_eq_false hg
      simp only [b1least_melt, x_var, x_var1, x_c, x_bin, x_un, x_nil, x_cons, x_fn, x_tst, x_val, x_not, x_and, x_or, x_ifE, x_ifS, x_seq, x_next, x_brk, x_cnt, x_ret, x_retO, x_drop, x_asg, x_asgO, x_par, x_own, x_own1, x_own2, x_mut, x_setI, x_rel, x_call, x_callO, x_ap, x_callI, x_callG, x_atO, x_fnI, x_inO, x_part, x_sl, x_chn, x_ref, x_raise, x_it, x_rng1, x_rng2, x_zip, x_for, x_comp, x_all, x_meth, x_aug, x_runD, x_runI, y0, y1, y2, y3, y4, y5, y6, y7, y8, y9, y10, y11, y12, y13, y14, y15, y16, y17, y18, y19, y20, y21, y22, y23, y24, y25, y26, y27, y28, y29, y30, y31, y32, y33, y34, y35, y36, y37, y38, y39, y40, y41, y42, y43, y44, y45, y46, y47, y48, y49, y50, y51, y52, y53, y54, y55, y56, y57, y58, y59, y60, y61, y62, y63, y64, y65, y66, y67, y68, y69, y70, y71, y72, y73, y74, y75, y76, y77, y78, y79, y80, y81, y82, y83, y84, y85, y86, y87, y88, y89, y90, y91, y92, y93, y94, y95, y96, y97, y98, y99, y100, y101, y102, y103, y104, y105, y106, y107, y108, y109, y110, y111, y112, y113, y114, y115, y116, y117, y118, y119, y120, y121, y122, y123, y124, y125, y126, y127, y128, y129, y130, y131, y132, y133, y134, y135, y136, y137, y138, y139, y140, y141, y142, y143, y144, y145, y146, y147, y148, y149, y150, y151, y152, y153, y154, y155, y156, y157, y158, y159, y160, y161, y162, y163, y164, y165, y166, y167, y168, y169, y170, y171, y172, y173, y174, y175, y176, y177, y178, y179, y180, y181, y182, y183, y184, y185, y186, y187, y188, y189, y190, y191, y192, y193, y194, y195, y196, y197, y198, y199, y200, y201, y202, y203, y204, y205, y206, y207, y208, y209, y210, y211, y212, y213, y214, y215, y216, y217, y218, y219, y220, y221, y222, y223, y224, y225, y226, y227, y228, y229, y230, y231, y232, y233, y234, y235, y236, y237, y238, y239, y240, y241, y242, y243, y244, y245, y246, y247, y248, y249, y250, y251, y252, y253, y254, y255, y256, y257, y258, y259, y260, y261, y262, y263, y264, y265, y266, y267, y268, y269, y270, y271, y272, y273, y274, y275, y276, y277, y278, y279, y280, y281, y282, y283, y284, y285, List.getElem?_cons_zero, List.getElem?_cons_succ, List.getElem?_nil, List.set_cons_zero, List.set_cons_succ, List.set_nil, Bool.not_true, Bool.not_false, List.length_cons, List.length_nil, List.length_map, if_true, if_false, u_int_NoneType, u_int_bool, u_int_int, u_int_str, u_int_tuple, u_int_list, u_bool_NoneType, u_bool_bool, u_bool_int, u_bool_str, u_bool_tuple, u_bool_list, u_tuple_NoneType, u_tuple_bool, u_tuple_int, u_tuple_str, u_tuple_tuple, u_tuple_list, u_list_NoneType, u_list_bool, u_list_int, u_list_str, u_list_tuple, u_list_list, u_str_NoneType, u_str_bool, u_str_int, u_str_str, u_str_tuple, u_str_list, u_replicate0, List.map_cons, List.map_nil, List.replicate_succ, List.replicate_zero, List.cons_append, List.nil_append, Nat.reduceSub, Nat.reduceAdd, Nat.reduceLeDiff, Nat.reduceLT, Nat.zero_add, Int.reduceLT, Int.reduceLE, decide_true, decide_false, true_and, and_true, and_self, Bool.false_eq_true, List.append_nil, Int.cast_ofNat_Int, Int.natCast_zero, Int.natCast_one, Int.reduceEq, Int.reduceAdd, Int.reduceSub, Int.reduceMul, Int.reduceNeg, Nat.reduceEqDiff, eq_self, Int.toNat_natCast, grows_eq h (m := (k : Int)) (by omega) (by omega), hgt, hg]
  have step : ∀ (m : Nat), m ≤ 1001 → (∀ j, j < m → 0 < S.g (j : Int)) → ∀ i ρ, i < m → (∃ x, ρ = [.im S.d, x]) → ∃ ρ1 ρ2, gSet 1 (.int (0 + (i : Int))) ρ = some ρ1 ∧ (b1least_melt ρ1 = .next ρ2 ∨ b1least_melt ρ1 = .cont ρ2) ∧ ∃ x, ρ2 = [.im S.d, x] := by
    intro m hm hall i ρ hi ⟨x, hx⟩
    subst hx
    refine ⟨[.im S.d, .im (.int (i : Int))], [.im S.d, .im (.int (i : Int))], by rw [Int.zero_add]; rfl, .inl ?_, _, rfl⟩
    rw [turn i x (by omega), if_pos (hall i hi)]
  by_cases hall : ∀ k : Nat, k ≤ 1000 → 0 < S.g (k : Int)
  · right
    obtain ⟨ρ, e, x, rfl⟩ := forPR (g := gSet 1) (b := b1least_melt) (lo := 0) (n := 1001) (fun i ρ => ∃ x, ρ = [.im S.d, x]) (ρ0 := [.im S.d, .em]) ⟨_, rfl⟩ (step 1001 (Nat.le_refl _) fun j hj => hall j (by omega))
    refine ⟨hall, ?_⟩
    simp only [Fleast_melt, mleast_melt, envD, x_var, x_var1, x_c, x_bin, x_un, x_nil, x_cons, x_fn, x_tst, x_val, x_not, x_and, x_or, x_ifE, x_ifS, x_seq, x_next, x_brk, x_cnt, x_ret, x_retO, x_drop, x_asg, x_asgO, x_par, x_own, x_own1, x_own2, x_mut, x_setI, x_rel, x_call, x_callO, x_ap, x_callI, x_callG, x_atO, x_fnI, x_inO, x_part, x_sl, x_chn, x_ref, x_raise, x_it, x_rng1, x_rng2, x_zip, x_for, x_comp, x_all, x_meth, x_aug, x_runD, x_runI, y0, y1, y2, y3, y4, y5, y6, y7, y8, y9, y10, y11, y12, y13, y14, y15, y16, y17, y18, y19, y20, y21, y22, y23, y24, y25, y26, y27, y28, y29, y30, y31, y32, y33, y34, y35, y36, y37, y38, y39, y40, y41, y42, y43, y44, y45, y46, y47, y48, y49, y50, y51, y52, y53, y54, y55, y56, y57, y58, y59, y60, y61, y62, y63, y64, y65, y66, y67, y68, y69, y70, y71, y72, y73, y74, y75, y76, y77, y78, y79, y80, y81, y82, y83, y84, y85, y86, y87, y88, y89, y90, y91, y92, y93, y94, y95, y96, y97, y98, y99, y100, y101, y102, y103, y104, y105, y106, y107, y108, y109, y110, y111, y112, y113, y114, y115, y116, y117, y118, y119, y120, y121, y122, y123, y124, y125, y126, y127, y128, y129, y130, y131, y132, y133, y134, y135, y136, y137, y138, y139, y140, y141, y142, y143, y144, y145, y146, y147, y148, y149, y150, y151, y152, y153, y154, y155, y156, y157, y158, y159, y160, y161, y162, y163, y164, y165, y166, y167, y168, y169, y170, y171, y172, y173, y174, y175, y176, y177, y178, y179, y180, y181, y182, y183, y184, y185, y186, y187, y188, y189, y190, y191, y192, y193, y194, y195, y196, y197, y198, y199, y200, y201, y202, y203, y204, y205, y206, y207, y208, y209, y210, y211, y212, y213, y214, y215, y216, y217, y218, y219, y220, y221, y222, y223, y224, y225, y226, y227, y228, y229, y230, y231, y232, y233, y234, y235, y236, y237, y238, y239, y240, y241, y242, y243, y244, y245, y246, y247, y248, y249, y250, y251, y252, y253, y254, y255, y256, y257, y258, y259, y260, y261, y262, y263, y264, y265, y266, y267, y268, y269, y270, y271, y272, y273, y274, y275, y276, y277, y278, y279, y280, y281, y282, y283, y284, y285, List.getElem?_cons_zero, List.getElem?_cons_succ, List.getElem?_nil, List.set_cons_zero, List.set_cons_succ, List.set_nil, Bool.not_true, Bool.not_false, List.length_cons, List.length_nil, List.length_map, if_true, if_false, u_int_NoneType, u_int_bool, u_int_int, u_int_str, u_int_tuple, u_int_list, u_bool_NoneType, u_bool_bool, u_bool_int, u_bool_str, u_bool_tuple, u_bool_list, u_tuple_NoneType, u_tuple_bool, u_tuple_int, u_tuple_str, u_tuple_tuple, u_tuple_list, u_list_NoneType, u_list_bool, u_list_int, u_list_str, u_list_tuple, u_list_list, u_str_NoneType, u_str_bool, u_str_int, u_str_str, u_str_tuple, u_str_list, u_replicate0, List.map_cons, List.map_nil, List.replicate_succ, List.replicate_zero, List.cons_append, List.nil_append, Nat.reduceSub, Nat.reduceAdd, Nat.reduceLeDiff, Nat.reduceLT, Nat.zero_add, Int.reduceLT, Int.reduceLE, decide_true, decide_false, true_and, and_true, and_self, Bool.false_eq_true, List.append_nil, Int.cast_ofNat_Int, Int.natCast_zero, Int.natCast_one, Int.reduceEq, Int.reduceAdd, Int.reduceSub, Int.reduceMul, Int.reduceNeg, Nat.reduceEqDiff, eq_self, Int.toNat_natCast, need_sky_ok h (m := 0) (by omega) (by omega), hr, ht, e]
  · left
    have hex : ∃ k : Nat, k ≤ 1000 ∧ S.g (k : Int) ≤ 0 := by
      refine Classical.byContradiction fun q => hall fun k hk => ?_
      refine Classical.byContradiction fun q2 => q ⟨k, hk, by omega⟩
    have hmin : ∃ k : Nat, k ≤ 1000 ∧ S.g (k : Int) ≤ 0 ∧ ∀ j : Nat, j < k → 0 < S.g (j : Int) := by
      obtain ⟨k, hk⟩ := hex
      induction k using Nat.strongRecOn with
      | ind k ih =>
        by_cases c : ∃ j, j < k ∧ S.g (j : Int) ≤ 0
        · obtain ⟨j, h1, h2⟩ := c
          exact ih j h1 ⟨by omega, h2⟩
        · exact ⟨k, hk.1, hk.2, fun j hj => Classical.byContradiction fun q => c ⟨j, hj, by omega⟩⟩
    obtain ⟨k, hk, hg, hj⟩ := hmin
    refine ⟨k, hk, hg, hj, ?_⟩
    have e := forPSR (g := gSet 1) (b := b1least_melt) (lo := 0) (n := 1001) (m := k) (r := .ret (.int (k : Int)) [.im S.d, .im (.int (k : Int))]) (fun i ρ => ∃ x, ρ = [.im S.d, x]) (ρ0 := [.im S.d, .em]) (by omega) ⟨_, rfl⟩ (step k (by omega) hj)
      (fun ρ ⟨x, hx⟩ => by
        subst hx
        refine ⟨[.im S.d, .im (.int (k : Int))], by rw [Int.zero_add]; rfl, ?_⟩
        rw [turn k x hk, if_neg (by omega)]) (.inl ⟨_, _, rfl⟩)
    simp only [Fleast_melt, mleast_melt, envD, x_var, x_var1, x_c, x_bin, x_un, x_nil, x_cons, x_fn, x_tst, x_val, x_not, x_and, x_or, x_ifE, x_ifS, x_seq, x_next, x_brk, x_cnt, x_ret, x_retO, x_drop, x_asg, x_asgO, x_par, x_own, x_own1, x_own2, x_mut, x_setI, x_rel, x_call, x_callO, x_ap, x_callI, x_callG, x_atO, x_fnI, x_inO, x_part, x_sl, x_chn, x_ref, x_raise, x_it, x_rng1, x_rng2, x_zip, x_for, x_comp, x_all, x_meth, x_aug, x_runD, x_runI, y0, y1, y2, y3, y4, y5, y6, y7, y8, y9, y10, y11, y12, y13, y14, y15, y16, y17, y18, y19, y20, y21, y22, y23, y24, y25, y26, y27, y28, y29, y30, y31, y32, y33, y34, y35, y36, y37, y38, y39, y40, y41, y42, y43, y44, y45, y46, y47, y48, y49, y50, y51, y52, y53, y54, y55, y56, y57, y58, y59, y60, y61, y62, y63, y64, y65, y66, y67, y68, y69, y70, y71, y72, y73, y74, y75, y76, y77, y78, y79, y80, y81, y82, y83, y84, y85, y86, y87, y88, y89, y90, y91, y92, y93, y94, y95, y96, y97, y98, y99, y100, y101, y102, y103, y104, y105, y106, y107, y108, y109, y110, y111, y112, y113, y114, y115, y116, y117, y118, y119, y120, y121, y122, y123, y124, y125, y126, y127, y128, y129, y130, y131, y132, y133, y134, y135, y136, y137, y138, y139, y140, y141, y142, y143, y144, y145, y146, y147, y148, y149, y150, y151, y152, y153, y154, y155, y156, y157, y158, y159, y160, y161, y162, y163, y164, y165, y166, y167, y168, y169, y170, y171, y172, y173, y174, y175, y176, y177, y178, y179, y180, y181, y182, y183, y184, y185, y186, y187, y188, y189, y190, y191, y192, y193, y194, y195, y196, y197, y198, y199, y200, y201, y202, y203, y204, y205, y206, y207, y208, y209, y210, y211, y212, y213, y214, y215, y216, y217, y218, y219, y220, y221, y222, y223, y224, y225, y226, y227, y228, y229, y230, y231, y232, y233, y234, y235, y236, y237, y238, y239, y240, y241, y242, y243, y244, y245, y246, y247, y248, y249, y250, y251, y252, y253, y254, y255, y256, y257, y258, y259, y260, y261, y262, y263, y264, y265, y266, y267, y268, y269, y270, y271, y272, y273, y274, y275, y276, y277, y278, y279, y280, y281, y282, y283, y284, y285, List.getElem?_cons_zero, List.getElem?_cons_succ, List.getElem?_nil, List.set_cons_zero, List.set_cons_succ, List.set_nil, Bool.not_true, Bool.not_false, List.length_cons, List.length_nil, List.length_map, if_true, if_false, u_int_NoneType, u_int_bool, u_int_int, u_int_str, u_int_tuple, u_int_list, u_bool_NoneType, u_bool_bool, u_bool_int, u_bool_str, u_bool_tuple, u_bool_list, u_tuple_NoneType, u_tuple_bool, u_tuple_int, u_tuple_str, u_tuple_tuple, u_tuple_list, u_list_NoneType, u_list_bool, u_list_int, u_list_str, u_list_tuple, u_list_list, u_str_NoneType, u_str_bool, u_str_int, u_str_str, u_str_tuple, u_str_list, u_replicate0, List.map_cons, List.map_nil, List.replicate_succ, List.replicate_zero, List.cons_append, List.nil_append, Nat.reduceSub, Nat.reduceAdd, Nat.reduceLeDiff, Nat.reduceLT, Nat.zero_add, Int.reduceLT, Int.reduceLE, decide_true, decide_false, true_and, and_true, and_self, Bool.false_eq_true, List.append_nil, Int.cast_ofNat_Int, Int.natCast_zero, Int.natCast_one, Int.reduceEq, Int.reduceAdd, Int.reduceSub, Int.reduceMul, Int.reduceNeg, Nat.reduceEqDiff, eq_self, Int.toNat_natCast, need_sky_ok h (m := 0) (by omega) (by omega), hr, ht, e]
end
end K19
set_option Elab.async false
set_option linter.all false
set_option maxRecDepth 100000
set_option maxHeartbeats 4000000
/-! K19D: the dice. -/
namespace K19
open PySem PySem.Spec PyProof.Rows L2 RZ RK
abbrev DM : Int := 2147480009
theorem roll_eq {k : Nat} {d : D} (hd : Dice DM k d) (hk : k ≤ 1000000) {m : Int} (h0 : 0 < m) (h1 : m ≤ 1000000000000) : ∃ r d', F_law_roll d [.int m] = .ok (.int r) d' ∧ 0 ≤ r ∧ r < m ∧ Dice DM (k + 1) d' := by
  obtain ⟨x, y, z, rfl, hx, hy, hy2, hz, hz2⟩ := hd
  have hl : m.natAbs.log2 < 9000 := Nat.lt_trans (log_lt (small64 (by omega) (by omega))) (by decide)
  by_cases c : 0 < x
  · refine ⟨x % m, .lst [.int (x / m), .int y, .int z], ?_, Int.emod_nonneg _ (by omega), Int.emod_lt_of_pos _ h0, _, _, _, rfl, Int.ediv_nonneg hx (by omega), hy, hy2, hz, by omega⟩
    simp only [F_law_roll, m_law_roll, envI, x_var, x_var1, x_c, x_bin, x_un, x_nil, x_cons, x_fn, x_tst, x_val, x_not, x_and, x_or, x_ifE, x_ifS, x_seq, x_next, x_brk, x_cnt, x_ret, x_retO, x_drop, x_asg, x_asgO, x_par, x_own, x_own1, x_own2, x_mut, x_setI, x_rel, x_call, x_callO, x_ap, x_callI, x_callG, x_atO, x_fnI, x_inO, x_part, x_sl, x_chn, x_ref, x_raise, x_it, x_rng1, x_rng2, x_zip, x_for, x_comp, x_all, x_meth, x_aug, x_runD, x_runI, y0, y1, y2, y3, y4, y5, y6, y7, y8, y9, y10, y11, y12, y13, y14, y15, y16, y17, y18, y19, y20, y21, y22, y23, y24, y25, y26, y27, y28, y29, y30, y31, y32, y33, y34, y35, y36, y37, y38, y39, y40, y41, y42, y43, y44, y45, y46, y47, y48, y49, y50, y51, y52, y53, y54, y55, y56, y57, y58, y59, y60, y61, y62, y63, y64, y65, y66, y67, y68, y69, y70, y71, y72, y73, y74, y75, y76, y77, y78, y79, y80, y81, y82, y83, y84, y85, y86, y87, y88, y89, y90, y91, y92, y93, y94, y95, y96, y97, y98, y99, y100, y101, y102, y103, y104, y105, y106, y107, y108, y109, y110, y111, y112, y113, y114, y115, y116, y117, y118, y119, y120, y121, y122, y123, y124, y125, y126, y127, y128, y129, y130, y131, y132, y133, y134, y135, y136, y137, y138, y139, y140, y141, y142, y143, y144, y145, y146, y147, y148, y149, y150, y151, y152, y153, y154, y155, y156, y157, y158, y159, y160, y161, y162, y163, y164, y165, y166, y167, y168, y169, y170, y171, y172, y173, y174, y175, y176, y177, y178, y179, y180, y181, y182, y183, y184, y185, y186, y187, y188, y189, y190, y191, y192, y193, y194, y195, y196, y197, y198, y199, y200, y201, y202, y203, y204, y205, y206, y207, y208, y209, y210, y211, y212, y213, y214, y215, y216, y217, y218, y219, y220, y221, y222, y223, y224, y225, y226, y227, y228, y229, y230, y231, y232, y233, y234, y235, y236, y237, y238, y239, y240, y241, y242, y243, y244, y245, y246, y247, y248, y249, y250, y251, y252, y253, y254, y255, y256, y257, y258, y259, y260, y261, y262, y263, y264, y265, y266, y267, y268, y269, y270, y271, y272, y273, y274, y275, y276, y277, y278, y279, y280, y281, y282, y283, y284, y285, List.getElem?_cons_zero, List.getElem?_cons_succ, List.getElem?_nil, List.set_cons_zero, List.set_cons_succ, List.set_nil, Bool.not_true, Bool.not_false, List.length_cons, List.length_nil, List.length_map, if_true, if_false, u_int_NoneType, u_int_bool, u_int_int, u_int_str, u_int_tuple, u_int_list, u_bool_NoneType, u_bool_bool, u_bool_int, u_bool_str, u_bool_tuple, u_bool_list, u_tuple_NoneType, u_tuple_bool, u_tuple_int, u_tuple_str, u_tuple_tuple, u_tuple_list, u_list_NoneType, u_list_bool, u_list_int, u_list_str, u_list_tuple, u_list_list, u_str_NoneType, u_str_bool, u_str_int, u_str_str, u_str_tuple, u_str_list, u_replicate0, List.map_cons, List.map_nil, List.replicate_succ, List.replicate_zero, List.cons_append, List.nil_append, Nat.reduceSub, Nat.reduceAdd, Nat.reduceLeDiff, Nat.reduceLT, Nat.zero_add, Int.reduceLT, Int.reduceLE, decide_true, decide_false, true_and, and_true, and_self, Bool.false_eq_true, List.append_nil, Int.cast_ofNat_Int, Int.natCast_zero, Int.natCast_one, Int.reduceEq, Int.reduceAdd, Int.reduceSub, Int.reduceMul, Int.reduceNeg, Nat.reduceEqDiff, eq_self, Int.toNat_natCast, atI_z, atI_one, atI_two, ix30, ix31, ix32, c, h0, hl]
  · have b1 : 0 ≤ (y * 52501 + (z + 1) * (z + 1) * 1009 + 77) % DM := Int.emod_nonneg _ (by decide)
    have b2 : (y * 52501 + (z + 1) * (z + 1) * 1009 + 77) % DM < DM := Int.emod_lt_of_pos _ (by decide)
    have hDM : DM = 2147480009 := rfl
    have m1 : y.natAbs.log2 + (52501 : Int).natAbs.log2 < 1000000 := mul_ok (small64 (by omega) (by omega)) (small64 (by omega) (by omega))
    have m2 : (z + 1).natAbs.log2 + (z + 1).natAbs.log2 < 1000000 := mul_ok (small64 (by omega) (by omega)) (small64 (by omega) (by omega))
    have hzz : (z + 1) * (z + 1) ≤ 1000001 * 1000001 := Int.mul_le_mul (by omega) (by omega) (by omega) (by omega)
    have hzz0 : 0 ≤ (z + 1) * (z + 1) := Int.mul_nonneg (by omega) (by omega)
    have m3 : ((z + 1) * (z + 1)).natAbs.log2 + (1009 : Int).natAbs.log2 < 1000000 := mul_ok (small64 (by omega) (by omega)) (small64 (by omega) (by omega))
    have l211 : (211 : Int).natAbs.log2 < 9000 := by decide
    refine ⟨((y * 52501 + (z + 1) * (z + 1) * 1009 + 77) % DM / 211) % m, .lst [.int x, .int ((y * 52501 + (z + 1) * (z + 1) * 1009 + 77) % DM), .int (z + 1)], ?_, Int.emod_nonneg _ (by omega), Int.emod_lt_of_pos _ h0, _, _, _, rfl, hx, b1, b2, by omega, by omega⟩
    simp only [F_law_roll, m_law_roll, envI, x_var, x_var1, x_c, x_bin, x_un, x_nil, x_cons, x_fn, x_tst, x_val, x_not, x_and, x_or, x_ifE, x_ifS, x_seq, x_next, x_brk, x_cnt, x_ret, x_retO, x_drop, x_asg, x_asgO, x_par, x_own, x_own1, x_own2, x_mut, x_setI, x_rel, x_call, x_callO, x_ap, x_callI, x_callG, x_atO, x_fnI, x_inO, x_part, x_sl, x_chn, x_ref, x_raise, x_it, x_rng1, x_rng2, x_zip, x_for, x_comp, x_all, x_meth, x_aug, x_runD, x_runI, y0, y1, y2, y3, y4, y5, y6, y7, y8, y9, y10, y11, y12, y13, y14, y15, y16, y17, y18, y19, y20, y21, y22, y23, y24, y25, y26, y27, y28, y29, y30, y31, y32, y33, y34, y35, y36, y37, y38, y39, y40, y41, y42, y43, y44, y45, y46, y47, y48, y49, y50, y51, y52, y53, y54, y55, y56, y57, y58, y59, y60, y61, y62, y63, y64, y65, y66, y67, y68, y69, y70, y71, y72, y73, y74, y75, y76, y77, y78, y79, y80, y81, y82, y83, y84, y85, y86, y87, y88, y89, y90, y91, y92, y93, y94, y95, y96, y97, y98, y99, y100, y101, y102, y103, y104, y105, y106, y107, y108, y109, y110, y111, y112, y113, y114, y115, y116, y117, y118, y119, y120, y121, y122, y123, y124, y125, y126, y127, y128, y129, y130, y131, y132, y133, y134, y135, y136, y137, y138, y139, y140, y141, y142, y143, y144, y145, y146, y147, y148, y149, y150, y151, y152, y153, y154, y155, y156, y157, y158, y159, y160, y161, y162, y163, y164, y165, y166, y167, y168, y169, y170, y171, y172, y173, y174, y175, y176, y177, y178, y179, y180, y181, y182, y183, y184, y185, y186, y187, y188, y189, y190, y191, y192, y193, y194, y195, y196, y197, y198, y199, y200, y201, y202, y203, y204, y205, y206, y207, y208, y209, y210, y211, y212, y213, y214, y215, y216, y217, y218, y219, y220, y221, y222, y223, y224, y225, y226, y227, y228, y229, y230, y231, y232, y233, y234, y235, y236, y237, y238, y239, y240, y241, y242, y243, y244, y245, y246, y247, y248, y249, y250, y251, y252, y253, y254, y255, y256, y257, y258, y259, y260, y261, y262, y263, y264, y265, y266, y267, y268, y269, y270, y271, y272, y273, y274, y275, y276, y277, y278, y279, y280, y281, y282, y283, y284, y285, List.getElem?_cons_zero, List.getElem?_cons_succ, List.getElem?_nil, List.set_cons_zero, List.set_cons_succ, List.set_nil, Bool.not_true, Bool.not_false, List.length_cons, List.length_nil, List.length_map, if_true, if_false, u_int_NoneType, u_int_bool, u_int_int, u_int_str, u_int_tuple, u_int_list, u_bool_NoneType, u_bool_bool, u_bool_int, u_bool_str, u_bool_tuple, u_bool_list, u_tuple_NoneType, u_tuple_bool, u_tuple_int, u_tuple_str, u_tuple_tuple, u_tuple_list, u_list_NoneType, u_list_bool, u_list_int, u_list_str, u_list_tuple, u_list_list, u_str_NoneType, u_str_bool, u_str_int, u_str_str, u_str_tuple, u_str_list, u_replicate0, List.map_cons, List.map_nil, List.replicate_succ, List.replicate_zero, List.cons_append, List.nil_append, Nat.reduceSub, Nat.reduceAdd, Nat.reduceLeDiff, Nat.reduceLT, Nat.zero_add, Int.reduceLT, Int.reduceLE, decide_true, decide_false, true_and, and_true, and_self, Bool.false_eq_true, List.append_nil, Int.cast_ofNat_Int, Int.natCast_zero, Int.natCast_one, Int.reduceEq, Int.reduceAdd, Int.reduceSub, Int.reduceMul, Int.reduceNeg, Nat.reduceEqDiff, eq_self, Int.toNat_natCast, atI_z, atI_one, atI_two, ix30, ix31, ix32, c, h0, hl, m1, m2, m3, l211]
theorem pick_eq {k : Nat} {d : D} (hd : Dice DM k d) (hk : k ≤ 1000000) {l : List D} (h0 : 0 < l.length) (h1 : l.length ≤ 1000) : ∃ (i : Nat) (x d' : D), l[i]? = some x ∧ F_law_pick d [.lst l] = .ok x d' ∧ Dice DM (k + 1) d' := by
  obtain ⟨r, d', e, r0, r1, hd'⟩ := roll_eq hd hk (m := (l.length : Int)) (by omega) (by omega)
  have hlt : r.toNat < l.length := by omega
  have ha : atI l r = some l[r.toNat] := atI_of r0 (List.getElem?_eq_getElem hlt)
  refine ⟨r.toNat, l[r.toNat], d', List.getElem?_eq_getElem hlt, ?_, hd'⟩
  simp only [F_law_pick, m_law_pick, envI, x_var, x_var1, x_c, x_bin, x_un, x_nil, x_cons, x_fn, x_tst, x_val, x_not, x_and, x_or, x_ifE, x_ifS, x_seq, x_next, x_brk, x_cnt, x_ret, x_retO, x_drop, x_asg, x_asgO, x_par, x_own, x_own1, x_own2, x_mut, x_setI, x_rel, x_call, x_callO, x_ap, x_callI, x_callG, x_atO, x_fnI, x_inO, x_part, x_sl, x_chn, x_ref, x_raise, x_it, x_rng1, x_rng2, x_zip, x_for, x_comp, x_all, x_meth, x_aug, x_runD, x_runI, y0, y1, y2, y3, y4, y5, y6, y7, y8, y9, y10, y11, y12, y13, y14, y15, y16, y17, y18, y19, y20, y21, y22, y23, y24, y25, y26, y27, y28, y29, y30, y31, y32, y33, y34, y35, y36, y37, y38, y39, y40, y41, y42, y43, y44, y45, y46, y47, y48, y49, y50, y51, y52, y53, y54, y55, y56, y57, y58, y59, y60, y61, y62, y63, y64, y65, y66, y67, y68, y69, y70, y71, y72, y73, y74, y75, y76, y77, y78, y79, y80, y81, y82, y83, y84, y85, y86, y87, y88, y89, y90, y91, y92, y93, y94, y95, y96, y97, y98, y99, y100, y101, y102, y103, y104, y105, y106, y107, y108, y109, y110, y111, y112, y113, y114, y115, y116, y117, y118, y119, y120, y121, y122, y123, y124, y125, y126, y127, y128, y129, y130, y131, y132, y133, y134, y135, y136, y137, y138, y139, y140, y141, y142, y143, y144, y145, y146, y147, y148, y149, y150, y151, y152, y153, y154, y155, y156, y157, y158, y159, y160, y161, y162, y163, y164, y165, y166, y167, y168, y169, y170, y171, y172, y173, y174, y175, y176, y177, y178, y179, y180, y181, y182, y183, y184, y185, y186, y187, y188, y189, y190, y191, y192, y193, y194, y195, y196, y197, y198, y199, y200, y201, y202, y203, y204, y205, y206, y207, y208, y209, y210, y211, y212, y213, y214, y215, y216, y217, y218, y219, y220, y221, y222, y223, y224, y225, y226, y227, y228, y229, y230, y231, y232, y233, y234, y235, y236, y237, y238, y239, y240, y241, y242, y243, y244, y245, y246, y247, y248, y249, y250, y251, y252, y253, y254, y255, y256, y257, y258, y259, y260, y261, y262, y263, y264, y265, y266, y267, y268, y269, y270, y271, y272, y273, y274, y275, y276, y277, y278, y279, y280, y281, y282, y283, y284, y285, List.getElem?_cons_zero, List.getElem?_cons_succ, List.getElem?_nil, List.set_cons_zero, List.set_cons_succ, List.set_nil, Bool.not_true, Bool.not_false, List.length_cons, List.length_nil, List.length_map, if_true, if_false, u_int_NoneType, u_int_bool, u_int_int, u_int_str, u_int_tuple, u_int_list, u_bool_NoneType, u_bool_bool, u_bool_int, u_bool_str, u_bool_tuple, u_bool_list, u_tuple_NoneType, u_tuple_bool, u_tuple_int, u_tuple_str, u_tuple_tuple, u_tuple_list, u_list_NoneType, u_list_bool, u_list_int, u_list_str, u_list_tuple, u_list_list, u_str_NoneType, u_str_bool, u_str_int, u_str_str, u_str_tuple, u_str_list, u_replicate0, List.map_cons, List.map_nil, List.replicate_succ, List.replicate_zero, List.cons_append, List.nil_append, Nat.reduceSub, Nat.reduceAdd, Nat.reduceLeDiff, Nat.reduceLT, Nat.zero_add, Int.reduceLT, Int.reduceLE, decide_true, decide_false, true_and, and_true, and_self, Bool.false_eq_true, List.append_nil, Int.cast_ofNat_Int, Int.natCast_zero, Int.natCast_one, Int.reduceEq, Int.reduceAdd, Int.reduceSub, Int.reduceMul, Int.reduceNeg, Nat.reduceEqDiff, eq_self, Int.toNat_natCast, e, ha]
theorem row_eq {k : Nat} {d : D} (hd : Dice DM k d) (hk : k ≤ 1000) : ∃ (fs : List Int) (d' : D), F_law_row d [.int 5, .int 9] = .ok (.tup (fs.map D.int)) d' ∧ 1 ≤ fs.length ∧ fs.length ≤ 5 ∧ (∀ x ∈ fs, 0 ≤ x ∧ x ≤ 9) ∧ Dice DM (k + 11) d' := by
  obtain ⟨r, d1, e1, r0, r1, hd1⟩ := roll_eq hd (by omega) (m := 5) (by omega) (by omega)
  have hr : -(2 ^ 62) ≤ (1 + r) ∧ (1 + r) < 2 ^ 62 := by
    have e : (2 : Int) ^ 62 = 4611686018427387904 := by decide
    rw [e]
    omega
  have hl : (rngD 0 (1 + r).toNat).length ≤ 16000000 := by rw [u_rng]; omega
  obtain ⟨out, ρ, e, fs, d', rfl, hlen, hall, hdd, rfl⟩ := cmpP (vs := [3]) (g := gSet 3) (tst := mYes) (elt := e1_law_row) (ds := rngD 0 (1 + r).toNat) (ρ0 := [.pw d1, .im (.int 5), .im (.int 9), .em])
    (fun i out ρ => ∃ fs d', out = fs.map D.int ∧ fs.length = i ∧ (∀ x ∈ fs, 0 ≤ x ∧ x ≤ 9) ∧ Dice DM (k + 1 + 2 * i) d' ∧ ρ = [.pw d', .im (.int 5), .im (.int 9), .em])
    ⟨([] : List Int), d1, rfl, rfl, (fun x hx => by cases hx), hd1, rfl⟩ (fun i x out ρ hx ⟨fs, d', h1, h2, h3, h4, h5⟩ => by
      subst h1 h5
      obtain ⟨hi, rfl⟩ := rngD_get hx
      obtain ⟨q, d2, e2, q0, q1, hd2⟩ := roll_eq h4 (by omega) (m := 10) (by omega) (by omega)
      obtain ⟨j, y, d3, hj, e3, hd3⟩ := pick_eq hd2 (by omega) (l := [.int 0, .int q]) (by simp) (by simp)
      have hy : ∃ v : Int, y = .int v ∧ 0 ≤ v ∧ v ≤ 9 := by
        match j, hj with
        | 0, hj => cases hj; exact ⟨0, rfl, by omega, by omega⟩
        | 1, hj => cases hj; exact ⟨q, rfl, by omega, by omega⟩
        | j + 2, hj => simp at hj
      obtain ⟨v, rfl, v0, v1⟩ := hy
      refine ⟨_, rfl, .inl ⟨_, .int v, [.pw d3, .im (.int 5), .im (.int 9), .im (.int (0 + (i : Int)))], rfl, ?_, fs ++ [v], d3, by simp, by simp [h2], fun x hx => ?_, hd3.mono (by omega), rfl⟩⟩
      · simp only [e1_law_row, x_var, x_var1, x_c, x_bin, x_un, x_nil, x_cons, x_fn, x_tst, x_val, x_not, x_and, x_or, x_ifE, x_ifS, x_seq, x_next, x_brk, x_cnt, x_ret, x_retO, x_drop, x_asg, x_asgO, x_par, x_own, x_own1, x_own2, x_mut, x_setI, x_rel, x_call, x_callO, x_ap, x_callI, x_callG, x_atO, x_fnI, x_inO, x_part, x_sl, x_chn, x_ref, x_raise, x_it, x_rng1, x_rng2, x_zip, x_for, x_comp, x_all, x_meth, x_aug, x_runD, x_runI, y0, y1, y2, y3, y4, y5, y6, y7, y8, y9, y10, y11, y12, y13, y14, y15, y16, y17, y18, y19, y20, y21, y22, y23, y24, y25, y26, y27, y28, y29, y30, y31, y32, y33, y34, y35, y36, y37, y38, y39, y40, y41, y42, y43, y44, y45, y46, y47, y48, y49, y50, y51, y52, y53, y54, y55, y56, y57, y58, y59, y60, y61, y62, y63, y64, y65, y66, y67, y68, y69, y70, y71, y72, y73, y74, y75, y76, y77, y78, y79, y80, y81, y82, y83, y84, y85, y86, y87, y88, y89, y90, y91, y92, y93, y94, y95, y96, y97, y98, y99, y100, y101, y102, y103, y104, y105, y106, y107, y108, y109, y110, y111, y112, y113, y114, y115, y116, y117, y118, y119, y120, y121, y122, y123, y124, y125, y126, y127, y128, y129, y130, y131, y132, y133, y134, y135, y136, y137, y138, y139, y140, y141, y142, y143, y144, y145, y146, y147, y148, y149, y150, y151, y152, y153, y154, y155, y156, y157, y158, y159, y160, y161, y162, y163, y164, y165, y166, y167, y168, y169, y170, y171, y172, y173, y174, y175, y176, y177, y178, y179, y180, y181, y182, y183, y184, y185, y186, y187, y188, y189, y190, y191, y192, y193, y194, y195, y196, y197, y198, y199, y200, y201, y202, y203, y204, y205, y206, y207, y208, y209, y210, y211, y212, y213, y214, y215, y216, y217, y218, y219, y220, y221, y222, y223, y224, y225, y226, y227, y228, y229, y230, y231, y232, y233, y234, y235, y236, y237, y238, y239, y240, y241, y242, y243, y244, y245, y246, y247, y248, y249, y250, y251, y252, y253, y254, y255, y256, y257, y258, y259, y260, y261, y262, y263, y264, y265, y266, y267, y268, y269, y270, y271, y272, y273, y274, y275, y276, y277, y278, y279, y280, y281, y282, y283, y284, y285, List.getElem?_cons_zero, List.getElem?_cons_succ, List.getElem?_nil, List.set_cons_zero, List.set_cons_succ, List.set_nil, Bool.not_true, Bool.not_false, List.length_cons, List.length_nil, List.length_map, if_true, if_false, u_int_NoneType, u_int_bool, u_int_int, u_int_str, u_int_tuple, u_int_list, u_bool_NoneType, u_bool_bool, u_bool_int, u_bool_str, u_bool_tuple, u_bool_list, u_tuple_NoneType, u_tuple_bool, u_tuple_int, u_tuple_str, u_tuple_tuple, u_tuple_list, u_list_NoneType, u_list_bool, u_list_int, u_list_str, u_list_tuple, u_list_list, u_str_NoneType, u_str_bool, u_str_int, u_str_str, u_str_tuple, u_str_list, u_replicate0, List.map_cons, List.map_nil, List.replicate_succ, List.replicate_zero, List.cons_append, List.nil_append, Nat.reduceSub, Nat.reduceAdd, Nat.reduceLeDiff, Nat.reduceLT, Nat.zero_add, Int.reduceLT, Int.reduceLE, decide_true, decide_false, true_and, and_true, and_self, Bool.false_eq_true, List.append_nil, Int.cast_ofNat_Int, Int.natCast_zero, Int.natCast_one, Int.reduceEq, Int.reduceAdd, Int.reduceSub, Int.reduceMul, Int.reduceNeg, Nat.reduceEqDiff, eq_self, Int.toNat_natCast, e2, e3]
      · rcases List.mem_append.mp hx with hx | hx
        · exact h3 x hx
        · simp at hx; subst hx; exact ⟨v0, v1⟩)
  rw [u_rng] at hlen hdd
  refine ⟨fs, d', ?_, by omega, by omega, hall, hdd.mono (by omega)⟩
  simp only [F_law_row, m_law_row, envI, x_var, x_var1, x_c, x_bin, x_un, x_nil, x_cons, x_fn, x_tst, x_val, x_not, x_and, x_or, x_ifE, x_ifS, x_seq, x_next, x_brk, x_cnt, x_ret, x_retO, x_drop, x_asg, x_asgO, x_par, x_own, x_own1, x_own2, x_mut, x_setI, x_rel, x_call, x_callO, x_ap, x_callI, x_callG, x_atO, x_fnI, x_inO, x_part, x_sl, x_chn, x_ref, x_raise, x_it, x_rng1, x_rng2, x_zip, x_for, x_comp, x_all, x_meth, x_aug, x_runD, x_runI, y0, y1, y2, y3, y4, y5, y6, y7, y8, y9, y10, y11, y12, y13, y14, y15, y16, y17, y18, y19, y20, y21, y22, y23, y24, y25, y26, y27, y28, y29, y30, y31, y32, y33, y34, y35, y36, y37, y38, y39, y40, y41, y42, y43, y44, y45, y46, y47, y48, y49, y50, y51, y52, y53, y54, y55, y56, y57, y58, y59, y60, y61, y62, y63, y64, y65, y66, y67, y68, y69, y70, y71, y72, y73, y74, y75, y76, y77, y78, y79, y80, y81, y82, y83, y84, y85, y86, y87, y88, y89, y90, y91, y92, y93, y94, y95, y96, y97, y98, y99, y100, y101, y102, y103, y104, y105, y106, y107, y108, y109, y110, y111, y112, y113, y114, y115, y116, y117, y118, y119, y120, y121, y122, y123, y124, y125, y126, y127, y128, y129, y130, y131, y132, y133, y134, y135, y136, y137, y138, y139, y140, y141, y142, y143, y144, y145, y146, y147, y148, y149, y150, y151, y152, y153, y154, y155, y156, y157, y158, y159, y160, y161, y162, y163, y164, y165, y166, y167, y168, y169, y170, y171, y172, y173, y174, y175, y176, y177, y178, y179, y180, y181, y182, y183, y184, y185, y186, y187, y188, y189, y190, y191, y192, y193, y194, y195, y196, y197, y198, y199, y200, y201, y202, y203, y204, y205, y206, y207, y208, y209, y210, y211, y212, y213, y214, y215, y216, y217, y218, y219, y220, y221, y222, y223, y224, y225, y226, y227, y228, y229, y230, y231, y232, y233, y234, y235, y236, y237, y238, y239, y240, y241, y242, y243, y244, y245, y246, y247, y248, y249, y250, y251, y252, y253, y254, y255, y256, y257, y258, y259, y260, y261, y262, y263, y264, y265, y266, y267, y268, y269, y270, y271, y272, y273, y274, y275, y276, y277, y278, y279, y280, y281, y282, y283, y284, y285, List.getElem?_cons_zero, List.getElem?_cons_succ, List.getElem?_nil, List.set_cons_zero, List.set_cons_succ, List.set_nil, Bool.not_true, Bool.not_false, List.length_cons, List.length_nil, List.length_map, if_true, if_false, u_int_NoneType, u_int_bool, u_int_int, u_int_str, u_int_tuple, u_int_list, u_bool_NoneType, u_bool_bool, u_bool_int, u_bool_str, u_bool_tuple, u_bool_list, u_tuple_NoneType, u_tuple_bool, u_tuple_int, u_tuple_str, u_tuple_tuple, u_tuple_list, u_list_NoneType, u_list_bool, u_list_int, u_list_str, u_list_tuple, u_list_list, u_str_NoneType, u_str_bool, u_str_int, u_str_str, u_str_tuple, u_str_list, u_replicate0, List.map_cons, List.map_nil, List.replicate_succ, List.replicate_zero, List.cons_append, List.nil_append, Nat.reduceSub, Nat.reduceAdd, Nat.reduceLeDiff, Nat.reduceLT, Nat.zero_add, Int.reduceLT, Int.reduceLE, decide_true, decide_false, true_and, and_true, and_self, Bool.false_eq_true, List.append_nil, Int.cast_ofNat_Int, Int.natCast_zero, Int.natCast_one, Int.reduceEq, Int.reduceAdd, Int.reduceSub, Int.reduceMul, Int.reduceNeg, Nat.reduceEqDiff, eq_self, Int.toNat_natCast, e1, hr, hl, e]
theorem dice_eq {ns : List Int} {s : Nat} (hs : s ≤ 100) : ∃ d, F_law_dice [.scr ns, .int (s : Int)] = .okO d ∧ Dice DM 0 d := by
  have hm1 : (733 : Int).natAbs.log2 + (s : Int).natAbs.log2 < 1000000 := mul_ok (small64 (by omega) (by omega)) (small64 (by omega) (by omega))
  have hm2 : (7907 : Int).natAbs.log2 + (s : Int).natAbs.log2 < 1000000 := mul_ok (small64 (by omega) (by omega)) (small64 (by omega) (by omega))
  obtain ⟨own, how⟩ : ∃ own : Int, i1 (mBin dAt (mVar 0) (mVar 1)) (mBin dAdd (mBin dMul (mC (.int 733)) (mVar 1)) (mC (.int 29))) (.ok (decide ((s : Int) < (ns.length : Int))) [.im (.scr ns), .im (.int (s : Int)), .em, .em, .em]) = .ok (.int own) [.im (.scr ns), .im (.int (s : Int)), .em, .em, .em] := by
    by_cases c : s < ns.length
    · have c' : decide ((s : Int) < (ns.length : Int)) = true := decide_eq_true (by omega)
      have ha : atI ns (s : Int) = some ns[s] := atN (List.getElem?_eq_getElem c)
      refine ⟨ns[s], ?_⟩
      simp only [c', x_var, x_var1, x_c, x_bin, x_un, x_nil, x_cons, x_fn, x_tst, x_val, x_not, x_and, x_or, x_ifE, x_ifS, x_seq, x_next, x_brk, x_cnt, x_ret, x_retO, x_drop, x_asg, x_asgO, x_par, x_own, x_own1, x_own2, x_mut, x_setI, x_rel, x_call, x_callO, x_ap, x_callI, x_callG, x_atO, x_fnI, x_inO, x_part, x_sl, x_chn, x_ref, x_raise, x_it, x_rng1, x_rng2, x_zip, x_for, x_comp, x_all, x_meth, x_aug, x_runD, x_runI, y0, y1, y2, y3, y4, y5, y6, y7, y8, y9, y10, y11, y12, y13, y14, y15, y16, y17, y18, y19, y20, y21, y22, y23, y24, y25, y26, y27, y28, y29, y30, y31, y32, y33, y34, y35, y36, y37, y38, y39, y40, y41, y42, y43, y44, y45, y46, y47, y48, y49, y50, y51, y52, y53, y54, y55, y56, y57, y58, y59, y60, y61, y62, y63, y64, y65, y66, y67, y68, y69, y70, y71, y72, y73, y74, y75, y76, y77, y78, y79, y80, y81, y82, y83, y84, y85, y86, y87, y88, y89, y90, y91, y92, y93, y94, y95, y96, y97, y98, y99, y100, y101, y102, y103, y104, y105, y106, y107, y108, y109, y110, y111, y112, y113, y114, y115, y116, y117, y118, y119, y120, y121, y122, y123, y124, y125, y126, y127, y128, y129, y130, y131, y132, y133, y134, y135, y136, y137, y138, y139, y140, y141, y142, y143, y144, y145, y146, y147, y148, y149, y150, y151, y152, y153, y154, y155, y156, y157, y158, y159, y160, y161, y162, y163, y164, y165, y166, y167, y168, y169, y170, y171, y172, y173, y174, y175, y176, y177, y178, y179, y180, y181, y182, y183, y184, y185, y186, y187, y188, y189, y190, y191, y192, y193, y194, y195, y196, y197, y198, y199, y200, y201, y202, y203, y204, y205, y206, y207, y208, y209, y210, y211, y212, y213, y214, y215, y216, y217, y218, y219, y220, y221, y222, y223, y224, y225, y226, y227, y228, y229, y230, y231, y232, y233, y234, y235, y236, y237, y238, y239, y240, y241, y242, y243, y244, y245, y246, y247, y248, y249, y250, y251, y252, y253, y254, y255, y256, y257, y258, y259, y260, y261, y262, y263, y264, y265, y266, y267, y268, y269, y270, y271, y272, y273, y274, y275, y276, y277, y278, y279, y280, y281, y282, y283, y284, y285, List.getElem?_cons_zero, List.getElem?_cons_succ, List.getElem?_nil, List.set_cons_zero, List.set_cons_succ, List.set_nil, Bool.not_true, Bool.not_false, List.length_cons, List.length_nil, List.length_map, if_true, if_false, u_int_NoneType, u_int_bool, u_int_int, u_int_str, u_int_tuple, u_int_list, u_bool_NoneType, u_bool_bool, u_bool_int, u_bool_str, u_bool_tuple, u_bool_list, u_tuple_NoneType, u_tuple_bool, u_tuple_int, u_tuple_str, u_tuple_tuple, u_tuple_list, u_list_NoneType, u_list_bool, u_list_int, u_list_str, u_list_tuple, u_list_list, u_str_NoneType, u_str_bool, u_str_int, u_str_str, u_str_tuple, u_str_list, u_replicate0, List.map_cons, List.map_nil, List.replicate_succ, List.replicate_zero, List.cons_append, List.nil_append, Nat.reduceSub, Nat.reduceAdd, Nat.reduceLeDiff, Nat.reduceLT, Nat.zero_add, Int.reduceLT, Int.reduceLE, decide_true, decide_false, true_and, and_true, and_self, Bool.false_eq_true, List.append_nil, Int.cast_ofNat_Int, Int.natCast_zero, Int.natCast_one, Int.reduceEq, Int.reduceAdd, Int.reduceSub, Int.reduceMul, Int.reduceNeg, Nat.reduceEqDiff, eq_self, Int.toNat_natCast, ha, Option.map_some]
    · have c' : decide ((s : Int) < (ns.length : Int)) = false := decide_eq_false (by omega)
      refine ⟨733 * (s : Int) + 29, ?_⟩
      simp only [c', x_var, x_var1, x_c, x_bin, x_un, x_nil, x_cons, x_fn, x_tst, x_val, x_not, x_and, x_or, x_ifE, x_ifS, x_seq, x_next, x_brk, x_cnt, x_ret, x_retO, x_drop, x_asg, x_asgO, x_par, x_own, x_own1, x_own2, x_mut, x_setI, x_rel, x_call, x_callO, x_ap, x_callI, x_callG, x_atO, x_fnI, x_inO, x_part, x_sl, x_chn, x_ref, x_raise, x_it, x_rng1, x_rng2, x_zip, x_for, x_comp, x_all, x_meth, x_aug, x_runD, x_runI, y0, y1, y2, y3, y4, y5, y6, y7, y8, y9, y10, y11, y12, y13, y14, y15, y16, y17, y18, y19, y20, y21, y22, y23, y24, y25, y26, y27, y28, y29, y30, y31, y32, y33, y34, y35, y36, y37, y38, y39, y40, y41, y42, y43, y44, y45, y46, y47, y48, y49, y50, y51, y52, y53, y54, y55, y56, y57, y58, y59, y60, y61, y62, y63, y64, y65, y66, y67, y68, y69, y70, y71, y72, y73, y74, y75, y76, y77, y78, y79, y80, y81, y82, y83, y84, y85, y86, y87, y88, y89, y90, y91, y92, y93, y94, y95, y96, y97, y98, y99, y100, y101, y102, y103, y104, y105, y106, y107, y108, y109, y110, y111, y112, y113, y114, y115, y116, y117, y118, y119, y120, y121, y122, y123, y124, y125, y126, y127, y128, y129, y130, y131, y132, y133, y134, y135, y136, y137, y138, y139, y140, y141, y142, y143, y144, y145, y146, y147, y148, y149, y150, y151, y152, y153, y154, y155, y156, y157, y158, y159, y160, y161, y162, y163, y164, y165, y166, y167, y168, y169, y170, y171, y172, y173, y174, y175, y176, y177, y178, y179, y180, y181, y182, y183, y184, y185, y186, y187, y188, y189, y190, y191, y192, y193, y194, y195, y196, y197, y198, y199, y200, y201, y202, y203, y204, y205, y206, y207, y208, y209, y210, y211, y212, y213, y214, y215, y216, y217, y218, y219, y220, y221, y222, y223, y224, y225, y226, y227, y228, y229, y230, y231, y232, y233, y234, y235, y236, y237, y238, y239, y240, y241, y242, y243, y244, y245, y246, y247, y248, y249, y250, y251, y252, y253, y254, y255, y256, y257, y258, y259, y260, y261, y262, y263, y264, y265, y266, y267, y268, y269, y270, y271, y272, y273, y274, y275, y276, y277, y278, y279, y280, y281, y282, y283, y284, y285, List.getElem?_cons_zero, List.getElem?_cons_succ, List.getElem?_nil, List.set_cons_zero, List.set_cons_succ, List.set_nil, Bool.not_true, Bool.not_false, List.length_cons, List.length_nil, List.length_map, if_true, if_false, u_int_NoneType, u_int_bool, u_int_int, u_int_str, u_int_tuple, u_int_list, u_bool_NoneType, u_bool_bool, u_bool_int, u_bool_str, u_bool_tuple, u_bool_list, u_tuple_NoneType, u_tuple_bool, u_tuple_int, u_tuple_str, u_tuple_tuple, u_tuple_list, u_list_NoneType, u_list_bool, u_list_int, u_list_str, u_list_tuple, u_list_list, u_str_NoneType, u_str_bool, u_str_int, u_str_str, u_str_tuple, u_str_list, u_replicate0, List.map_cons, List.map_nil, List.replicate_succ, List.replicate_zero, List.cons_append, List.nil_append, Nat.reduceSub, Nat.reduceAdd, Nat.reduceLeDiff, Nat.reduceLT, Nat.zero_add, Int.reduceLT, Int.reduceLE, decide_true, decide_false, true_and, and_true, and_self, Bool.false_eq_true, List.append_nil, Int.cast_ofNat_Int, Int.natCast_zero, Int.natCast_one, Int.reduceEq, Int.reduceAdd, Int.reduceSub, Int.reduceMul, Int.reduceNeg, Nat.reduceEqDiff, eq_self, Int.toNat_natCast, hm1]
  have hlen : ((cutL ns none (some 6)).map D.int).length + [D.int own].length ≤ 16000000 := by
    have : (cutL ns none (some 6)).length ≤ 6 := by
      unfold cutL
      rw [List.length_take]
      unfold HT.sIx
      simp
      omega
    rw [List.length_map, List.length_singleton]
    omega
  have hadd : dAdd (.lst ((cutL ns none (some 6)).map D.int)) (.lst [.int own]) = some (.lst ((cutL ns none (some 6) ++ [own]).map D.int)) := by
    show (if ((cutL ns none (some 6)).map D.int).length + [D.int own].length ≤ 16000000 then some (D.lst ((cutL ns none (some 6)).map D.int ++ [.int own])) else none) = _
    rw [if_pos hlen, List.map_append]
    rfl
  obtain ⟨ρ, e, mx, x, h0, h1, rfl⟩ := forP (g := gSet 4) (b := b1_law_dice) (ds := (cutL ns none (some 6) ++ [own]).map D.int) (ρ0 := [.im (.scr ns), .im (.int (s : Int)), .im (.int own), .im (.int (930011 + 7907 * (s : Int))), .em])
    (fun i ρ => ∃ mx x, 0 ≤ mx ∧ mx < DM ∧ ρ = [.im (.scr ns), .im (.int (s : Int)), .im (.int own), .im (.int mx), x]) ⟨_, _, by omega, by have hDM : DM = 2147480009 := rfl; omega, rfl⟩ (fun i d ρ hd ⟨mx, x, h0, h1, h2⟩ => by
      subst h2
      obtain ⟨c, rfl⟩ : ∃ c : Int, d = .int c := by
        rw [List.getElem?_map] at hd
        cases q : (cutL ns none (some 6) ++ [own])[i]? with
        | none => rw [q] at hd; cases hd
        | some c => rw [q] at hd; exact ⟨c, (Option.some.inj hd).symm⟩
      have hDM : DM = 2147480009 := rfl
      have m1 : mx.natAbs.log2 + (48271 : Int).natAbs.log2 < 1000000 := mul_ok (small64 (by omega) (by omega)) (small64 (by omega) (by omega))
      refine ⟨_, [.im (.scr ns), .im (.int (s : Int)), .im (.int own), .im (.int ((mx * 48271 + c % DM) % DM)), .im (.int c)], rfl, .inl ?_, _, _, Int.emod_nonneg _ (by decide), Int.emod_lt_of_pos _ (by decide), rfl⟩
      simp only [b1_law_dice, x_var, x_var1, x_c, x_bin, x_un, x_nil, x_cons, x_fn, x_tst, x_val, x_not, x_and, x_or, x_ifE, x_ifS, x_seq, x_next, x_brk, x_cnt, x_ret, x_retO, x_drop, x_asg, x_asgO, x_par, x_own, x_own1, x_own2, x_mut, x_setI, x_rel, x_call, x_callO, x_ap, x_callI, x_callG, x_atO, x_fnI, x_inO, x_part, x_sl, x_chn, x_ref, x_raise, x_it, x_rng1, x_rng2, x_zip, x_for, x_comp, x_all, x_meth, x_aug, x_runD, x_runI, y0, y1, y2, y3, y4, y5, y6, y7, y8, y9, y10, y11, y12, y13, y14, y15, y16, y17, y18, y19, y20, y21, y22, y23, y24, y25, y26, y27, y28, y29, y30, y31, y32, y33, y34, y35, y36, y37, y38, y39, y40, y41, y42, y43, y44, y45, y46, y47, y48, y49, y50, y51, y52, y53, y54, y55, y56, y57, y58, y59, y60, y61, y62, y63, y64, y65, y66, y67, y68, y69, y70, y71, y72, y73, y74, y75, y76, y77, y78, y79, y80, y81, y82, y83, y84, y85, y86, y87, y88, y89, y90, y91, y92, y93, y94, y95, y96, y97, y98, y99, y100, y101, y102, y103, y104, y105, y106, y107, y108, y109, y110, y111, y112, y113, y114, y115, y116, y117, y118, y119, y120, y121, y122, y123, y124, y125, y126, y127, y128, y129, y130, y131, y132, y133, y134, y135, y136, y137, y138, y139, y140, y141, y142, y143, y144, y145, y146, y147, y148, y149, y150, y151, y152, y153, y154, y155, y156, y157, y158, y159, y160, y161, y162, y163, y164, y165, y166, y167, y168, y169, y170, y171, y172, y173, y174, y175, y176, y177, y178, y179, y180, y181, y182, y183, y184, y185, y186, y187, y188, y189, y190, y191, y192, y193, y194, y195, y196, y197, y198, y199, y200, y201, y202, y203, y204, y205, y206, y207, y208, y209, y210, y211, y212, y213, y214, y215, y216, y217, y218, y219, y220, y221, y222, y223, y224, y225, y226, y227, y228, y229, y230, y231, y232, y233, y234, y235, y236, y237, y238, y239, y240, y241, y242, y243, y244, y245, y246, y247, y248, y249, y250, y251, y252, y253, y254, y255, y256, y257, y258, y259, y260, y261, y262, y263, y264, y265, y266, y267, y268, y269, y270, y271, y272, y273, y274, y275, y276, y277, y278, y279, y280, y281, y282, y283, y284, y285, List.getElem?_cons_zero, List.getElem?_cons_succ, List.getElem?_nil, List.set_cons_zero, List.set_cons_succ, List.set_nil, Bool.not_true, Bool.not_false, List.length_cons, List.length_nil, List.length_map, if_true, if_false, u_int_NoneType, u_int_bool, u_int_int, u_int_str, u_int_tuple, u_int_list, u_bool_NoneType, u_bool_bool, u_bool_int, u_bool_str, u_bool_tuple, u_bool_list, u_tuple_NoneType, u_tuple_bool, u_tuple_int, u_tuple_str, u_tuple_tuple, u_tuple_list, u_list_NoneType, u_list_bool, u_list_int, u_list_str, u_list_tuple, u_list_list, u_str_NoneType, u_str_bool, u_str_int, u_str_str, u_str_tuple, u_str_list, u_replicate0, List.map_cons, List.map_nil, List.replicate_succ, List.replicate_zero, List.cons_append, List.nil_append, Nat.reduceSub, Nat.reduceAdd, Nat.reduceLeDiff, Nat.reduceLT, Nat.zero_add, Int.reduceLT, Int.reduceLE, decide_true, decide_false, true_and, and_true, and_self, Bool.false_eq_true, List.append_nil, Int.cast_ofNat_Int, Int.natCast_zero, Int.natCast_one, Int.reduceEq, Int.reduceAdd, Int.reduceSub, Int.reduceMul, Int.reduceNeg, Nat.reduceEqDiff, eq_self, Int.toNat_natCast, m1])
  have hpow : dPow (.int 10) (.int 16) = some (.int (10 ^ 16)) := by rfl
  have hsl : dSl (.scr ns) none (some 6) = some (.lst ((cutL ns none (some 6)).map D.int)) := rfl
  by_cases c : own < 0
  · refine ⟨.lst [.int (-own), .int mx, .int 0], ?_, _, _, _, rfl, by omega, h0, h1, by omega, by omega⟩
    simp only [F_law_dice, m_law_dice, envD, x_var, x_var1, x_c, x_bin, x_un, x_nil, x_cons, x_fn, x_tst, x_val, x_not, x_and, x_or, x_ifE, x_ifS, x_seq, x_next, x_brk, x_cnt, x_ret, x_retO, x_drop, x_asg, x_asgO, x_par, x_own, x_own1, x_own2, x_mut, x_setI, x_rel, x_call, x_callO, x_ap, x_callI, x_callG, x_atO, x_fnI, x_inO, x_part, x_sl, x_chn, x_ref, x_raise, x_it, x_rng1, x_rng2, x_zip, x_for, x_comp, x_all, x_meth, x_aug, x_runD, x_runI, y0, y1, y2, y3, y4, y5, y6, y7, y8, y9, y10, y11, y12, y13, y14, y15, y16, y17, y18, y19, y20, y21, y22, y23, y24, y25, y26, y27, y28, y29, y30, y31, y32, y33, y34, y35, y36, y37, y38, y39, y40, y41, y42, y43, y44, y45, y46, y47, y48, y49, y50, y51, y52, y53, y54, y55, y56, y57, y58, y59, y60, y61, y62, y63, y64, y65, y66, y67, y68, y69, y70, y71, y72, y73, y74, y75, y76, y77, y78, y79, y80, y81, y82, y83, y84, y85, y86, y87, y88, y89, y90, y91, y92, y93, y94, y95, y96, y97, y98, y99, y100, y101, y102, y103, y104, y105, y106, y107, y108, y109, y110, y111, y112, y113, y114, y115, y116, y117, y118, y119, y120, y121, y122, y123, y124, y125, y126, y127, y128, y129, y130, y131, y132, y133, y134, y135, y136, y137, y138, y139, y140, y141, y142, y143, y144, y145, y146, y147, y148, y149, y150, y151, y152, y153, y154, y155, y156, y157, y158, y159, y160, y161, y162, y163, y164, y165, y166, y167, y168, y169, y170, y171, y172, y173, y174, y175, y176, y177, y178, y179, y180, y181, y182, y183, y184, y185, y186, y187, y188, y189, y190, y191, y192, y193, y194, y195, y196, y197, y198, y199, y200, y201, y202, y203, y204, y205, y206, y207, y208, y209, y210, y211, y212, y213, y214, y215, y216, y217, y218, y219, y220, y221, y222, y223, y224, y225, y226, y227, y228, y229, y230, y231, y232, y233, y234, y235, y236, y237, y238, y239, y240, y241, y242, y243, y244, y245, y246, y247, y248, y249, y250, y251, y252, y253, y254, y255, y256, y257, y258, y259, y260, y261, y262, y263, y264, y265, y266, y267, y268, y269, y270, y271, y272, y273, y274, y275, y276, y277, y278, y279, y280, y281, y282, y283, y284, y285, List.getElem?_cons_zero, List.getElem?_cons_succ, List.getElem?_nil, List.set_cons_zero, List.set_cons_succ, List.set_nil, Bool.not_true, Bool.not_false, List.length_cons, List.length_nil, List.length_map, if_true, if_false, u_int_NoneType, u_int_bool, u_int_int, u_int_str, u_int_tuple, u_int_list, u_bool_NoneType, u_bool_bool, u_bool_int, u_bool_str, u_bool_tuple, u_bool_list, u_tuple_NoneType, u_tuple_bool, u_tuple_int, u_tuple_str, u_tuple_tuple, u_tuple_list, u_list_NoneType, u_list_bool, u_list_int, u_list_str, u_list_tuple, u_list_list, u_str_NoneType, u_str_bool, u_str_int, u_str_str, u_str_tuple, u_str_list, u_replicate0, List.map_cons, List.map_nil, List.replicate_succ, List.replicate_zero, List.cons_append, List.nil_append, Nat.reduceSub, Nat.reduceAdd, Nat.reduceLeDiff, Nat.reduceLT, Nat.zero_add, Int.reduceLT, Int.reduceLE, decide_true, decide_false, true_and, and_true, and_self, Bool.false_eq_true, List.append_nil, Int.cast_ofNat_Int, Int.natCast_zero, Int.natCast_one, Int.reduceEq, Int.reduceAdd, Int.reduceSub, Int.reduceMul, Int.reduceNeg, Nat.reduceEqDiff, eq_self, Int.toNat_natCast, how, hm2, hadd, e, c]
  · by_cases c2 : (10 : Int) ^ 16 ≤ own
    · refine ⟨.lst [.int own, .int mx, .int 0], ?_, _, _, _, rfl, by omega, h0, h1, by omega, by omega⟩
      simp only [F_law_dice, m_law_dice, envD, x_var, x_var1, x_c, x_bin, x_un, x_nil, x_cons, x_fn, x_tst, x_val, x_not, x_and, x_or, x_ifE, x_ifS, x_seq, x_next, x_brk, x_cnt, x_ret, x_retO, x_drop, x_asg, x_asgO, x_par, x_own, x_own1, x_own2, x_mut, x_setI, x_rel, x_call, x_callO, x_ap, x_callI, x_callG, x_atO, x_fnI, x_inO, x_part, x_sl, x_chn, x_ref, x_raise, x_it, x_rng1, x_rng2, x_zip, x_for, x_comp, x_all, x_meth, x_aug, x_runD, x_runI, y0, y1, y2, y3, y4, y5, y6, y7, y8, y9, y10, y11, y12, y13, y14, y15, y16, y17, y18, y19, y20, y21, y22, y23, y24, y25, y26, y27, y28, y29, y30, y31, y32, y33, y34, y35, y36, y37, y38, y39, y40, y41, y42, y43, y44, y45, y46, y47, y48, y49, y50, y51, y52, y53, y54, y55, y56, y57, y58, y59, y60, y61, y62, y63, y64, y65, y66, y67, y68, y69, y70, y71, y72, y73, y74, y75, y76, y77, y78, y79, y80, y81, y82, y83, y84, y85, y86, y87, y88, y89, y90, y91, y92, y93, y94, y95, y96, y97, y98, y99, y100, y101, y102, y103, y104, y105, y106, y107, y108, y109, y110, y111, y112, y113, y114, y115, y116, y117, y118, y119, y120, y121, y122, y123, y124, y125, y126, y127, y128, y129, y130, y131, y132, y133, y134, y135, y136, y137, y138, y139, y140, y141, y142, y143, y144, y145, y146, y147, y148, y149, y150, y151, y152, y153, y154, y155, y156, y157, y158, y159, y160, y161, y162, y163, y164, y165, y166, y167, y168, y169, y170, y171, y172, y173, y174, y175, y176, y177, y178, y179, y180, y181, y182, y183, y184, y185, y186, y187, y188, y189, y190, y191, y192, y193, y194, y195, y196, y197, y198, y199, y200, y201, y202, y203, y204, y205, y206, y207, y208, y209, y210, y211, y212, y213, y214, y215, y216, y217, y218, y219, y220, y221, y222, y223, y224, y225, y226, y227, y228, y229, y230, y231, y232, y233, y234, y235, y236, y237, y238, y239, y240, y241, y242, y243, y244, y245, y246, y247, y248, y249, y250, y251, y252, y253, y254, y255, y256, y257, y258, y259, y260, y261, y262, y263, y264, y265, y266, y267, y268, y269, y270, y271, y272, y273, y274, y275, y276, y277, y278, y279, y280, y281, y282, y283, y284, y285, List.getElem?_cons_zero, List.getElem?_cons_succ, List.getElem?_nil, List.set_cons_zero, List.set_cons_succ, List.set_nil, Bool.not_true, Bool.not_false, List.length_cons, List.length_nil, List.length_map, if_true, if_false, u_int_NoneType, u_int_bool, u_int_int, u_int_str, u_int_tuple, u_int_list, u_bool_NoneType, u_bool_bool, u_bool_int, u_bool_str, u_bool_tuple, u_bool_list, u_tuple_NoneType, u_tuple_bool, u_tuple_int, u_tuple_str, u_tuple_tuple, u_tuple_list, u_list_NoneType, u_list_bool, u_list_int, u_list_str, u_list_tuple, u_list_list, u_str_NoneType, u_str_bool, u_str_int, u_str_str, u_str_tuple, u_str_list, u_replicate0, List.map_cons, List.map_nil, List.replicate_succ, List.replicate_zero, List.cons_append, List.nil_append, Nat.reduceSub, Nat.reduceAdd, Nat.reduceLeDiff, Nat.reduceLT, Nat.zero_add, Int.reduceLT, Int.reduceLE, decide_true, decide_false, true_and, and_true, and_self, Bool.false_eq_true, List.append_nil, Int.cast_ofNat_Int, Int.natCast_zero, Int.natCast_one, Int.reduceEq, Int.reduceAdd, Int.reduceSub, Int.reduceMul, Int.reduceNeg, Nat.reduceEqDiff, eq_self, Int.toNat_natCast, how, hm2, hadd, e, c, hpow, c2]
    · refine ⟨.lst [.int 0, .int mx, .int 0], ?_, _, _, _, rfl, by omega, h0, h1, by omega, by omega⟩
      simp only [F_law_dice, m_law_dice, envD, x_var, x_var1, x_c, x_bin, x_un, x_nil, x_cons, x_fn, x_tst, x_val, x_not, x_and, x_or, x_ifE, x_ifS, x_seq, x_next, x_brk, x_cnt, x_ret, x_retO, x_drop, x_asg, x_asgO, x_par, x_own, x_own1, x_own2, x_mut, x_setI, x_rel, x_call, x_callO, x_ap, x_callI, x_callG, x_atO, x_fnI, x_inO, x_part, x_sl, x_chn, x_ref, x_raise, x_it, x_rng1, x_rng2, x_zip, x_for, x_comp, x_all, x_meth, x_aug, x_runD, x_runI, y0, y1, y2, y3, y4, y5, y6, y7, y8, y9, y10, y11, y12, y13, y14, y15, y16, y17, y18, y19, y20, y21, y22, y23, y24, y25, y26, y27, y28, y29, y30, y31, y32, y33, y34, y35, y36, y37, y38, y39, y40, y41, y42, y43, y44, y45, y46, y47, y48, y49, y50, y51, y52, y53, y54, y55, y56, y57, y58, y59, y60, y61, y62, y63, y64, y65, y66, y67, y68, y69, y70, y71, y72, y73, y74, y75, y76, y77, y78, y79, y80, y81, y82, y83, y84, y85, y86, y87, y88, y89, y90, y91, y92, y93, y94, y95, y96, y97, y98, y99, y100, y101, y102, y103, y104, y105, y106, y107, y108, y109, y110, y111, y112, y113, y114, y115, y116, y117, y118, y119, y120, y121, y122, y123, y124, y125, y126, y127, y128, y129, y130, y131, y132, y133, y134, y135, y136, y137, y138, y139, y140, y141, y142, y143, y144, y145, y146, y147, y148, y149, y150, y151, y152, y153, y154, y155, y156, y157, y158, y159, y160, y161, y162, y163, y164, y165, y166, y167, y168, y169, y170, y171, y172, y173, y174, y175, y176, y177, y178, y179, y180, y181, y182, y183, y184, y185, y186, y187, y188, y189, y190, y191, y192, y193, y194, y195, y196, y197, y198, y199, y200, y201, y202, y203, y204, y205, y206, y207, y208, y209, y210, y211, y212, y213, y214, y215, y216, y217, y218, y219, y220, y221, y222, y223, y224, y225, y226, y227, y228, y229, y230, y231, y232, y233, y234, y235, y236, y237, y238, y239, y240, y241, y242, y243, y244, y245, y246, y247, y248, y249, y250, y251, y252, y253, y254, y255, y256, y257, y258, y259, y260, y261, y262, y263, y264, y265, y266, y267, y268, y269, y270, y271, y272, y273, y274, y275, y276, y277, y278, y279, y280, y281, y282, y283, y284, y285, List.getElem?_cons_zero, List.getElem?_cons_succ, List.getElem?_nil, List.set_cons_zero, List.set_cons_succ, List.set_nil, Bool.not_true, Bool.not_false, List.length_cons, List.length_nil, List.length_map, if_true, if_false, u_int_NoneType, u_int_bool, u_int_int, u_int_str, u_int_tuple, u_int_list, u_bool_NoneType, u_bool_bool, u_bool_int, u_bool_str, u_bool_tuple, u_bool_list, u_tuple_NoneType, u_tuple_bool, u_tuple_int, u_tuple_str, u_tuple_tuple, u_tuple_list, u_list_NoneType, u_list_bool, u_list_int, u_list_str, u_list_tuple, u_list_list, u_str_NoneType, u_str_bool, u_str_int, u_str_str, u_str_tuple, u_str_list, u_replicate0, List.map_cons, List.map_nil, List.replicate_succ, List.replicate_zero, List.cons_append, List.nil_append, Nat.reduceSub, Nat.reduceAdd, Nat.reduceLeDiff, Nat.reduceLT, Nat.zero_add, Int.reduceLT, Int.reduceLE, decide_true, decide_false, true_and, and_true, and_self, Bool.false_eq_true, List.append_nil, Int.cast_ofNat_Int, Int.natCast_zero, Int.natCast_one, Int.reduceEq, Int.reduceAdd, Int.reduceSub, Int.reduceMul, Int.reduceNeg, Nat.reduceEqDiff, eq_self, Int.toNat_natCast, how, hm2, hadd, e, c, hpow, c2]
end K19
set_option Elab.async false
set_option linter.all false
set_option maxRecDepth 100000
set_option maxHeartbeats 4000000
/-! K19L: the law's own walks. -/
namespace K19
open PySem PySem.Spec PyProof.Rows L2 RZ RK
/-- the law's rows: pack, water, later -/
def Sky.lw (S : Sky) (m : Int) (k : Nat) : List D := (List.range k).map fun i => D.tup [.int (S.pk m 0 i), .int (S.off m i (S.pk m 0 i)), .int (S.pk m 0 (i + 1))]
theorem lw_next (S : Sky) (m : Int) (k : Nat) : S.lw m (k + 1) = S.lw m k ++ [D.tup [.int (S.pk m 0 k), .int (S.off m k (S.pk m 0 k)), .int (S.pk m 0 (k + 1))]] := by
  unfold Sky.lw
  rw [List.range_succ, List.map_append]
  rfl
theorem lw_len (S : Sky) (m : Int) (k : Nat) : (S.lw m k).length = k := by unfold Sky.lw; simp
theorem lw_at (S : Sky) (m : Int) {k i : Nat} (h : i < k) : (S.lw m k)[i]? = some (D.tup [.int (S.pk m 0 i), .int (S.off m i (S.pk m 0 i)), .int (S.pk m 0 (i + 1))]) := by
  unfold Sky.lw
  rw [List.getElem?_map, List.getElem?_range h]
  rfl
section
variable {S : Sky} {m p : Int}
theorem lsnow_eq (h : S.Ok) {k : Nat} (hk : k ≤ 1000) : F_law_snow [S.d, .int m, .int (k : Int)] = .ok (.lst (S.lw m k)) := by
  have hr := n_range (n := k) (by omega)
  have hn : (S.fs.length : Int) = (S.n : Int) := rfl
  have hp : (0 : Int) < (S.n : Int) := by have := h.pos; omega
  obtain ⟨ρ, e, x5, x6, x7, x8, x9, rfl⟩ := forPR (g := gSet 5) (b := b1_law_snow) (lo := 0) (n := k) (fun i ρ => ∃ x5 x6 x7 x8 x9, ρ = [.im S.d, .im (.int m), .im (.int (k : Int)), .im (.int (S.pk m 0 i)), .ow (.lst (S.lw m i)), x5, x6, x7, x8, x9])
    (ρ0 := [.im S.d, .im (.int m), .im (.int (k : Int)), .im (.int 0), .ow (.lst []), .em, .em, .em, .em, .em]) ⟨_, _, _, _, _, rfl⟩ (fun i ρ hi ⟨x5, x6, x7, x8, x9, hx⟩ => by
    subst hx
    have hlt : (S.lw m i).length < 16000000 := by rw [lw_len]; omega
    have ez : (0 : Int) + (i : Int) = (i : Int) := by omega
    have h1 := h.at_f i
    have h2 := h.at_c i
    have hgo : S.pk m 0 (i + 1) = S.go m i (S.pk m 0 i) := rfl
    cases hc : S.c i with
    | true =>
      rw [hc] at h2
      have e1 : S.go m i (S.pk m 0 i) = S.pk m 0 i + S.f i := by unfold Sky.go; rw [if_pos hc]
      have e2 : S.off m i (S.pk m 0 i) = 0 := by unfold Sky.off; rw [if_pos hc]
      refine ⟨_, _, rfl, .inl ?_, .im (.int (i : Int)), .im (.int (S.f i)), .im (.bl true), .im (.int 0), .im (.int (S.pk m 0 (i + 1))), rfl⟩
      simp only [b1_law_snow, x_var, x_var1, x_c, x_bin, x_un, x_nil, x_cons, x_fn, x_tst, x_val, x_not, x_and, x_or, x_ifE, x_ifS, x_seq, x_next, x_brk, x_cnt, x_ret, x_retO, x_drop, x_asg, x_asgO, x_par, x_own, x_own1, x_own2, x_mut, x_setI, x_rel, x_call, x_callO, x_ap, x_callI, x_callG, x_atO, x_fnI, x_inO, x_part, x_sl, x_chn, x_ref, x_raise, x_it, x_rng1, x_rng2, x_zip, x_for, x_comp, x_all, x_meth, x_aug, x_runD, x_runI, y0, y1, y2, y3, y4, y5, y6, y7, y8, y9, y10, y11, y12, y13, y14, y15, y16, y17, y18, y19, y20, y21, y22, y23, y24, y25, y26, y27, y28, y29, y30, y31, y32, y33, y34, y35, y36, y37, y38, y39, y40, y41, y42, y43, y44, y45, y46, y47, y48, y49, y50, y51, y52, y53, y54, y55, y56, y57, y58, y59, y60, y61, y62, y63, y64, y65, y66, y67, y68, y69, y70, y71, y72, y73, y74, y75, y76, y77, y78, y79, y80, y81, y82, y83, y84, y85, y86, y87, y88, y89, y90, y91, y92, y93, y94, y95, y96, y97, y98, y99, y100, y101, y102, y103, y104, y105, y106, y107, y108, y109, y110, y111, y112, y113, y114, y115, y116, y117, y118, y119, y120, y121, y122, y123, y124, y125, y126, y127, y128, y129, y130, y131, y132, y133, y134, y135, y136, y137, y138, y139, y140, y141, y142, y143, y144, y145, y146, y147, y148, y149, y150, y151, y152, y153, y154, y155, y156, y157, y158, y159, y160, y161, y162, y163, y164, y165, y166, y167, y168, y169, y170, y171, y172, y173, y174, y175, y176, y177, y178, y179, y180, y181, y182, y183, y184, y185, y186, y187, y188, y189, y190, y191, y192, y193, y194, y195, y196, y197, y198, y199, y200, y201, y202, y203, y204, y205, y206, y207, y208, y209, y210, y211, y212, y213, y214, y215, y216, y217, y218, y219, y220, y221, y222, y223, y224, y225, y226, y227, y228, y229, y230, y231, y232, y233, y234, y235, y236, y237, y238, y239, y240, y241, y242, y243, y244, y245, y246, y247, y248, y249, y250, y251, y252, y253, y254, y255, y256, y257, y258, y259, y260, y261, y262, y263, y264, y265, y266, y267, y268, y269, y270, y271, y272, y273, y274, y275, y276, y277, y278, y279, y280, y281, y282, y283, y284, y285, List.getElem?_cons_zero, List.getElem?_cons_succ, List.getElem?_nil, List.set_cons_zero, List.set_cons_succ, List.set_nil, Bool.not_true, Bool.not_false, List.length_cons, List.length_nil, List.length_map, if_true, if_false, u_int_NoneType, u_int_bool, u_int_int, u_int_str, u_int_tuple, u_int_list, u_bool_NoneType, u_bool_bool, u_bool_int, u_bool_str, u_bool_tuple, u_bool_list, u_tuple_NoneType, u_tuple_bool, u_tuple_int, u_tuple_str, u_tuple_tuple, u_tuple_list, u_list_NoneType, u_list_bool, u_list_int, u_list_str, u_list_tuple, u_list_list, u_str_NoneType, u_str_bool, u_str_int, u_str_str, u_str_tuple, u_str_list, u_replicate0, List.map_cons, List.map_nil, List.replicate_succ, List.replicate_zero, List.cons_append, List.nil_append, Nat.reduceSub, Nat.reduceAdd, Nat.reduceLeDiff, Nat.reduceLT, Nat.zero_add, Int.reduceLT, Int.reduceLE, decide_true, decide_false, true_and, and_true, and_self, Bool.false_eq_true, List.append_nil, Int.cast_ofNat_Int, Int.natCast_zero, Int.natCast_one, Int.reduceEq, Int.reduceAdd, Int.reduceSub, Int.reduceMul, Int.reduceNeg, Nat.reduceEqDiff, eq_self, Int.toNat_natCast, ez, at0, at1, hn, hp, h1, h2, hlt, lw_next, hgo, e1, e2]
    | false =>
      rw [hc] at h2
      by_cases c : m < S.pk m 0 i
      · have e1 : S.go m i (S.pk m 0 i) = S.pk m 0 i - m := by unfold Sky.go; rw [hc, if_pos c]; rfl
        have e2 : S.off m i (S.pk m 0 i) = S.f i + m := by unfold Sky.off; rw [hc, if_pos c]; rfl
        refine ⟨_, _, rfl, .inl ?_, .im (.int (i : Int)), .im (.int (S.f i)), .im (.bl false), .im (.int m), .im (.int (S.pk m 0 (i + 1))), rfl⟩
        simp only [b1_law_snow, x_var, x_var1, x_c, x_bin, x_un, x_nil, x_cons, x_fn, x_tst, x_val, x_not, x_and, x_or, x_ifE, x_ifS, x_seq, x_next, x_brk, x_cnt, x_ret, x_retO, x_drop, x_asg, x_asgO, x_par, x_own, x_own1, x_own2, x_mut, x_setI, x_rel, x_call, x_callO, x_ap, x_callI, x_callG, x_atO, x_fnI, x_inO, x_part, x_sl, x_chn, x_ref, x_raise, x_it, x_rng1, x_rng2, x_zip, x_for, x_comp, x_all, x_meth, x_aug, x_runD, x_runI, y0, y1, y2, y3, y4, y5, y6, y7, y8, y9, y10, y11, y12, y13, y14, y15, y16, y17, y18, y19, y20, y21, y22, y23, y24, y25, y26, y27, y28, y29, y30, y31, y32, y33, y34, y35, y36, y37, y38, y39, y40, y41, y42, y43, y44, y45, y46, y47, y48, y49, y50, y51, y52, y53, y54, y55, y56, y57, y58, y59, y60, y61, y62, y63, y64, y65, y66, y67, y68, y69, y70, y71, y72, y73, y74, y75, y76, y77, y78, y79, y80, y81, y82, y83, y84, y85, y86, y87, y88, y89, y90, y91, y92, y93, y94, y95, y96, y97, y98, y99, y100, y101, y102, y103, y104, y105, y106, y107, y108, y109, y110, y111, y112, y113, y114, y115, y116, y117, y118, y119, y120, y121, y122, y123, y124, y125, y126, y127, y128, y129, y130, y131, y132, y133, y134, y135, y136, y137, y138, y139, y140, y141, y142, y143, y144, y145, y146, y147, y148, y149, y150, y151, y152, y153, y154, y155, y156, y157, y158, y159, y160, y161, y162, y163, y164, y165, y166, y167, y168, y169, y170, y171, y172, y173, y174, y175, y176, y177, y178, y179, y180, y181, y182, y183, y184, y185, y186, y187, y188, y189, y190, y191, y192, y193, y194, y195, y196, y197, y198, y199, y200, y201, y202, y203, y204, y205, y206, y207, y208, y209, y210, y211, y212, y213, y214, y215, y216, y217, y218, y219, y220, y221, y222, y223, y224, y225, y226, y227, y228, y229, y230, y231, y232, y233, y234, y235, y236, y237, y238, y239, y240, y241, y242, y243, y244, y245, y246, y247, y248, y249, y250, y251, y252, y253, y254, y255, y256, y257, y258, y259, y260, y261, y262, y263, y264, y265, y266, y267, y268, y269, y270, y271, y272, y273, y274, y275, y276, y277, y278, y279, y280, y281, y282, y283, y284, y285, List.getElem?_cons_zero, List.getElem?_cons_succ, List.getElem?_nil, List.set_cons_zero, List.set_cons_succ, List.set_nil, Bool.not_true, Bool.not_false, List.length_cons, List.length_nil, List.length_map, if_true, if_false, u_int_NoneType, u_int_bool, u_int_int, u_int_str, u_int_tuple, u_int_list, u_bool_NoneType, u_bool_bool, u_bool_int, u_bool_str, u_bool_tuple, u_bool_list, u_tuple_NoneType, u_tuple_bool, u_tuple_int, u_tuple_str, u_tuple_tuple, u_tuple_list, u_list_NoneType, u_list_bool, u_list_int, u_list_str, u_list_tuple, u_list_list, u_str_NoneType, u_str_bool, u_str_int, u_str_str, u_str_tuple, u_str_list, u_replicate0, List.map_cons, List.map_nil, List.replicate_succ, List.replicate_zero, List.cons_append, List.nil_append, Nat.reduceSub, Nat.reduceAdd, Nat.reduceLeDiff, Nat.reduceLT, Nat.zero_add, Int.reduceLT, Int.reduceLE, decide_true, decide_false, true_and, and_true, and_self, Bool.false_eq_true, List.append_nil, Int.cast_ofNat_Int, Int.natCast_zero, Int.natCast_one, Int.reduceEq, Int.reduceAdd, Int.reduceSub, Int.reduceMul, Int.reduceNeg, Nat.reduceEqDiff, eq_self, Int.toNat_natCast, ez, at0, at1, hn, hp, h1, h2, hlt, lw_next, hgo, e1, e2, c]
      · have e1 : S.go m i (S.pk m 0 i) = S.pk m 0 i - S.pk m 0 i := by unfold Sky.go; rw [hc, if_neg c]; rfl
        have e2 : S.off m i (S.pk m 0 i) = S.f i + S.pk m 0 i := by unfold Sky.off; rw [hc, if_neg c]; rfl
        refine ⟨_, _, rfl, .inl ?_, .im (.int (i : Int)), .im (.int (S.f i)), .im (.bl false), .im (.int (S.pk m 0 i)), .im (.int (S.pk m 0 (i + 1))), rfl⟩
        simp only [b1_law_snow, x_var, x_var1, x_c, x_bin, x_un, x_nil, x_cons, x_fn, x_tst, x_val, x_not, x_and, x_or, x_ifE, x_ifS, x_seq, x_next, x_brk, x_cnt, x_ret, x_retO, x_drop, x_asg, x_asgO, x_par, x_own, x_own1, x_own2, x_mut, x_setI, x_rel, x_call, x_callO, x_ap, x_callI, x_callG, x_atO, x_fnI, x_inO, x_part, x_sl, x_chn, x_ref, x_raise, x_it, x_rng1, x_rng2, x_zip, x_for, x_comp, x_all, x_meth, x_aug, x_runD, x_runI, y0, y1, y2, y3, y4, y5, y6, y7, y8, y9, y10, y11, y12, y13, y14, y15, y16, y17, y18, y19, y20, y21, y22, y23, y24, y25, y26, y27, y28, y29, y30, y31, y32, y33, y34, y35, y36, y37, y38, y39, y40, y41, y42, y43, y44, y45, y46, y47, y48, y49, y50, y51, y52, y53, y54, y55, y56, y57, y58, y59, y60, y61, y62, y63, y64, y65, y66, y67, y68, y69, y70, y71, y72, y73, y74, y75, y76, y77, y78, y79, y80, y81, y82, y83, y84, y85, y86, y87, y88, y89, y90, y91, y92, y93, y94, y95, y96, y97, y98, y99, y100, y101, y102, y103, y104, y105, y106, y107, y108, y109, y110, y111, y112, y113, y114, y115, y116, y117, y118, y119, y120, y121, y122, y123, y124, y125, y126, y127, y128, y129, y130, y131, y132, y133, y134, y135, y136, y137, y138, y139, y140, y141, y142, y143, y144, y145, y146, y147, y148, y149, y150, y151, y152, y153, y154, y155, y156, y157, y158, y159, y160, y161, y162, y163, y164, y165, y166, y167, y168, y169, y170, y171, y172, y173, y174, y175, y176, y177, y178, y179, y180, y181, y182, y183, y184, y185, y186, y187, y188, y189, y190, y191, y192, y193, y194, y195, y196, y197, y198, y199, y200, y201, y202, y203, y204, y205, y206, y207, y208, y209, y210, y211, y212, y213, y214, y215, y216, y217, y218, y219, y220, y221, y222, y223, y224, y225, y226, y227, y228, y229, y230, y231, y232, y233, y234, y235, y236, y237, y238, y239, y240, y241, y242, y243, y244, y245, y246, y247, y248, y249, y250, y251, y252, y253, y254, y255, y256, y257, y258, y259, y260, y261, y262, y263, y264, y265, y266, y267, y268, y269, y270, y271, y272, y273, y274, y275, y276, y277, y278, y279, y280, y281, y282, y283, y284, y285, List.getElem?_cons_zero, List.getElem?_cons_succ, List.getElem?_nil, List.set_cons_zero, List.set_cons_succ, List.set_nil, Bool.not_true, Bool.not_false, List.length_cons, List.length_nil, List.length_map, if_true, if_false, u_int_NoneType, u_int_bool, u_int_int, u_int_str, u_int_tuple, u_int_list, u_bool_NoneType, u_bool_bool, u_bool_int, u_bool_str, u_bool_tuple, u_bool_list, u_tuple_NoneType, u_tuple_bool, u_tuple_int, u_tuple_str, u_tuple_tuple, u_tuple_list, u_list_NoneType, u_list_bool, u_list_int, u_list_str, u_list_tuple, u_list_list, u_str_NoneType, u_str_bool, u_str_int, u_str_str, u_str_tuple, u_str_list, u_replicate0, List.map_cons, List.map_nil, List.replicate_succ, List.replicate_zero, List.cons_append, List.nil_append, Nat.reduceSub, Nat.reduceAdd, Nat.reduceLeDiff, Nat.reduceLT, Nat.zero_add, Int.reduceLT, Int.reduceLE, decide_true, decide_false, true_and, and_true, and_self, Bool.false_eq_true, List.append_nil, Int.cast_ofNat_Int, Int.natCast_zero, Int.natCast_one, Int.reduceEq, Int.reduceAdd, Int.reduceSub, Int.reduceMul, Int.reduceNeg, Nat.reduceEqDiff, eq_self, Int.toNat_natCast, ez, at0, at1, hn, hp, h1, h2, hlt, lw_next, hgo, e1, e2, c])
  simp only [F_law_snow, m_law_snow, envD, x_var, x_var1, x_c, x_bin, x_un, x_nil, x_cons, x_fn, x_tst, x_val, x_not, x_and, x_or, x_ifE, x_ifS, x_seq, x_next, x_brk, x_cnt, x_ret, x_retO, x_drop, x_asg, x_asgO, x_par, x_own, x_own1, x_own2, x_mut, x_setI, x_rel, x_call, x_callO, x_ap, x_callI, x_callG, x_atO, x_fnI, x_inO, x_part, x_sl, x_chn, x_ref, x_raise, x_it, x_rng1, x_rng2, x_zip, x_for, x_comp, x_all, x_meth, x_aug, x_runD, x_runI, y0, y1, y2, y3, y4, y5, y6, y7, y8, y9, y10, y11, y12, y13, y14, y15, y16, y17, y18, y19, y20, y21, y22, y23, y24, y25, y26, y27, y28, y29, y30, y31, y32, y33, y34, y35, y36, y37, y38, y39, y40, y41, y42, y43, y44, y45, y46, y47, y48, y49, y50, y51, y52, y53, y54, y55, y56, y57, y58, y59, y60, y61, y62, y63, y64, y65, y66, y67, y68, y69, y70, y71, y72, y73, y74, y75, y76, y77, y78, y79, y80, y81, y82, y83, y84, y85, y86, y87, y88, y89, y90, y91, y92, y93, y94, y95, y96, y97, y98, y99, y100, y101, y102, y103, y104, y105, y106, y107, y108, y109, y110, y111, y112, y113, y114, y115, y116, y117, y118, y119, y120, y121, y122, y123, y124, y125, y126, y127, y128, y129, y130, y131, y132, y133, y134, y135, y136, y137, y138, y139, y140, y141, y142, y143, y144, y145, y146, y147, y148, y149, y150, y151, y152, y153, y154, y155, y156, y157, y158, y159, y160, y161, y162, y163, y164, y165, y166, y167, y168, y169, y170, y171, y172, y173, y174, y175, y176, y177, y178, y179, y180, y181, y182, y183, y184, y185, y186, y187, y188, y189, y190, y191, y192, y193, y194, y195, y196, y197, y198, y199, y200, y201, y202, y203, y204, y205, y206, y207, y208, y209, y210, y211, y212, y213, y214, y215, y216, y217, y218, y219, y220, y221, y222, y223, y224, y225, y226, y227, y228, y229, y230, y231, y232, y233, y234, y235, y236, y237, y238, y239, y240, y241, y242, y243, y244, y245, y246, y247, y248, y249, y250, y251, y252, y253, y254, y255, y256, y257, y258, y259, y260, y261, y262, y263, y264, y265, y266, y267, y268, y269, y270, y271, y272, y273, y274, y275, y276, y277, y278, y279, y280, y281, y282, y283, y284, y285, List.getElem?_cons_zero, List.getElem?_cons_succ, List.getElem?_nil, List.set_cons_zero, List.set_cons_succ, List.set_nil, Bool.not_true, Bool.not_false, List.length_cons, List.length_nil, List.length_map, if_true, if_false, u_int_NoneType, u_int_bool, u_int_int, u_int_str, u_int_tuple, u_int_list, u_bool_NoneType, u_bool_bool, u_bool_int, u_bool_str, u_bool_tuple, u_bool_list, u_tuple_NoneType, u_tuple_bool, u_tuple_int, u_tuple_str, u_tuple_tuple, u_tuple_list, u_list_NoneType, u_list_bool, u_list_int, u_list_str, u_list_tuple, u_list_list, u_str_NoneType, u_str_bool, u_str_int, u_str_str, u_str_tuple, u_str_list, u_replicate0, List.map_cons, List.map_nil, List.replicate_succ, List.replicate_zero, List.cons_append, List.nil_append, Nat.reduceSub, Nat.reduceAdd, Nat.reduceLeDiff, Nat.reduceLT, Nat.zero_add, Int.reduceLT, Int.reduceLE, decide_true, decide_false, true_and, and_true, and_self, Bool.false_eq_true, List.append_nil, Int.cast_ofNat_Int, Int.natCast_zero, Int.natCast_one, Int.reduceEq, Int.reduceAdd, Int.reduceSub, Int.reduceMul, Int.reduceNeg, Nat.reduceEqDiff, eq_self, Int.toNat_natCast, hr, e]
theorem lw_ai (S : Sky) (m : Int) {k i : Nat} (h : i < k) : atI (S.lw m k) (i : Int) = some (D.tup [.int (S.pk m 0 i), .int (S.off m i (S.pk m 0 i)), .int (S.pk m 0 (i + 1))]) := atN (lw_at S m h)
theorem grown_eq (h : S.Ok) (hm : 0 ≤ m) : F_law_grown [S.d, .int m] = .ok (.bl (decide (0 < S.g m))) := by
  have hn : (S.fs.length : Int) = (S.n : Int) := rfl
  have hp := h.pos
  have hf := h.few
  have e12 : (12 : Int) * (S.n : Int) = ((12 * S.n : Nat) : Int) := by omega
  have e11 : (11 : Int) * (S.n : Int) = ((11 * S.n : Nat) : Int) := by omega
  have o12 : (12 : Int).natAbs.log2 + (S.n : Int).natAbs.log2 < 1000000 := mul_ok (small64 (by omega) (by omega)) (small64 (by omega) (by omega))
  have o11 : (11 : Int).natAbs.log2 + (S.n : Int).natAbs.log2 < 1000000 := mul_ok (small64 (by omega) (by omega)) (small64 (by omega) (by omega))
  have s12 : ((12 * S.n : Nat) : Int) - 1 = ((12 * S.n - 1 : Nat) : Int) := by omega
  have s11 : ((11 * S.n : Nat) : Int) - 1 = ((11 * S.n - 1 : Nat) : Int) := by omega
  have a12 := lw_ai S m (k := 12 * S.n) (i := 12 * S.n - 1) (by omega)
  have a11 := lw_ai S m (k := 12 * S.n) (i := 11 * S.n - 1) (by omega)
  rw [Nat.sub_add_cancel (by omega)] at a12 a11
  have r12 := S.rounds h hm 11
  have r11 := S.rounds h hm 10
  have hd : (S.pk m 0 (11 * S.n) < S.pk m 0 (12 * S.n)) = (0 < S.g m) := by
    have r12' : S.pk m 0 (12 * S.n) = _ := r12
    have r11' : S.pk m 0 (11 * S.n) = _ := r11
    rw [r12', r11']
    refine propext ⟨fun q => ?_, fun q => ?_⟩
    · split at q <;> omega
    · rw [if_neg (by omega), if_neg (by omega)]; omega
  simp only [F_law_grown, m_law_grown, envD, x_var, x_var1, x_c, x_bin, x_un, x_nil, x_cons, x_fn, x_tst, x_val, x_not, x_and, x_or, x_ifE, x_ifS, x_seq, x_next, x_brk, x_cnt, x_ret, x_retO, x_drop, x_asg, x_asgO, x_par, x_own, x_own1, x_own2, x_mut, x_setI, x_rel, x_call, x_callO, x_ap, x_callI, x_callG, x_atO, x_fnI, x_inO, x_part, x_sl, x_chn, x_ref, x_raise, x_it, x_rng1, x_rng2, x_zip, x_for, x_comp, x_all, x_meth, x_aug, x_runD, x_runI, y0, y1, y2, y3, y4, y5, y6, y7, y8, y9, y10, y11, y12, y13, y14, y15, y16, y17, y18, y19, y20, y21, y22, y23, y24, y25, y26, y27, y28, y29, y30, y31, y32, y33, y34, y35, y36, y37, y38, y39, y40, y41, y42, y43, y44, y45, y46, y47, y48, y49, y50, y51, y52, y53, y54, y55, y56, y57, y58, y59, y60, y61, y62, y63, y64, y65, y66, y67, y68, y69, y70, y71, y72, y73, y74, y75, y76, y77, y78, y79, y80, y81, y82, y83, y84, y85, y86, y87, y88, y89, y90, y91, y92, y93, y94, y95, y96, y97, y98, y99, y100, y101, y102, y103, y104, y105, y106, y107, y108, y109, y110, y111, y112, y113, y114, y115, y116, y117, y118, y119, y120, y121, y122, y123, y124, y125, y126, y127, y128, y129, y130, y131, y132, y133, y134, y135, y136, y137, y138, y139, y140, y141, y142, y143, y144, y145, y146, y147, y148, y149, y150, y151, y152, y153, y154, y155, y156, y157, y158, y159, y160, y161, y162, y163, y164, y165, y166, y167, y168, y169, y170, y171, y172, y173, y174, y175, y176, y177, y178, y179, y180, y181, y182, y183, y184, y185, y186, y187, y188, y189, y190, y191, y192, y193, y194, y195, y196, y197, y198, y199, y200, y201, y202, y203, y204, y205, y206, y207, y208, y209, y210, y211, y212, y213, y214, y215, y216, y217, y218, y219, y220, y221, y222, y223, y224, y225, y226, y227, y228, y229, y230, y231, y232, y233, y234, y235, y236, y237, y238, y239, y240, y241, y242, y243, y244, y245, y246, y247, y248, y249, y250, y251, y252, y253, y254, y255, y256, y257, y258, y259, y260, y261, y262, y263, y264, y265, y266, y267, y268, y269, y270, y271, y272, y273, y274, y275, y276, y277, y278, y279, y280, y281, y282, y283, y284, y285, List.getElem?_cons_zero, List.getElem?_cons_succ, List.getElem?_nil, List.set_cons_zero, List.set_cons_succ, List.set_nil, Bool.not_true, Bool.not_false, List.length_cons, List.length_nil, List.length_map, if_true, if_false, u_int_NoneType, u_int_bool, u_int_int, u_int_str, u_int_tuple, u_int_list, u_bool_NoneType, u_bool_bool, u_bool_int, u_bool_str, u_bool_tuple, u_bool_list, u_tuple_NoneType, u_tuple_bool, u_tuple_int, u_tuple_str, u_tuple_tuple, u_tuple_list, u_list_NoneType, u_list_bool, u_list_int, u_list_str, u_list_tuple, u_list_list, u_str_NoneType, u_str_bool, u_str_int, u_str_str, u_str_tuple, u_str_list, u_replicate0, List.map_cons, List.map_nil, List.replicate_succ, List.replicate_zero, List.cons_append, List.nil_append, Nat.reduceSub, Nat.reduceAdd, Nat.reduceLeDiff, Nat.reduceLT, Nat.zero_add, Int.reduceLT, Int.reduceLE, decide_true, decide_false, true_and, and_true, and_self, Bool.false_eq_true, List.append_nil, Int.cast_ofNat_Int, Int.natCast_zero, Int.natCast_one, Int.reduceEq, Int.reduceAdd, Int.reduceSub, Int.reduceMul, Int.reduceNeg, Nat.reduceEqDiff, eq_self, Int.toNat_natCast, at0, hn, o12, o11, e12, e11, lsnow_eq h (m := m) (k := 12 * S.n) (by omega), s12, s11, a12, a11, atI_two, hd]
theorem deep_grow (h : S.Ok) (hm : 0 ≤ m) (hm2 : m ≤ 1000) (hg : 0 < S.g m) : Fdeepest [S.d, .int m] = .ok .non := by
  have hgt : decide (0 < S.g m) = true := decide_eq_true hg
  simp only [Fdeepest, mdeepest, envD, x_var, x_var1, x_c, x_bin, x_un, x_nil, x_cons, x_fn, x_tst, x_val, x_not, x_and, x_or, x_ifE, x_ifS, x_seq, x_next, x_brk, x_cnt, x_ret, x_retO, x_drop, x_asg, x_asgO, x_par, x_own, x_own1, x_own2, x_mut, x_setI, x_rel, x_call, x_callO, x_ap, x_callI, x_callG, x_atO, x_fnI, x_inO, x_part, x_sl, x_chn, x_ref, x_raise, x_it, x_rng1, x_rng2, x_zip, x_for, x_comp, x_all, x_meth, x_aug, x_runD, x_runI, y0, y1, y2, y3, y4, y5, y6, y7, y8, y9, y10, y11, y12, y13, y14, y15, y16, y17, y18, y19, y20, y21, y22, y23, y24, y25, y26, y27, y28, y29, y30, y31, y32, y33, y34, y35, y36, y37, y38, y39, y40, y41, y42, y43, y44, y45, y46, y47, y48, y49, y50, y51, y52, y53, y54, y55, y56, y57, y58, y59, y60, y61, y62, y63, y64, y65, y66, y67, y68, y69, y70, y71, y72, y73, y74, y75, y76, y77, y78, y79, y80, y81, y82, y83, y84, y85, y86, y87, y88, y89, y90, y91, y92, y93, y94, y95, y96, y97, y98, y99, y100, y101, y102, y103, y104, y105, y106, y107, y108, y109, y110, y111, y112, y113, y114, y115, y116, y117, y118, y119, y120, y121, y122, y123, y124, y125, y126, y127, y128, y129, y130, y131, y132, y133, y134, y135, y136, y137, y138, y139, y140, y141, y142, y143, y144, y145, y146, y147, y148, y149, y150, y151, y152, y153, y154, y155, y156, y157, y158, y159, y160, y161, y162, y163, y164, y165, y166, y167, y168, y169, y170, y171, y172, y173, y174, y175, y176, y177, y178, y179, y180, y181, y182, y183, y184, y185, y186, y187, y188, y189, y190, y191, y192, y193, y194, y195, y196, y197, y198, y199, y200, y201, y202, y203, y204, y205, y206, y207, y208, y209, y210, y211, y212, y213, y214, y215, y216, y217, y218, y219, y220, y221, y222, y223, y224, y225, y226, y227, y228, y229, y230, y231, y232, y233, y234, y235, y236, y237, y238, y239, y240, y241, y242, y243, y244, y245, y246, y247, y248, y249, y250, y251, y252, y253, y254, y255, y256, y257, y258, y259, y260, y261, y262, y263, y264, y265, y266, y267, y268, y269, y270, y271, y272, y273, y274, y275, y276, y277, y278, y279, y280, y281, y282, y283, y284, y285, List.getElem?_cons_zero, List.getElem?_cons_succ, List.getElem?_nil, List.set_cons_zero, List.set_cons_succ, List.set_nil, Bool.not_true, Bool.not_false, List.length_cons, List.length_nil, List.length_map, if_true, if_false, u_int_NoneType, u_int_bool, u_int_int, u_int_str, u_int_tuple, u_int_list, u_bool_NoneType, u_bool_bool, u_bool_int, u_bool_str, u_bool_tuple, u_bool_list, u_tuple_NoneType, u_tuple_bool, u_tuple_int, u_tuple_str, u_tuple_tuple, u_tuple_list, u_list_NoneType, u_list_bool, u_list_int, u_list_str, u_list_tuple, u_list_list, u_str_NoneType, u_str_bool, u_str_int, u_str_str, u_str_tuple, u_str_list, u_replicate0, List.map_cons, List.map_nil, List.replicate_succ, List.replicate_zero, List.cons_append, List.nil_append, Nat.reduceSub, Nat.reduceAdd, Nat.reduceLeDiff, Nat.reduceLT, Nat.zero_add, Int.reduceLT, Int.reduceLE, decide_true, decide_false, true_and, and_true, and_self, Bool.false_eq_true, List.append_nil, Int.cast_ofNat_Int, Int.natCast_zero, Int.natCast_one, Int.reduceEq, Int.reduceAdd, Int.reduceSub, Int.reduceMul, Int.reduceNeg, Nat.reduceEqDiff, eq_self, Int.toNat_natCast, grows_eq h hm hm2, hgt]
/-- the deepest of three rounds is that of all -/
theorem top_more (h : S.Ok) (hm : 0 ≤ m) (hg : ¬ 0 < S.g m) {j : Nat} (ht : Top S m (3 * S.n) j) : Top S m (13 * S.n) j := by
  obtain ⟨h1, h2, h3⟩ := ht
  have hp := h.pos
  refine ⟨by omega, fun i hi => ?_, h3⟩
  by_cases c : i < 3 * S.n
  · exact h2 i c
  · have hr : i % S.n < S.n := Nat.mod_lt _ hp
    have hd : i = (i / S.n) * S.n + i % S.n := by rw [Nat.mul_comm]; exact (Nat.div_add_mod i S.n).symm
    have hq : 1 ≤ i / S.n := (Nat.le_div_iff_mul_le hp).mpr (by omega)
    have e1 := S.calm h hm (Int.not_lt.mp hg) (i / S.n - 1) (i % S.n + 1)
    have e2 := S.calm h hm (Int.not_lt.mp hg) 0 (i % S.n + 1)
    rw [Nat.sub_add_cancel hq] at e1
    have e3 : i + 1 = i / S.n * S.n + (i % S.n + 1) := by omega
    have e4 := h2 (S.n + i % S.n) (by omega)
    rw [e3, e1, ← e2]
    rw [Nat.zero_add, Nat.one_mul, ← Nat.add_assoc]
    exact e4
end
end K19
set_option Elab.async false
set_option linter.all false
set_option maxRecDepth 100000
set_option maxHeartbeats 4000000
/-! K19R: one turn of the law. -/
namespace K19
open PySem PySem.Spec PyProof.Rows L2 RZ RK
/-- the env of one turn -/
def en (a0 a1 a2 a3 a4 a5 a6 a7 a8 a9 a10 a11 a12 a13 a14 a15 a16 : Sl) : RK.Env := [a0, a1, a2, a3, a4, a5, a6, a7, a8, a9, a10, a11, a12, a13, a14, a15, a16, .em, .em, .em, .em]
theorem sky_draw {fs : List Int} {d1 : D} {k : Nat} (hd : Dice DM k d1) (hk : k ≤ 1000) (hl : fs.length ≤ 100) : ∃ (cs : List Bool) (d2 : D), cs.length = fs.length ∧ Dice DM (k + fs.length) d2 ∧
    cmpL [17] (gSet 17) mYes e1_law_right (fs.map D.int) (en (.pw d1) (.im (.tup (fs.map D.int))) .em .em .em .em .em .em .em .em .em .em .em .em .em .em .em) = .ok (cs.map D.bl) (en (.pw d2) (.im (.tup (fs.map D.int))) .em .em .em .em .em .em .em .em .em .em .em .em .em .em .em) := by
  obtain ⟨out, ρ, e, cs, d2, rfl, h2, h3, rfl⟩ := cmpP (vs := [17]) (g := gSet 17) (tst := mYes) (elt := e1_law_right) (ds := fs.map D.int) (ρ0 := en (.pw d1) (.im (.tup (fs.map D.int))) .em .em .em .em .em .em .em .em .em .em .em .em .em .em .em)
    (fun i out ρ => ∃ (cs : List Bool) (d2 : D), out = cs.map D.bl ∧ cs.length = i ∧ Dice DM (k + i) d2 ∧ ρ = en (.pw d2) (.im (.tup (fs.map D.int))) .em .em .em .em .em .em .em .em .em .em .em .em .em .em .em)
    ⟨([] : List Bool), d1, rfl, rfl, hd, rfl⟩ (fun i x out ρ hx ⟨cs, d2, g1, g2, g3, g4⟩ => by
      subst g1 g4
      have hi : i < fs.length := by
        have := (List.getElem?_eq_some_iff.mp hx).1
        rw [List.length_map] at this
        exact this
      obtain ⟨r, d3, e3, r0, r1, hd3⟩ := roll_eq g3 (by omega) (m := 2) (by omega) (by omega)
      refine ⟨_, rfl, .inl ⟨_, .bl (decide (r = 0)), [.pw d3, .im (.tup (fs.map D.int)), .em, .em, .em, .em, .em, .em, .em, .em, .em, .em, .em, .em, .em, .em, .em, .im x, .em, .em, .em], rfl, ?_, cs ++ [decide (r = 0)], d3, by simp, by simp [g2], hd3.mono (by omega), rfl⟩⟩
      simp only [e1_law_right, en, x_var, x_var1, x_c, x_bin, x_un, x_nil, x_cons, x_fn, x_tst, x_val, x_not, x_and, x_or, x_ifE, x_ifS, x_seq, x_next, x_brk, x_cnt, x_ret, x_retO, x_drop, x_asg, x_asgO, x_par, x_own, x_own1, x_own2, x_mut, x_setI, x_rel, x_call, x_callO, x_ap, x_callI, x_callG, x_atO, x_fnI, x_inO, x_part, x_sl, x_chn, x_ref, x_raise, x_it, x_rng1, x_rng2, x_zip, x_for, x_comp, x_all, x_meth, x_aug, x_runD, x_runI, y0, y1, y2, y3, y4, y5, y6, y7, y8, y9, y10, y11, y12, y13, y14, y15, y16, y17, y18, y19, y20, y21, y22, y23, y24, y25, y26, y27, y28, y29, y30, y31, y32, y33, y34, y35, y36, y37, y38, y39, y40, y41, y42, y43, y44, y45, y46, y47, y48, y49, y50, y51, y52, y53, y54, y55, y56, y57, y58, y59, y60, y61, y62, y63, y64, y65, y66, y67, y68, y69, y70, y71, y72, y73, y74, y75, y76, y77, y78, y79, y80, y81, y82, y83, y84, y85, y86, y87, y88, y89, y90, y91, y92, y93, y94, y95, y96, y97, y98, y99, y100, y101, y102, y103, y104, y105, y106, y107, y108, y109, y110, y111, y112, y113, y114, y115, y116, y117, y118, y119, y120, y121, y122, y123, y124, y125, y126, y127, y128, y129, y130, y131, y132, y133, y134, y135, y136, y137, y138, y139, y140, y141, y142, y143, y144, y145, y146, y147, y148, y149, y150, y151, y152, y153, y154, y155, y156, y157, y158, y159, y160, y161, y162, y163, y164, y165, y166, y167, y168, y169, y170, y171, y172, y173, y174, y175, y176, y177, y178, y179, y180, y181, y182, y183, y184, y185, y186, y187, y188, y189, y190, y191, y192, y193, y194, y195, y196, y197, y198, y199, y200, y201, y202, y203, y204, y205, y206, y207, y208, y209, y210, y211, y212, y213, y214, y215, y216, y217, y218, y219, y220, y221, y222, y223, y224, y225, y226, y227, y228, y229, y230, y231, y232, y233, y234, y235, y236, y237, y238, y239, y240, y241, y242, y243, y244, y245, y246, y247, y248, y249, y250, y251, y252, y253, y254, y255, y256, y257, y258, y259, y260, y261, y262, y263, y264, y265, y266, y267, y268, y269, y270, y271, y272, y273, y274, y275, y276, y277, y278, y279, y280, y281, y282, y283, y284, y285, List.getElem?_cons_zero, List.getElem?_cons_succ, List.getElem?_nil, List.set_cons_zero, List.set_cons_succ, List.set_nil, Bool.not_true, Bool.not_false, List.length_cons, List.length_nil, List.length_map, if_true, if_false, u_int_NoneType, u_int_bool, u_int_int, u_int_str, u_int_tuple, u_int_list, u_bool_NoneType, u_bool_bool, u_bool_int, u_bool_str, u_bool_tuple, u_bool_list, u_tuple_NoneType, u_tuple_bool, u_tuple_int, u_tuple_str, u_tuple_tuple, u_tuple_list, u_list_NoneType, u_list_bool, u_list_int, u_list_str, u_list_tuple, u_list_list, u_str_NoneType, u_str_bool, u_str_int, u_str_str, u_str_tuple, u_str_list, u_replicate0, List.map_cons, List.map_nil, List.replicate_succ, List.replicate_zero, List.cons_append, List.nil_append, Nat.reduceSub, Nat.reduceAdd, Nat.reduceLeDiff, Nat.reduceLT, Nat.zero_add, Int.reduceLT, Int.reduceLE, decide_true, decide_false, true_and, and_true, and_self, Bool.false_eq_true, List.append_nil, Int.cast_ofNat_Int, Int.natCast_zero, Int.natCast_one, Int.reduceEq, Int.reduceAdd, Int.reduceSub, Int.reduceMul, Int.reduceNeg, Nat.reduceEqDiff, eq_self, Int.toNat_natCast, e3, bO_eq_int])
  rw [List.length_map] at h2 h3
  exact ⟨cs, d2, h2, h3, e⟩
/-- what is picked is no sky -/
theorem bad_all {i : Nat} {x : D} (h : ([D.non, .tup [], .tup [.tup [.int 1], .tup [.int 1]], .tup [.tup [.int 1, .int 2], .tup [.bl true]], .tup [.tup [], .tup []], .lst [.tup [.int 1], .tup [.bl true]],
    .tup [.tup (List.replicate 25 (.int 1)), .tup (List.replicate 25 (.bl true))], .tup [.tup [.int 201], .tup [.bl true]]] : List D)[i]? = some x) : Fis_sky [x] = .ok (.bl false) := by
  match i, h with
  | 0, h => cases h; exact is_sky_no1
  | 1, h => cases h; exact is_sky_no2
  | 2, h => cases h; exact is_sky_two rfl rfl
  | 3, h => cases h; exact is_sky_two rfl rfl
  | 4, h => cases h; exact is_sky_two rfl rfl
  | 5, h => cases h; exact is_sky_no3
  | 6, h => cases h; exact is_sky_two (by decide) (by decide)
  | 7, h => cases h; exact is_sky_two rfl rfl
  | i + 8, h => simp at h
theorem mul25a : dMul (.tup [.int 1]) (.int 25) = some (.tup (List.replicate 25 (.int 1))) := by rfl
theorem mul25b : dMul (.tup [.bl true]) (.int 25) = some (.tup (List.replicate 25 (.bl true))) := by rfl
theorem due_ok : eqOk (.lst [.str "sky", .str "melt", .str "many", .str "sky", .str "melt", .str "sky", .str "melt", .str "step", .str "sky"]) = true := by decide +kernel
section
variable {S : Sky} {m : Int} {d : D} {FS : D} {si ma ro mo la hi st ne ga le ba : Sl}
/-- the refusals -/
theorem end_ok (h : S.Ok) (hm : 0 ≤ m) (hm2 : m ≤ 1000) {b : D} (hb : Fis_sky [b] = .ok (.bl false)) : q3_law_right (en (.pw d) (.im FS) (.im S.d) (.im (.int m)) si ma ro mo la hi st ne ga le (.im b) .em .em) =
    .ret (.bl true) (en (.pw d) (.im FS) (.im S.d) (.im (.int m)) si ma ro mo la hi st ne ga le (.im b) (.im (.lst [.str "sky", .str "melt", .str "many", .str "sky", .str "melt", .str "sky", .str "melt", .str "step", .str "sky"])) (.im (.lst [.str "sky", .str "melt", .str "many", .str "sky", .str "melt", .str "sky", .str "melt", .str "step", .str "sky"]))) := by
  have hdue : bO dEq (.lst [.str "sky", .str "melt", .str "many", .str "sky", .str "melt", .str "sky", .str "melt", .str "step", .str "sky"]) (.lst [.str "sky", .str "melt", .str "many", .str "sky", .str "melt", .str "sky", .str "melt", .str "step", .str "sky"]) = some (.bl true) := bO_eq_self due_ok
  simp only [q3_law_right, q2_law_right, q1_law_right, en, x_var, x_var1, x_c, x_bin, x_un, x_nil, x_cons, x_fn, x_tst, x_val, x_not, x_and, x_or, x_ifE, x_ifS, x_seq, x_next, x_brk, x_cnt, x_ret, x_retO, x_drop, x_asg, x_asgO, x_par, x_own, x_own1, x_own2, x_mut, x_setI, x_rel, x_call, x_callO, x_ap, x_callI, x_callG, x_atO, x_fnI, x_inO, x_part, x_sl, x_chn, x_ref, x_raise, x_it, x_rng1, x_rng2, x_zip, x_for, x_comp, x_all, x_meth, x_aug, x_runD, x_runI, y0, y1, y2, y3, y4, y5, y6, y7, y8, y9, y10, y11, y12, y13, y14, y15, y16, y17, y18, y19, y20, y21, y22, y23, y24, y25, y26, y27, y28, y29, y30, y31, y32, y33, y34, y35, y36, y37, y38, y39, y40, y41, y42, y43, y44, y45, y46, y47, y48, y49, y50, y51, y52, y53, y54, y55, y56, y57, y58, y59, y60, y61, y62, y63, y64, y65, y66, y67, y68, y69, y70, y71, y72, y73, y74, y75, y76, y77, y78, y79, y80, y81, y82, y83, y84, y85, y86, y87, y88, y89, y90, y91, y92, y93, y94, y95, y96, y97, y98, y99, y100, y101, y102, y103, y104, y105, y106, y107, y108, y109, y110, y111, y112, y113, y114, y115, y116, y117, y118, y119, y120, y121, y122, y123, y124, y125, y126, y127, y128, y129, y130, y131, y132, y133, y134, y135, y136, y137, y138, y139, y140, y141, y142, y143, y144, y145, y146, y147, y148, y149, y150, y151, y152, y153, y154, y155, y156, y157, y158, y159, y160, y161, y162, y163, y164, y165, y166, y167, y168, y169, y170, y171, y172, y173, y174, y175, y176, y177, y178, y179, y180, y181, y182, y183, y184, y185, y186, y187, y188, y189, y190, y191, y192, y193, y194, y195, y196, y197, y198, y199, y200, y201, y202, y203, y204, y205, y206, y207, y208, y209, y210, y211, y212, y213, y214, y215, y216, y217, y218, y219, y220, y221, y222, y223, y224, y225, y226, y227, y228, y229, y230, y231, y232, y233, y234, y235, y236, y237, y238, y239, y240, y241, y242, y243, y244, y245, y246, y247, y248, y249, y250, y251, y252, y253, y254, y255, y256, y257, y258, y259, y260, y261, y262, y263, y264, y265, y266, y267, y268, y269, y270, y271, y272, y273, y274, y275, y276, y277, y278, y279, y280, y281, y282, y283, y284, y285, List.getElem?_cons_zero, List.getElem?_cons_succ, List.getElem?_nil, List.set_cons_zero, List.set_cons_succ, List.set_nil, Bool.not_true, Bool.not_false, List.length_cons, List.length_nil, List.length_map, if_true, if_false, u_int_NoneType, u_int_bool, u_int_int, u_int_str, u_int_tuple, u_int_list, u_bool_NoneType, u_bool_bool, u_bool_int, u_bool_str, u_bool_tuple, u_bool_list, u_tuple_NoneType, u_tuple_bool, u_tuple_int, u_tuple_str, u_tuple_tuple, u_tuple_list, u_list_NoneType, u_list_bool, u_list_int, u_list_str, u_list_tuple, u_list_list, u_str_NoneType, u_str_bool, u_str_int, u_str_str, u_str_tuple, u_str_list, u_replicate0, List.map_cons, List.map_nil, List.replicate_succ, List.replicate_zero, List.cons_append, List.nil_append, Nat.reduceSub, Nat.reduceAdd, Nat.reduceLeDiff, Nat.reduceLT, Nat.zero_add, Int.reduceLT, Int.reduceLE, decide_true, decide_false, true_and, and_true, and_self, Bool.false_eq_true, List.append_nil, Int.cast_ofNat_Int, Int.natCast_zero, Int.natCast_one, Int.reduceEq, Int.reduceAdd, Int.reduceSub, Int.reduceMul, Int.reduceNeg, Nat.reduceEqDiff, eq_self, Int.toNat_natCast, hide_cons, hs_im, snow_bad hb, snow_melt h, snow_many h hm hm2, grows_bad hb, water_no h, deep_bad hb, bare_no h, pack_no h hm hm2, least_bad hb, hdue, h.is, hb]
end
end K19
set_option Elab.async false
set_option linter.all false
set_option maxRecDepth 100000
set_option maxHeartbeats 4000000
/-! K19S: one turn of the law, its parts. -/
namespace K19
open PySem PySem.Spec PyProof.Rows L2 RZ RK
section
variable {S : Sky} {m : Int} {d FS : D} {si ma ro mo la hi st ne ga le ba to du : Sl}
theorem g_zero_falls (h : S.Ok) (h0 : S.fs.sum = 0) : S.g 0 ≤ 0 := by
  have e : S.g 0 = (coldL S.fs S.cs).sum - 0 * (warmN S.cs : Int) := dl_sum 0 h.len
  have key : ∀ {fs : List Int} {cs : List Bool}, (∀ x ∈ fs, 0 ≤ x ∧ x ≤ 200) → (coldL fs cs).sum ≤ fs.sum := by
    intro fs
    induction fs with
    | nil => intro cs _; unfold coldL; simp
    | cons f fs ih =>
      intro cs hx
      have hf := (hx f List.mem_cons_self).1
      have hs : 0 ≤ fs.sum := sum_nn fun x hx' => (hx x (List.mem_cons_of_mem _ hx')).1
      cases cs with
      | nil => unfold coldL; simp; omega
      | cons c cs =>
        have := ih (cs := cs) fun x hx' => hx x (List.mem_cons_of_mem _ hx')
        unfold coldL
        rw [List.sum_cons]
        split
        · rw [List.sum_cons]; omega
        · omega
  have := key (cs := S.cs) h.lo
  omega
theorem g_warm (h : S.Ok) (hs : ∀ x ∈ S.fs, x ≤ 9) (hn : S.n ≤ 5) (hw : false ∈ S.cs) : S.g 1000 ≤ 0 := by
  have e : S.g 1000 = (coldL S.fs S.cs).sum - 1000 * (warmN S.cs : Int) := dl_sum 1000 h.len
  have c := cold_le (fs := S.fs) (cs := S.cs) h.lo
  have hn' : S.fs.length ≤ 5 := hn
  have key : ∀ {cs : List Bool}, false ∈ cs → 1 ≤ warmN cs := by
    intro cs
    induction cs with
    | nil => intro q; cases q
    | cons c cs ih =>
      intro q
      unfold warmN
      cases c with
      | false => simp
      | true =>
        have := ih (by simpa using q)
        simp; omega
  have := key hw
  omega
theorem least_ok (h : S.Ok) (hs : ∀ x ∈ S.fs, x ≤ 9) (hn : S.n ≤ 5) (hm : 0 ≤ m) : ∃ le, q6_law_right (en (.pw d) (.im (.tup (S.fs.map D.int))) (.im S.d) (.im (.int m)) si ma ro mo la hi st ne ga .em .em .em .em) =
    q4_law_right (en (.pw d) (.im (.tup (S.fs.map D.int))) (.im S.d) (.im (.int m)) si ma ro mo la hi st ne ga le .em .em .em) := by
  rcases least_eq h with ⟨k, hk, hg, hj, e⟩ | ⟨hall, e⟩
  · refine ⟨.im (.int (k : Int)), ?_⟩
    have g1 : F_law_grown [S.d, .int (k : Int)] = .ok (.bl false) := by
      rw [grown_eq h (by omega), decide_eq_false (by omega)]
    by_cases hk0 : (0 : Int) < (k : Int)
    · have e1 : (k : Int) - 1 = ((k - 1 : Nat) : Int) := by omega
      have g2 : F_law_grown [S.d, .int ((k : Int) - 1)] = .ok (.bl true) := by
        rw [e1, grown_eq h (by omega), decide_eq_true (hj (k - 1) (by omega))]
      simp only [q6_law_right, q5_law_right, en, x_var, x_var1, x_c, x_bin, x_un, x_nil, x_cons, x_fn, x_tst, x_val, x_not, x_and, x_or, x_ifE, x_ifS, x_seq, x_next, x_brk, x_cnt, x_ret, x_retO, x_drop, x_asg, x_asgO, x_par, x_own, x_own1, x_own2, x_mut, x_setI, x_rel, x_call, x_callO, x_ap, x_callI, x_callG, x_atO, x_fnI, x_inO, x_part, x_sl, x_chn, x_ref, x_raise, x_it, x_rng1, x_rng2, x_zip, x_for, x_comp, x_all, x_meth, x_aug, x_runD, x_runI, y0, y1, y2, y3, y4, y5, y6, y7, y8, y9, y10, y11, y12, y13, y14, y15, y16, y17, y18, y19, y20, y21, y22, y23, y24, y25, y26, y27, y28, y29, y30, y31, y32, y33, y34, y35, y36, y37, y38, y39, y40, y41, y42, y43, y44, y45, y46, y47, y48, y49, y50, y51, y52, y53, y54, y55, y56, y57, y58, y59, y60, y61, y62, y63, y64, y65, y66, y67, y68, y69, y70, y71, y72, y73, y74, y75, y76, y77, y78, y79, y80, y81, y82, y83, y84, y85, y86, y87, y88, y89, y90, y91, y92, y93, y94, y95, y96, y97, y98, y99, y100, y101, y102, y103, y104, y105, y106, y107, y108, y109, y110, y111, y112, y113, y114, y115, y116, y117, y118, y119, y120, y121, y122, y123, y124, y125, y126, y127, y128, y129, y130, y131, y132, y133, y134, y135, y136, y137, y138, y139, y140, y141, y142, y143, y144, y145, y146, y147, y148, y149, y150, y151, y152, y153, y154, y155, y156, y157, y158, y159, y160, y161, y162, y163, y164, y165, y166, y167, y168, y169, y170, y171, y172, y173, y174, y175, y176, y177, y178, y179, y180, y181, y182, y183, y184, y185, y186, y187, y188, y189, y190, y191, y192, y193, y194, y195, y196, y197, y198, y199, y200, y201, y202, y203, y204, y205, y206, y207, y208, y209, y210, y211, y212, y213, y214, y215, y216, y217, y218, y219, y220, y221, y222, y223, y224, y225, y226, y227, y228, y229, y230, y231, y232, y233, y234, y235, y236, y237, y238, y239, y240, y241, y242, y243, y244, y245, y246, y247, y248, y249, y250, y251, y252, y253, y254, y255, y256, y257, y258, y259, y260, y261, y262, y263, y264, y265, y266, y267, y268, y269, y270, y271, y272, y273, y274, y275, y276, y277, y278, y279, y280, y281, y282, y283, y284, y285, List.getElem?_cons_zero, List.getElem?_cons_succ, List.getElem?_nil, List.set_cons_zero, List.set_cons_succ, List.set_nil, Bool.not_true, Bool.not_false, List.length_cons, List.length_nil, List.length_map, if_true, if_false, u_int_NoneType, u_int_bool, u_int_int, u_int_str, u_int_tuple, u_int_list, u_bool_NoneType, u_bool_bool, u_bool_int, u_bool_str, u_bool_tuple, u_bool_list, u_tuple_NoneType, u_tuple_bool, u_tuple_int, u_tuple_str, u_tuple_tuple, u_tuple_list, u_list_NoneType, u_list_bool, u_list_int, u_list_str, u_list_tuple, u_list_list, u_str_NoneType, u_str_bool, u_str_int, u_str_str, u_str_tuple, u_str_list, u_replicate0, List.map_cons, List.map_nil, List.replicate_succ, List.replicate_zero, List.cons_append, List.nil_append, Nat.reduceSub, Nat.reduceAdd, Nat.reduceLeDiff, Nat.reduceLT, Nat.zero_add, Int.reduceLT, Int.reduceLE, decide_true, decide_false, true_and, and_true, and_self, Bool.false_eq_true, List.append_nil, Int.cast_ofNat_Int, Int.natCast_zero, Int.natCast_one, Int.reduceEq, Int.reduceAdd, Int.reduceSub, Int.reduceMul, Int.reduceNeg, Nat.reduceEqDiff, eq_self, Int.toNat_natCast, e, g1, g2, hk0]
    · simp only [q6_law_right, q5_law_right, en, x_var, x_var1, x_c, x_bin, x_un, x_nil, x_cons, x_fn, x_tst, x_val, x_not, x_and, x_or, x_ifE, x_ifS, x_seq, x_next, x_brk, x_cnt, x_ret, x_retO, x_drop, x_asg, x_asgO, x_par, x_own, x_own1, x_own2, x_mut, x_setI, x_rel, x_call, x_callO, x_ap, x_callI, x_callG, x_atO, x_fnI, x_inO, x_part, x_sl, x_chn, x_ref, x_raise, x_it, x_rng1, x_rng2, x_zip, x_for, x_comp, x_all, x_meth, x_aug, x_runD, x_runI, y0, y1, y2, y3, y4, y5, y6, y7, y8, y9, y10, y11, y12, y13, y14, y15, y16, y17, y18, y19, y20, y21, y22, y23, y24, y25, y26, y27, y28, y29, y30, y31, y32, y33, y34, y35, y36, y37, y38, y39, y40, y41, y42, y43, y44, y45, y46, y47, y48, y49, y50, y51, y52, y53, y54, y55, y56, y57, y58, y59, y60, y61, y62, y63, y64, y65, y66, y67, y68, y69, y70, y71, y72, y73, y74, y75, y76, y77, y78, y79, y80, y81, y82, y83, y84, y85, y86, y87, y88, y89, y90, y91, y92, y93, y94, y95, y96, y97, y98, y99, y100, y101, y102, y103, y104, y105, y106, y107, y108, y109, y110, y111, y112, y113, y114, y115, y116, y117, y118, y119, y120, y121, y122, y123, y124, y125, y126, y127, y128, y129, y130, y131, y132, y133, y134, y135, y136, y137, y138, y139, y140, y141, y142, y143, y144, y145, y146, y147, y148, y149, y150, y151, y152, y153, y154, y155, y156, y157, y158, y159, y160, y161, y162, y163, y164, y165, y166, y167, y168, y169, y170, y171, y172, y173, y174, y175, y176, y177, y178, y179, y180, y181, y182, y183, y184, y185, y186, y187, y188, y189, y190, y191, y192, y193, y194, y195, y196, y197, y198, y199, y200, y201, y202, y203, y204, y205, y206, y207, y208, y209, y210, y211, y212, y213, y214, y215, y216, y217, y218, y219, y220, y221, y222, y223, y224, y225, y226, y227, y228, y229, y230, y231, y232, y233, y234, y235, y236, y237, y238, y239, y240, y241, y242, y243, y244, y245, y246, y247, y248, y249, y250, y251, y252, y253, y254, y255, y256, y257, y258, y259, y260, y261, y262, y263, y264, y265, y266, y267, y268, y269, y270, y271, y272, y273, y274, y275, y276, y277, y278, y279, y280, y281, y282, y283, y284, y285, List.getElem?_cons_zero, List.getElem?_cons_succ, List.getElem?_nil, List.set_cons_zero, List.set_cons_succ, List.set_nil, Bool.not_true, Bool.not_false, List.length_cons, List.length_nil, List.length_map, if_true, if_false, u_int_NoneType, u_int_bool, u_int_int, u_int_str, u_int_tuple, u_int_list, u_bool_NoneType, u_bool_bool, u_bool_int, u_bool_str, u_bool_tuple, u_bool_list, u_tuple_NoneType, u_tuple_bool, u_tuple_int, u_tuple_str, u_tuple_tuple, u_tuple_list, u_list_NoneType, u_list_bool, u_list_int, u_list_str, u_list_tuple, u_list_list, u_str_NoneType, u_str_bool, u_str_int, u_str_str, u_str_tuple, u_str_list, u_replicate0, List.map_cons, List.map_nil, List.replicate_succ, List.replicate_zero, List.cons_append, List.nil_append, Nat.reduceSub, Nat.reduceAdd, Nat.reduceLeDiff, Nat.reduceLT, Nat.zero_add, Int.reduceLT, Int.reduceLE, decide_true, decide_false, true_and, and_true, and_self, Bool.false_eq_true, List.append_nil, Int.cast_ofNat_Int, Int.natCast_zero, Int.natCast_one, Int.reduceEq, Int.reduceAdd, Int.reduceSub, Int.reduceMul, Int.reduceNeg, Nat.reduceEqDiff, eq_self, Int.toNat_natCast, e, g1, hk0]
  · refine ⟨.im .non, ?_⟩
    have hnf : dIn (.bl false) (.tup (S.cs.map D.bl)) = some false := by
      have hfl : (flatD (.bl false) && (S.cs.map D.bl).all flatD) = true := by simp [flatD]
      rw [dIn_tup hfl]
      congr 1
      rw [List.any_map, List.any_eq_false]
      intro c hc
      show ¬ dEqv (.bl c) (.bl false) = true
      rw [dEqv_bl, decide_eq_true_eq]
      intro q
      subst q
      have q1 := g_warm h hs hn hc
      have q2 : 0 < S.g 1000 := hall 1000 (by omega)
      omega
    have hnf' : bO dIn (.bl false) (.tup (S.cs.map D.bl)) = some (.bl false) := by unfold bO; rw [hnf]; rfl
    have hsum : ¬ S.fs.sum = 0 := fun q => by
      have q1 := g_zero_falls h q
      have q2 : 0 < S.g 0 := hall 0 (by omega)
      omega
    simp only [q6_law_right, q5_law_right, en, x_var, x_var1, x_c, x_bin, x_un, x_nil, x_cons, x_fn, x_tst, x_val, x_not, x_and, x_or, x_ifE, x_ifS, x_seq, x_next, x_brk, x_cnt, x_ret, x_retO, x_drop, x_asg, x_asgO, x_par, x_own, x_own1, x_own2, x_mut, x_setI, x_rel, x_call, x_callO, x_ap, x_callI, x_callG, x_atO, x_fnI, x_inO, x_part, x_sl, x_chn, x_ref, x_raise, x_it, x_rng1, x_rng2, x_zip, x_for, x_comp, x_all, x_meth, x_aug, x_runD, x_runI, y0, y1, y2, y3, y4, y5, y6, y7, y8, y9, y10, y11, y12, y13, y14, y15, y16, y17, y18, y19, y20, y21, y22, y23, y24, y25, y26, y27, y28, y29, y30, y31, y32, y33, y34, y35, y36, y37, y38, y39, y40, y41, y42, y43, y44, y45, y46, y47, y48, y49, y50, y51, y52, y53, y54, y55, y56, y57, y58, y59, y60, y61, y62, y63, y64, y65, y66, y67, y68, y69, y70, y71, y72, y73, y74, y75, y76, y77, y78, y79, y80, y81, y82, y83, y84, y85, y86, y87, y88, y89, y90, y91, y92, y93, y94, y95, y96, y97, y98, y99, y100, y101, y102, y103, y104, y105, y106, y107, y108, y109, y110, y111, y112, y113, y114, y115, y116, y117, y118, y119, y120, y121, y122, y123, y124, y125, y126, y127, y128, y129, y130, y131, y132, y133, y134, y135, y136, y137, y138, y139, y140, y141, y142, y143, y144, y145, y146, y147, y148, y149, y150, y151, y152, y153, y154, y155, y156, y157, y158, y159, y160, y161, y162, y163, y164, y165, y166, y167, y168, y169, y170, y171, y172, y173, y174, y175, y176, y177, y178, y179, y180, y181, y182, y183, y184, y185, y186, y187, y188, y189, y190, y191, y192, y193, y194, y195, y196, y197, y198, y199, y200, y201, y202, y203, y204, y205, y206, y207, y208, y209, y210, y211, y212, y213, y214, y215, y216, y217, y218, y219, y220, y221, y222, y223, y224, y225, y226, y227, y228, y229, y230, y231, y232, y233, y234, y235, y236, y237, y238, y239, y240, y241, y242, y243, y244, y245, y246, y247, y248, y249, y250, y251, y252, y253, y254, y255, y256, y257, y258, y259, y260, y261, y262, y263, y264, y265, y266, y267, y268, y269, y270, y271, y272, y273, y274, y275, y276, y277, y278, y279, y280, y281, y282, y283, y284, y285, List.getElem?_cons_zero, List.getElem?_cons_succ, List.getElem?_nil, List.set_cons_zero, List.set_cons_succ, List.set_nil, Bool.not_true, Bool.not_false, List.length_cons, List.length_nil, List.length_map, if_true, if_false, u_int_NoneType, u_int_bool, u_int_int, u_int_str, u_int_tuple, u_int_list, u_bool_NoneType, u_bool_bool, u_bool_int, u_bool_str, u_bool_tuple, u_bool_list, u_tuple_NoneType, u_tuple_bool, u_tuple_int, u_tuple_str, u_tuple_tuple, u_tuple_list, u_list_NoneType, u_list_bool, u_list_int, u_list_str, u_list_tuple, u_list_list, u_str_NoneType, u_str_bool, u_str_int, u_str_str, u_str_tuple, u_str_list, u_replicate0, List.map_cons, List.map_nil, List.replicate_succ, List.replicate_zero, List.cons_append, List.nil_append, Nat.reduceSub, Nat.reduceAdd, Nat.reduceLeDiff, Nat.reduceLT, Nat.zero_add, Int.reduceLT, Int.reduceLE, decide_true, decide_false, true_and, and_true, and_self, Bool.false_eq_true, List.append_nil, Int.cast_ofNat_Int, Int.natCast_zero, Int.natCast_one, Int.reduceEq, Int.reduceAdd, Int.reduceSub, Int.reduceMul, Int.reduceNeg, Nat.reduceEqDiff, eq_self, Int.toNat_natCast, e, at1, hnf', dSumT_ints, bO_eq_int, hsum]
theorem pick_bad {k : Nat} (hd : Dice DM k d) (hk : k ≤ 1000) : ∃ (b d' : D), Fis_sky [b] = .ok (.bl false) ∧ q4_law_right (en (.pw d) (.im FS) (.im S.d) (.im (.int m)) si ma ro mo la hi st ne ga le .em .em .em) = q3_law_right (en (.pw d') (.im FS) (.im S.d) (.im (.int m)) si ma ro mo la hi st ne ga le (.im b) .em .em) := by
  obtain ⟨i, x, d', hx, e, _⟩ := pick_eq hd (by omega) (l := [D.non, .tup [], .tup [.tup [.int 1], .tup [.int 1]], .tup [.tup [.int 1, .int 2], .tup [.bl true]], .tup [.tup [], .tup []], .lst [.tup [.int 1], .tup [.bl true]],
    .tup [.tup (List.replicate 25 (.int 1)), .tup (List.replicate 25 (.bl true))], .tup [.tup [.int 201], .tup [.bl true]]]) (by simp) (by simp)
  refine ⟨x, d', bad_all hx, ?_⟩
  simp only [List.replicate_succ, List.replicate_zero] at e
  simp only [q4_law_right, en, x_var, x_var1, x_c, x_bin, x_un, x_nil, x_cons, x_fn, x_tst, x_val, x_not, x_and, x_or, x_ifE, x_ifS, x_seq, x_next, x_brk, x_cnt, x_ret, x_retO, x_drop, x_asg, x_asgO, x_par, x_own, x_own1, x_own2, x_mut, x_setI, x_rel, x_call, x_callO, x_ap, x_callI, x_callG, x_atO, x_fnI, x_inO, x_part, x_sl, x_chn, x_ref, x_raise, x_it, x_rng1, x_rng2, x_zip, x_for, x_comp, x_all, x_meth, x_aug, x_runD, x_runI, y0, y1, y2, y3, y4, y5, y6, y7, y8, y9, y10, y11, y12, y13, y14, y15, y16, y17, y18, y19, y20, y21, y22, y23, y24, y25, y26, y27, y28, y29, y30, y31, y32, y33, y34, y35, y36, y37, y38, y39, y40, y41, y42, y43, y44, y45, y46, y47, y48, y49, y50, y51, y52, y53, y54, y55, y56, y57, y58, y59, y60, y61, y62, y63, y64, y65, y66, y67, y68, y69, y70, y71, y72, y73, y74, y75, y76, y77, y78, y79, y80, y81, y82, y83, y84, y85, y86, y87, y88, y89, y90, y91, y92, y93, y94, y95, y96, y97, y98, y99, y100, y101, y102, y103, y104, y105, y106, y107, y108, y109, y110, y111, y112, y113, y114, y115, y116, y117, y118, y119, y120, y121, y122, y123, y124, y125, y126, y127, y128, y129, y130, y131, y132, y133, y134, y135, y136, y137, y138, y139, y140, y141, y142, y143, y144, y145, y146, y147, y148, y149, y150, y151, y152, y153, y154, y155, y156, y157, y158, y159, y160, y161, y162, y163, y164, y165, y166, y167, y168, y169, y170, y171, y172, y173, y174, y175, y176, y177, y178, y179, y180, y181, y182, y183, y184, y185, y186, y187, y188, y189, y190, y191, y192, y193, y194, y195, y196, y197, y198, y199, y200, y201, y202, y203, y204, y205, y206, y207, y208, y209, y210, y211, y212, y213, y214, y215, y216, y217, y218, y219, y220, y221, y222, y223, y224, y225, y226, y227, y228, y229, y230, y231, y232, y233, y234, y235, y236, y237, y238, y239, y240, y241, y242, y243, y244, y245, y246, y247, y248, y249, y250, y251, y252, y253, y254, y255, y256, y257, y258, y259, y260, y261, y262, y263, y264, y265, y266, y267, y268, y269, y270, y271, y272, y273, y274, y275, y276, y277, y278, y279, y280, y281, y282, y283, y284, y285, List.getElem?_cons_zero, List.getElem?_cons_succ, List.getElem?_nil, List.set_cons_zero, List.set_cons_succ, List.set_nil, Bool.not_true, Bool.not_false, List.length_cons, List.length_nil, List.length_map, if_true, if_false, u_int_NoneType, u_int_bool, u_int_int, u_int_str, u_int_tuple, u_int_list, u_bool_NoneType, u_bool_bool, u_bool_int, u_bool_str, u_bool_tuple, u_bool_list, u_tuple_NoneType, u_tuple_bool, u_tuple_int, u_tuple_str, u_tuple_tuple, u_tuple_list, u_list_NoneType, u_list_bool, u_list_int, u_list_str, u_list_tuple, u_list_list, u_str_NoneType, u_str_bool, u_str_int, u_str_str, u_str_tuple, u_str_list, u_replicate0, List.map_cons, List.map_nil, List.replicate_succ, List.replicate_zero, List.cons_append, List.nil_append, Nat.reduceSub, Nat.reduceAdd, Nat.reduceLeDiff, Nat.reduceLT, Nat.zero_add, Int.reduceLT, Int.reduceLE, decide_true, decide_false, true_and, and_true, and_self, Bool.false_eq_true, List.append_nil, Int.cast_ofNat_Int, Int.natCast_zero, Int.natCast_one, Int.reduceEq, Int.reduceAdd, Int.reduceSub, Int.reduceMul, Int.reduceNeg, Nat.reduceEqDiff, eq_self, Int.toNat_natCast, mul25a, mul25b, e]
end
end K19
set_option Elab.async false
set_option linter.all false
set_option maxRecDepth 100000
set_option maxHeartbeats 4000000
/-! K19T: one turn of the law, its parts, further. -/
namespace K19
open PySem PySem.Spec PyProof.Rows L2 RZ RK
section
variable {S : Sky} {m : Int} {d FS : D} {si ma ro mo la hi st ne ga le ba to du : Sl}
theorem far_val (h : S.Ok) (hm : 0 ≤ m) {t : Nat} (ht : 13 * S.n ≤ t) : S.pk m 0 t = S.pk m 0 (12 * S.n + t % S.n) + (((t / S.n : Nat) : Int) - 12) * (S.pk m 0 (12 * S.n) - S.pk m 0 (11 * S.n)) := by
  have hp := h.pos
  have hr : t % S.n < S.n := Nat.mod_lt _ hp
  have hd : (t / S.n) * S.n + t % S.n = t := by rw [Nat.mul_comm]; exact Nat.div_add_mod t S.n
  have hq : 13 ≤ t / S.n := (Nat.le_div_iff_mul_le hp).mpr ht
  have r12 : S.pk m 0 (12 * S.n) = _ := S.rounds h hm 11
  have r11 : S.pk m 0 (11 * S.n) = _ := S.rounds h hm 10
  by_cases hg : 0 < S.g m
  · have f1 := S.far h hm hg (t / S.n - 1) (j := t % S.n) (by omega)
    have f2 : S.pk m 0 (12 * S.n + t % S.n) = _ := S.far h hm hg 11 (j := t % S.n) (by omega)
    rw [Nat.sub_add_cancel (by omega), hd] at f1
    rw [f1, f2, r12, r11, if_neg (by omega), if_neg (by omega)]
    have e1 : ((t / S.n - 1 : Nat) : Int) = (((t / S.n : Nat) : Int) - 12) + 11 := by omega
    rw [e1, Int.add_mul]
    have e2 : S.b m + ((11 : Nat) : Int) * S.g m - (S.b m + ((10 : Nat) : Int) * S.g m) = S.g m := by omega
    rw [e2]
    have e3 : ((11 : Nat) : Int) = 11 := rfl
    rw [e3]
    omega
  · have c1 := S.calm h hm (Int.not_lt.mp hg) (t / S.n - 1) (t % S.n)
    have c2 : S.pk m 0 (12 * S.n + t % S.n) = _ := S.calm h hm (Int.not_lt.mp hg) 11 (t % S.n)
    rw [Nat.sub_add_cancel (by omega), hd] at c1
    rw [c1, c2, r12, r11, if_pos (by omega), if_pos (by omega), Int.sub_self, Int.mul_zero, Int.add_zero]
theorem gain_le (h : S.Ok) (hm : 0 ≤ m) : 0 ≤ S.pk m 0 (12 * S.n) - S.pk m 0 (11 * S.n) ∧ S.pk m 0 (12 * S.n) - S.pk m 0 (11 * S.n) ≤ 4800 := by
  have r12 : S.pk m 0 (12 * S.n) = _ := S.rounds h hm 11
  have r11 : S.pk m 0 (11 * S.n) = _ := S.rounds h hm 10
  have := S.g_le h hm
  rw [r12, r11]
  split <;> omega
theorem pack_ok (h : S.Ok) (hm : 0 ≤ m) (hm2 : m ≤ 1000) {k : Nat} (hd : Dice DM k d) (hk : k ≤ 1000) : ∃ d' st ne ga, Dice DM (k + 3) d' ∧ q10_law_right (en (.pw d) (.im FS) (.im S.d) (.im (.int m)) (.im (.int (S.n : Int))) ma (.im (.lst (S.lw m (14 * S.n + 60)))) mo la hi .em .em .em .em .em .em .em) =
    q6_law_right (en (.pw d') (.im FS) (.im S.d) (.im (.int m)) (.im (.int (S.n : Int))) ma (.im (.lst (S.lw m (14 * S.n + 60)))) mo la hi st ne ga .em .em .em .em) := by
  have hp := h.pos
  have hf := h.few
  have o14 : (14 : Int).natAbs.log2 + (S.n : Int).natAbs.log2 < 1000000 := mul_ok (small64 (by omega) (by omega)) (small64 (by omega) (by omega))
  have o13 : (13 : Int).natAbs.log2 + (S.n : Int).natAbs.log2 < 1000000 := mul_ok (small64 (by omega) (by omega)) (small64 (by omega) (by omega))
  have o12 : (12 : Int).natAbs.log2 + (S.n : Int).natAbs.log2 < 1000000 := mul_ok (small64 (by omega) (by omega)) (small64 (by omega) (by omega))
  have o11 : (11 : Int).natAbs.log2 + (S.n : Int).natAbs.log2 < 1000000 := mul_ok (small64 (by omega) (by omega)) (small64 (by omega) (by omega))
  have e14 : (14 : Int) * (S.n : Int) = ((14 * S.n : Nat) : Int) := by omega
  have e13 : (13 : Int) * (S.n : Int) = ((13 * S.n : Nat) : Int) := by omega
  have e12 : (12 : Int) * (S.n : Int) = ((12 * S.n : Nat) : Int) := by omega
  have e11 : (11 : Int) * (S.n : Int) = ((11 * S.n : Nat) : Int) := by omega
  obtain ⟨r1, d1, q1, r10, r11, hd1⟩ := roll_eq hd (by omega) (m := ((14 * S.n : Nat) : Int)) (by omega) (by omega)
  obtain ⟨r2, d2, q2, r20, r21, hd2⟩ := roll_eq hd1 (by omega) (m := 60) (by omega) (by omega)
  obtain ⟨i, x, d3, hx, q3, hd3⟩ := pick_eq hd2 (by omega) (l := [.int r1, .int (1000000000 - r2)]) (by simp) (by simp)
  obtain ⟨t, ht, rfl⟩ : ∃ t : Nat, t ≤ 1000000000 ∧ x = .int (t : Int) := by
    match i, hx with
    | 0, hx => cases hx; exact ⟨r1.toNat, by omega, by congr 1; omega⟩
    | 1, hx => cases hx; exact ⟨(1000000000 - r2).toNat, by omega, by congr 1; omega⟩
    | i + 2, hx => simp at hx
  have hpow : dPow (.int 10) (.int 9) = some (.int 1000000000) := by rfl
  have hnp : (0 : Int) < (S.n : Int) := by omega
  have hnl : (S.n : Int).natAbs.log2 < 9000 := Nat.lt_trans (log_lt (small64 (by omega) (by omega))) (by decide)
  have a12 := lw_ai S m (k := 14 * S.n + 60) (i := 12 * S.n) (by omega)
  have a11 := lw_ai S m (k := 14 * S.n + 60) (i := 11 * S.n) (by omega)
  have hpk := pack_eq h hm hm2 (t := t) (by omega)
  have hgl := gain_le h hm
  by_cases c : t < 13 * S.n
  · have c' : (t : Int) < ((13 * S.n : Nat) : Int) := by omega
    have at_ := lw_ai S m (k := 14 * S.n + 60) (i := t) (by omega)
    have hz : (t : Int) - (t : Int) = 0 := by omega
    have hz2 : (0 : Int) / (S.n : Int) = 0 := Int.zero_ediv _
    have hmo : (0 : Int).natAbs.log2 + (S.pk m 0 (12 * S.n) - S.pk m 0 (11 * S.n)).natAbs.log2 < 1000000 := mul_ok (small64 (by omega) (by omega)) (small64 (by omega) (by omega))
    have hv : S.pk m 0 t + 0 * (S.pk m 0 (12 * S.n) - S.pk m 0 (11 * S.n)) = S.pk m 0 t := by rw [Int.zero_mul, Int.add_zero]
    have hne : bO dNe (.int (S.pk m 0 t)) (.int (S.pk m 0 t)) = some (.bl false) := by rw [bO_ne_int]; simp
    refine ⟨d3, .im (.int (t : Int)), .im (.int (t : Int)), .im (.int (S.pk m 0 (12 * S.n) - S.pk m 0 (11 * S.n))), hd3, ?_⟩
    simp only [q10_law_right, q9_law_right, q8_law_right, q7_law_right, en, x_var, x_var1, x_c, x_bin, x_un, x_nil, x_cons, x_fn, x_tst, x_val, x_not, x_and, x_or, x_ifE, x_ifS, x_seq, x_next, x_brk, x_cnt, x_ret, x_retO, x_drop, x_asg, x_asgO, x_par, x_own, x_own1, x_own2, x_mut, x_setI, x_rel, x_call, x_callO, x_ap, x_callI, x_callG, x_atO, x_fnI, x_inO, x_part, x_sl, x_chn, x_ref, x_raise, x_it, x_rng1, x_rng2, x_zip, x_for, x_comp, x_all, x_meth, x_aug, x_runD, x_runI, y0, y1, y2, y3, y4, y5, y6, y7, y8, y9, y10, y11, y12, y13, y14, y15, y16, y17, y18, y19, y20, y21, y22, y23, y24, y25, y26, y27, y28, y29, y30, y31, y32, y33, y34, y35, y36, y37, y38, y39, y40, y41, y42, y43, y44, y45, y46, y47, y48, y49, y50, y51, y52, y53, y54, y55, y56, y57, y58, y59, y60, y61, y62, y63, y64, y65, y66, y67, y68, y69, y70, y71, y72, y73, y74, y75, y76, y77, y78, y79, y80, y81, y82, y83, y84, y85, y86, y87, y88, y89, y90, y91, y92, y93, y94, y95, y96, y97, y98, y99, y100, y101, y102, y103, y104, y105, y106, y107, y108, y109, y110, y111, y112, y113, y114, y115, y116, y117, y118, y119, y120, y121, y122, y123, y124, y125, y126, y127, y128, y129, y130, y131, y132, y133, y134, y135, y136, y137, y138, y139, y140, y141, y142, y143, y144, y145, y146, y147, y148, y149, y150, y151, y152, y153, y154, y155, y156, y157, y158, y159, y160, y161, y162, y163, y164, y165, y166, y167, y168, y169, y170, y171, y172, y173, y174, y175, y176, y177, y178, y179, y180, y181, y182, y183, y184, y185, y186, y187, y188, y189, y190, y191, y192, y193, y194, y195, y196, y197, y198, y199, y200, y201, y202, y203, y204, y205, y206, y207, y208, y209, y210, y211, y212, y213, y214, y215, y216, y217, y218, y219, y220, y221, y222, y223, y224, y225, y226, y227, y228, y229, y230, y231, y232, y233, y234, y235, y236, y237, y238, y239, y240, y241, y242, y243, y244, y245, y246, y247, y248, y249, y250, y251, y252, y253, y254, y255, y256, y257, y258, y259, y260, y261, y262, y263, y264, y265, y266, y267, y268, y269, y270, y271, y272, y273, y274, y275, y276, y277, y278, y279, y280, y281, y282, y283, y284, y285, List.getElem?_cons_zero, List.getElem?_cons_succ, List.getElem?_nil, List.set_cons_zero, List.set_cons_succ, List.set_nil, Bool.not_true, Bool.not_false, List.length_cons, List.length_nil, List.length_map, if_true, if_false, u_int_NoneType, u_int_bool, u_int_int, u_int_str, u_int_tuple, u_int_list, u_bool_NoneType, u_bool_bool, u_bool_int, u_bool_str, u_bool_tuple, u_bool_list, u_tuple_NoneType, u_tuple_bool, u_tuple_int, u_tuple_str, u_tuple_tuple, u_tuple_list, u_list_NoneType, u_list_bool, u_list_int, u_list_str, u_list_tuple, u_list_list, u_str_NoneType, u_str_bool, u_str_int, u_str_str, u_str_tuple, u_str_list, u_replicate0, List.map_cons, List.map_nil, List.replicate_succ, List.replicate_zero, List.cons_append, List.nil_append, Nat.reduceSub, Nat.reduceAdd, Nat.reduceLeDiff, Nat.reduceLT, Nat.zero_add, Int.reduceLT, Int.reduceLE, decide_true, decide_false, true_and, and_true, and_self, Bool.false_eq_true, List.append_nil, Int.cast_ofNat_Int, Int.natCast_zero, Int.natCast_one, Int.reduceEq, Int.reduceAdd, Int.reduceSub, Int.reduceMul, Int.reduceNeg, Nat.reduceEqDiff, eq_self, Int.toNat_natCast, o14, o13, o12, o11, e14, e13, e12, e11, q1, q2, hpow, q3, c', a12, a11, atI_z, hpk, at_, hz, hnp, hnl, hz2, hmo, hv, hne]
  · have c' : ¬ (t : Int) < ((13 * S.n : Nat) : Int) := by omega
    have hr : t % S.n < S.n := Nat.mod_lt _ hp
    have hmod : (t : Int) % (S.n : Int) = ((t % S.n : Nat) : Int) := by rw [Int.natCast_emod]
    have hdm : (t / S.n) * S.n + t % S.n = t := by rw [Nat.mul_comm]; exact Nat.div_add_mod t S.n
    have hq : 13 ≤ t / S.n := (Nat.le_div_iff_mul_le hp).mpr (by omega)
    have hql : t / S.n ≤ t := Nat.div_le_self t S.n
    have hsum : ((12 * S.n : Nat) : Int) + ((t % S.n : Nat) : Int) = ((12 * S.n + t % S.n : Nat) : Int) := by omega
    have at_ := lw_ai S m (k := 14 * S.n + 60) (i := 12 * S.n + t % S.n) (by omega)
    have hdiff : ((t : Int) - ((12 * S.n + t % S.n : Nat) : Int)) / (S.n : Int) = ((t / S.n : Nat) : Int) - 12 := by
      have e1 : (t : Int) - ((12 * S.n + t % S.n : Nat) : Int) = (((t / S.n : Nat) : Int) - 12) * (S.n : Int) := by
        rw [Int.sub_mul]
        have e2 : ((t / S.n * S.n : Nat) : Int) = ((t / S.n : Nat) : Int) * (S.n : Int) := by rw [Int.natCast_mul]
        rw [← e2]
        generalize hg : t / S.n * S.n = u at *
        generalize hr2 : t % S.n = v at *
        omega
      rw [e1]
      exact Int.mul_ediv_cancel _ (by omega)
    have hmo : (((t / S.n : Nat) : Int) - 12).natAbs.log2 + (S.pk m 0 (12 * S.n) - S.pk m 0 (11 * S.n)).natAbs.log2 < 1000000 := by
      generalize hg : t / S.n = u at *
      exact mul_ok (small64 (by omega) (by omega)) (small64 (by omega) (by omega))
    have hv := far_val h hm (t := t) (by omega)
    have hne : bO dNe (.int (S.pk m 0 t)) (.int (S.pk m 0 (12 * S.n + t % S.n) + (((t / S.n : Nat) : Int) - 12) * (S.pk m 0 (12 * S.n) - S.pk m 0 (11 * S.n)))) = some (.bl false) := by
      rw [← hv, bO_ne_int]; simp
    refine ⟨d3, .im (.int (t : Int)), .im (.int ((12 * S.n + t % S.n : Nat) : Int)), .im (.int (S.pk m 0 (12 * S.n) - S.pk m 0 (11 * S.n))), hd3, ?_⟩
    simp only [q10_law_right, q9_law_right, q8_law_right, q7_law_right, en, x_var, x_var1, x_c, x_bin, x_un, x_nil, x_cons, x_fn, x_tst, x_val, x_not, x_and, x_or, x_ifE, x_ifS, x_seq, x_next, x_brk, x_cnt, x_ret, x_retO, x_drop, x_asg, x_asgO, x_par, x_own, x_own1, x_own2, x_mut, x_setI, x_rel, x_call, x_callO, x_ap, x_callI, x_callG, x_atO, x_fnI, x_inO, x_part, x_sl, x_chn, x_ref, x_raise, x_it, x_rng1, x_rng2, x_zip, x_for, x_comp, x_all, x_meth, x_aug, x_runD, x_runI, y0, y1, y2, y3, y4, y5, y6, y7, y8, y9, y10, y11, y12, y13, y14, y15, y16, y17, y18, y19, y20, y21, y22, y23, y24, y25, y26, y27, y28, y29, y30, y31, y32, y33, y34, y35, y36, y37, y38, y39, y40, y41, y42, y43, y44, y45, y46, y47, y48, y49, y50, y51, y52, y53, y54, y55, y56, y57, y58, y59, y60, y61, y62, y63, y64, y65, y66, y67, y68, y69, y70, y71, y72, y73, y74, y75, y76, y77, y78, y79, y80, y81, y82, y83, y84, y85, y86, y87, y88, y89, y90, y91, y92, y93, y94, y95, y96, y97, y98, y99, y100, y101, y102, y103, y104, y105, y106, y107, y108, y109, y110, y111, y112, y113, y114, y115, y116, y117, y118, y119, y120, y121, y122, y123, y124, y125, y126, y127, y128, y129, y130, y131, y132, y133, y134, y135, y136, y137, y138, y139, y140, y141, y142, y143, y144, y145, y146, y147, y148, y149, y150, y151, y152, y153, y154, y155, y156, y157, y158, y159, y160, y161, y162, y163, y164, y165, y166, y167, y168, y169, y170, y171, y172, y173, y174, y175, y176, y177, y178, y179, y180, y181, y182, y183, y184, y185, y186, y187, y188, y189, y190, y191, y192, y193, y194, y195, y196, y197, y198, y199, y200, y201, y202, y203, y204, y205, y206, y207, y208, y209, y210, y211, y212, y213, y214, y215, y216, y217, y218, y219, y220, y221, y222, y223, y224, y225, y226, y227, y228, y229, y230, y231, y232, y233, y234, y235, y236, y237, y238, y239, y240, y241, y242, y243, y244, y245, y246, y247, y248, y249, y250, y251, y252, y253, y254, y255, y256, y257, y258, y259, y260, y261, y262, y263, y264, y265, y266, y267, y268, y269, y270, y271, y272, y273, y274, y275, y276, y277, y278, y279, y280, y281, y282, y283, y284, y285, List.getElem?_cons_zero, List.getElem?_cons_succ, List.getElem?_nil, List.set_cons_zero, List.set_cons_succ, List.set_nil, Bool.not_true, Bool.not_false, List.length_cons, List.length_nil, List.length_map, if_true, if_false, u_int_NoneType, u_int_bool, u_int_int, u_int_str, u_int_tuple, u_int_list, u_bool_NoneType, u_bool_bool, u_bool_int, u_bool_str, u_bool_tuple, u_bool_list, u_tuple_NoneType, u_tuple_bool, u_tuple_int, u_tuple_str, u_tuple_tuple, u_tuple_list, u_list_NoneType, u_list_bool, u_list_int, u_list_str, u_list_tuple, u_list_list, u_str_NoneType, u_str_bool, u_str_int, u_str_str, u_str_tuple, u_str_list, u_replicate0, List.map_cons, List.map_nil, List.replicate_succ, List.replicate_zero, List.cons_append, List.nil_append, Nat.reduceSub, Nat.reduceAdd, Nat.reduceLeDiff, Nat.reduceLT, Nat.zero_add, Int.reduceLT, Int.reduceLE, decide_true, decide_false, true_and, and_true, and_self, Bool.false_eq_true, List.append_nil, Int.cast_ofNat_Int, Int.natCast_zero, Int.natCast_one, Int.reduceEq, Int.reduceAdd, Int.reduceSub, Int.reduceMul, Int.reduceNeg, Nat.reduceEqDiff, eq_self, Int.toNat_natCast, o14, o13, o12, o11, e14, e13, e12, e11, q1, q2, hpow, q3, c', a12, a11, atI_z, hpk, hmod, hsum, at_, hnp, hnl, hdiff, hmo, hne]
end
end K19
set_option Elab.async false
set_option linter.all false
set_option maxRecDepth 100000
set_option maxHeartbeats 4000000
/-! K19Q: the law. -/
namespace K19
open PySem PySem.Spec PyProof.Rows L2 RZ RK
section
variable {S : Sky} {m : Int} {d FS : D} {si ma ro mo la hi st ne ga le ba to du : Sl}
theorem row_lay (S : Sky) (m p : Int) (k : Nat) : ∀ x ∈ S.rw m p k, dLay x = true ∧ dDep x ≤ 60 := fun x hx => by
  unfold Sky.rw at hx
  obtain ⟨i, _, rfl⟩ := List.mem_map.mp hx
  exact ⟨rfl, by simp [dDep, dDeps]⟩
theorem ints_lay {l : List Nat} {f : Nat → Int} : ∀ x ∈ l.map (fun i => D.int (f i)), dLay x = true ∧ dDep x ≤ 60 := fun x hx => by
  obtain ⟨i, _, rfl⟩ := List.mem_map.mp hx
  exact dep_int
/-- the first steps -/
theorem snow_part (h : S.Ok) (hm : 0 ≤ m) (hm2 : m ≤ 1000) {k : Nat} (hk : k ≤ 40) : q16_law_right (en (.pw d) (.im FS) (.im S.d) (.im (.int m)) (.im (.int (S.n : Int))) (.im (.int (k : Int))) .em .em .em .em .em .em .em .em .em .em .em) =
    q14_law_right (en (.pw d) (.im FS) (.im S.d) (.im (.int m)) (.im (.int (S.n : Int))) (.im (.int (k : Int))) (.im (.lst (S.lw m (14 * S.n + 60)))) .em .em .em .em .em .em .em .em .em .em) := by
  have hp := h.pos
  have hf := h.few
  have o14 : (14 : Int).natAbs.log2 + (S.n : Int).natAbs.log2 < 1000000 := mul_ok (small64 (by omega) (by omega)) (small64 (by omega) (by omega))
  have e14 : (14 : Int) * (S.n : Int) = ((14 * S.n : Nat) : Int) := by omega
  have e60 : ((14 * S.n : Nat) : Int) + 60 = ((14 * S.n + 60 : Nat) : Int) := by omega
  have hl : ((S.lw m (14 * S.n + 60)).take k).length ≤ 16000000 := by rw [List.length_take, lw_len]; omega
  have hc : cmpL [18, 19, 20] (gTupM [gSet 18, gSet 19, gSet 20]) mYes e2_law_right ((S.lw m (14 * S.n + 60)).take k) (en (.pw d) (.im FS) (.im S.d) (.im (.int m)) (.im (.int (S.n : Int))) (.im (.int (k : Int))) (.im (.lst (S.lw m (14 * S.n + 60)))) .em .em .em .em .em .em .em .em .em .em) =
      .ok (S.rw m 0 k) (en (.pw d) (.im FS) (.im S.d) (.im (.int m)) (.im (.int (S.n : Int))) (.im (.int (k : Int))) (.im (.lst (S.lw m (14 * S.n + 60)))) .em .em .em .em .em .em .em .em .em .em) := by
    refine cmpL_list (by rw [rw_len, List.length_take, lw_len]; omega) fun i x o hx ho => ?_
    have hi : i < k := by
      have := (List.getElem?_eq_some_iff.mp ho).1
      rw [rw_len] at this
      exact this
    rw [List.getElem?_take, if_pos hi, lw_at S m (by omega)] at hx
    cases hx
    rw [rw_at S m 0 hi] at ho
    cases ho
    refine ⟨[.pw d, .im FS, .im S.d, .im (.int m), .im (.int (S.n : Int)), .im (.int (k : Int)), .im (.lst (S.lw m (14 * S.n + 60))), .em, .em, .em, .em, .em, .em, .em, .em, .em, .em, .em, .im (.int (S.pk m 0 i)), .im (.int (S.off m i (S.pk m 0 i))), .im (.int (S.pk m 0 (i + 1)))], _,
      [.pw d, .im FS, .im S.d, .im (.int m), .im (.int (S.n : Int)), .im (.int (k : Int)), .im (.lst (S.lw m (14 * S.n + 60))), .em, .em, .em, .em, .em, .em, .em, .em, .em, .em, .em, .im (.int (S.pk m 0 i)), .im (.int (S.off m i (S.pk m 0 i))), .im (.int (S.pk m 0 (i + 1)))], rfl, rfl, ?_, rfl⟩
    simp only [e2_law_right, x_var, x_var1, x_c, x_bin, x_un, x_nil, x_cons, x_fn, x_tst, x_val, x_not, x_and, x_or, x_ifE, x_ifS, x_seq, x_next, x_brk, x_cnt, x_ret, x_retO, x_drop, x_asg, x_asgO, x_par, x_own, x_own1, x_own2, x_mut, x_setI, x_rel, x_call, x_callO, x_ap, x_callI, x_callG, x_atO, x_fnI, x_inO, x_part, x_sl, x_chn, x_ref, x_raise, x_it, x_rng1, x_rng2, x_zip, x_for, x_comp, x_all, x_meth, x_aug, x_runD, x_runI, y0, y1, y2, y3, y4, y5, y6, y7, y8, y9, y10, y11, y12, y13, y14, y15, y16, y17, y18, y19, y20, y21, y22, y23, y24, y25, y26, y27, y28, y29, y30, y31, y32, y33, y34, y35, y36, y37, y38, y39, y40, y41, y42, y43, y44, y45, y46, y47, y48, y49, y50, y51, y52, y53, y54, y55, y56, y57, y58, y59, y60, y61, y62, y63, y64, y65, y66, y67, y68, y69, y70, y71, y72, y73, y74, y75, y76, y77, y78, y79, y80, y81, y82, y83, y84, y85, y86, y87, y88, y89, y90, y91, y92, y93, y94, y95, y96, y97, y98, y99, y100, y101, y102, y103, y104, y105, y106, y107, y108, y109, y110, y111, y112, y113, y114, y115, y116, y117, y118, y119, y120, y121, y122, y123, y124, y125, y126, y127, y128, y129, y130, y131, y132, y133, y134, y135, y136, y137, y138, y139, y140, y141, y142, y143, y144, y145, y146, y147, y148, y149, y150, y151, y152, y153, y154, y155, y156, y157, y158, y159, y160, y161, y162, y163, y164, y165, y166, y167, y168, y169, y170, y171, y172, y173, y174, y175, y176, y177, y178, y179, y180, y181, y182, y183, y184, y185, y186, y187, y188, y189, y190, y191, y192, y193, y194, y195, y196, y197, y198, y199, y200, y201, y202, y203, y204, y205, y206, y207, y208, y209, y210, y211, y212, y213, y214, y215, y216, y217, y218, y219, y220, y221, y222, y223, y224, y225, y226, y227, y228, y229, y230, y231, y232, y233, y234, y235, y236, y237, y238, y239, y240, y241, y242, y243, y244, y245, y246, y247, y248, y249, y250, y251, y252, y253, y254, y255, y256, y257, y258, y259, y260, y261, y262, y263, y264, y265, y266, y267, y268, y269, y270, y271, y272, y273, y274, y275, y276, y277, y278, y279, y280, y281, y282, y283, y284, y285, List.getElem?_cons_zero, List.getElem?_cons_succ, List.getElem?_nil, List.set_cons_zero, List.set_cons_succ, List.set_nil, Bool.not_true, Bool.not_false, List.length_cons, List.length_nil, List.length_map, if_true, if_false, u_int_NoneType, u_int_bool, u_int_int, u_int_str, u_int_tuple, u_int_list, u_bool_NoneType, u_bool_bool, u_bool_int, u_bool_str, u_bool_tuple, u_bool_list, u_tuple_NoneType, u_tuple_bool, u_tuple_int, u_tuple_str, u_tuple_tuple, u_tuple_list, u_list_NoneType, u_list_bool, u_list_int, u_list_str, u_list_tuple, u_list_list, u_str_NoneType, u_str_bool, u_str_int, u_str_str, u_str_tuple, u_str_list, u_replicate0, List.map_cons, List.map_nil, List.replicate_succ, List.replicate_zero, List.cons_append, List.nil_append, Nat.reduceSub, Nat.reduceAdd, Nat.reduceLeDiff, Nat.reduceLT, Nat.zero_add, Int.reduceLT, Int.reduceLE, decide_true, decide_false, true_and, and_true, and_self, Bool.false_eq_true, List.append_nil, Int.cast_ofNat_Int, Int.natCast_zero, Int.natCast_one, Int.reduceEq, Int.reduceAdd, Int.reduceSub, Int.reduceMul, Int.reduceNeg, Nat.reduceEqDiff, eq_self, Int.toNat_natCast]
  have hne : bO dNe (.tup (S.rw m 0 k)) (.tup (S.rw m 0 k)) = some (.bl false) := bO_ne_self (eqOk_tup (row_lay S m 0 k))
  unfold en at hc
  simp only [q16_law_right, q15_law_right, en, x_var, x_var1, x_c, x_bin, x_un, x_nil, x_cons, x_fn, x_tst, x_val, x_not, x_and, x_or, x_ifE, x_ifS, x_seq, x_next, x_brk, x_cnt, x_ret, x_retO, x_drop, x_asg, x_asgO, x_par, x_own, x_own1, x_own2, x_mut, x_setI, x_rel, x_call, x_callO, x_ap, x_callI, x_callG, x_atO, x_fnI, x_inO, x_part, x_sl, x_chn, x_ref, x_raise, x_it, x_rng1, x_rng2, x_zip, x_for, x_comp, x_all, x_meth, x_aug, x_runD, x_runI, y0, y1, y2, y3, y4, y5, y6, y7, y8, y9, y10, y11, y12, y13, y14, y15, y16, y17, y18, y19, y20, y21, y22, y23, y24, y25, y26, y27, y28, y29, y30, y31, y32, y33, y34, y35, y36, y37, y38, y39, y40, y41, y42, y43, y44, y45, y46, y47, y48, y49, y50, y51, y52, y53, y54, y55, y56, y57, y58, y59, y60, y61, y62, y63, y64, y65, y66, y67, y68, y69, y70, y71, y72, y73, y74, y75, y76, y77, y78, y79, y80, y81, y82, y83, y84, y85, y86, y87, y88, y89, y90, y91, y92, y93, y94, y95, y96, y97, y98, y99, y100, y101, y102, y103, y104, y105, y106, y107, y108, y109, y110, y111, y112, y113, y114, y115, y116, y117, y118, y119, y120, y121, y122, y123, y124, y125, y126, y127, y128, y129, y130, y131, y132, y133, y134, y135, y136, y137, y138, y139, y140, y141, y142, y143, y144, y145, y146, y147, y148, y149, y150, y151, y152, y153, y154, y155, y156, y157, y158, y159, y160, y161, y162, y163, y164, y165, y166, y167, y168, y169, y170, y171, y172, y173, y174, y175, y176, y177, y178, y179, y180, y181, y182, y183, y184, y185, y186, y187, y188, y189, y190, y191, y192, y193, y194, y195, y196, y197, y198, y199, y200, y201, y202, y203, y204, y205, y206, y207, y208, y209, y210, y211, y212, y213, y214, y215, y216, y217, y218, y219, y220, y221, y222, y223, y224, y225, y226, y227, y228, y229, y230, y231, y232, y233, y234, y235, y236, y237, y238, y239, y240, y241, y242, y243, y244, y245, y246, y247, y248, y249, y250, y251, y252, y253, y254, y255, y256, y257, y258, y259, y260, y261, y262, y263, y264, y265, y266, y267, y268, y269, y270, y271, y272, y273, y274, y275, y276, y277, y278, y279, y280, y281, y282, y283, y284, y285, List.getElem?_cons_zero, List.getElem?_cons_succ, List.getElem?_nil, List.set_cons_zero, List.set_cons_succ, List.set_nil, Bool.not_true, Bool.not_false, List.length_cons, List.length_nil, List.length_map, if_true, if_false, u_int_NoneType, u_int_bool, u_int_int, u_int_str, u_int_tuple, u_int_list, u_bool_NoneType, u_bool_bool, u_bool_int, u_bool_str, u_bool_tuple, u_bool_list, u_tuple_NoneType, u_tuple_bool, u_tuple_int, u_tuple_str, u_tuple_tuple, u_tuple_list, u_list_NoneType, u_list_bool, u_list_int, u_list_str, u_list_tuple, u_list_list, u_str_NoneType, u_str_bool, u_str_int, u_str_str, u_str_tuple, u_str_list, u_replicate0, List.map_cons, List.map_nil, List.replicate_succ, List.replicate_zero, List.cons_append, List.nil_append, Nat.reduceSub, Nat.reduceAdd, Nat.reduceLeDiff, Nat.reduceLT, Nat.zero_add, Int.reduceLT, Int.reduceLE, decide_true, decide_false, true_and, and_true, and_self, Bool.false_eq_true, List.append_nil, Int.cast_ofNat_Int, Int.natCast_zero, Int.natCast_one, Int.reduceEq, Int.reduceAdd, Int.reduceSub, Int.reduceMul, Int.reduceNeg, Nat.reduceEqDiff, eq_self, Int.toNat_natCast, o14, e14, e60, lsnow_eq h (m := m) (k := 14 * S.n + 60) (by omega), snow_course_eq h hm hm2 (k := k) (by omega), cut_to, hl, hc, hne]
/-- whether it grows -/
theorem grow_part (h : S.Ok) (hm : 0 ≤ m) (hm2 : m ≤ 1000) : q14_law_right (en (.pw d) (.im FS) (.im S.d) (.im (.int m)) (.im (.int (S.n : Int))) ma (.im (.lst (S.lw m (14 * S.n + 60)))) .em .em .em .em .em .em .em .em .em .em) =
    q11_law_right (en (.pw d) (.im FS) (.im S.d) (.im (.int m)) (.im (.int (S.n : Int))) ma (.im (.lst (S.lw m (14 * S.n + 60)))) (.im (.bl (decide (0 < S.g m)))) (.im (.lst (((S.lw m (14 * S.n + 60)).drop (12 * S.n)).take S.n))) .em .em .em .em .em .em .em .em) := by
  have hf := h.few
  have o13 : (13 : Int).natAbs.log2 + (S.n : Int).natAbs.log2 < 1000000 := mul_ok (small64 (by omega) (by omega)) (small64 (by omega) (by omega))
  have o12 : (12 : Int).natAbs.log2 + (S.n : Int).natAbs.log2 < 1000000 := mul_ok (small64 (by omega) (by omega)) (small64 (by omega) (by omega))
  have e13 : (13 : Int) * (S.n : Int) = ((13 * S.n : Nat) : Int) := by omega
  have e12 : (12 : Int) * (S.n : Int) = ((12 * S.n : Nat) : Int) := by omega
  have hne : bO dNe (.bl (decide (0 < S.g m))) (.bl (decide (0 < S.g m))) = some (.bl false) := bO_ne_self rfl
  have hcut : cutL (S.lw m (14 * S.n + 60)) (some ((12 * S.n : Nat) : Int)) (some ((13 * S.n : Nat) : Int)) = ((S.lw m (14 * S.n + 60)).drop (12 * S.n)).take S.n := by
    rw [cut_mid (by rw [lw_len]; omega) (by omega)]
    congr 1
    omega
  simp only [q14_law_right, q13_law_right, q12_law_right, en, x_var, x_var1, x_c, x_bin, x_un, x_nil, x_cons, x_fn, x_tst, x_val, x_not, x_and, x_or, x_ifE, x_ifS, x_seq, x_next, x_brk, x_cnt, x_ret, x_retO, x_drop, x_asg, x_asgO, x_par, x_own, x_own1, x_own2, x_mut, x_setI, x_rel, x_call, x_callO, x_ap, x_callI, x_callG, x_atO, x_fnI, x_inO, x_part, x_sl, x_chn, x_ref, x_raise, x_it, x_rng1, x_rng2, x_zip, x_for, x_comp, x_all, x_meth, x_aug, x_runD, x_runI, y0, y1, y2, y3, y4, y5, y6, y7, y8, y9, y10, y11, y12, y13, y14, y15, y16, y17, y18, y19, y20, y21, y22, y23, y24, y25, y26, y27, y28, y29, y30, y31, y32, y33, y34, y35, y36, y37, y38, y39, y40, y41, y42, y43, y44, y45, y46, y47, y48, y49, y50, y51, y52, y53, y54, y55, y56, y57, y58, y59, y60, y61, y62, y63, y64, y65, y66, y67, y68, y69, y70, y71, y72, y73, y74, y75, y76, y77, y78, y79, y80, y81, y82, y83, y84, y85, y86, y87, y88, y89, y90, y91, y92, y93, y94, y95, y96, y97, y98, y99, y100, y101, y102, y103, y104, y105, y106, y107, y108, y109, y110, y111, y112, y113, y114, y115, y116, y117, y118, y119, y120, y121, y122, y123, y124, y125, y126, y127, y128, y129, y130, y131, y132, y133, y134, y135, y136, y137, y138, y139, y140, y141, y142, y143, y144, y145, y146, y147, y148, y149, y150, y151, y152, y153, y154, y155, y156, y157, y158, y159, y160, y161, y162, y163, y164, y165, y166, y167, y168, y169, y170, y171, y172, y173, y174, y175, y176, y177, y178, y179, y180, y181, y182, y183, y184, y185, y186, y187, y188, y189, y190, y191, y192, y193, y194, y195, y196, y197, y198, y199, y200, y201, y202, y203, y204, y205, y206, y207, y208, y209, y210, y211, y212, y213, y214, y215, y216, y217, y218, y219, y220, y221, y222, y223, y224, y225, y226, y227, y228, y229, y230, y231, y232, y233, y234, y235, y236, y237, y238, y239, y240, y241, y242, y243, y244, y245, y246, y247, y248, y249, y250, y251, y252, y253, y254, y255, y256, y257, y258, y259, y260, y261, y262, y263, y264, y265, y266, y267, y268, y269, y270, y271, y272, y273, y274, y275, y276, y277, y278, y279, y280, y281, y282, y283, y284, y285, List.getElem?_cons_zero, List.getElem?_cons_succ, List.getElem?_nil, List.set_cons_zero, List.set_cons_succ, List.set_nil, Bool.not_true, Bool.not_false, List.length_cons, List.length_nil, List.length_map, if_true, if_false, u_int_NoneType, u_int_bool, u_int_int, u_int_str, u_int_tuple, u_int_list, u_bool_NoneType, u_bool_bool, u_bool_int, u_bool_str, u_bool_tuple, u_bool_list, u_tuple_NoneType, u_tuple_bool, u_tuple_int, u_tuple_str, u_tuple_tuple, u_tuple_list, u_list_NoneType, u_list_bool, u_list_int, u_list_str, u_list_tuple, u_list_list, u_str_NoneType, u_str_bool, u_str_int, u_str_str, u_str_tuple, u_str_list, u_replicate0, List.map_cons, List.map_nil, List.replicate_succ, List.replicate_zero, List.cons_append, List.nil_append, Nat.reduceSub, Nat.reduceAdd, Nat.reduceLeDiff, Nat.reduceLT, Nat.zero_add, Int.reduceLT, Int.reduceLE, decide_true, decide_false, true_and, and_true, and_self, Bool.false_eq_true, List.append_nil, Int.cast_ofNat_Int, Int.natCast_zero, Int.natCast_one, Int.reduceEq, Int.reduceAdd, Int.reduceSub, Int.reduceMul, Int.reduceNeg, Nat.reduceEqDiff, eq_self, Int.toNat_natCast, grown_eq h hm, grows_eq h hm hm2, hne, o13, o12, e13, e12, hcut]
theorem last_len (h : S.Ok) (m : Int) : (((S.lw m (14 * S.n + 60)).drop (12 * S.n)).take S.n).length = S.n := by
  rw [List.length_take, List.length_drop, lw_len]
  omega
theorem last_row (h : S.Ok) (hm : 0 ≤ m) (hg : ¬ 0 < S.g m) {i : Nat} (hi : i < S.n) : (((S.lw m (14 * S.n + 60)).drop (12 * S.n)).take S.n)[i]? = some (D.tup [.int (S.pk m (S.b m) i), .int (S.off m i (S.pk m (S.b m) i)), .int (S.pk m (S.b m) (i + 1))]) := by
  have c1 : S.pk m 0 (12 * S.n + i) = _ := S.calm h hm (Int.not_lt.mp hg) 11 i
  have c2 : S.pk m 0 (12 * S.n + (i + 1)) = _ := S.calm h hm (Int.not_lt.mp hg) 11 (i + 1)
  have e := lw_at S m (k := 14 * S.n + 60) (i := 12 * S.n + i) (by omega)
  rw [List.getElem?_take, if_pos hi, List.getElem?_drop, e, S.off_per m _ 12 i, c1]
  rw [Nat.add_assoc, c2]
theorem more_part (h : S.Ok) (hm : 0 ≤ m) (hm2 : m ≤ 1000) : ∃ hi, q11_law_right (en (.pw d) (.im FS) (.im S.d) (.im (.int m)) (.im (.int (S.n : Int))) ma (.im (.lst (S.lw m (14 * S.n + 60)))) (.im (.bl (decide (0 < S.g m)))) (.im (.lst (((S.lw m (14 * S.n + 60)).drop (12 * S.n)).take S.n))) .em .em .em .em .em .em .em .em) =
    q10_law_right (en (.pw d) (.im FS) (.im S.d) (.im (.int m)) (.im (.int (S.n : Int))) ma (.im (.lst (S.lw m (14 * S.n + 60)))) (.im (.bl (decide (0 < S.g m)))) (.im (.lst (((S.lw m (14 * S.n + 60)).drop (12 * S.n)).take S.n))) hi .em .em .em .em .em .em .em) := by
  have hf := h.few
  have hp := h.pos
  by_cases hg : 0 < S.g m
  · have hgt : decide (0 < S.g m) = true := decide_eq_true hg
    refine ⟨.em, ?_⟩
    have hw := water_eq h hm hm2
    have hb := bare_eq h hm hm2
    rw [if_pos hg] at hw hb
    simp only [q11_law_right, en, x_var, x_var1, x_c, x_bin, x_un, x_nil, x_cons, x_fn, x_tst, x_val, x_not, x_and, x_or, x_ifE, x_ifS, x_seq, x_next, x_brk, x_cnt, x_ret, x_retO, x_drop, x_asg, x_asgO, x_par, x_own, x_own1, x_own2, x_mut, x_setI, x_rel, x_call, x_callO, x_ap, x_callI, x_callG, x_atO, x_fnI, x_inO, x_part, x_sl, x_chn, x_ref, x_raise, x_it, x_rng1, x_rng2, x_zip, x_for, x_comp, x_all, x_meth, x_aug, x_runD, x_runI, y0, y1, y2, y3, y4, y5, y6, y7, y8, y9, y10, y11, y12, y13, y14, y15, y16, y17, y18, y19, y20, y21, y22, y23, y24, y25, y26, y27, y28, y29, y30, y31, y32, y33, y34, y35, y36, y37, y38, y39, y40, y41, y42, y43, y44, y45, y46, y47, y48, y49, y50, y51, y52, y53, y54, y55, y56, y57, y58, y59, y60, y61, y62, y63, y64, y65, y66, y67, y68, y69, y70, y71, y72, y73, y74, y75, y76, y77, y78, y79, y80, y81, y82, y83, y84, y85, y86, y87, y88, y89, y90, y91, y92, y93, y94, y95, y96, y97, y98, y99, y100, y101, y102, y103, y104, y105, y106, y107, y108, y109, y110, y111, y112, y113, y114, y115, y116, y117, y118, y119, y120, y121, y122, y123, y124, y125, y126, y127, y128, y129, y130, y131, y132, y133, y134, y135, y136, y137, y138, y139, y140, y141, y142, y143, y144, y145, y146, y147, y148, y149, y150, y151, y152, y153, y154, y155, y156, y157, y158, y159, y160, y161, y162, y163, y164, y165, y166, y167, y168, y169, y170, y171, y172, y173, y174, y175, y176, y177, y178, y179, y180, y181, y182, y183, y184, y185, y186, y187, y188, y189, y190, y191, y192, y193, y194, y195, y196, y197, y198, y199, y200, y201, y202, y203, y204, y205, y206, y207, y208, y209, y210, y211, y212, y213, y214, y215, y216, y217, y218, y219, y220, y221, y222, y223, y224, y225, y226, y227, y228, y229, y230, y231, y232, y233, y234, y235, y236, y237, y238, y239, y240, y241, y242, y243, y244, y245, y246, y247, y248, y249, y250, y251, y252, y253, y254, y255, y256, y257, y258, y259, y260, y261, y262, y263, y264, y265, y266, y267, y268, y269, y270, y271, y272, y273, y274, y275, y276, y277, y278, y279, y280, y281, y282, y283, y284, y285, List.getElem?_cons_zero, List.getElem?_cons_succ, List.getElem?_nil, List.set_cons_zero, List.set_cons_succ, List.set_nil, Bool.not_true, Bool.not_false, List.length_cons, List.length_nil, List.length_map, if_true, if_false, u_int_NoneType, u_int_bool, u_int_int, u_int_str, u_int_tuple, u_int_list, u_bool_NoneType, u_bool_bool, u_bool_int, u_bool_str, u_bool_tuple, u_bool_list, u_tuple_NoneType, u_tuple_bool, u_tuple_int, u_tuple_str, u_tuple_tuple, u_tuple_list, u_list_NoneType, u_list_bool, u_list_int, u_list_str, u_list_tuple, u_list_list, u_str_NoneType, u_str_bool, u_str_int, u_str_str, u_str_tuple, u_str_list, u_replicate0, List.map_cons, List.map_nil, List.replicate_succ, List.replicate_zero, List.cons_append, List.nil_append, Nat.reduceSub, Nat.reduceAdd, Nat.reduceLeDiff, Nat.reduceLT, Nat.zero_add, Int.reduceLT, Int.reduceLE, decide_true, decide_false, true_and, and_true, and_self, Bool.false_eq_true, List.append_nil, Int.cast_ofNat_Int, Int.natCast_zero, Int.natCast_one, Int.reduceEq, Int.reduceAdd, Int.reduceSub, Int.reduceMul, Int.reduceNeg, Nat.reduceEqDiff, eq_self, Int.toNat_natCast, hgt, hw, hb, deep_grow h hm hm2 hg]
  · have hgt : decide (0 < S.g m) = false := decide_eq_false hg
    have o13 : (13 : Int).natAbs.log2 + (S.n : Int).natAbs.log2 < 1000000 := mul_ok (small64 (by omega) (by omega)) (small64 (by omega) (by omega))
    have e13 : (13 : Int) * (S.n : Int) = ((13 * S.n : Nat) : Int) := by omega
    have hl13 : ((S.lw m (14 * S.n + 60)).take (13 * S.n)).length ≤ 16000000 := by rw [List.length_take, lw_len]; omega
    have hll : (((S.lw m (14 * S.n + 60)).drop (12 * S.n)).take S.n).length ≤ 16000000 := by rw [last_len h]; omega
    have hln : (rngD 0 S.n).length ≤ 16000000 := by rw [u_rng]; omega
    have hr := n_range (n := S.n) (by omega)
    generalize hL : ((S.lw m (14 * S.n + 60)).drop (12 * S.n)).take S.n = L at *
    have hrow : ∀ {i : Nat}, i < S.n → L[i]? = some (D.tup [.int (S.pk m (S.b m) i), .int (S.off m i (S.pk m (S.b m) i)), .int (S.pk m (S.b m) (i + 1))]) := fun {i} hi => by rw [← hL]; exact last_row h hm hg hi
    have hLl : L.length = S.n := by rw [← hL]; exact last_len h m
    have hc1 : cmpL [18, 19, 20] (gTupM [gSet 18, gSet 19, gSet 20]) mYes e3_law_right ((S.lw m (14 * S.n + 60)).take (13 * S.n)) (en (.pw d) (.im FS) (.im S.d) (.im (.int m)) (.im (.int (S.n : Int))) ma (.im (.lst (S.lw m (14 * S.n + 60)))) (.im (.bl false)) (.im (.lst L)) .em .em .em .em .em .em .em .em) =
        .ok (((List.range (13 * S.n)).map fun i => S.pk m 0 (i + 1)).map D.int) (en (.pw d) (.im FS) (.im S.d) (.im (.int m)) (.im (.int (S.n : Int))) ma (.im (.lst (S.lw m (14 * S.n + 60)))) (.im (.bl false)) (.im (.lst L)) .em .em .em .em .em .em .em .em) := by
      refine cmpL_list (by simp [lw_len]; omega) fun i x o hx ho => ?_
      have hi : i < 13 * S.n := by
        have := (List.getElem?_eq_some_iff.mp ho).1
        simpa using this
      rw [List.getElem?_take, if_pos hi, lw_at S m (by omega)] at hx
      cases hx
      rw [List.getElem?_map, List.getElem?_map, List.getElem?_range hi] at ho
      cases ho
      exact ⟨[.pw d, .im FS, .im S.d, .im (.int m), .im (.int (S.n : Int)), ma, .im (.lst (S.lw m (14 * S.n + 60))), .im (.bl false), .im (.lst L), .em, .em, .em, .em, .em, .em, .em, .em, .em, .im (.int (S.pk m 0 i)), .im (.int (S.off m i (S.pk m 0 i))), .im (.int (S.pk m 0 (i + 1)))], _, _, rfl, rfl, rfl, rfl⟩
    have hc2 : ∀ hi, cmpL [18, 19, 20] (gTupM [gSet 18, gSet 19, gSet 20]) mYes e4_law_right L (en (.pw d) (.im FS) (.im S.d) (.im (.int m)) (.im (.int (S.n : Int))) ma (.im (.lst (S.lw m (14 * S.n + 60)))) (.im (.bl false)) (.im (.lst L)) hi .em .em .em .em .em .em .em) =
        .ok ((List.range S.n).map fun i => D.int (S.off m i (S.pk m (S.b m) i))) (en (.pw d) (.im FS) (.im S.d) (.im (.int m)) (.im (.int (S.n : Int))) ma (.im (.lst (S.lw m (14 * S.n + 60)))) (.im (.bl false)) (.im (.lst L)) hi .em .em .em .em .em .em .em) := by
      intro hi
      refine cmpL_list (by simp [hLl]) fun i x o hx ho => ?_
      have hi' : i < S.n := by
        have := (List.getElem?_eq_some_iff.mp ho).1
        simpa using this
      rw [hrow hi'] at hx
      cases hx
      rw [List.getElem?_map, List.getElem?_range hi'] at ho
      cases ho
      exact ⟨[.pw d, .im FS, .im S.d, .im (.int m), .im (.int (S.n : Int)), ma, .im (.lst (S.lw m (14 * S.n + 60))), .im (.bl false), .im (.lst L), hi, .em, .em, .em, .em, .em, .em, .em, .em, .im (.int (S.pk m (S.b m) i)), .im (.int (S.off m i (S.pk m (S.b m) i))), .im (.int (S.pk m (S.b m) (i + 1)))], _, _, rfl, rfl, rfl, rfl⟩
    have hc3 : ∀ hi, cmpL [10] (gSet 10) t1_law_right e5_law_right (rngD 0 S.n) (en (.pw d) (.im FS) (.im S.d) (.im (.int m)) (.im (.int (S.n : Int))) ma (.im (.lst (S.lw m (14 * S.n + 60)))) (.im (.bl false)) (.im (.lst L)) hi .em .em .em .em .em .em .em) =
        .ok (((List.range S.n).filter fun i => decide (S.pk m (S.b m) (i + 1) = 0)).map fun i : Nat => D.int (i : Int)) (en (.pw d) (.im FS) (.im S.d) (.im (.int m)) (.im (.int (S.n : Int))) ma (.im (.lst (S.lw m (14 * S.n + 60)))) (.im (.bl false)) (.im (.lst L)) hi .em .em .em .em .em .em .em) := by
      intro hi
      have e := cmpL_filter (vs := [10]) (g := gSet 10) (tst := t1_law_right) (elt := e5_law_right) (ρ := en (.pw d) (.im FS) (.im S.d) (.im (.int m)) (.im (.int (S.n : Int))) ma (.im (.lst (S.lw m (14 * S.n + 60)))) (.im (.bl false)) (.im (.lst L)) hi .em .em .em .em .em .em .em) (fun d => match d with | .int j => decide (S.pk m (S.b m) (j.toNat + 1) = 0) | _ => false) (fun d => d) (ds := rngD 0 S.n) fun x hx => by
        obtain ⟨i, hi2⟩ := List.mem_iff_getElem?.mp hx
        obtain ⟨hlt, rfl⟩ := rngD_get hi2
        have ez : (0 : Int) + (i : Int) = (i : Int) := by omega
        have ha : atI L (i : Int) = some (D.tup [.int (S.pk m (S.b m) i), .int (S.off m i (S.pk m (S.b m) i)), .int (S.pk m (S.b m) (i + 1))]) := atN (hrow hlt)
        refine ⟨en (.pw d) (.im FS) (.im S.d) (.im (.int m)) (.im (.int (S.n : Int))) ma (.im (.lst (S.lw m (14 * S.n + 60)))) (.im (.bl false)) (.im (.lst L)) hi (.im (.int (i : Int))) .em .em .em .em .em .em, en (.pw d) (.im FS) (.im S.d) (.im (.int m)) (.im (.int (S.n : Int))) ma (.im (.lst (S.lw m (14 * S.n + 60)))) (.im (.bl false)) (.im (.lst L)) hi (.im (.int (i : Int))) .em .em .em .em .em .em, by rw [ez]; rfl, ?_, fun _ => rfl, fun _ => ⟨_, by rw [ez]; rfl, rfl⟩⟩
        simp only [t1_law_right, en, x_var, x_var1, x_c, x_bin, x_un, x_nil, x_cons, x_fn, x_tst, x_val, x_not, x_and, x_or, x_ifE, x_ifS, x_seq, x_next, x_brk, x_cnt, x_ret, x_retO, x_drop, x_asg, x_asgO, x_par, x_own, x_own1, x_own2, x_mut, x_setI, x_rel, x_call, x_callO, x_ap, x_callI, x_callG, x_atO, x_fnI, x_inO, x_part, x_sl, x_chn, x_ref, x_raise, x_it, x_rng1, x_rng2, x_zip, x_for, x_comp, x_all, x_meth, x_aug, x_runD, x_runI, y0, y1, y2, y3, y4, y5, y6, y7, y8, y9, y10, y11, y12, y13, y14, y15, y16, y17, y18, y19, y20, y21, y22, y23, y24, y25, y26, y27, y28, y29, y30, y31, y32, y33, y34, y35, y36, y37, y38, y39, y40, y41, y42, y43, y44, y45, y46, y47, y48, y49, y50, y51, y52, y53, y54, y55, y56, y57, y58, y59, y60, y61, y62, y63, y64, y65, y66, y67, y68, y69, y70, y71, y72, y73, y74, y75, y76, y77, y78, y79, y80, y81, y82, y83, y84, y85, y86, y87, y88, y89, y90, y91, y92, y93, y94, y95, y96, y97, y98, y99, y100, y101, y102, y103, y104, y105, y106, y107, y108, y109, y110, y111, y112, y113, y114, y115, y116, y117, y118, y119, y120, y121, y122, y123, y124, y125, y126, y127, y128, y129, y130, y131, y132, y133, y134, y135, y136, y137, y138, y139, y140, y141, y142, y143, y144, y145, y146, y147, y148, y149, y150, y151, y152, y153, y154, y155, y156, y157, y158, y159, y160, y161, y162, y163, y164, y165, y166, y167, y168, y169, y170, y171, y172, y173, y174, y175, y176, y177, y178, y179, y180, y181, y182, y183, y184, y185, y186, y187, y188, y189, y190, y191, y192, y193, y194, y195, y196, y197, y198, y199, y200, y201, y202, y203, y204, y205, y206, y207, y208, y209, y210, y211, y212, y213, y214, y215, y216, y217, y218, y219, y220, y221, y222, y223, y224, y225, y226, y227, y228, y229, y230, y231, y232, y233, y234, y235, y236, y237, y238, y239, y240, y241, y242, y243, y244, y245, y246, y247, y248, y249, y250, y251, y252, y253, y254, y255, y256, y257, y258, y259, y260, y261, y262, y263, y264, y265, y266, y267, y268, y269, y270, y271, y272, y273, y274, y275, y276, y277, y278, y279, y280, y281, y282, y283, y284, y285, List.getElem?_cons_zero, List.getElem?_cons_succ, List.getElem?_nil, List.set_cons_zero, List.set_cons_succ, List.set_nil, Bool.not_true, Bool.not_false, List.length_cons, List.length_nil, List.length_map, if_true, if_false, u_int_NoneType, u_int_bool, u_int_int, u_int_str, u_int_tuple, u_int_list, u_bool_NoneType, u_bool_bool, u_bool_int, u_bool_str, u_bool_tuple, u_bool_list, u_tuple_NoneType, u_tuple_bool, u_tuple_int, u_tuple_str, u_tuple_tuple, u_tuple_list, u_list_NoneType, u_list_bool, u_list_int, u_list_str, u_list_tuple, u_list_list, u_str_NoneType, u_str_bool, u_str_int, u_str_str, u_str_tuple, u_str_list, u_replicate0, List.map_cons, List.map_nil, List.replicate_succ, List.replicate_zero, List.cons_append, List.nil_append, Nat.reduceSub, Nat.reduceAdd, Nat.reduceLeDiff, Nat.reduceLT, Nat.zero_add, Int.reduceLT, Int.reduceLE, decide_true, decide_false, true_and, and_true, and_self, Bool.false_eq_true, List.append_nil, Int.cast_ofNat_Int, Int.natCast_zero, Int.natCast_one, Int.reduceEq, Int.reduceAdd, Int.reduceSub, Int.reduceMul, Int.reduceNeg, Nat.reduceEqDiff, eq_self, Int.toNat_natCast, ha, atI_two, bO_eq_int, ez]
      rw [e]
      congr 1
      rw [List.map_id']
      unfold rngD
      rw [List.filter_map]
      have e1 : (fun k : Nat => D.int (0 + (k : Int))) = fun k : Nat => D.int (k : Int) := by
        funext k
        rw [Int.zero_add]
      rw [e1]
      congr 1
    obtain ⟨j, ht, hde⟩ := deep_eq h hm hm2 hg
    obtain ⟨t1, t2, t3⟩ := top_more h hm hg ht
    have hmax : dMax1 [.lst (((List.range (13 * S.n)).map fun i => S.pk m 0 (i + 1)).map D.int)] = some (.int (S.pk m 0 (j + 1))) := dMax1_of (List.mem_map.mpr ⟨j, List.mem_range.mpr t1, rfl⟩) fun x hx => by
      obtain ⟨i, hi, rfl⟩ := List.mem_map.mp hx
      exact t2 i (List.mem_range.mp hi)
    have hidx : dIndex (.lst (((List.range (13 * S.n)).map fun i => S.pk m 0 (i + 1)).map D.int)) (.int (S.pk m 0 (j + 1))) = some (.int (j : Int)) := dIndex_int (by rw [List.getElem?_map, List.getElem?_range t1]; rfl) fun i x hij hx => by
      rw [List.getElem?_map, List.getElem?_range (by omega)] at hx
      cases hx
      have := t3 i hij
      show S.pk m 0 (i + 1) ≠ S.pk m 0 (j + 1)
      omega
    have hw := water_eq h hm hm2
    have hb := bare_eq h hm hm2
    rw [if_neg hg] at hw hb
    have n1 : bO dNe (.tup ((List.range S.n).map fun i => D.int (S.off m i (S.pk m (S.b m) i)))) (.tup ((List.range S.n).map fun i => D.int (S.off m i (S.pk m (S.b m) i)))) = some (.bl false) := bO_ne_self (eqOk_tup ints_lay)
    have n2 : bO dNe (.tup [.int (S.pk m 0 (j + 1)), .int (j : Int)]) (.tup [.int (S.pk m 0 (j + 1)), .int (j : Int)]) = some (.bl false) := bO_ne_self (eqOk_tup fun x hx => by
      simp at hx
      rcases hx with rfl | rfl <;> exact dep_int)
    have n3 : bO dNe (.tup (((List.range S.n).filter fun i => decide (S.pk m (S.b m) (i + 1) = 0)).map fun i : Nat => D.int (i : Int))) (.tup (((List.range S.n).filter fun i => decide (S.pk m (S.b m) (i + 1) = 0)).map fun i : Nat => D.int (i : Int))) = some (.bl false) := bO_ne_self (eqOk_tup (ints_lay (f := fun i => (i : Int))))
    refine ⟨.im (.lst (((List.range (13 * S.n)).map fun i => S.pk m 0 (i + 1)).map D.int)), ?_⟩
    unfold en at hc1 hc2 hc3
    generalize hH : ((List.range (13 * S.n)).map fun i => S.pk m 0 (i + 1)).map D.int = HL at *
    generalize hW : (List.range S.n).map (fun i => D.int (S.off m i (S.pk m (S.b m) i))) = WL at *
    generalize hBL : ((List.range S.n).filter fun i => decide (S.pk m (S.b m) (i + 1) = 0)).map (fun i : Nat => D.int (i : Int)) = BL at *
    simp only [q11_law_right, en, x_var, x_var1, x_c, x_bin, x_un, x_nil, x_cons, x_fn, x_tst, x_val, x_not, x_and, x_or, x_ifE, x_ifS, x_seq, x_next, x_brk, x_cnt, x_ret, x_retO, x_drop, x_asg, x_asgO, x_par, x_own, x_own1, x_own2, x_mut, x_setI, x_rel, x_call, x_callO, x_ap, x_callI, x_callG, x_atO, x_fnI, x_inO, x_part, x_sl, x_chn, x_ref, x_raise, x_it, x_rng1, x_rng2, x_zip, x_for, x_comp, x_all, x_meth, x_aug, x_runD, x_runI, y0, y1, y2, y3, y4, y5, y6, y7, y8, y9, y10, y11, y12, y13, y14, y15, y16, y17, y18, y19, y20, y21, y22, y23, y24, y25, y26, y27, y28, y29, y30, y31, y32, y33, y34, y35, y36, y37, y38, y39, y40, y41, y42, y43, y44, y45, y46, y47, y48, y49, y50, y51, y52, y53, y54, y55, y56, y57, y58, y59, y60, y61, y62, y63, y64, y65, y66, y67, y68, y69, y70, y71, y72, y73, y74, y75, y76, y77, y78, y79, y80, y81, y82, y83, y84, y85, y86, y87, y88, y89, y90, y91, y92, y93, y94, y95, y96, y97, y98, y99, y100, y101, y102, y103, y104, y105, y106, y107, y108, y109, y110, y111, y112, y113, y114, y115, y116, y117, y118, y119, y120, y121, y122, y123, y124, y125, y126, y127, y128, y129, y130, y131, y132, y133, y134, y135, y136, y137, y138, y139, y140, y141, y142, y143, y144, y145, y146, y147, y148, y149, y150, y151, y152, y153, y154, y155, y156, y157, y158, y159, y160, y161, y162, y163, y164, y165, y166, y167, y168, y169, y170, y171, y172, y173, y174, y175, y176, y177, y178, y179, y180, y181, y182, y183, y184, y185, y186, y187, y188, y189, y190, y191, y192, y193, y194, y195, y196, y197, y198, y199, y200, y201, y202, y203, y204, y205, y206, y207, y208, y209, y210, y211, y212, y213, y214, y215, y216, y217, y218, y219, y220, y221, y222, y223, y224, y225, y226, y227, y228, y229, y230, y231, y232, y233, y234, y235, y236, y237, y238, y239, y240, y241, y242, y243, y244, y245, y246, y247, y248, y249, y250, y251, y252, y253, y254, y255, y256, y257, y258, y259, y260, y261, y262, y263, y264, y265, y266, y267, y268, y269, y270, y271, y272, y273, y274, y275, y276, y277, y278, y279, y280, y281, y282, y283, y284, y285, List.getElem?_cons_zero, List.getElem?_cons_succ, List.getElem?_nil, List.set_cons_zero, List.set_cons_succ, List.set_nil, Bool.not_true, Bool.not_false, List.length_cons, List.length_nil, List.length_map, if_true, if_false, u_int_NoneType, u_int_bool, u_int_int, u_int_str, u_int_tuple, u_int_list, u_bool_NoneType, u_bool_bool, u_bool_int, u_bool_str, u_bool_tuple, u_bool_list, u_tuple_NoneType, u_tuple_bool, u_tuple_int, u_tuple_str, u_tuple_tuple, u_tuple_list, u_list_NoneType, u_list_bool, u_list_int, u_list_str, u_list_tuple, u_list_list, u_str_NoneType, u_str_bool, u_str_int, u_str_str, u_str_tuple, u_str_list, u_replicate0, List.map_cons, List.map_nil, List.replicate_succ, List.replicate_zero, List.cons_append, List.nil_append, Nat.reduceSub, Nat.reduceAdd, Nat.reduceLeDiff, Nat.reduceLT, Nat.zero_add, Int.reduceLT, Int.reduceLE, decide_true, decide_false, true_and, and_true, and_self, Bool.false_eq_true, List.append_nil, Int.cast_ofNat_Int, Int.natCast_zero, Int.natCast_one, Int.reduceEq, Int.reduceAdd, Int.reduceSub, Int.reduceMul, Int.reduceNeg, Nat.reduceEqDiff, eq_self, Int.toNat_natCast, hgt, o13, e13, cut_to, hl13, hc1, hw, hll, hc2, n1, hde, hmax, isLst_lst, hidx, n2, hb, hr, hln, hc3, n3]
end
/-- one turn -/
theorem right_eq {d : D} (hd : Dice DM 0 d) : ∃ d', F_law_right d [] = .ok (.bl true) d' := by
  obtain ⟨fs, d1, e1, f1, f2, f3, hd1⟩ := row_eq hd (by omega)
  obtain ⟨cs, d2, hcl, hd2, hcmp⟩ := sky_draw hd1 (by omega) (fs := fs) (by omega)
  obtain ⟨m, d3, e3, m0, m1, hd3⟩ := roll_eq hd2 (by omega) (m := 9) (by omega) (by omega)
  obtain ⟨r, d4, e4, r0, r1, hd4⟩ := roll_eq hd3 (by omega) (m := 40) (by omega) (by omega)
  have hS : (Sky.mk fs cs).Ok := ⟨by show 0 < fs.length; omega, by show fs.length ≤ 24; omega, hcl, fun x hx => by have := f3 x hx; omega⟩
  have hl : fs.length ≤ 16000000 := by omega
  have hrk : r = ((r.toNat : Nat) : Int) := by omega
  obtain ⟨hi, s11⟩ := more_part (d := d4) (FS := .tup (fs.map D.int)) (ma := .im (.int ((r.toNat : Nat) : Int))) hS m0 (by omega)
  obtain ⟨d5, st, ne, ga, hd5, s10⟩ := pack_ok (FS := .tup (fs.map D.int)) (ma := .im (.int ((r.toNat : Nat) : Int))) (mo := .im (.bl (decide (0 < (Sky.mk fs cs).g m)))) (la := .im (.lst ((((Sky.mk fs cs).lw m (14 * (Sky.mk fs cs).n + 60)).drop (12 * (Sky.mk fs cs).n)).take (Sky.mk fs cs).n))) (hi := hi) hS m0 (by omega) hd4 (by omega)
  obtain ⟨le, s6⟩ := least_ok (d := d5) (si := .im (.int ((Sky.mk fs cs).n : Int))) (ma := .im (.int ((r.toNat : Nat) : Int))) (ro := .im (.lst ((Sky.mk fs cs).lw m (14 * (Sky.mk fs cs).n + 60)))) (mo := .im (.bl (decide (0 < (Sky.mk fs cs).g m)))) (la := .im (.lst ((((Sky.mk fs cs).lw m (14 * (Sky.mk fs cs).n + 60)).drop (12 * (Sky.mk fs cs).n)).take (Sky.mk fs cs).n))) (hi := hi) (st := st) (ne := ne) (ga := ga) hS (fun x hx => (f3 x hx).2) f2 m0
  obtain ⟨b, d6, hb, s4⟩ := pick_bad (S := Sky.mk fs cs) (m := m) (FS := .tup (fs.map D.int)) (si := .im (.int ((Sky.mk fs cs).n : Int))) (ma := .im (.int ((r.toNat : Nat) : Int))) (ro := .im (.lst ((Sky.mk fs cs).lw m (14 * (Sky.mk fs cs).n + 60)))) (mo := .im (.bl (decide (0 < (Sky.mk fs cs).g m)))) (la := .im (.lst ((((Sky.mk fs cs).lw m (14 * (Sky.mk fs cs).n + 60)).drop (12 * (Sky.mk fs cs).n)).take (Sky.mk fs cs).n))) (hi := hi) (st := st) (ne := ne) (ga := ga) (le := le) hd5 (by omega)
  have s3 := end_ok (d := d6) (FS := .tup (fs.map D.int)) (si := .im (.int ((Sky.mk fs cs).n : Int))) (ma := .im (.int ((r.toNat : Nat) : Int))) (ro := .im (.lst ((Sky.mk fs cs).lw m (14 * (Sky.mk fs cs).n + 60)))) (mo := .im (.bl (decide (0 < (Sky.mk fs cs).g m)))) (la := .im (.lst ((((Sky.mk fs cs).lw m (14 * (Sky.mk fs cs).n + 60)).drop (12 * (Sky.mk fs cs).n)).take (Sky.mk fs cs).n))) (hi := hi) (st := st) (ne := ne) (ga := ga) (le := le) hS m0 (by omega) hb
  have s16 := snow_part (d := d4) (FS := .tup (fs.map D.int)) hS m0 (by omega) (k := r.toNat) (by omega)
  have s14 := grow_part (d := d4) (FS := .tup (fs.map D.int)) (ma := .im (.int ((r.toNat : Nat) : Int))) hS m0 (by omega)
  have s17 : m_law_right (en (.pw d) .em .em .em .em .em .em .em .em .em .em .em .em .em .em .em .em) = q16_law_right (en (.pw d4) (.im (.tup (fs.map D.int))) (.im (Sky.mk fs cs).d) (.im (.int m)) (.im (.int ((Sky.mk fs cs).n : Int))) (.im (.int ((r.toNat : Nat) : Int))) .em .em .em .em .em .em .em .em .em .em .em) := by
    have hsd : (Sky.mk fs cs).d = .tup [.tup (fs.map D.int), .tup (cs.map D.bl)] := rfl
    have hsn : (Sky.mk fs cs).n = fs.length := rfl
    unfold en at hcmp
    rw [← hrk]
    simp only [m_law_right, q18_law_right, q17_law_right, en, x_var, x_var1, x_c, x_bin, x_un, x_nil, x_cons, x_fn, x_tst, x_val, x_not, x_and, x_or, x_ifE, x_ifS, x_seq, x_next, x_brk, x_cnt, x_ret, x_retO, x_drop, x_asg, x_asgO, x_par, x_own, x_own1, x_own2, x_mut, x_setI, x_rel, x_call, x_callO, x_ap, x_callI, x_callG, x_atO, x_fnI, x_inO, x_part, x_sl, x_chn, x_ref, x_raise, x_it, x_rng1, x_rng2, x_zip, x_for, x_comp, x_all, x_meth, x_aug, x_runD, x_runI, y0, y1, y2, y3, y4, y5, y6, y7, y8, y9, y10, y11, y12, y13, y14, y15, y16, y17, y18, y19, y20, y21, y22, y23, y24, y25, y26, y27, y28, y29, y30, y31, y32, y33, y34, y35, y36, y37, y38, y39, y40, y41, y42, y43, y44, y45, y46, y47, y48, y49, y50, y51, y52, y53, y54, y55, y56, y57, y58, y59, y60, y61, y62, y63, y64, y65, y66, y67, y68, y69, y70, y71, y72, y73, y74, y75, y76, y77, y78, y79, y80, y81, y82, y83, y84, y85, y86, y87, y88, y89, y90, y91, y92, y93, y94, y95, y96, y97, y98, y99, y100, y101, y102, y103, y104, y105, y106, y107, y108, y109, y110, y111, y112, y113, y114, y115, y116, y117, y118, y119, y120, y121, y122, y123, y124, y125, y126, y127, y128, y129, y130, y131, y132, y133, y134, y135, y136, y137, y138, y139, y140, y141, y142, y143, y144, y145, y146, y147, y148, y149, y150, y151, y152, y153, y154, y155, y156, y157, y158, y159, y160, y161, y162, y163, y164, y165, y166, y167, y168, y169, y170, y171, y172, y173, y174, y175, y176, y177, y178, y179, y180, y181, y182, y183, y184, y185, y186, y187, y188, y189, y190, y191, y192, y193, y194, y195, y196, y197, y198, y199, y200, y201, y202, y203, y204, y205, y206, y207, y208, y209, y210, y211, y212, y213, y214, y215, y216, y217, y218, y219, y220, y221, y222, y223, y224, y225, y226, y227, y228, y229, y230, y231, y232, y233, y234, y235, y236, y237, y238, y239, y240, y241, y242, y243, y244, y245, y246, y247, y248, y249, y250, y251, y252, y253, y254, y255, y256, y257, y258, y259, y260, y261, y262, y263, y264, y265, y266, y267, y268, y269, y270, y271, y272, y273, y274, y275, y276, y277, y278, y279, y280, y281, y282, y283, y284, y285, List.getElem?_cons_zero, List.getElem?_cons_succ, List.getElem?_nil, List.set_cons_zero, List.set_cons_succ, List.set_nil, Bool.not_true, Bool.not_false, List.length_cons, List.length_nil, List.length_map, if_true, if_false, u_int_NoneType, u_int_bool, u_int_int, u_int_str, u_int_tuple, u_int_list, u_bool_NoneType, u_bool_bool, u_bool_int, u_bool_str, u_bool_tuple, u_bool_list, u_tuple_NoneType, u_tuple_bool, u_tuple_int, u_tuple_str, u_tuple_tuple, u_tuple_list, u_list_NoneType, u_list_bool, u_list_int, u_list_str, u_list_tuple, u_list_list, u_str_NoneType, u_str_bool, u_str_int, u_str_str, u_str_tuple, u_str_list, u_replicate0, List.map_cons, List.map_nil, List.replicate_succ, List.replicate_zero, List.cons_append, List.nil_append, Nat.reduceSub, Nat.reduceAdd, Nat.reduceLeDiff, Nat.reduceLT, Nat.zero_add, Int.reduceLT, Int.reduceLE, decide_true, decide_false, true_and, and_true, and_self, Bool.false_eq_true, List.append_nil, Int.cast_ofNat_Int, Int.natCast_zero, Int.natCast_one, Int.reduceEq, Int.reduceAdd, Int.reduceSub, Int.reduceMul, Int.reduceNeg, Nat.reduceEqDiff, eq_self, Int.toNat_natCast, e1, hl, hcmp, e3, e4, hsd, hsn]
  refine ⟨d6, ?_⟩
  have h0 : envI 21 d [] = en (.pw d) .em .em .em .em .em .em .em .em .em .em .em .em .em .em .em .em := rfl
  unfold F_law_right
  rw [x_runI, h0, s17, s16, s14, s11, s10]
  have s6' := s6
  rw [show (Sky.mk fs cs).fs = fs from rfl] at s6'
  rw [s6', s4, s3]
  rfl
theorem law_main (ns : List Int) (h1 : ns.length ≤ 63) (h2 : ∀ z ∈ ns, PySem.Builtin.Int.intBits z ≤ 1048576) : Flaw [.scr ns] = .ok (.bl true) := by
  obtain ⟨k, hk, hkn⟩ : ∃ k : Nat, k ≤ 63 ∧ (if (if (ns.length : Int) < 5 then (ns.length : Int) else 5) > 1 then (if (ns.length : Int) < 5 then (ns.length : Int) else 5) else 1) = (k : Int) := by
    by_cases c : (ns.length : Int) < 5
    · rw [if_pos c]
      by_cases c2 : (ns.length : Int) > 1
      · rw [if_pos c2]; exact ⟨ns.length, h1, rfl⟩
      · rw [if_neg c2]; exact ⟨1, by omega, rfl⟩
    · rw [if_neg c]; exact ⟨5, by omega, rfl⟩
  have hr := n_range (n := k) (by omega)
  obtain ⟨ρ, e, x, rfl⟩ := forPR (g := gSet 1) (b := b1law) (lo := 0) (n := k) (fun i ρ => ∃ x, ρ = [.im (.scr ns), x]) (ρ0 := [.im (.scr ns), .em]) ⟨_, rfl⟩ (fun i ρ hi ⟨x, hx⟩ => by
    subst hx
    obtain ⟨d, e, hd⟩ := dice_eq (ns := ns) (s := i) (by omega)
    obtain ⟨d', e2⟩ := right_eq hd
    have ez : (0 : Int) + (i : Int) = (i : Int) := by omega
    refine ⟨_, _, rfl, .inl ?_, .im (.int (i : Int)), rfl⟩
    simp only [b1law, x_var, x_var1, x_c, x_bin, x_un, x_nil, x_cons, x_fn, x_tst, x_val, x_not, x_and, x_or, x_ifE, x_ifS, x_seq, x_next, x_brk, x_cnt, x_ret, x_retO, x_drop, x_asg, x_asgO, x_par, x_own, x_own1, x_own2, x_mut, x_setI, x_rel, x_call, x_callO, x_ap, x_callI, x_callG, x_atO, x_fnI, x_inO, x_part, x_sl, x_chn, x_ref, x_raise, x_it, x_rng1, x_rng2, x_zip, x_for, x_comp, x_all, x_meth, x_aug, x_runD, x_runI, y0, y1, y2, y3, y4, y5, y6, y7, y8, y9, y10, y11, y12, y13, y14, y15, y16, y17, y18, y19, y20, y21, y22, y23, y24, y25, y26, y27, y28, y29, y30, y31, y32, y33, y34, y35, y36, y37, y38, y39, y40, y41, y42, y43, y44, y45, y46, y47, y48, y49, y50, y51, y52, y53, y54, y55, y56, y57, y58, y59, y60, y61, y62, y63, y64, y65, y66, y67, y68, y69, y70, y71, y72, y73, y74, y75, y76, y77, y78, y79, y80, y81, y82, y83, y84, y85, y86, y87, y88, y89, y90, y91, y92, y93, y94, y95, y96, y97, y98, y99, y100, y101, y102, y103, y104, y105, y106, y107, y108, y109, y110, y111, y112, y113, y114, y115, y116, y117, y118, y119, y120, y121, y122, y123, y124, y125, y126, y127, y128, y129, y130, y131, y132, y133, y134, y135, y136, y137, y138, y139, y140, y141, y142, y143, y144, y145, y146, y147, y148, y149, y150, y151, y152, y153, y154, y155, y156, y157, y158, y159, y160, y161, y162, y163, y164, y165, y166, y167, y168, y169, y170, y171, y172, y173, y174, y175, y176, y177, y178, y179, y180, y181, y182, y183, y184, y185, y186, y187, y188, y189, y190, y191, y192, y193, y194, y195, y196, y197, y198, y199, y200, y201, y202, y203, y204, y205, y206, y207, y208, y209, y210, y211, y212, y213, y214, y215, y216, y217, y218, y219, y220, y221, y222, y223, y224, y225, y226, y227, y228, y229, y230, y231, y232, y233, y234, y235, y236, y237, y238, y239, y240, y241, y242, y243, y244, y245, y246, y247, y248, y249, y250, y251, y252, y253, y254, y255, y256, y257, y258, y259, y260, y261, y262, y263, y264, y265, y266, y267, y268, y269, y270, y271, y272, y273, y274, y275, y276, y277, y278, y279, y280, y281, y282, y283, y284, y285, List.getElem?_cons_zero, List.getElem?_cons_succ, List.getElem?_nil, List.set_cons_zero, List.set_cons_succ, List.set_nil, Bool.not_true, Bool.not_false, List.length_cons, List.length_nil, List.length_map, if_true, if_false, u_int_NoneType, u_int_bool, u_int_int, u_int_str, u_int_tuple, u_int_list, u_bool_NoneType, u_bool_bool, u_bool_int, u_bool_str, u_bool_tuple, u_bool_list, u_tuple_NoneType, u_tuple_bool, u_tuple_int, u_tuple_str, u_tuple_tuple, u_tuple_list, u_list_NoneType, u_list_bool, u_list_int, u_list_str, u_list_tuple, u_list_list, u_str_NoneType, u_str_bool, u_str_int, u_str_str, u_str_tuple, u_str_list, u_replicate0, List.map_cons, List.map_nil, List.replicate_succ, List.replicate_zero, List.cons_append, List.nil_append, Nat.reduceSub, Nat.reduceAdd, Nat.reduceLeDiff, Nat.reduceLT, Nat.zero_add, Int.reduceLT, Int.reduceLE, decide_true, decide_false, true_and, and_true, and_self, Bool.false_eq_true, List.append_nil, Int.cast_ofNat_Int, Int.natCast_zero, Int.natCast_one, Int.reduceEq, Int.reduceAdd, Int.reduceSub, Int.reduceMul, Int.reduceNeg, Nat.reduceEqDiff, eq_self, Int.toNat_natCast, ez, e, e2])
  simp only [Flaw, mlaw, envD, x_var, x_var1, x_c, x_bin, x_un, x_nil, x_cons, x_fn, x_tst, x_val, x_not, x_and, x_or, x_ifE, x_ifS, x_seq, x_next, x_brk, x_cnt, x_ret, x_retO, x_drop, x_asg, x_asgO, x_par, x_own, x_own1, x_own2, x_mut, x_setI, x_rel, x_call, x_callO, x_ap, x_callI, x_callG, x_atO, x_fnI, x_inO, x_part, x_sl, x_chn, x_ref, x_raise, x_it, x_rng1, x_rng2, x_zip, x_for, x_comp, x_all, x_meth, x_aug, x_runD, x_runI, y0, y1, y2, y3, y4, y5, y6, y7, y8, y9, y10, y11, y12, y13, y14, y15, y16, y17, y18, y19, y20, y21, y22, y23, y24, y25, y26, y27, y28, y29, y30, y31, y32, y33, y34, y35, y36, y37, y38, y39, y40, y41, y42, y43, y44, y45, y46, y47, y48, y49, y50, y51, y52, y53, y54, y55, y56, y57, y58, y59, y60, y61, y62, y63, y64, y65, y66, y67, y68, y69, y70, y71, y72, y73, y74, y75, y76, y77, y78, y79, y80, y81, y82, y83, y84, y85, y86, y87, y88, y89, y90, y91, y92, y93, y94, y95, y96, y97, y98, y99, y100, y101, y102, y103, y104, y105, y106, y107, y108, y109, y110, y111, y112, y113, y114, y115, y116, y117, y118, y119, y120, y121, y122, y123, y124, y125, y126, y127, y128, y129, y130, y131, y132, y133, y134, y135, y136, y137, y138, y139, y140, y141, y142, y143, y144, y145, y146, y147, y148, y149, y150, y151, y152, y153, y154, y155, y156, y157, y158, y159, y160, y161, y162, y163, y164, y165, y166, y167, y168, y169, y170, y171, y172, y173, y174, y175, y176, y177, y178, y179, y180, y181, y182, y183, y184, y185, y186, y187, y188, y189, y190, y191, y192, y193, y194, y195, y196, y197, y198, y199, y200, y201, y202, y203, y204, y205, y206, y207, y208, y209, y210, y211, y212, y213, y214, y215, y216, y217, y218, y219, y220, y221, y222, y223, y224, y225, y226, y227, y228, y229, y230, y231, y232, y233, y234, y235, y236, y237, y238, y239, y240, y241, y242, y243, y244, y245, y246, y247, y248, y249, y250, y251, y252, y253, y254, y255, y256, y257, y258, y259, y260, y261, y262, y263, y264, y265, y266, y267, y268, y269, y270, y271, y272, y273, y274, y275, y276, y277, y278, y279, y280, y281, y282, y283, y284, y285, List.getElem?_cons_zero, List.getElem?_cons_succ, List.getElem?_nil, List.set_cons_zero, List.set_cons_succ, List.set_nil, Bool.not_true, Bool.not_false, List.length_cons, List.length_nil, List.length_map, if_true, if_false, u_int_NoneType, u_int_bool, u_int_int, u_int_str, u_int_tuple, u_int_list, u_bool_NoneType, u_bool_bool, u_bool_int, u_bool_str, u_bool_tuple, u_bool_list, u_tuple_NoneType, u_tuple_bool, u_tuple_int, u_tuple_str, u_tuple_tuple, u_tuple_list, u_list_NoneType, u_list_bool, u_list_int, u_list_str, u_list_tuple, u_list_list, u_str_NoneType, u_str_bool, u_str_int, u_str_str, u_str_tuple, u_str_list, u_replicate0, List.map_cons, List.map_nil, List.replicate_succ, List.replicate_zero, List.cons_append, List.nil_append, Nat.reduceSub, Nat.reduceAdd, Nat.reduceLeDiff, Nat.reduceLT, Nat.zero_add, Int.reduceLT, Int.reduceLE, decide_true, decide_false, true_and, and_true, and_self, Bool.false_eq_true, List.append_nil, Int.cast_ofNat_Int, Int.natCast_zero, Int.natCast_one, Int.reduceEq, Int.reduceAdd, Int.reduceSub, Int.reduceMul, Int.reduceNeg, Nat.reduceEqDiff, eq_self, Int.toNat_natCast, hkn, hr, e]
end K19
set_option Elab.async false
set_option linter.all false
set_option maxRecDepth 100000
set_option maxHeartbeats 4000000
/-! K19W: the walk. -/
namespace K19
open PySem PySem.Spec PyProof.Rows L2 RZ RK
abbrev top (i : Nat) : Stmt := PySem.Challenge.pw_rainkept_k19_whole_melts.main.body.getD i (.Pass ⟨0, 0, 0, 0⟩)
structure BiN (mg : Str → Option Value) : Prop where
  abs : mg "abs" = none
  all : mg "all" = none
  bool : mg "bool" = none
  int : mg "int" = none
  isinstance : mg "isinstance" = none
  len : mg "len" = none
  max : mg "max" = none
  min : mg "min" = none
  range : mg "range" = none
  sum : mg "sum" = none
  tuple : mg "tuple" = none
  zip : mg "zip" = none
structure Cst (mg : Str → Option Value) : Prop where
  MOST_AMOUNT : ∃ t, mg "MOST_AMOUNT" = some (.int 200 t)
  MOST_MANY : ∃ t, mg "MOST_MANY" = some (.int 500 t)
  MOST_MELT : ∃ t, mg "MOST_MELT" = some (.int 1000 t)
  MOST_ROW : ∃ t, mg "MOST_ROW" = some (.int 24 t)
  MOST_SKY : ∃ t, mg "MOST_SKY" = some (.int 24 t)
  MOST_STEP : ∃ t, mg "MOST_STEP" = some (.int 1000000000000 t)
section
variable {P : Program} {w : World} {K : PySem.W.Frag} {mg : Str → Option Value} {base : Heap} {T : Tabl} {B : Addr}
abbrev sis_integer : Stmt := top 7
theorem scis_integer : FnScope ["value"] ["value"] (defScope sis_integer) := ⟨rfl, rfl, rfl, by decide +kernel, rfl, by decide +kernel, by decide +kernel⟩
theorem okis_integer {a : Addr} {fd : FuncData} (Fn : Defd K mg "is_integer" sis_integer a fd) (bi : BiN mg) : CalD P w K mg base T B 2 "is_integer" a fd ["value"] Fis_integer := by
  have nd := scis_integer.nd
  exact ⟨fun_okD (B := B) (k := 1) Fn.fn scis_integer mis_integer (by decide) (fun cdv A outer s H E hr hcd => (dss_one (ds_ret (de_and (de_isi bi.isinstance bi.int (by rfl) (de_v 0)) (de_one (de_not (de_isi bi.isinstance bi.bool (by rfl) (de_v 0)))))))), Fn.gx, Fn.fn.kp, Fn.fn.binds (fun _ _ _ _ _ _ us hl => match us, hl with | [_], _ => rfl)⟩
abbrev sneed_integer : Stmt := top 8
theorem scneed_integer : FnScope ["value", "name", "least", "most"] ["value", "name", "least", "most"] (defScope sneed_integer) := ⟨rfl, rfl, rfl, by decide +kernel, rfl, by decide +kernel, by decide +kernel⟩
theorem okneed_integer {a : Addr} {fd : FuncData} (Fn : Defd K mg "need_integer" sneed_integer a fd) {ais_integer : Addr} {fdis_integer : FuncData} (cis_integer : CalD P w K mg base T B 2 "is_integer" ais_integer fdis_integer ["value"] Fis_integer) {fI : Addr} (tx : BadTxt P K mg B fI) : CalD P w K mg base T B 3 "need_integer" a fd ["value", "name", "least", "most"] Fneed_integer := by
  have nd := scneed_integer.nd
  exact ⟨fun_okD (B := B) (k := 2) Fn.fn scneed_integer mneed_integer (by decide) (fun cdv A outer s H E hr hcd => (dss_one (ds_if (dwB (dw_or (db_not (db_val (de_call cis_integer (hr.mono (j := 2) (by decide)) (passes_call (takes_of rfl rfl rfl rfl) (fun _ _ _ _ h => h)) (da_cons (de_v 0) da_nil)))) (dw_or (db_cmp op_lt p2_lt (by first | rfl | with_unfolding_all rfl) (de_v 0) (de_v 2)) (dw_or1 (db_cmp op_gt p2_gt (by first | rfl | with_unfolding_all rfl) (de_v 0) (de_v 3)))))) (dss_one (ds_raise (k := 0) rfl tx (hr.mono (j := 1) (by decide)) (takes_of rfl rfl rfl rfl) (de_v 1))) dss_nil))), Fn.gx, Fn.fn.kp, Fn.fn.binds (fun _ _ _ _ _ _ us hl => match us, hl with | [_, _, _, _], _ => rfl)⟩
abbrev sis_row : Stmt := top 9
theorem scis_row : FnScope ["value", "one"] ["value"] (defScope sis_row) := ⟨rfl, rfl, rfl, by decide +kernel, rfl, by decide +kernel, by decide +kernel⟩
theorem okis_row {a : Addr} {fd : FuncData} (Fn : Defd K mg "is_row" sis_row a fd) {ais_integer : Addr} {fdis_integer : FuncData} (cis_integer : CalD P w K mg base T B 2 "is_integer" ais_integer fdis_integer ["value"] Fis_integer) (bi : BiN mg) (cs : Cst mg) {cc pt : Addr} (hcc : fd.code = .ref cc) (TB : GxR.TabB base mg cc pt) (hP : pt ∈ T.gen) (hlT : ∀ p ∈ T.lam, p.1 ≠ pt) : CalD P w K mg base T B 6 "is_row" a fd ["value"] Fis_row := by
  have nd := scis_row.nd
  exact ⟨fun_okD (B := B) (k := 5) Fn.fn scis_row mis_row (by decide) (fun cdv A outer s H E hr hcd => (dss_cons (ds_if (dwB (dw_or (db_not (db_val (de_isi bi.isinstance bi.tuple (by rfl) (de_v 0)))) (dw_or1 (db_not (db_chn op_le op_le p2_le p2_le de_int (de_blt call_len_seq pc_len bi.len (by rfl) (da_cons (de_v 0) da_nil)) (de_gi cs.MOST_ROW)))))) (dss_one (ds_ret de_bl)) dss_nil) (dss_one (ds_ret (de_all (vs := [1]) [("one", 1)] hP hlT hr bi.all TB nd (genSc_by (by kernel_rfl)) (di_seq (de_v 0)) rfl (fun _ _ _ _ => (dgo_v 1 nd)) (fun _ _ _ _ => (de_and (de_call cis_integer (room_gen (j := 2) (hr.mono (j := 5) (by decide))) passL (da_cons (de_v 1) da_nil)) (de_one (de_chn op_le op_le p2_le p2_le de_int (de_v 1) (de_gi cs.MOST_AMOUNT))))) (hcd.symm.trans hcc)))))), Fn.gx, Fn.fn.kp, Fn.fn.binds (fun _ _ _ _ _ _ us hl => match us, hl with | [_], _ => rfl)⟩
abbrev sis_sky : Stmt := top 13
theorem scis_sky : FnScope ["value", "one"] ["value"] (defScope sis_sky) := ⟨rfl, rfl, rfl, by decide +kernel, rfl, by decide +kernel, by decide +kernel⟩
theorem okis_sky {a : Addr} {fd : FuncData} (Fn : Defd K mg "is_sky" sis_sky a fd) {ais_row : Addr} {fdis_row : FuncData} (cis_row : CalD P w K mg base T B 6 "is_row" ais_row fdis_row ["value"] Fis_row) (bi : BiN mg) (cs : Cst mg) {cc pt : Addr} (hcc : fd.code = .ref cc) (TB : GxR.TabB base mg cc pt) (hP : pt ∈ T.gen) (hlT : ∀ p ∈ T.lam, p.1 ≠ pt) : CalD P w K mg base T B 7 "is_sky" a fd ["value"] Fis_sky := by
  have nd := scis_sky.nd
  exact ⟨fun_okD (B := B) (k := 6) Fn.fn scis_sky mis_sky (by decide) (fun cdv A outer s H E hr hcd => (dss_cons (ds_if (dwB (dw_or (db_not (db_val (de_isi bi.isinstance bi.tuple (by rfl) (de_v 0)))) (dw_or (db_cmp (op_neD (Room.units (hr.mono (j := 1) (by decide)))) p2_ne (by first | rfl | with_unfolding_all rfl) (de_blt call_len_seq pc_len bi.len (by rfl) (da_cons (de_v 0) da_nil)) de_int) (dw_or (db_not (db_val (de_call cis_row (hr.mono (j := 6) (by decide)) (passes_call (takes_of rfl rfl rfl rfl) (fun _ _ _ _ h => h)) (da_cons (de_ix (de_v 0) de_int) da_nil)))) (dw_or1 (db_cmp op_gt p2_gt (by first | rfl | with_unfolding_all rfl) (de_blt call_len_seq pc_len bi.len (by rfl) (da_cons (de_ix (de_v 0) de_int) da_nil)) (de_gi cs.MOST_SKY))))))) (dss_one (ds_ret de_bl)) dss_nil) (dss_cons (ds_if (dwB (dw_or (db_not (db_val (de_isi bi.isinstance bi.tuple (by rfl) (de_ix (de_v 0) de_int)))) (dw_or1 (db_cmp (op_neD (Room.units (hr.mono (j := 1) (by decide)))) p2_ne (by first | rfl | with_unfolding_all rfl) (de_blt call_len_seq pc_len bi.len (by rfl) (da_cons (de_ix (de_v 0) de_int) da_nil)) (de_blt call_len_seq pc_len bi.len (by rfl) (da_cons (de_ix (de_v 0) de_int) da_nil)))))) (dss_one (ds_ret de_bl)) dss_nil) (dss_one (ds_ret (de_all (vs := [1]) [("one", 1)] hP hlT hr bi.all TB nd (genSc_by (by kernel_rfl)) (di_seq (de_ix (de_v 0) de_int)) rfl (fun _ _ _ _ => (dgo_v 1 nd)) (fun _ _ _ _ => (de_isi bi.isinstance bi.bool (by rfl) (de_v 1))) (hcd.symm.trans hcc))))))), Fn.gx, Fn.fn.kp, Fn.fn.binds (fun _ _ _ _ _ _ us hl => match us, hl with | [_], _ => rfl)⟩
abbrev sneed_sky : Stmt := top 14
theorem scneed_sky : FnScope ["sky", "melt"] ["sky", "melt"] (defScope sneed_sky) := ⟨rfl, rfl, rfl, by decide +kernel, rfl, by decide +kernel, by decide +kernel⟩
theorem okneed_sky {a : Addr} {fd : FuncData} (Fn : Defd K mg "need_sky" sneed_sky a fd) {ais_sky : Addr} {fdis_sky : FuncData} (cis_sky : CalD P w K mg base T B 7 "is_sky" ais_sky fdis_sky ["value"] Fis_sky) {aneed_integer : Addr} {fdneed_integer : FuncData} (cneed_integer : CalD P w K mg base T B 3 "need_integer" aneed_integer fdneed_integer ["value", "name", "least", "most"] Fneed_integer) (cs : Cst mg) {fI : Addr} (tx : BadTxt P K mg B fI) : CalD P w K mg base T B 8 "need_sky" a fd ["sky", "melt"] Fneed_sky := by
  have nd := scneed_sky.nd
  exact ⟨fun_okD (B := B) (k := 7) Fn.fn scneed_sky mneed_sky (by decide) (fun cdv A outer s H E hr hcd => (dss_cons (ds_if (db_not (db_val (de_call cis_sky (hr.mono (j := 7) (by decide)) (passes_call (takes_of rfl rfl rfl rfl) (fun _ _ _ _ h => h)) (da_cons (de_v 0) da_nil)))) (dss_one (ds_raise (k := 0) rfl tx (hr.mono (j := 1) (by decide)) (takes_of rfl rfl rfl rfl) de_str)) dss_nil) (dss_one (ds_drop (de_call cneed_integer (hr.mono (j := 3) (by decide)) (passes_call (takes_of rfl rfl rfl rfl) (fun _ _ _ _ h => h)) (da_cons (de_v 1) (da_cons de_str (da_cons de_int (da_cons (de_gi cs.MOST_MELT) da_nil))))))))), Fn.gx, Fn.fn.kp, Fn.fn.binds (fun _ _ _ _ _ _ us hl => match us, hl with | [_, _], _ => rfl)⟩
abbrev sone_step : Stmt := top 15
theorem scone_step : FnScope ["sky", "melt", "step", "pack", "place", "gone"] ["sky", "melt", "step", "pack"] (defScope sone_step) := ⟨rfl, rfl, rfl, by decide +kernel, rfl, by decide +kernel, by decide +kernel⟩
theorem okone_step {a : Addr} {fd : FuncData} (Fn : Defd K mg "one_step" sone_step a fd) (bi : BiN mg) : CalD P w K mg base T B 2 "one_step" a fd ["sky", "melt", "step", "pack"] Fone_step := by
  have nd := scone_step.nd
  exact ⟨fun_okD (B := B) (k := 1) Fn.fn scone_step mone_step (by decide) (fun cdv A outer s H E hr hcd => (dss_cons (ds_set 4 nd (de_mod (de_v 2) (de_blt call_len_seq pc_len bi.len (by rfl) (da_cons (de_ix (de_v 0) de_int) da_nil)))) (dss_cons (ds_if (db_val (de_ix (de_ix (de_v 0) de_int) (de_v 4))) (dss_one (ds_ret (de_tup (da_cons (de_add (de_v 3) (de_ix (de_ix (de_v 0) de_int) (de_v 4))) (da_cons de_int da_nil))))) dss_nil) (dss_cons (ds_set 5 nd (de_blt (call_min2 rfl) pc_min2 bi.min (by rfl) (da_cons (de_v 3) (da_cons (de_v 1) da_nil)))) (dss_one (ds_ret (de_tup (da_cons (de_sub (de_v 3) (de_v 5)) (da_cons (de_add (de_ix (de_ix (de_v 0) de_int) (de_v 4)) (de_v 5)) da_nil))))))))), Fn.gx, Fn.fn.kp, Fn.fn.binds (fun _ _ _ _ _ _ us hl => match us, hl with | [_, _, _, _], _ => rfl)⟩
abbrev srounds_from : Stmt := top 16
theorem scrounds_from : FnScope ["sky", "melt", "pack", "found", "step"] ["sky", "melt", "pack"] (defScope srounds_from) := ⟨rfl, rfl, rfl, by decide +kernel, rfl, by decide +kernel, by decide +kernel⟩
theorem okrounds_from {a : Addr} {fd : FuncData} (Fn : Defd K mg "rounds_from" srounds_from a fd) {aone_step : Addr} {fdone_step : FuncData} (cone_step : CalD P w K mg base T B 2 "one_step" aone_step fdone_step ["sky", "melt", "step", "pack"] Fone_step) (bi : BiN mg) : CalD P w K mg base T B 3 "rounds_from" a fd ["sky", "melt", "pack"] Frounds_from := by
  have nd := scrounds_from.nd
  exact ⟨fun_okD (B := B) (k := 2) Fn.fn scrounds_from mrounds_from (by decide) (fun cdv A outer s H E hr hcd => (dss_cons (ds_setO 3 nd (do_lst da_nil)) (dss_cons (ds_for (passes_of rfl) (di_rng1 bi.range (da_cons (de_blt call_len_seq pc_len bi.len (by rfl) (da_cons (de_ix (de_v 0) de_int) da_nil)) da_nil)) (dg_v 4 nd) (dss_cons (ds_app 3 (de_call cone_step (hr.mono (j := 2) (by decide)) (passes_call (takes_of rfl rfl rfl rfl) (fun _ _ _ _ h => h)) (da_cons (de_v 0) (da_cons (de_v 1) (da_cons (de_v 4) (da_cons (de_v 2) da_nil)))))) (dss_one (ds_set 2 nd (de_ix (de_atO 3 (de_sub (de_bltI 3 call_len_seq ps_len bi.len (by rfl)) de_int)) de_int))))) (dss_one (ds_rel 3 (ds_ret (de_v 3))))))), Fn.gx, Fn.fn.kp, Fn.fn.binds (fun _ _ _ _ _ _ us hl => match us, hl with | [_, _, _], _ => rfl)⟩
abbrev ssnow_course : Stmt := top 17
theorem scsnow_course : FnScope ["sky", "melt", "many", "found", "pack", "step", "row"] ["sky", "melt", "many"] (defScope ssnow_course) := ⟨rfl, rfl, rfl, by decide +kernel, rfl, by decide +kernel, by decide +kernel⟩
theorem oksnow_course {a : Addr} {fd : FuncData} (Fn : Defd K mg "snow_course" ssnow_course a fd) {aneed_sky : Addr} {fdneed_sky : FuncData} (cneed_sky : CalD P w K mg base T B 8 "need_sky" aneed_sky fdneed_sky ["sky", "melt"] Fneed_sky) {aneed_integer : Addr} {fdneed_integer : FuncData} (cneed_integer : CalD P w K mg base T B 3 "need_integer" aneed_integer fdneed_integer ["value", "name", "least", "most"] Fneed_integer) {aone_step : Addr} {fdone_step : FuncData} (cone_step : CalD P w K mg base T B 2 "one_step" aone_step fdone_step ["sky", "melt", "step", "pack"] Fone_step) (bi : BiN mg) (cs : Cst mg) : CalD P w K mg base T B 9 "snow_course" a fd ["sky", "melt", "many"] Fsnow_course := by
  have nd := scsnow_course.nd
  exact ⟨fun_okD (B := B) (k := 8) Fn.fn scsnow_course msnow_course (by decide) (fun cdv A outer s H E hr hcd => (dss_cons (ds_drop (de_call cneed_sky (hr.mono (j := 8) (by decide)) (passes_call (takes_of rfl rfl rfl rfl) (fun _ _ _ _ h => h)) (da_cons (de_v 0) (da_cons (de_v 1) da_nil)))) (dss_cons (ds_drop (de_call cneed_integer (hr.mono (j := 3) (by decide)) (passes_call (takes_of rfl rfl rfl rfl) (fun _ _ _ _ h => h)) (da_cons (de_v 2) (da_cons de_str (da_cons de_int (da_cons (de_gi cs.MOST_MANY) da_nil)))))) (dss_cons (ds_setO 3 nd (do_lst da_nil)) (dss_cons (ds_set 4 nd de_int) (dss_cons (ds_for (passes_of rfl) (di_rng1 bi.range (da_cons (de_v 2) da_nil)) (dg_v 5 nd) (dss_cons (ds_set 6 nd (de_call cone_step (hr.mono (j := 2) (by decide)) (passes_call (takes_of rfl rfl rfl rfl) (fun _ _ _ _ h => h)) (da_cons (de_v 0) (da_cons (de_v 1) (da_cons (de_v 5) (da_cons (de_v 4) da_nil)))))) (dss_cons (ds_app 3 (de_v 6)) (dss_one (ds_set 4 nd (de_ix (de_v 6) de_int)))))) (dss_one (ds_rel 3 (ds_ret (de_bty call_tuple_of pc_tuple bi.tuple (by rfl) (da_cons (de_v 3) da_nil))))))))))), Fn.gx, Fn.fn.kp, Fn.fn.binds (fun _ _ _ _ _ _ us hl => match us, hl with | [_, _, _], _ => rfl)⟩
abbrev sgrows : Stmt := top 18
theorem scgrows : FnScope ["sky", "melt", "cold", "fall", "is_cold"] ["sky", "melt"] (defScope sgrows) := ⟨rfl, rfl, rfl, by decide +kernel, rfl, by decide +kernel, by decide +kernel⟩
theorem okgrows {a : Addr} {fd : FuncData} (Fn : Defd K mg "grows" sgrows a fd) {aneed_sky : Addr} {fdneed_sky : FuncData} (cneed_sky : CalD P w K mg base T B 8 "need_sky" aneed_sky fdneed_sky ["sky", "melt"] Fneed_sky) (bi : BiN mg) : CalD P w K mg base T B 9 "grows" a fd ["sky", "melt"] Fgrows := by
  have nd := scgrows.nd
  exact ⟨fun_okD (B := B) (k := 8) Fn.fn scgrows mgrows (by decide) (fun cdv A outer s H E hr hcd => (dss_cons (ds_drop (de_call cneed_sky (hr.mono (j := 8) (by decide)) (passes_call (takes_of rfl rfl rfl rfl) (fun _ _ _ _ h => h)) (da_cons (de_v 0) (da_cons (de_v 1) da_nil)))) (dss_cons (ds_set 2 nd (de_blt (o_sum rfl) pc_sum bi.sum (by rfl) (da_cons (de_comp [("fall", 3), ("is_cold", 4)] nd (di_zip bi.zip (da_cons (de_ix (de_v 0) de_int) (da_cons (de_ix (de_v 0) de_int) da_nil))) rfl (blkOk_by (by kernel_rfl)) (fun _ _ _ _ _ => (dgo_tup (dgos_cons (dgo_v 3 nd) (dgos_cons (dgo_v 4 nd) dgos_nil)))) (fun _ _ _ _ _ => (dt_one (db_val (de_v 4)))) (fun _ _ _ _ _ => (de_v 3))) da_nil))) (dss_one (ds_ret (de_cmp op_gt p2_gt (by first | rfl | with_unfolding_all rfl) (de_v 2) (de_mul (de_v 1) (de_blt call_len_seq pc_len bi.len (by rfl) (da_cons (de_comp [("is_cold", 4)] nd (di_seq (de_ix (de_v 0) de_int)) rfl (blkOk_by (by kernel_rfl)) (fun _ _ _ _ _ => (dgo_v 4 nd)) (fun _ _ _ _ _ => (dt_one (db_not (db_val (de_v 4))))) (fun _ _ _ _ _ => de_int)) da_nil))))))))), Fn.gx, Fn.fn.kp, Fn.fn.binds (fun _ _ _ _ _ _ us hl => match us, hl with | [_, _], _ => rfl)⟩
abbrev ssettled_pack : Stmt := top 19
theorem scsettled_pack : FnScope ["sky", "melt", "pack", "is_done", "later"] ["sky", "melt"] (defScope ssettled_pack) := ⟨rfl, rfl, rfl, by decide +kernel, rfl, by decide +kernel, by decide +kernel⟩
theorem oksettled_pack {a : Addr} {fd : FuncData} (Fn : Defd K mg "settled_pack" ssettled_pack a fd) {arounds_from : Addr} {fdrounds_from : FuncData} (crounds_from : CalD P w K mg base T B 3 "rounds_from" arounds_from fdrounds_from ["sky", "melt", "pack"] Frounds_from) (bi : BiN mg) : CalD P w K mg base T B 4 "settled_pack" a fd ["sky", "melt"] Fsettled_pack := by
  have nd := scsettled_pack.nd
  exact ⟨fun_okD (B := B) (k := 3) Fn.fn scsettled_pack msettled_pack (by decide) (fun cdv A outer s H E hr hcd => (dss_cons (ds_set 2 nd de_int) (dss_cons (ds_set 3 nd de_bl) (dss_cons (ds_while (passes_of rfl) (db_not (db_val (de_v 3))) (dss_cons (ds_set 4 nd (de_ix (de_ix (de_call crounds_from (hr.mono (j := 3) (by decide)) (passes_call (takes_of rfl rfl rfl rfl) (fun _ _ _ _ h => h)) (da_cons (de_v 0) (da_cons (de_v 1) (da_cons (de_v 2) da_nil)))) (de_sub (de_blt call_len_seq pc_len bi.len (by rfl) (da_cons (de_ix (de_v 0) de_int) da_nil)) de_int)) de_int)) (dss_cons (ds_set 3 nd (de_cmp (op_eqD (Room.units (hr.mono (j := 1) (by decide)))) p2_eq (by first | rfl | with_unfolding_all rfl) (de_v 4) (de_v 2))) (dss_one (ds_set 2 nd (de_v 4)))))) (dss_one (ds_ret (de_v 2))))))), Fn.gx, Fn.fn.kp, Fn.fn.binds (fun _ _ _ _ _ _ us hl => match us, hl with | [_, _], _ => rfl)⟩
abbrev swater_row : Stmt := top 20
theorem scwater_row : FnScope ["sky", "melt", "rows", "pack", "water"] ["sky", "melt"] (defScope swater_row) := ⟨rfl, rfl, rfl, by decide +kernel, rfl, by decide +kernel, by decide +kernel⟩
theorem okwater_row {a : Addr} {fd : FuncData} (Fn : Defd K mg "water_row" swater_row a fd) {agrows : Addr} {fdgrows : FuncData} (cgrows : CalD P w K mg base T B 9 "grows" agrows fdgrows ["sky", "melt"] Fgrows) {arounds_from : Addr} {fdrounds_from : FuncData} (crounds_from : CalD P w K mg base T B 3 "rounds_from" arounds_from fdrounds_from ["sky", "melt", "pack"] Frounds_from) {asettled_pack : Addr} {fdsettled_pack : FuncData} (csettled_pack : CalD P w K mg base T B 4 "settled_pack" asettled_pack fdsettled_pack ["sky", "melt"] Fsettled_pack) (bi : BiN mg) : CalD P w K mg base T B 10 "water_row" a fd ["sky", "melt"] Fwater_row := by
  have nd := scwater_row.nd
  exact ⟨fun_okD (B := B) (k := 9) Fn.fn scwater_row mwater_row (by decide) (fun cdv A outer s H E hr hcd => (dss_cons (ds_if (db_val (de_call cgrows (hr.mono (j := 9) (by decide)) (passes_call (takes_of rfl rfl rfl rfl) (fun _ _ _ _ h => h)) (da_cons (de_v 0) (da_cons (de_v 1) da_nil)))) (dss_one (ds_ret de_non)) dss_nil) (dss_cons (ds_set 2 nd (de_call crounds_from (hr.mono (j := 3) (by decide)) (passes_call (takes_of rfl rfl rfl rfl) (fun _ _ _ _ h => h)) (da_cons (de_v 0) (da_cons (de_v 1) (da_cons (de_call csettled_pack (hr.mono (j := 4) (by decide)) (passes_call (takes_of rfl rfl rfl rfl) (fun _ _ _ _ h => h)) (da_cons (de_v 0) (da_cons (de_v 1) da_nil))) da_nil))))) (dss_one (ds_ret (de_bty call_tuple_of pc_tuple bi.tuple (by rfl) (da_cons (de_comp [("pack", 3), ("water", 4)] nd (di_seq (de_v 2)) rfl (blkOk_by (by kernel_rfl)) (fun _ _ _ _ _ => (dgo_tup (dgos_cons (dgo_v 3 nd) (dgos_cons (dgo_v 4 nd) dgos_nil)))) (fun _ _ _ _ _ => dt_nil) (fun _ _ _ _ _ => (de_v 4))) da_nil))))))), Fn.gx, Fn.fn.kp, Fn.fn.binds (fun _ _ _ _ _ _ us hl => match us, hl with | [_, _], _ => rfl)⟩
abbrev sdeepest : Stmt := top 21
theorem scdeepest : FnScope ["sky", "melt", "best", "pack", "size", "step"] ["sky", "melt"] (defScope sdeepest) := ⟨rfl, rfl, rfl, by decide +kernel, rfl, by decide +kernel, by decide +kernel⟩
theorem okdeepest {a : Addr} {fd : FuncData} (Fn : Defd K mg "deepest" sdeepest a fd) {agrows : Addr} {fdgrows : FuncData} (cgrows : CalD P w K mg base T B 9 "grows" agrows fdgrows ["sky", "melt"] Fgrows) {aone_step : Addr} {fdone_step : FuncData} (cone_step : CalD P w K mg base T B 2 "one_step" aone_step fdone_step ["sky", "melt", "step", "pack"] Fone_step) (bi : BiN mg) : CalD P w K mg base T B 10 "deepest" a fd ["sky", "melt"] Fdeepest := by
  have nd := scdeepest.nd
  exact ⟨fun_okD (B := B) (k := 9) Fn.fn scdeepest mdeepest (by decide) (fun cdv A outer s H E hr hcd => (dss_cons (ds_if (db_val (de_call cgrows (hr.mono (j := 9) (by decide)) (passes_call (takes_of rfl rfl rfl rfl) (fun _ _ _ _ h => h)) (da_cons (de_v 0) (da_cons (de_v 1) da_nil)))) (dss_one (ds_ret de_non)) dss_nil) (dss_cons (ds_set 2 nd de_non) (dss_cons (ds_set 3 nd de_int) (dss_cons (ds_set 4 nd (de_blt call_len_seq pc_len bi.len (by rfl) (da_cons (de_ix (de_v 0) de_int) da_nil))) (dss_cons (ds_for (passes_of rfl) (di_rng1 bi.range (da_cons (de_mul de_int (de_v 4)) da_nil)) (dg_v 5 nd) (dss_cons (ds_set 3 nd (de_ix (de_call cone_step (hr.mono (j := 2) (by decide)) (passes_call (takes_of rfl rfl rfl rfl) (fun _ _ _ _ h => h)) (da_cons (de_v 0) (da_cons (de_v 1) (da_cons (de_v 5) (da_cons (de_v 3) da_nil))))) de_int)) (dss_one (ds_if (dwB (dw_or (db_cmp op_isN p2_isN (by first | rfl | with_unfolding_all rfl) (de_v 2) de_non) (dw_or1 (db_cmp op_gt p2_gt (by first | rfl | with_unfolding_all rfl) (de_v 3) (de_ix (de_v 2) de_int))))) (dss_one (ds_set 2 nd (de_tup (da_cons (de_v 3) (da_cons (de_v 5) da_nil))))) dss_nil)))) (dss_one (ds_ret (de_v 2))))))))), Fn.gx, Fn.fn.kp, Fn.fn.binds (fun _ _ _ _ _ _ us hl => match us, hl with | [_, _], _ => rfl)⟩
abbrev sbare_steps : Stmt := top 22
theorem scbare_steps : FnScope ["sky", "melt", "rows", "step"] ["sky", "melt"] (defScope sbare_steps) := ⟨rfl, rfl, rfl, by decide +kernel, rfl, by decide +kernel, by decide +kernel⟩
theorem okbare_steps {a : Addr} {fd : FuncData} (Fn : Defd K mg "bare_steps" sbare_steps a fd) {agrows : Addr} {fdgrows : FuncData} (cgrows : CalD P w K mg base T B 9 "grows" agrows fdgrows ["sky", "melt"] Fgrows) {arounds_from : Addr} {fdrounds_from : FuncData} (crounds_from : CalD P w K mg base T B 3 "rounds_from" arounds_from fdrounds_from ["sky", "melt", "pack"] Frounds_from) {asettled_pack : Addr} {fdsettled_pack : FuncData} (csettled_pack : CalD P w K mg base T B 4 "settled_pack" asettled_pack fdsettled_pack ["sky", "melt"] Fsettled_pack) (bi : BiN mg) : CalD P w K mg base T B 10 "bare_steps" a fd ["sky", "melt"] Fbare_steps := by
  have nd := scbare_steps.nd
  exact ⟨fun_okD (B := B) (k := 9) Fn.fn scbare_steps mbare_steps (by decide) (fun cdv A outer s H E hr hcd => (dss_cons (ds_if (db_val (de_call cgrows (hr.mono (j := 9) (by decide)) (passes_call (takes_of rfl rfl rfl rfl) (fun _ _ _ _ h => h)) (da_cons (de_v 0) (da_cons (de_v 1) da_nil)))) (dss_one (ds_ret de_non)) dss_nil) (dss_cons (ds_set 2 nd (de_call crounds_from (hr.mono (j := 3) (by decide)) (passes_call (takes_of rfl rfl rfl rfl) (fun _ _ _ _ h => h)) (da_cons (de_v 0) (da_cons (de_v 1) (da_cons (de_call csettled_pack (hr.mono (j := 4) (by decide)) (passes_call (takes_of rfl rfl rfl rfl) (fun _ _ _ _ h => h)) (da_cons (de_v 0) (da_cons (de_v 1) da_nil))) da_nil))))) (dss_one (ds_ret (de_bty call_tuple_of pc_tuple bi.tuple (by rfl) (da_cons (de_comp [("step", 3)] nd (di_rng1 bi.range (da_cons (de_blt call_len_seq pc_len bi.len (by rfl) (da_cons (de_v 2) da_nil)) da_nil)) rfl (blkOk_by (by kernel_rfl)) (fun _ _ _ _ _ => (dgo_v 3 nd)) (fun _ _ _ _ _ => (dt_one (db_cmp (op_eqD (Room.units (hr.mono (j := 1) (by decide)))) p2_eq (by first | rfl | with_unfolding_all rfl) (de_ix (de_ix (de_v 2) (de_v 3)) de_int) de_int))) (fun _ _ _ _ _ => (de_v 3))) da_nil))))))), Fn.gx, Fn.fn.kp, Fn.fn.binds (fun _ _ _ _ _ _ us hl => match us, hl with | [_, _], _ => rfl)⟩
abbrev spack_at : Stmt := top 23
theorem scpack_at : FnScope ["sky", "melt", "step", "size", "pack", "begin", "own", "packs", "turn", "rounds", "gain"] ["sky", "melt", "step"] (defScope spack_at) := ⟨rfl, rfl, rfl, by decide +kernel, rfl, by decide +kernel, by decide +kernel⟩
theorem okpack_at {a : Addr} {fd : FuncData} (Fn : Defd K mg "pack_at" spack_at a fd) {aneed_sky : Addr} {fdneed_sky : FuncData} (cneed_sky : CalD P w K mg base T B 8 "need_sky" aneed_sky fdneed_sky ["sky", "melt"] Fneed_sky) {aneed_integer : Addr} {fdneed_integer : FuncData} (cneed_integer : CalD P w K mg base T B 3 "need_integer" aneed_integer fdneed_integer ["value", "name", "least", "most"] Fneed_integer) {agrows : Addr} {fdgrows : FuncData} (cgrows : CalD P w K mg base T B 9 "grows" agrows fdgrows ["sky", "melt"] Fgrows) {asettled_pack : Addr} {fdsettled_pack : FuncData} (csettled_pack : CalD P w K mg base T B 4 "settled_pack" asettled_pack fdsettled_pack ["sky", "melt"] Fsettled_pack) {aone_step : Addr} {fdone_step : FuncData} (cone_step : CalD P w K mg base T B 2 "one_step" aone_step fdone_step ["sky", "melt", "step", "pack"] Fone_step) {arounds_from : Addr} {fdrounds_from : FuncData} (crounds_from : CalD P w K mg base T B 3 "rounds_from" arounds_from fdrounds_from ["sky", "melt", "pack"] Frounds_from) (bi : BiN mg) (cs : Cst mg) : CalD P w K mg base T B 10 "pack_at" a fd ["sky", "melt", "step"] Fpack_at := by
  have nd := scpack_at.nd
  exact ⟨fun_okD (B := B) (k := 9) Fn.fn scpack_at mpack_at (by decide) (fun cdv A outer s H E hr hcd => (dss_cons (ds_drop (de_call cneed_sky (hr.mono (j := 8) (by decide)) (passes_call (takes_of rfl rfl rfl rfl) (fun _ _ _ _ h => h)) (da_cons (de_v 0) (da_cons (de_v 1) da_nil)))) (dss_cons (ds_drop (de_call cneed_integer (hr.mono (j := 3) (by decide)) (passes_call (takes_of rfl rfl rfl rfl) (fun _ _ _ _ h => h)) (da_cons (de_v 2) (da_cons de_str (da_cons de_int (da_cons (de_gi cs.MOST_STEP) da_nil)))))) (dss_cons (ds_set 3 nd (de_blt call_len_seq pc_len bi.len (by rfl) (da_cons (de_ix (de_v 0) de_int) da_nil))) (dss_cons (ds_if (db_not (db_val (de_call cgrows (hr.mono (j := 9) (by decide)) (passes_call (takes_of rfl rfl rfl rfl) (fun _ _ _ _ h => h)) (da_cons (de_v 0) (da_cons (de_v 1) da_nil))))) (dss_cons (ds_set 4 nd (de_ifE (db_cmp op_gt p2_gt (by first | rfl | with_unfolding_all rfl) (de_div (de_v 2) (de_v 3)) de_int) (de_call csettled_pack (hr.mono (j := 4) (by decide)) (passes_call (takes_of rfl rfl rfl rfl) (fun _ _ _ _ h => h)) (da_cons (de_v 0) (da_cons (de_v 1) da_nil))) de_int)) (dss_cons (ds_set 5 nd (de_ifE (db_cmp op_gt p2_gt (by first | rfl | with_unfolding_all rfl) (de_div (de_v 2) (de_v 3)) de_int) (de_mul (de_div (de_v 2) (de_v 3)) (de_v 3)) de_int)) (dss_cons (ds_for (passes_of rfl) (di_rng2 bi.range (da_cons (de_v 5) (da_cons (de_v 2) da_nil))) (dg_v 6 nd) (dss_one (ds_set 4 nd (de_ix (de_call cone_step (hr.mono (j := 2) (by decide)) (passes_call (takes_of rfl rfl rfl rfl) (fun _ _ _ _ h => h)) (da_cons (de_v 0) (da_cons (de_v 1) (da_cons (de_v 6) (da_cons (de_v 4) da_nil))))) de_int)))) (dss_one (ds_ret (de_v 4)))))) dss_nil) (dss_cons (ds_setO 7 nd (do_lst (da_cons de_int da_nil))) (dss_cons (ds_for (passes_of rfl) (di_rng1 bi.range (da_cons de_int da_nil)) (dg_v 8 nd) (dss_one (ds_app 7 (de_ix (de_ix (de_call crounds_from (hr.mono (j := 3) (by decide)) (passes_call (takes_of rfl rfl rfl rfl) (fun _ _ _ _ h => h)) (da_cons (de_v 0) (da_cons (de_v 1) (da_cons (de_atO 7 (de_v 8)) da_nil)))) (de_sub (de_v 3) de_int)) de_int)))) (dss_cons (ds_set 9 nd (de_div (de_v 2) (de_v 3))) (dss_cons (ds_rel 7 (ds_set 10 nd (de_sub (de_ix (de_v 7) de_int) (de_ix (de_v 7) de_int)))) (dss_cons (ds_rel 7 (ds_set 4 nd (de_ifE (db_cmp op_lt p2_lt (by first | rfl | with_unfolding_all rfl) (de_v 9) de_int) (de_ix (de_v 7) (de_v 9)) (de_add (de_ix (de_v 7) de_int) (de_mul (de_v 10) (de_sub (de_v 9) de_int)))))) (dss_cons (ds_for (passes_of rfl) (di_rng2 bi.range (da_cons (de_mul (de_v 9) (de_v 3)) (da_cons (de_v 2) da_nil))) (dg_v 6 nd) (dss_one (ds_set 4 nd (de_ix (de_call cone_step (hr.mono (j := 2) (by decide)) (passes_call (takes_of rfl rfl rfl rfl) (fun _ _ _ _ h => h)) (da_cons (de_v 0) (da_cons (de_v 1) (da_cons (de_v 6) (da_cons (de_v 4) da_nil))))) de_int)))) (dss_one (ds_ret (de_v 4)))))))))))))), Fn.gx, Fn.fn.kp, Fn.fn.binds (fun _ _ _ _ _ _ us hl => match us, hl with | [_, _, _], _ => rfl)⟩
abbrev sleast_melt : Stmt := top 24
theorem scleast_melt : FnScope ["sky", "melt"] ["sky"] (defScope sleast_melt) := ⟨rfl, rfl, rfl, by decide +kernel, rfl, by decide +kernel, by decide +kernel⟩
theorem okleast_melt {a : Addr} {fd : FuncData} (Fn : Defd K mg "least_melt" sleast_melt a fd) {aneed_sky : Addr} {fdneed_sky : FuncData} (cneed_sky : CalD P w K mg base T B 8 "need_sky" aneed_sky fdneed_sky ["sky", "melt"] Fneed_sky) {agrows : Addr} {fdgrows : FuncData} (cgrows : CalD P w K mg base T B 9 "grows" agrows fdgrows ["sky", "melt"] Fgrows) (bi : BiN mg) (cs : Cst mg) : CalD P w K mg base T B 10 "least_melt" a fd ["sky"] Fleast_melt := by
  have nd := scleast_melt.nd
  exact ⟨fun_okD (B := B) (k := 9) Fn.fn scleast_melt mleast_melt (by decide) (fun cdv A outer s H E hr hcd => (dss_cons (ds_drop (de_call cneed_sky (hr.mono (j := 8) (by decide)) (passes_call (takes_of rfl rfl rfl rfl) (fun _ _ _ _ h => h)) (da_cons (de_v 0) (da_cons de_int da_nil)))) (dss_cons (ds_for (passes_of rfl) (di_rng1 bi.range (da_cons (de_add (de_gi cs.MOST_MELT) de_int) da_nil)) (dg_v 1 nd) (dss_one (ds_if (db_not (db_val (de_call cgrows (hr.mono (j := 9) (by decide)) (passes_call (takes_of rfl rfl rfl rfl) (fun _ _ _ _ h => h)) (da_cons (de_v 0) (da_cons (de_v 1) da_nil))))) (dss_one (ds_ret (de_v 1))) dss_nil))) (dss_one (ds_ret de_non))))), Fn.gx, Fn.fn.kp, Fn.fn.binds (fun _ _ _ _ _ _ us hl => match us, hl with | [_], _ => rfl)⟩
abbrev s_law_dice : Stmt := top 26
theorem sc_law_dice : FnScope ["script", "spot", "own", "mixed", "cell"] ["script", "spot"] (defScope s_law_dice) := ⟨rfl, rfl, rfl, by decide +kernel, rfl, by decide +kernel, by decide +kernel⟩
theorem ok_law_dice {a : Addr} {fd : FuncData} (Fn : Defd K mg "_law_dice" s_law_dice a fd) (bi : BiN mg) : CalD P w K mg base T B 2 "_law_dice" a fd ["script", "spot"] F_law_dice := by
  have nd := sc_law_dice.nd
  exact ⟨fun_okD (B := B) (k := 1) Fn.fn sc_law_dice m_law_dice (by decide) (fun cdv A outer s H E hr hcd => (dss_cons (ds_set 2 nd (de_ifE (db_cmp op_lt p2_lt (by first | rfl | with_unfolding_all rfl) (de_v 1) (de_blt call_len_seq pc_len bi.len (by rfl) (da_cons (de_v 0) da_nil))) (de_ix (de_v 0) (de_v 1)) (de_add (de_mul de_int (de_v 1)) de_int))) (dss_cons (ds_set 3 nd (de_add de_int (de_mul de_int (de_v 1)))) (dss_cons (ds_for (passes_of rfl) (di_seq (de_add (de_sl (de_v 0) dp_none (dp_some de_int)) (de_lst (da_cons (de_v 2) da_nil)))) (dg_v 4 nd) (dss_one (ds_set 3 nd (de_mod (de_bty call_int1 pc_int bi.int (by rfl) (da_cons (de_add (de_mul (de_v 3) de_int) (de_mod (de_bty call_int1 pc_int bi.int (by rfl) (da_cons (de_v 4) da_nil)) de_int)) da_nil)) de_int)))) (dss_one (ds_retO (do_lst (da_cons (de_ifE (dwB (dw_or (db_cmp op_lt p2_lt (by first | rfl | with_unfolding_all rfl) (de_v 2) de_int) (dw_or1 (db_cmp op_ge p2_ge (by first | rfl | with_unfolding_all rfl) (de_v 2) (de_pow de_int de_int))))) (de_blt call_abs pc_abs bi.abs (by rfl) (da_cons (de_v 2) da_nil)) de_int) (da_cons (de_v 3) (da_cons de_int da_nil)))))))))), Fn.gx, Fn.fn.kp, Fn.fn.binds (fun _ _ _ _ _ _ us hl => match us, hl with | [_, _], _ => rfl)⟩
abbrev s_law_roll : Stmt := top 27
theorem sc_law_roll : FnScope ["dice", "many", "found"] ["dice", "many"] (defScope s_law_roll) := ⟨rfl, rfl, rfl, by decide +kernel, rfl, by decide +kernel, by decide +kernel⟩
theorem ok_law_roll {a : Addr} {fd : FuncData} (Fn : Defd K mg "_law_roll" s_law_roll a fd) (bi : BiN mg) : CalI P w K mg base T 2 "_law_roll" a fd ["dice", "many"] F_law_roll := by
  have nd := sc_law_roll.nd
  exact ⟨fun_okI (B := 0) (k := 1) Fn.fn sc_law_roll m_law_roll (by decide) (fun cdv A outer s H E hr hcd => (dss_cons (ds_if (db_cmp op_gt p2_gt (by first | rfl | with_unfolding_all rfl) (de_atO 0 de_int) de_int) (dss_cons (ds_set 2 nd (de_mod (de_bty call_int1 pc_int bi.int (by rfl) (da_cons (de_atO 0 de_int) da_nil)) (de_v 1))) (dss_cons (ds_setI 0 (de_div (de_atO 0 de_int) (de_v 1)) de_int) (dss_one (ds_ret (de_v 2))))) dss_nil) (dss_cons (ds_setI 0 (de_add (de_atO 0 de_int) de_int) de_int) (dss_cons (ds_setI 0 (de_mod (de_bty call_int1 pc_int bi.int (by rfl) (da_cons (de_add (de_add (de_mul (de_atO 0 de_int) de_int) (de_mul (de_mul (de_atO 0 de_int) (de_atO 0 de_int)) de_int)) de_int) da_nil)) de_int) de_int) (dss_one (ds_ret (de_mod (de_bty call_int1 pc_int bi.int (by rfl) (da_cons (de_div (de_atO 0 de_int) de_int) da_nil)) (de_v 1)))))))), Fn.gx, Fn.fn.kp, Fn.fn.binds (fun _ _ _ _ _ _ us hl => match us, hl with | [_, _], _ => rfl)⟩
abbrev s_law_pick : Stmt := top 28
theorem sc_law_pick : FnScope ["dice", "things"] ["dice", "things"] (defScope s_law_pick) := ⟨rfl, rfl, rfl, by decide +kernel, rfl, by decide +kernel, by decide +kernel⟩
theorem ok_law_pick {a : Addr} {fd : FuncData} (Fn : Defd K mg "_law_pick" s_law_pick a fd) {a_law_roll : Addr} {fd_law_roll : FuncData} (c_law_roll : CalI P w K mg base T 2 "_law_roll" a_law_roll fd_law_roll ["dice", "many"] F_law_roll) (bi : BiN mg) : CalI P w K mg base T 3 "_law_pick" a fd ["dice", "things"] F_law_pick := by
  have nd := sc_law_pick.nd
  exact ⟨fun_okI (B := 0) (k := 2) Fn.fn sc_law_pick m_law_pick (by decide) (fun cdv A outer s H E hr hcd => (dss_one (ds_ret (de_ix (de_v 1) (de_callI 0 c_law_roll (hr.mono (j := 2) (by decide)) passL (da_cons (de_blt call_len_seq pc_len bi.len (by rfl) (da_cons (de_v 1) da_nil)) da_nil)))))), Fn.gx, Fn.fn.kp, Fn.fn.binds (fun _ _ _ _ _ _ us hl => match us, hl with | [_, _], _ => rfl)⟩
abbrev s_law_row : Stmt := top 30
theorem sc_law_row : FnScope ["dice", "size", "most", "turn"] ["dice", "size", "most"] (defScope s_law_row) := ⟨rfl, rfl, rfl, by decide +kernel, rfl, by decide +kernel, by decide +kernel⟩
theorem ok_law_row {a : Addr} {fd : FuncData} (Fn : Defd K mg "_law_row" s_law_row a fd) {a_law_roll : Addr} {fd_law_roll : FuncData} (c_law_roll : CalI P w K mg base T 2 "_law_roll" a_law_roll fd_law_roll ["dice", "many"] F_law_roll) {a_law_pick : Addr} {fd_law_pick : FuncData} (c_law_pick : CalI P w K mg base T 3 "_law_pick" a_law_pick fd_law_pick ["dice", "things"] F_law_pick) (bi : BiN mg) : CalI P w K mg base T 4 "_law_row" a fd ["dice", "size", "most"] F_law_row := by
  have nd := sc_law_row.nd
  exact ⟨fun_okI (B := 0) (k := 3) Fn.fn sc_law_row m_law_row (by decide) (fun cdv A outer s H E hr hcd => (dss_one (ds_ret (de_bty call_tuple_of pc_tuple bi.tuple (by rfl) (da_cons (de_comp [("turn", 3)] nd (di_rng1 bi.range (da_cons (de_add de_int (de_callI 0 c_law_roll (hr.mono (j := 2) (by decide)) passL (da_cons (de_v 1) da_nil))) da_nil)) rfl (blkOk_by (by kernel_rfl)) (fun _ _ _ _ _ => (dgo_v 3 nd)) (fun _ _ _ _ _ => dt_nil) (fun _ _ _ _ _ => (de_callI 0 c_law_pick (hr.mono (j := 3) (by decide)) passL (da_cons (de_lst (da_cons de_int (da_cons (de_callI 0 c_law_roll (hr.mono (j := 2) (by decide)) passL (da_cons (de_add (de_v 2) de_int) da_nil)) da_nil))) da_nil)))) da_nil))))), Fn.gx, Fn.fn.kp, Fn.fn.binds (fun _ _ _ _ _ _ us hl => match us, hl with | [_, _, _], _ => rfl)⟩
abbrev s_law_snow : Stmt := top 31
theorem sc_law_snow : FnScope ["sky", "melt", "many", "pack", "found", "step", "fall", "cold", "gone", "later"] ["sky", "melt", "many"] (defScope s_law_snow) := ⟨rfl, rfl, rfl, by decide +kernel, rfl, by decide +kernel, by decide +kernel⟩
theorem ok_law_snow {a : Addr} {fd : FuncData} (Fn : Defd K mg "_law_snow" s_law_snow a fd) (bi : BiN mg) : CalD P w K mg base T B 2 "_law_snow" a fd ["sky", "melt", "many"] F_law_snow := by
  have nd := sc_law_snow.nd
  exact ⟨fun_okD (B := B) (k := 1) Fn.fn sc_law_snow m_law_snow (by decide) (fun cdv A outer s H E hr hcd => (dss_cons (ds_par2 false true 3 4 nd (df_im de_int) (df_ow (do_lst da_nil))) (dss_cons (ds_for (passes_of rfl) (di_rng1 bi.range (da_cons (de_v 2) da_nil)) (dg_v 5 nd) (dss_cons (ds_par2 false false 6 7 nd (df_im (de_ix (de_ix (de_v 0) de_int) (de_mod (de_v 5) (de_blt call_len_seq pc_len bi.len (by rfl) (da_cons (de_ix (de_v 0) de_int) da_nil))))) (df_im (de_ix (de_ix (de_v 0) de_int) (de_mod (de_v 5) (de_blt call_len_seq pc_len bi.len (by rfl) (da_cons (de_ix (de_v 0) de_int) da_nil)))))) (dss_cons (ds_set 8 nd (de_ifE (db_val (de_v 7)) de_int (de_ifE (db_cmp op_lt p2_lt (by first | rfl | with_unfolding_all rfl) (de_v 1) (de_v 3)) (de_v 1) (de_v 3)))) (dss_cons (ds_set 9 nd (de_ifE (db_val (de_v 7)) (de_add (de_v 3) (de_v 6)) (de_sub (de_v 3) (de_v 8)))) (dss_cons (ds_app 4 (de_tup (da_cons (de_v 3) (da_cons (de_ifE (db_val (de_v 7)) de_int (de_add (de_v 6) (de_v 8))) (da_cons (de_v 9) da_nil))))) (dss_one (ds_set 3 nd (de_v 9)))))))) (dss_one (ds_rel 4 (ds_ret (de_v 4))))))), Fn.gx, Fn.fn.kp, Fn.fn.binds (fun _ _ _ _ _ _ us hl => match us, hl with | [_, _, _], _ => rfl)⟩
abbrev s_law_grown : Stmt := top 32
theorem sc_law_grown : FnScope ["sky", "melt", "size", "rows"] ["sky", "melt"] (defScope s_law_grown) := ⟨rfl, rfl, rfl, by decide +kernel, rfl, by decide +kernel, by decide +kernel⟩
theorem ok_law_grown {a : Addr} {fd : FuncData} (Fn : Defd K mg "_law_grown" s_law_grown a fd) {a_law_snow : Addr} {fd_law_snow : FuncData} (c_law_snow : CalD P w K mg base T B 2 "_law_snow" a_law_snow fd_law_snow ["sky", "melt", "many"] F_law_snow) (bi : BiN mg) : CalD P w K mg base T B 3 "_law_grown" a fd ["sky", "melt"] F_law_grown := by
  have nd := sc_law_grown.nd
  exact ⟨fun_okD (B := B) (k := 2) Fn.fn sc_law_grown m_law_grown (by decide) (fun cdv A outer s H E hr hcd => (dss_cons (ds_set 2 nd (de_blt call_len_seq pc_len bi.len (by rfl) (da_cons (de_ix (de_v 0) de_int) da_nil))) (dss_cons (ds_set 3 nd (de_call c_law_snow (hr.mono (j := 2) (by decide)) (passes_call (takes_of rfl rfl rfl rfl) (fun _ _ _ _ h => h)) (da_cons (de_v 0) (da_cons (de_v 1) (da_cons (de_mul de_int (de_v 2)) da_nil))))) (dss_one (ds_ret (de_cmp op_gt p2_gt (by first | rfl | with_unfolding_all rfl) (de_ix (de_ix (de_v 3) (de_sub (de_mul de_int (de_v 2)) de_int)) de_int) (de_ix (de_ix (de_v 3) (de_sub (de_mul de_int (de_v 2)) de_int)) de_int))))))), Fn.gx, Fn.fn.kp, Fn.fn.binds (fun _ _ _ _ _ _ us hl => match us, hl with | [_, _], _ => rfl)⟩
abbrev s_law_right : Stmt := top 33
theorem sc_law_right : FnScope ["dice", "falls", "sky", "melt", "size", "many", "rows", "more", "last", "high", "step", "near", "gain", "least", "bad", "told", "due", "fall", "pack", "water", "later"] ["dice"] (defScope s_law_right) := ⟨rfl, rfl, rfl, by decide +kernel, rfl, by decide +kernel, by decide +kernel⟩
abbrev lq_law_right : Str := "_law_right.<locals>.<lambda>"
theorem ok_law_right {a : Addr} {fd : FuncData} (Fn : Defd K mg "_law_right" s_law_right a fd) {a_law_row : Addr} {fd_law_row : FuncData} (c_law_row : CalI P w K mg base T 4 "_law_row" a_law_row fd_law_row ["dice", "size", "most"] F_law_row) {a_law_roll : Addr} {fd_law_roll : FuncData} (c_law_roll : CalI P w K mg base T 2 "_law_roll" a_law_roll fd_law_roll ["dice", "many"] F_law_roll) {a_law_snow : Addr} {fd_law_snow : FuncData} (c_law_snow : CalD P w K mg base T B 2 "_law_snow" a_law_snow fd_law_snow ["sky", "melt", "many"] F_law_snow) {asnow_course : Addr} {fdsnow_course : FuncData} (csnow_course : CalD P w K mg base T B 9 "snow_course" asnow_course fdsnow_course ["sky", "melt", "many"] Fsnow_course) {a_law_grown : Addr} {fd_law_grown : FuncData} (c_law_grown : CalD P w K mg base T B 3 "_law_grown" a_law_grown fd_law_grown ["sky", "melt"] F_law_grown) {agrows : Addr} {fdgrows : FuncData} (cgrows : CalD P w K mg base T B 9 "grows" agrows fdgrows ["sky", "melt"] Fgrows) {awater_row : Addr} {fdwater_row : FuncData} (cwater_row : CalD P w K mg base T B 10 "water_row" awater_row fdwater_row ["sky", "melt"] Fwater_row) {adeepest : Addr} {fddeepest : FuncData} (cdeepest : CalD P w K mg base T B 10 "deepest" adeepest fddeepest ["sky", "melt"] Fdeepest) {abare_steps : Addr} {fdbare_steps : FuncData} (cbare_steps : CalD P w K mg base T B 10 "bare_steps" abare_steps fdbare_steps ["sky", "melt"] Fbare_steps) {a_law_pick : Addr} {fd_law_pick : FuncData} (c_law_pick : CalI P w K mg base T 3 "_law_pick" a_law_pick fd_law_pick ["dice", "things"] F_law_pick) {apack_at : Addr} {fdpack_at : FuncData} (cpack_at : CalD P w K mg base T B 10 "pack_at" apack_at fdpack_at ["sky", "melt", "step"] Fpack_at) {aleast_melt : Addr} {fdleast_melt : FuncData} (cleast_melt : CalD P w K mg base T B 10 "least_melt" aleast_melt fdleast_melt ["sky"] Fleast_melt) {ais_sky : Addr} {fdis_sky : FuncData} (cis_sky : CalD P w K mg base T B 7 "is_sky" ais_sky fdis_sky ["value"] Fis_sky) (kbbare_steps_1 : KBinds K fdbare_steps ["sky", "melt"] ["melt"] (gK 1) (gKV 1)) (kbdeepest_1 : KBinds K fddeepest ["sky", "melt"] ["melt"] (gK 1) (gKV 1)) (kbgrows_1 : KBinds K fdgrows ["sky", "melt"] ["melt"] (gK 1) (gKV 1)) (kbleast_melt_0 : KBinds K fdleast_melt ["sky"] ["sky"] (gK 0) (gKV 0)) (kbpack_at_2 : KBinds K fdpack_at ["sky", "melt", "step"] ["step"] (gK 2) (gKV 2)) (kbsnow_course_2 : KBinds K fdsnow_course ["sky", "melt", "many"] ["many"] (gK 2) (gKV 2)) (kbwater_row_1 : KBinds K fdwater_row ["sky", "melt"] ["melt"] (gK 1) (gKV 1)) (bi : BiN mg) {fI cc pt : Addr} (rt : RefT P K mg B fI) (hcc : fd.code = .ref cc) (TB : LamX.TabB base mg cc pt) (hL : (pt, lq_law_right) ∈ T.lam) (hu : ∀ p ∈ T.lam, p.1 = pt → p.2 = lq_law_right) (hG : pt ∉ T.gen) : CalI P w K mg base T 13 "_law_right" a fd ["dice"] F_law_right := by
  have nd := sc_law_right.nd
  exact ⟨fun_okI (B := B) (k := 12) Fn.fn sc_law_right m_law_right (by decide) (fun cdv A outer s H E hr hcd => (dss_cons (ds_set 1 nd (de_callI 0 c_law_row (hr.mono (j := 4) (by decide)) passL (da_cons de_int (da_cons de_int da_nil)))) (dss_cons (ds_asg (de_tup (da_cons (de_tup (da_cons (de_v 1) (da_cons (de_bty call_tuple_of pc_tuple bi.tuple (by rfl) (da_cons (de_comp [("fall", 17)] nd (di_seq (de_v 1)) rfl (blkOk_by (by kernel_rfl)) (fun _ _ _ _ _ => (dgo_v 17 nd)) (fun _ _ _ _ _ => dt_nil) (fun _ _ _ _ _ => (de_cmp (op_eqD (Room.units (hr.mono (j := 1) (by decide)))) p2_eq (by first | rfl | with_unfolding_all rfl) (de_callI 0 c_law_roll (hr.mono (j := 2) (by decide)) passL (da_cons de_int da_nil)) de_int))) da_nil)) da_nil))) (da_cons (de_callI 0 c_law_roll (hr.mono (j := 2) (by decide)) passL (da_cons de_int da_nil)) da_nil))) (dg_tup (dgs_cons (dg_v 2 nd) (dgs_cons (dg_v 3 nd) dgs_nil)))) (dss_cons (ds_par2 false false 4 5 nd (df_im (de_blt call_len_seq pc_len bi.len (by rfl) (da_cons (de_v 1) da_nil))) (df_im (de_callI 0 c_law_roll (hr.mono (j := 2) (by decide)) passL (da_cons de_int da_nil)))) (dss_cons (ds_set 6 nd (de_call c_law_snow (hr.mono (j := 2) (by decide)) passL (da_cons (de_v 2) (da_cons (de_v 3) (da_cons (de_add (de_mul de_int (de_v 4)) de_int) da_nil))))) (dss_cons (ds_if (db_cmp (op_neD (Room.units (hr.mono (j := 1) (by decide)))) p2_ne (by first | rfl | with_unfolding_all rfl) (de_callK csnow_course kbsnow_course_2 (hr.mono (j := 9) (by decide)) passL (da_cons (de_v 2) (da_cons (de_v 3) da_nil)) (dk_cons (de_v 5) dk_nil)) (de_bty call_tuple_of pc_tuple bi.tuple (by rfl) (da_cons (de_comp [("pack", 18), ("water", 19), ("later", 20)] nd (di_seq (de_sl (de_v 6) dp_none (dp_some (de_v 5)))) rfl (blkOk_by (by kernel_rfl)) (fun _ _ _ _ _ => (dgo_tup (dgos_cons (dgo_v 18 nd) (dgos_cons (dgo_v 19 nd) (dgos_cons (dgo_v 20 nd) dgos_nil))))) (fun _ _ _ _ _ => dt_nil) (fun _ _ _ _ _ => (de_tup (da_cons (de_v 20) (da_cons (de_v 19) da_nil))))) da_nil))) (dss_one (ds_ret de_bl)) dss_nil) (dss_cons (ds_set 7 nd (de_call c_law_grown (hr.mono (j := 3) (by decide)) passL (da_cons (de_v 2) (da_cons (de_v 3) da_nil)))) (dss_cons (ds_if (db_cmp (op_neD (Room.units (hr.mono (j := 1) (by decide)))) p2_ne (by first | rfl | with_unfolding_all rfl) (de_callK cgrows kbgrows_1 (hr.mono (j := 9) (by decide)) passL (da_cons (de_v 2) da_nil) (dk_cons (de_v 3) dk_nil)) (de_v 7)) (dss_one (ds_ret de_bl)) dss_nil) (dss_cons (ds_set 8 nd (de_sl (de_v 6) (dp_some (de_mul de_int (de_v 4))) (dp_some (de_mul de_int (de_v 4))))) (dss_cons (ds_if (db_val (de_v 7)) (dss_one (ds_if (dwB (dw_or (db_cmp op_notN p2_notN (by first | rfl | with_unfolding_all rfl) (de_call cwater_row (hr.mono (j := 10) (by decide)) passL (da_cons (de_v 2) (da_cons (de_v 3) da_nil))) de_non) (dw_or (db_cmp op_notN p2_notN (by first | rfl | with_unfolding_all rfl) (de_call cdeepest (hr.mono (j := 10) (by decide)) passL (da_cons (de_v 2) (da_cons (de_v 3) da_nil))) de_non) (dw_or1 (db_cmp op_notN p2_notN (by first | rfl | with_unfolding_all rfl) (de_call cbare_steps (hr.mono (j := 10) (by decide)) passL (da_cons (de_v 2) (da_cons (de_v 3) da_nil))) de_non))))) (dss_one (ds_ret de_bl)) dss_nil)) (dss_cons (ds_comp 9 [("pack", 18), ("water", 19), ("later", 20)] nd (di_seq (de_sl (de_v 6) dp_none (dp_some (de_mul de_int (de_v 4))))) rfl (blkOk_by (by kernel_rfl)) (fun _ _ _ _ _ => (dgo_tup (dgos_cons (dgo_v 18 nd) (dgos_cons (dgo_v 19 nd) (dgos_cons (dgo_v 20 nd) dgos_nil))))) (fun _ _ _ _ _ => dt_nil) (fun _ _ _ _ _ => (de_v 20)) rfl) (dss_rel 9 (dss_cons (ds_if (db_cmp (op_neD (Room.units (hr.mono (j := 1) (by decide)))) p2_ne (by first | rfl | with_unfolding_all rfl) (de_callK cwater_row kbwater_row_1 (hr.mono (j := 10) (by decide)) passL (da_cons (de_v 2) da_nil) (dk_cons (de_v 3) dk_nil)) (de_bty call_tuple_of pc_tuple bi.tuple (by rfl) (da_cons (de_comp [("pack", 18), ("water", 19), ("later", 20)] nd (di_seq (de_v 8)) rfl (blkOk_by (by kernel_rfl)) (fun _ _ _ _ _ => (dgo_tup (dgos_cons (dgo_v 18 nd) (dgos_cons (dgo_v 19 nd) (dgos_cons (dgo_v 20 nd) dgos_nil))))) (fun _ _ _ _ _ => dt_nil) (fun _ _ _ _ _ => (de_v 19))) da_nil))) (dss_one (ds_ret de_bl)) dss_nil) (dss_cons (ds_if (db_cmp (op_neD (Room.units (hr.mono (j := 1) (by decide)))) p2_ne (by first | rfl | with_unfolding_all rfl) (de_callK cdeepest kbdeepest_1 (hr.mono (j := 10) (by decide)) passL (da_cons (de_v 2) da_nil) (dk_cons (de_v 3) dk_nil)) (de_tup (da_cons (de_blt (cr_max rfl) pc_max1 bi.max (by rfl) (da_cons (de_v 9) da_nil)) (da_cons (de_index (hr.mono (j := 1) (by decide)) (de_v 9) (de_blt (cr_max rfl) pc_max1 bi.max (by rfl) (da_cons (de_v 9) da_nil))) da_nil)))) (dss_one (ds_ret de_bl)) dss_nil) (dss_one (ds_if (db_cmp (op_neD (Room.units (hr.mono (j := 1) (by decide)))) p2_ne (by first | rfl | with_unfolding_all rfl) (de_callK cbare_steps kbbare_steps_1 (hr.mono (j := 10) (by decide)) passL (da_cons (de_v 2) da_nil) (dk_cons (de_v 3) dk_nil)) (de_bty call_tuple_of pc_tuple bi.tuple (by rfl) (da_cons (de_comp [("step", 10)] nd (di_rng1 bi.range (da_cons (de_v 4) da_nil)) rfl (blkOk_by (by kernel_rfl)) (fun _ _ _ _ _ => (dgo_v 10 nd)) (fun _ _ _ _ _ => (dt_one (db_cmp (op_eqD (Room.units (hr.mono (j := 1) (by decide)))) p2_eq (by first | rfl | with_unfolding_all rfl) (de_ix (de_ix (de_v 8) (de_v 10)) de_int) de_int))) (fun _ _ _ _ _ => (de_v 10))) da_nil))) (dss_one (ds_ret de_bl)) dss_nil))))))) (dss_cons (ds_set 10 nd (de_callI 0 c_law_pick (hr.mono (j := 3) (by decide)) passL (da_cons (de_lst (da_cons (de_callI 0 c_law_roll (hr.mono (j := 2) (by decide)) passL (da_cons (de_mul de_int (de_v 4)) da_nil)) (da_cons (de_sub (de_pow de_int de_int) (de_callI 0 c_law_roll (hr.mono (j := 2) (by decide)) passL (da_cons de_int da_nil))) da_nil))) da_nil))) (dss_cons (ds_set 11 nd (de_ifE (db_cmp op_lt p2_lt (by first | rfl | with_unfolding_all rfl) (de_v 10) (de_mul de_int (de_v 4))) (de_v 10) (de_add (de_mul de_int (de_v 4)) (de_mod (de_v 10) (de_v 4))))) (dss_cons (ds_set 12 nd (de_sub (de_ix (de_ix (de_v 6) (de_mul de_int (de_v 4))) de_int) (de_ix (de_ix (de_v 6) (de_mul de_int (de_v 4))) de_int))) (dss_cons (ds_if (db_cmp (op_neD (Room.units (hr.mono (j := 1) (by decide)))) p2_ne (by first | rfl | with_unfolding_all rfl) (de_callK cpack_at kbpack_at_2 (hr.mono (j := 10) (by decide)) passL (da_cons (de_v 2) (da_cons (de_v 3) da_nil)) (dk_cons (de_v 10) dk_nil)) (de_add (de_ix (de_ix (de_v 6) (de_v 11)) de_int) (de_mul (de_div (de_sub (de_v 10) (de_v 11)) (de_v 4)) (de_v 12)))) (dss_one (ds_ret de_bl)) dss_nil) (dss_cons (ds_set 13 nd (de_callK0 cleast_melt kbleast_melt_0 (hr.mono (j := 10) (by decide)) passL (dk_cons (de_v 2) dk_nil))) (dss_cons (ds_if (db_cmp op_isN p2_isN (by first | rfl | with_unfolding_all rfl) (de_v 13) de_non) (dss_one (ds_if (dwB (dw_or (db_cmp (o_in (room65 (hr.mono (j := 1) (by decide)))) p2_in (by first | rfl | with_unfolding_all rfl) de_bl (de_ix (de_v 2) de_int)) (dw_or1 (db_cmp (op_eqD (Room.units (hr.mono (j := 1) (by decide)))) p2_eq (by first | rfl | with_unfolding_all rfl) (de_blt (o_sum rfl) pc_sum bi.sum (by rfl) (da_cons (de_v 1) da_nil)) de_int)))) (dss_one (ds_ret de_bl)) dss_nil)) (dss_one (ds_if (dwB (dw_or (db_val (de_call c_law_grown (hr.mono (j := 3) (by decide)) passL (da_cons (de_v 2) (da_cons (de_v 13) da_nil)))) (dw_or1 (dwB (dw_and (db_cmp op_gt p2_gt (by first | rfl | with_unfolding_all rfl) (de_v 13) de_int) (dw_and1 (db_not (db_val (de_call c_law_grown (hr.mono (j := 3) (by decide)) passL (da_cons (de_v 2) (da_cons (de_sub (de_v 13) de_int) da_nil))))))))))) (dss_one (ds_ret de_bl)) dss_nil))) (dss_cons (ds_set 14 nd (de_callI 0 c_law_pick (hr.mono (j := 3) (by decide)) passL (da_cons (de_lst (da_cons de_non (da_cons (de_tup da_nil) (da_cons (de_tup (da_cons (de_tup (da_cons de_int da_nil)) (da_cons (de_tup (da_cons de_int da_nil)) da_nil))) (da_cons (de_tup (da_cons (de_tup (da_cons de_int (da_cons de_int da_nil))) (da_cons (de_tup (da_cons de_bl da_nil)) da_nil))) (da_cons (de_tup (da_cons (de_tup da_nil) (da_cons (de_tup da_nil) da_nil))) (da_cons (de_lst (da_cons (de_tup (da_cons de_int da_nil)) (da_cons (de_tup (da_cons de_bl da_nil)) da_nil))) (da_cons (de_tup (da_cons (de_mul (de_tup (da_cons de_int da_nil)) de_int) (da_cons (de_mul (de_tup (da_cons de_bl da_nil)) de_int) da_nil))) (da_cons (de_tup (da_cons (de_tup (da_cons de_int da_nil)) (da_cons (de_tup (da_cons de_bl da_nil)) da_nil))) da_nil))))))))) da_nil))) (dss_cons (ds_set 15 nd (de_lst (da_cons (de_refused (k := 10) lq_law_right rt TB (hcd.symm.trans hcc) hL hu hG hr (fun A outer s H E f c' hr2 => (de_call csnow_course (hr2.mono (j := 9) (by decide)) (passes_call (takes_of rfl rfl rfl rfl) (fun _ _ _ _ h => h)) (da_cons (de_v 14) (da_cons de_non (da_cons de_non da_nil)))))) (da_cons (de_refused (k := 10) lq_law_right rt TB (hcd.symm.trans hcc) hL hu hG hr (fun A outer s H E f c' hr2 => (de_call csnow_course (hr2.mono (j := 9) (by decide)) (passes_call (takes_of rfl rfl rfl rfl) (fun _ _ _ _ h => h)) (da_cons (de_v 2) (da_cons de_int (da_cons de_non da_nil)))))) (da_cons (de_refused (k := 10) lq_law_right rt TB (hcd.symm.trans hcc) hL hu hG hr (fun A outer s H E f c' hr2 => (de_call csnow_course (hr2.mono (j := 9) (by decide)) (passes_call (takes_of rfl rfl rfl rfl) (fun _ _ _ _ h => h)) (da_cons (de_v 2) (da_cons (de_v 3) (da_cons de_int da_nil)))))) (da_cons (de_refused (k := 10) lq_law_right rt TB (hcd.symm.trans hcc) hL hu hG hr (fun A outer s H E f c' hr2 => (de_call cgrows (hr2.mono (j := 9) (by decide)) (passes_call (takes_of rfl rfl rfl rfl) (fun _ _ _ _ h => h)) (da_cons (de_v 14) (da_cons de_int da_nil))))) (da_cons (de_refused (k := 10) lq_law_right rt TB (hcd.symm.trans hcc) hL hu hG hr (fun A outer s H E f c' hr2 => (de_call cwater_row (hr2.mono (j := 10) (by decide)) (passes_call (takes_of rfl rfl rfl rfl) (fun _ _ _ _ h => h)) (da_cons (de_v 2) (da_cons (de_neg de_int) da_nil))))) (da_cons (de_refused (k := 10) lq_law_right rt TB (hcd.symm.trans hcc) hL hu hG hr (fun A outer s H E f c' hr2 => (de_call cdeepest (hr2.mono (j := 10) (by decide)) (passes_call (takes_of rfl rfl rfl rfl) (fun _ _ _ _ h => h)) (da_cons (de_v 14) (da_cons de_int da_nil))))) (da_cons (de_refused (k := 10) lq_law_right rt TB (hcd.symm.trans hcc) hL hu hG hr (fun A outer s H E f c' hr2 => (de_call cbare_steps (hr2.mono (j := 10) (by decide)) (passes_call (takes_of rfl rfl rfl rfl) (fun _ _ _ _ h => h)) (da_cons (de_v 2) (da_cons de_non da_nil))))) (da_cons (de_refused (k := 10) lq_law_right rt TB (hcd.symm.trans hcc) hL hu hG hr (fun A outer s H E f c' hr2 => (de_call cpack_at (hr2.mono (j := 10) (by decide)) (passes_call (takes_of rfl rfl rfl rfl) (fun _ _ _ _ h => h)) (da_cons (de_v 2) (da_cons (de_v 3) (da_cons (de_neg de_int) da_nil)))))) (da_cons (de_refused (k := 10) lq_law_right rt TB (hcd.symm.trans hcc) hL hu hG hr (fun A outer s H E f c' hr2 => (de_call cleast_melt (hr2.mono (j := 10) (by decide)) (passes_call (takes_of rfl rfl rfl rfl) (fun _ _ _ _ h => h)) (da_cons (de_v 14) da_nil)))) da_nil))))))))))) (dss_cons (ds_set 16 nd (de_lst (da_cons de_str (da_cons de_str (da_cons de_str (da_cons de_str (da_cons de_str (da_cons de_str (da_cons de_str (da_cons de_str (da_cons de_str da_nil))))))))))) (dss_one (ds_ret (de_and (de_cmp (op_eqD (Room.units (hr.mono (j := 1) (by decide)))) p2_eq (by first | rfl | with_unfolding_all rfl) (de_v 15) (de_v 16)) (de_and (de_call cis_sky (hr.mono (j := 7) (by decide)) passL (da_cons (de_v 2) da_nil)) (de_one (de_not (de_call cis_sky (hr.mono (j := 7) (by decide)) passL (da_cons (de_v 14) da_nil))))))))))))))))))))))))))), Fn.gx, Fn.fn.kp, Fn.fn.binds (fun _ _ _ _ _ _ us hl => match us, hl with | [_], _ => rfl)⟩
abbrev slaw : Stmt := top 34
theorem sclaw : FnScope ["script", "spot"] ["script"] (defScope slaw) := ⟨rfl, rfl, rfl, by decide +kernel, rfl, by decide +kernel, by decide +kernel⟩
theorem oklaw {a : Addr} {fd : FuncData} (Fn : Defd K mg "law" slaw a fd) {a_law_right : Addr} {fd_law_right : FuncData} (c_law_right : CalI P w K mg base T 13 "_law_right" a_law_right fd_law_right ["dice"] F_law_right) {a_law_dice : Addr} {fd_law_dice : FuncData} (c_law_dice : CalD P w K mg base T B 2 "_law_dice" a_law_dice fd_law_dice ["script", "spot"] F_law_dice) (bi : BiN mg) : CalD P w K mg base T B 14 "law" a fd ["script"] Flaw := by
  have nd := sclaw.nd
  exact ⟨fun_okD (B := B) (k := 13) Fn.fn sclaw mlaw (by decide) (fun cdv A outer s H E hr hcd => (dss_cons (ds_for (passes_of rfl) (di_rng1 bi.range (da_cons (de_blt (call_max2 rfl) pc_max2 bi.max (by rfl) (da_cons de_int (da_cons (de_blt (call_min2 rfl) pc_min2 bi.min (by rfl) (da_cons de_int (da_cons (de_blt call_len_seq pc_len bi.len (by rfl) (da_cons (de_v 0) da_nil)) da_nil))) da_nil))) da_nil)) (dg_v 1 nd) (dss_one (ds_if (db_not (db_val (de_callG c_law_right (hr.mono (j := 13) (by decide)) (passes_call (takes_of rfl rfl rfl rfl) (fun _ _ _ _ h => h)) (do_call c_law_dice (hr.mono (j := 2) (by decide)) (passes_call (takes_of rfl rfl rfl rfl) (fun _ _ _ _ h => h)) (da_cons (de_v 0) (da_cons (de_v 1) da_nil))) da_nil))) (dss_one (ds_ret de_bl)) dss_nil))) (dss_one (ds_ret de_bl)))), Fn.gx, Fn.fn.kp, Fn.fn.binds (fun _ _ _ _ _ _ us hl => match us, hl with | [_], _ => rfl)⟩
theorem kbbare_steps_1 {a : Addr} {fd : FuncData} (Fn : Defd K mg "bare_steps" sbare_steps a fd) : KBinds K fd ["sky", "melt"] ["melt"] (gK 1) (gKV 1) := by
  obtain ⟨oc, od, kV, doc, pm, an, cdv, ct, osl, rfl, lk, hcd⟩ := Fn.fn.ex
  exact kbinds_of rfl (by simp) fun us ws h1 h2 => match us, ws, h1, h2 with | [_], [_], _, _ => rfl
theorem kbdeepest_1 {a : Addr} {fd : FuncData} (Fn : Defd K mg "deepest" sdeepest a fd) : KBinds K fd ["sky", "melt"] ["melt"] (gK 1) (gKV 1) := by
  obtain ⟨oc, od, kV, doc, pm, an, cdv, ct, osl, rfl, lk, hcd⟩ := Fn.fn.ex
  exact kbinds_of rfl (by simp) fun us ws h1 h2 => match us, ws, h1, h2 with | [_], [_], _, _ => rfl
theorem kbgrows_1 {a : Addr} {fd : FuncData} (Fn : Defd K mg "grows" sgrows a fd) : KBinds K fd ["sky", "melt"] ["melt"] (gK 1) (gKV 1) := by
  obtain ⟨oc, od, kV, doc, pm, an, cdv, ct, osl, rfl, lk, hcd⟩ := Fn.fn.ex
  exact kbinds_of rfl (by simp) fun us ws h1 h2 => match us, ws, h1, h2 with | [_], [_], _, _ => rfl
theorem kbleast_melt_0 {a : Addr} {fd : FuncData} (Fn : Defd K mg "least_melt" sleast_melt a fd) : KBinds K fd ["sky"] ["sky"] (gK 0) (gKV 0) := by
  obtain ⟨oc, od, kV, doc, pm, an, cdv, ct, osl, rfl, lk, hcd⟩ := Fn.fn.ex
  exact kbinds_of rfl (by simp) fun us ws h1 h2 => match us, ws, h1, h2 with | [], [_], _, _ => rfl
theorem kbpack_at_2 {a : Addr} {fd : FuncData} (Fn : Defd K mg "pack_at" spack_at a fd) : KBinds K fd ["sky", "melt", "step"] ["step"] (gK 2) (gKV 2) := by
  obtain ⟨oc, od, kV, doc, pm, an, cdv, ct, osl, rfl, lk, hcd⟩ := Fn.fn.ex
  exact kbinds_of rfl (by simp) fun us ws h1 h2 => match us, ws, h1, h2 with | [_, _], [_], _, _ => rfl
theorem kbsnow_course_2 {a : Addr} {fd : FuncData} (Fn : Defd K mg "snow_course" ssnow_course a fd) : KBinds K fd ["sky", "melt", "many"] ["many"] (gK 2) (gKV 2) := by
  obtain ⟨oc, od, kV, doc, pm, an, cdv, ct, osl, rfl, lk, hcd⟩ := Fn.fn.ex
  exact kbinds_of rfl (by simp) fun us ws h1 h2 => match us, ws, h1, h2 with | [_, _], [_], _, _ => rfl
theorem kbwater_row_1 {a : Addr} {fd : FuncData} (Fn : Defd K mg "water_row" swater_row a fd) : KBinds K fd ["sky", "melt"] ["melt"] (gK 1) (gKV 1) := by
  obtain ⟨oc, od, kV, doc, pm, an, cdv, ct, osl, rfl, lk, hcd⟩ := Fn.fn.ex
  exact kbinds_of rfl (by simp) fun us ws h1 h2 => match us, ws, h1, h2 with | [_], [_], _, _ => rfl
end
end K19
set_option Elab.async false
set_option linter.all false
set_option maxRecDepth 100000
set_option maxHeartbeats 4000000
/-! K19E: the end. -/
namespace K19
open PySem PySem.Spec PyProof.Rows L2 RZ RK
abbrev sR : Stmt := top 29
theorem law_at {l : PySem.W.OpenLaw} {q : Program} {w : World} {h : Heap} {K : PySem.W.Frag} {mg : Str → Option Value} {fa B fI : Addr} {P : Program} (hP : P = l.prog) (KX : K.In h) (G : h.Ns mainGlobals mg) (hfa : mg "law" = some (.ref fa)) (all : AllTab q K mg h)
    (main : ∀ ns : List Int, ns.length ≤ 63 → (∀ z ∈ ns, Builtin.Int.intBits z ≤ 1048576) → Flaw [.scr ns] = .ok (.bl true))
    {nmB qB : Str} {NB : Addr} {bsB : List Value} {snB : List Str} {subB : List Value} {abB : Bool} {colB : Option Bool} {ddB : Option Addr} {kB0 kB1 kB2 kB3 kB5 : Option Value}
    {oI : Value} {odI anI : Option Addr} {dcI pmI ctI : Value} {ccI cdI : Addr} {slI : Array (Option Value)} {qI : Str} {clI : Value} {ddI : Option Addr} {vsI : Array Value} {csI : Array (Option Value)} {fiI : Str} {tfI : Tok} {leI : Value} {ldI : Option Addr} {lsI : Array (Option Value)}
    {oR : Value} {odR anR : Option Addr} {kVR dcR pmR cdR ctR : Value} {slR : Array (Option Value)} {aR : Addr}
    {ais_integer : Addr} {ois_integer : Value} {odis_integer anis_integer : Option Addr} {kVis_integer dcis_integer pmis_integer cdis_integer ctis_integer : Value} {slis_integer : Array (Option Value)}
    {aneed_integer : Addr} {oneed_integer : Value} {odneed_integer anneed_integer : Option Addr} {kVneed_integer dcneed_integer pmneed_integer cdneed_integer ctneed_integer : Value} {slneed_integer : Array (Option Value)}
    {ais_row : Addr} {ois_row : Value} {odis_row anis_row : Option Addr} {kVis_row dcis_row pmis_row  ctis_row : Value} {slis_row : Array (Option Value)}
    {ccis_row ptis_row : Addr} {teis_row : Value} {tdis_row : Option Addr} {tvis_row : Array Value} {tlis_row : Array (Option Value)}
    {ais_sky : Addr} {ois_sky : Value} {odis_sky anis_sky : Option Addr} {kVis_sky dcis_sky pmis_sky  ctis_sky : Value} {slis_sky : Array (Option Value)}
    {ccis_sky ptis_sky : Addr} {teis_sky : Value} {tdis_sky : Option Addr} {tvis_sky : Array Value} {tlis_sky : Array (Option Value)}
    {aneed_sky : Addr} {oneed_sky : Value} {odneed_sky anneed_sky : Option Addr} {kVneed_sky dcneed_sky pmneed_sky cdneed_sky ctneed_sky : Value} {slneed_sky : Array (Option Value)}
    {aone_step : Addr} {oone_step : Value} {odone_step anone_step : Option Addr} {kVone_step dcone_step pmone_step cdone_step ctone_step : Value} {slone_step : Array (Option Value)}
    {arounds_from : Addr} {orounds_from : Value} {odrounds_from anrounds_from : Option Addr} {kVrounds_from dcrounds_from pmrounds_from cdrounds_from ctrounds_from : Value} {slrounds_from : Array (Option Value)}
    {asnow_course : Addr} {osnow_course : Value} {odsnow_course ansnow_course : Option Addr} {kVsnow_course dcsnow_course pmsnow_course cdsnow_course ctsnow_course : Value} {slsnow_course : Array (Option Value)}
    {agrows : Addr} {ogrows : Value} {odgrows angrows : Option Addr} {kVgrows dcgrows pmgrows cdgrows ctgrows : Value} {slgrows : Array (Option Value)}
    {asettled_pack : Addr} {osettled_pack : Value} {odsettled_pack ansettled_pack : Option Addr} {kVsettled_pack dcsettled_pack pmsettled_pack cdsettled_pack ctsettled_pack : Value} {slsettled_pack : Array (Option Value)}
    {awater_row : Addr} {owater_row : Value} {odwater_row anwater_row : Option Addr} {kVwater_row dcwater_row pmwater_row cdwater_row ctwater_row : Value} {slwater_row : Array (Option Value)}
    {adeepest : Addr} {odeepest : Value} {oddeepest andeepest : Option Addr} {kVdeepest dcdeepest pmdeepest cddeepest ctdeepest : Value} {sldeepest : Array (Option Value)}
    {abare_steps : Addr} {obare_steps : Value} {odbare_steps anbare_steps : Option Addr} {kVbare_steps dcbare_steps pmbare_steps cdbare_steps ctbare_steps : Value} {slbare_steps : Array (Option Value)}
    {apack_at : Addr} {opack_at : Value} {odpack_at anpack_at : Option Addr} {kVpack_at dcpack_at pmpack_at cdpack_at ctpack_at : Value} {slpack_at : Array (Option Value)}
    {aleast_melt : Addr} {oleast_melt : Value} {odleast_melt anleast_melt : Option Addr} {kVleast_melt dcleast_melt pmleast_melt cdleast_melt ctleast_melt : Value} {slleast_melt : Array (Option Value)}
    {a_law_dice : Addr} {o_law_dice : Value} {od_law_dice an_law_dice : Option Addr} {kV_law_dice dc_law_dice pm_law_dice cd_law_dice ct_law_dice : Value} {sl_law_dice : Array (Option Value)}
    {a_law_roll : Addr} {o_law_roll : Value} {od_law_roll an_law_roll : Option Addr} {kV_law_roll dc_law_roll pm_law_roll cd_law_roll ct_law_roll : Value} {sl_law_roll : Array (Option Value)}
    {a_law_pick : Addr} {o_law_pick : Value} {od_law_pick an_law_pick : Option Addr} {kV_law_pick dc_law_pick pm_law_pick cd_law_pick ct_law_pick : Value} {sl_law_pick : Array (Option Value)}
    {a_law_row : Addr} {o_law_row : Value} {od_law_row an_law_row : Option Addr} {kV_law_row dc_law_row pm_law_row cd_law_row ct_law_row : Value} {sl_law_row : Array (Option Value)}
    {a_law_snow : Addr} {o_law_snow : Value} {od_law_snow an_law_snow : Option Addr} {kV_law_snow dc_law_snow pm_law_snow cd_law_snow ct_law_snow : Value} {sl_law_snow : Array (Option Value)}
    {a_law_grown : Addr} {o_law_grown : Value} {od_law_grown an_law_grown : Option Addr} {kV_law_grown dc_law_grown pm_law_grown cd_law_grown ct_law_grown : Value} {sl_law_grown : Array (Option Value)}
    {a_law_right : Addr} {o_law_right : Value} {od_law_right an_law_right : Option Addr} {kV_law_right dc_law_right pm_law_right  ct_law_right : Value} {sl_law_right : Array (Option Value)}
    {cc_law_right pt_law_right : Addr} {te_law_right : Value} {td_law_right : Option Addr} {tv_law_right : Array Value} {tl_law_right : Array (Option Value)}
    {alaw : Addr} {olaw : Value} {odlaw anlaw : Option Addr} {kVlaw dclaw pmlaw cdlaw ctlaw : Value} {sllaw : Array (Option Value)}
    {t_MOST_AMOUNT : Tok}
    {t_MOST_MANY : Tok}
    {t_MOST_MELT : Tok}
    {t_MOST_ROW : Tok}
    {t_MOST_SKY : Tok}
    {t_MOST_STEP : Tok}
    (aB : PySem.W.nsIn K mainGlobals "BadArgument" = some (some (.ref B)))
    (xB : K.lookup B = some (excClassObj nmB qB B NB bsB [.type "ValueError", .type "Exception", .type "BaseException", .type "object"] true snB subB abB colB ddB kB0 kB1 kB2 kB3 kB5 "ValueError.__new__"))
    (saB : PySem.W.findIn K (.ref B) "__setattr__" = some (some (.builtin "object.__setattr__")))
    (noB : PySem.W.findIn K (.ref B) "name" = some none)
    (iB : PySem.W.findIn K (.ref B) "__init__" = some (some (.ref fI)))
    (tB : PySem.W.typeIn K (.ref fI) = some (.type "function"))
    (kB : PySem.W.keepIn K (.ref B) = true)
    (eB : PySem.W.subIn K (.ref B) (.type "BaseException") = some true)
    (vB : PySem.W.subIn K (.ref B) (.type "ValueError") = some true)
    (tyB : PySem.W.typeIn K (.ref B) = some (.type "type"))
    (teB : PySem.W.exmOne K (.ref B) (.ref B) = some true)
    (suB : PySem.W.ks_superIn K B B "__init__" = some (some (.builtin "ValueError.__init__")))
    (seB : PySem.W.mroIn K B (.ref B) = some true)
    (tpB : PySem.W.nsIn K PySem.cStatics "thirdparty.any" = some none)
    (nsB : PySem.W.nsIn K mainGlobals "super" = some none)
    (toB : (P.main.scope.names.lookup ("super" : Str)).isSome = false)
    (lI : K.lookup fI = some ⟨oI, odI, .func (PySem.W.ksFn "__init__" qI bA bB bS .none .none dcI pmI anI (.ref cdI) ctI ccI), slI⟩)
    (cI : PySem.W.codeIn K (.ref cdI) qI = true)
    (oI1 : K.lookup cdI = some ⟨clI, ddI, .fields vsI, csI⟩)
    (oI2 : vsI[2]? = some (.str fiI tfI))
    (oI3 : ((P.main.file : Str) == fiI) = true)
    (oI4 : K.lookup ccI = some ⟨leI, ldI, .cell (some (.ref B)), lsI⟩)
    (xfB : xfB K B = true)
    (gR : PySem.W.nsIn K mainGlobals "_law_refused" = some (some (.ref aR)))
    (lR : K.lookup aR = some ⟨oR, odR, .func (PySem.W.fnOf "_law_refused" "_law_refused" (defArgs sR) (defBody sR) (defScope sR) .none kVR dcR pmR anR cdR ctR), slR⟩)
    (cR : PySem.W.codeIn K cdR "_law_refused" = true)
    (kR : PySem.W.keepIn K (.ref aR) = true)
    (gis_integer : PySem.W.nsIn K mainGlobals "is_integer" = some (some (.ref ais_integer)))
    (lis_integer : K.lookup ais_integer = some ⟨ois_integer, odis_integer, .func (PySem.W.fnOf "is_integer" "is_integer" (defArgs sis_integer) (defBody sis_integer) (defScope sis_integer) .none kVis_integer dcis_integer pmis_integer anis_integer cdis_integer ctis_integer), slis_integer⟩)
    (dis_integer : PySem.W.codeIn K cdis_integer "is_integer" = true)
    (kis_integer : PySem.W.keepIn K (.ref ais_integer) = true)
    (gneed_integer : PySem.W.nsIn K mainGlobals "need_integer" = some (some (.ref aneed_integer)))
    (lneed_integer : K.lookup aneed_integer = some ⟨oneed_integer, odneed_integer, .func (PySem.W.fnOf "need_integer" "need_integer" (defArgs sneed_integer) (defBody sneed_integer) (defScope sneed_integer) .none kVneed_integer dcneed_integer pmneed_integer anneed_integer cdneed_integer ctneed_integer), slneed_integer⟩)
    (dneed_integer : PySem.W.codeIn K cdneed_integer "need_integer" = true)
    (kneed_integer : PySem.W.keepIn K (.ref aneed_integer) = true)
    (gis_row : PySem.W.nsIn K mainGlobals "is_row" = some (some (.ref ais_row)))
    (lis_row : K.lookup ais_row = some ⟨ois_row, odis_row, .func (PySem.W.fnOf "is_row" "is_row" (defArgs sis_row) (defBody sis_row) (defScope sis_row) .none kVis_row dcis_row pmis_row anis_row (.ref ccis_row) ctis_row), slis_row⟩)
    (dis_row : PySem.W.codeIn K (.ref ccis_row) "is_row" = true)
    (kis_row : PySem.W.keepIn K (.ref ais_row) = true)
    (tis_row : K.lookup ccis_row = some ⟨teis_row, tdis_row, .fields tvis_row, tlis_row⟩)
    (pis_row : tvis_row[11]? = some (.ref ptis_row))
    (nis_row : K.lookup ptis_row = none)
    (his_row : PySem.W.codeHdIn K ccis_row ptis_row = true)
    (ris_row : ((recsOf q).any fun e => e.name == "is_row") = true)
    (gis_sky : PySem.W.nsIn K mainGlobals "is_sky" = some (some (.ref ais_sky)))
    (lis_sky : K.lookup ais_sky = some ⟨ois_sky, odis_sky, .func (PySem.W.fnOf "is_sky" "is_sky" (defArgs sis_sky) (defBody sis_sky) (defScope sis_sky) .none kVis_sky dcis_sky pmis_sky anis_sky (.ref ccis_sky) ctis_sky), slis_sky⟩)
    (dis_sky : PySem.W.codeIn K (.ref ccis_sky) "is_sky" = true)
    (kis_sky : PySem.W.keepIn K (.ref ais_sky) = true)
    (tis_sky : K.lookup ccis_sky = some ⟨teis_sky, tdis_sky, .fields tvis_sky, tlis_sky⟩)
    (pis_sky : tvis_sky[11]? = some (.ref ptis_sky))
    (nis_sky : K.lookup ptis_sky = none)
    (his_sky : PySem.W.codeHdIn K ccis_sky ptis_sky = true)
    (ris_sky : ((recsOf q).any fun e => e.name == "is_sky") = true)
    (gneed_sky : PySem.W.nsIn K mainGlobals "need_sky" = some (some (.ref aneed_sky)))
    (lneed_sky : K.lookup aneed_sky = some ⟨oneed_sky, odneed_sky, .func (PySem.W.fnOf "need_sky" "need_sky" (defArgs sneed_sky) (defBody sneed_sky) (defScope sneed_sky) .none kVneed_sky dcneed_sky pmneed_sky anneed_sky cdneed_sky ctneed_sky), slneed_sky⟩)
    (dneed_sky : PySem.W.codeIn K cdneed_sky "need_sky" = true)
    (kneed_sky : PySem.W.keepIn K (.ref aneed_sky) = true)
    (gone_step : PySem.W.nsIn K mainGlobals "one_step" = some (some (.ref aone_step)))
    (lone_step : K.lookup aone_step = some ⟨oone_step, odone_step, .func (PySem.W.fnOf "one_step" "one_step" (defArgs sone_step) (defBody sone_step) (defScope sone_step) .none kVone_step dcone_step pmone_step anone_step cdone_step ctone_step), slone_step⟩)
    (done_step : PySem.W.codeIn K cdone_step "one_step" = true)
    (kone_step : PySem.W.keepIn K (.ref aone_step) = true)
    (grounds_from : PySem.W.nsIn K mainGlobals "rounds_from" = some (some (.ref arounds_from)))
    (lrounds_from : K.lookup arounds_from = some ⟨orounds_from, odrounds_from, .func (PySem.W.fnOf "rounds_from" "rounds_from" (defArgs srounds_from) (defBody srounds_from) (defScope srounds_from) .none kVrounds_from dcrounds_from pmrounds_from anrounds_from cdrounds_from ctrounds_from), slrounds_from⟩)
    (drounds_from : PySem.W.codeIn K cdrounds_from "rounds_from" = true)
    (krounds_from : PySem.W.keepIn K (.ref arounds_from) = true)
    (gsnow_course : PySem.W.nsIn K mainGlobals "snow_course" = some (some (.ref asnow_course)))
    (lsnow_course : K.lookup asnow_course = some ⟨osnow_course, odsnow_course, .func (PySem.W.fnOf "snow_course" "snow_course" (defArgs ssnow_course) (defBody ssnow_course) (defScope ssnow_course) .none kVsnow_course dcsnow_course pmsnow_course ansnow_course cdsnow_course ctsnow_course), slsnow_course⟩)
    (dsnow_course : PySem.W.codeIn K cdsnow_course "snow_course" = true)
    (ksnow_course : PySem.W.keepIn K (.ref asnow_course) = true)
    (ggrows : PySem.W.nsIn K mainGlobals "grows" = some (some (.ref agrows)))
    (lgrows : K.lookup agrows = some ⟨ogrows, odgrows, .func (PySem.W.fnOf "grows" "grows" (defArgs sgrows) (defBody sgrows) (defScope sgrows) .none kVgrows dcgrows pmgrows angrows cdgrows ctgrows), slgrows⟩)
    (dgrows : PySem.W.codeIn K cdgrows "grows" = true)
    (kgrows : PySem.W.keepIn K (.ref agrows) = true)
    (gsettled_pack : PySem.W.nsIn K mainGlobals "settled_pack" = some (some (.ref asettled_pack)))
    (lsettled_pack : K.lookup asettled_pack = some ⟨osettled_pack, odsettled_pack, .func (PySem.W.fnOf "settled_pack" "settled_pack" (defArgs ssettled_pack) (defBody ssettled_pack) (defScope ssettled_pack) .none kVsettled_pack dcsettled_pack pmsettled_pack ansettled_pack cdsettled_pack ctsettled_pack), slsettled_pack⟩)
    (dsettled_pack : PySem.W.codeIn K cdsettled_pack "settled_pack" = true)
    (ksettled_pack : PySem.W.keepIn K (.ref asettled_pack) = true)
    (gwater_row : PySem.W.nsIn K mainGlobals "water_row" = some (some (.ref awater_row)))
    (lwater_row : K.lookup awater_row = some ⟨owater_row, odwater_row, .func (PySem.W.fnOf "water_row" "water_row" (defArgs swater_row) (defBody swater_row) (defScope swater_row) .none kVwater_row dcwater_row pmwater_row anwater_row cdwater_row ctwater_row), slwater_row⟩)
    (dwater_row : PySem.W.codeIn K cdwater_row "water_row" = true)
    (kwater_row : PySem.W.keepIn K (.ref awater_row) = true)
    (gdeepest : PySem.W.nsIn K mainGlobals "deepest" = some (some (.ref adeepest)))
    (ldeepest : K.lookup adeepest = some ⟨odeepest, oddeepest, .func (PySem.W.fnOf "deepest" "deepest" (defArgs sdeepest) (defBody sdeepest) (defScope sdeepest) .none kVdeepest dcdeepest pmdeepest andeepest cddeepest ctdeepest), sldeepest⟩)
    (ddeepest : PySem.W.codeIn K cddeepest "deepest" = true)
    (kdeepest : PySem.W.keepIn K (.ref adeepest) = true)
    (gbare_steps : PySem.W.nsIn K mainGlobals "bare_steps" = some (some (.ref abare_steps)))
    (lbare_steps : K.lookup abare_steps = some ⟨obare_steps, odbare_steps, .func (PySem.W.fnOf "bare_steps" "bare_steps" (defArgs sbare_steps) (defBody sbare_steps) (defScope sbare_steps) .none kVbare_steps dcbare_steps pmbare_steps anbare_steps cdbare_steps ctbare_steps), slbare_steps⟩)
    (dbare_steps : PySem.W.codeIn K cdbare_steps "bare_steps" = true)
    (kbare_steps : PySem.W.keepIn K (.ref abare_steps) = true)
    (gpack_at : PySem.W.nsIn K mainGlobals "pack_at" = some (some (.ref apack_at)))
    (lpack_at : K.lookup apack_at = some ⟨opack_at, odpack_at, .func (PySem.W.fnOf "pack_at" "pack_at" (defArgs spack_at) (defBody spack_at) (defScope spack_at) .none kVpack_at dcpack_at pmpack_at anpack_at cdpack_at ctpack_at), slpack_at⟩)
    (dpack_at : PySem.W.codeIn K cdpack_at "pack_at" = true)
    (kpack_at : PySem.W.keepIn K (.ref apack_at) = true)
    (gleast_melt : PySem.W.nsIn K mainGlobals "least_melt" = some (some (.ref aleast_melt)))
    (lleast_melt : K.lookup aleast_melt = some ⟨oleast_melt, odleast_melt, .func (PySem.W.fnOf "least_melt" "least_melt" (defArgs sleast_melt) (defBody sleast_melt) (defScope sleast_melt) .none kVleast_melt dcleast_melt pmleast_melt anleast_melt cdleast_melt ctleast_melt), slleast_melt⟩)
    (dleast_melt : PySem.W.codeIn K cdleast_melt "least_melt" = true)
    (kleast_melt : PySem.W.keepIn K (.ref aleast_melt) = true)
    (g_law_dice : PySem.W.nsIn K mainGlobals "_law_dice" = some (some (.ref a_law_dice)))
    (l_law_dice : K.lookup a_law_dice = some ⟨o_law_dice, od_law_dice, .func (PySem.W.fnOf "_law_dice" "_law_dice" (defArgs s_law_dice) (defBody s_law_dice) (defScope s_law_dice) .none kV_law_dice dc_law_dice pm_law_dice an_law_dice cd_law_dice ct_law_dice), sl_law_dice⟩)
    (d_law_dice : PySem.W.codeIn K cd_law_dice "_law_dice" = true)
    (k_law_dice : PySem.W.keepIn K (.ref a_law_dice) = true)
    (g_law_roll : PySem.W.nsIn K mainGlobals "_law_roll" = some (some (.ref a_law_roll)))
    (l_law_roll : K.lookup a_law_roll = some ⟨o_law_roll, od_law_roll, .func (PySem.W.fnOf "_law_roll" "_law_roll" (defArgs s_law_roll) (defBody s_law_roll) (defScope s_law_roll) .none kV_law_roll dc_law_roll pm_law_roll an_law_roll cd_law_roll ct_law_roll), sl_law_roll⟩)
    (d_law_roll : PySem.W.codeIn K cd_law_roll "_law_roll" = true)
    (k_law_roll : PySem.W.keepIn K (.ref a_law_roll) = true)
    (g_law_pick : PySem.W.nsIn K mainGlobals "_law_pick" = some (some (.ref a_law_pick)))
    (l_law_pick : K.lookup a_law_pick = some ⟨o_law_pick, od_law_pick, .func (PySem.W.fnOf "_law_pick" "_law_pick" (defArgs s_law_pick) (defBody s_law_pick) (defScope s_law_pick) .none kV_law_pick dc_law_pick pm_law_pick an_law_pick cd_law_pick ct_law_pick), sl_law_pick⟩)
    (d_law_pick : PySem.W.codeIn K cd_law_pick "_law_pick" = true)
    (k_law_pick : PySem.W.keepIn K (.ref a_law_pick) = true)
    (g_law_row : PySem.W.nsIn K mainGlobals "_law_row" = some (some (.ref a_law_row)))
    (l_law_row : K.lookup a_law_row = some ⟨o_law_row, od_law_row, .func (PySem.W.fnOf "_law_row" "_law_row" (defArgs s_law_row) (defBody s_law_row) (defScope s_law_row) .none kV_law_row dc_law_row pm_law_row an_law_row cd_law_row ct_law_row), sl_law_row⟩)
    (d_law_row : PySem.W.codeIn K cd_law_row "_law_row" = true)
    (k_law_row : PySem.W.keepIn K (.ref a_law_row) = true)
    (g_law_snow : PySem.W.nsIn K mainGlobals "_law_snow" = some (some (.ref a_law_snow)))
    (l_law_snow : K.lookup a_law_snow = some ⟨o_law_snow, od_law_snow, .func (PySem.W.fnOf "_law_snow" "_law_snow" (defArgs s_law_snow) (defBody s_law_snow) (defScope s_law_snow) .none kV_law_snow dc_law_snow pm_law_snow an_law_snow cd_law_snow ct_law_snow), sl_law_snow⟩)
    (d_law_snow : PySem.W.codeIn K cd_law_snow "_law_snow" = true)
    (k_law_snow : PySem.W.keepIn K (.ref a_law_snow) = true)
    (g_law_grown : PySem.W.nsIn K mainGlobals "_law_grown" = some (some (.ref a_law_grown)))
    (l_law_grown : K.lookup a_law_grown = some ⟨o_law_grown, od_law_grown, .func (PySem.W.fnOf "_law_grown" "_law_grown" (defArgs s_law_grown) (defBody s_law_grown) (defScope s_law_grown) .none kV_law_grown dc_law_grown pm_law_grown an_law_grown cd_law_grown ct_law_grown), sl_law_grown⟩)
    (d_law_grown : PySem.W.codeIn K cd_law_grown "_law_grown" = true)
    (k_law_grown : PySem.W.keepIn K (.ref a_law_grown) = true)
    (g_law_right : PySem.W.nsIn K mainGlobals "_law_right" = some (some (.ref a_law_right)))
    (l_law_right : K.lookup a_law_right = some ⟨o_law_right, od_law_right, .func (PySem.W.fnOf "_law_right" "_law_right" (defArgs s_law_right) (defBody s_law_right) (defScope s_law_right) .none kV_law_right dc_law_right pm_law_right an_law_right (.ref cc_law_right) ct_law_right), sl_law_right⟩)
    (d_law_right : PySem.W.codeIn K (.ref cc_law_right) "_law_right" = true)
    (k_law_right : PySem.W.keepIn K (.ref a_law_right) = true)
    (t_law_right : K.lookup cc_law_right = some ⟨te_law_right, td_law_right, .fields tv_law_right, tl_law_right⟩)
    (p_law_right : tv_law_right[11]? = some (.ref pt_law_right))
    (n_law_right : K.lookup pt_law_right = none)
    (h_law_right : PySem.W.codeHdIn K cc_law_right pt_law_right = true)
    (r_law_right : ((recsOf q).any fun e => e.name == "_law_right") = true)
    (glaw : PySem.W.nsIn K mainGlobals "law" = some (some (.ref alaw)))
    (llaw : K.lookup alaw = some ⟨olaw, odlaw, .func (PySem.W.fnOf "law" "law" (defArgs slaw) (defBody slaw) (defScope slaw) .none kVlaw dclaw pmlaw anlaw cdlaw ctlaw), sllaw⟩)
    (dlaw : PySem.W.codeIn K cdlaw "law" = true)
    (klaw : PySem.W.keepIn K (.ref alaw) = true)
    (ne01 : ptis_row ≠ ptis_sky)
    (ne02 : ptis_row ≠ pt_law_right)
    (ne12 : ptis_sky ≠ pt_law_right)
    (z_abs : PySem.W.nsIn K mainGlobals "abs" = some none)
    (z_all : PySem.W.nsIn K mainGlobals "all" = some none)
    (z_bool : PySem.W.nsIn K mainGlobals "bool" = some none)
    (z_int : PySem.W.nsIn K mainGlobals "int" = some none)
    (z_isinstance : PySem.W.nsIn K mainGlobals "isinstance" = some none)
    (z_len : PySem.W.nsIn K mainGlobals "len" = some none)
    (z_max : PySem.W.nsIn K mainGlobals "max" = some none)
    (z_min : PySem.W.nsIn K mainGlobals "min" = some none)
    (z_range : PySem.W.nsIn K mainGlobals "range" = some none)
    (z_sum : PySem.W.nsIn K mainGlobals "sum" = some none)
    (z_tuple : PySem.W.nsIn K mainGlobals "tuple" = some none)
    (z_zip : PySem.W.nsIn K mainGlobals "zip" = some none)
    (y_MOST_AMOUNT : PySem.W.nsIn K mainGlobals "MOST_AMOUNT" = some (some (.int 200 t_MOST_AMOUNT)))
    (y_MOST_MANY : PySem.W.nsIn K mainGlobals "MOST_MANY" = some (some (.int 500 t_MOST_MANY)))
    (y_MOST_MELT : PySem.W.nsIn K mainGlobals "MOST_MELT" = some (some (.int 1000 t_MOST_MELT)))
    (y_MOST_ROW : PySem.W.nsIn K mainGlobals "MOST_ROW" = some (some (.int 24 t_MOST_ROW)))
    (y_MOST_SKY : PySem.W.nsIn K mainGlobals "MOST_SKY" = some (some (.int 24 t_MOST_SKY)))
    (y_MOST_STEP : PySem.W.nsIn K mainGlobals "MOST_STEP" = some (some (.int 1000000000000 t_MOST_STEP))) : LamX.LawAtS l w K (L2.CX l.prog w) 14 63 "script" mg fa h := by
  subst hP
  have e := hfa.symm.trans (PySem.W.mg_of KX G glaw)
  cases e
  have bi : BiN mg := ⟨PySem.W.mg_none_of KX G z_abs, PySem.W.mg_none_of KX G z_all, PySem.W.mg_none_of KX G z_bool, PySem.W.mg_none_of KX G z_int, PySem.W.mg_none_of KX G z_isinstance, PySem.W.mg_none_of KX G z_len, PySem.W.mg_none_of KX G z_max, PySem.W.mg_none_of KX G z_min, PySem.W.mg_none_of KX G z_range, PySem.W.mg_none_of KX G z_sum, PySem.W.mg_none_of KX G z_tuple, PySem.W.mg_none_of KX G z_zip⟩
  have cs : Cst mg := ⟨⟨_, PySem.W.mg_of KX G y_MOST_AMOUNT⟩, ⟨_, PySem.W.mg_of KX G y_MOST_MANY⟩, ⟨_, PySem.W.mg_of KX G y_MOST_MELT⟩, ⟨_, PySem.W.mg_of KX G y_MOST_ROW⟩, ⟨_, PySem.W.mg_of KX G y_MOST_SKY⟩, ⟨_, PySem.W.mg_of KX G y_MOST_STEP⟩⟩
  have tx : BadTxt l.prog K mg B fI := ⟨PySem.W.mg_of KX G aB, ⟨_, _, _, _, _, _, _, _, _, _, _, _, _, _, _, xB, by decide +kernel⟩, saB, noB, iB, tB, kB, eB, vB, tyB, teB, suB, seB, tpB, PySem.W.mg_none_of KX G nsB, toB, ⟨_, _, _, _, _, _, _, _, _, _, _, _, _, _, _, _, _, _, _, lI, cI, oI1, oI2, oI3, oI4⟩⟩
  have rt : RefT l.prog K mg B fI := ⟨tx, xfB_ok xfB, ⟨aR, _, _, _, _, _, _, _, _, _, _, _, _, _, _, _, _, _, _, _, _, _, _, PySem.W.mg_of KX G gR, kR, lR, cR, .all fun us hl => match us, hl with | [_], _ => rfl⟩⟩
  have Dis_integer : Defd K mg "is_integer" sis_integer ais_integer _ := ⟨fun_mk (st := sis_integer) lis_integer dis_integer kis_integer, PySem.W.mg_of KX G gis_integer⟩
  have Dneed_integer : Defd K mg "need_integer" sneed_integer aneed_integer _ := ⟨fun_mk (st := sneed_integer) lneed_integer dneed_integer kneed_integer, PySem.W.mg_of KX G gneed_integer⟩
  have Dis_row : Defd K mg "is_row" sis_row ais_row _ := ⟨fun_mk (st := sis_row) lis_row dis_row kis_row, PySem.W.mg_of KX G gis_row⟩
  have Dis_sky : Defd K mg "is_sky" sis_sky ais_sky _ := ⟨fun_mk (st := sis_sky) lis_sky dis_sky kis_sky, PySem.W.mg_of KX G gis_sky⟩
  have Dneed_sky : Defd K mg "need_sky" sneed_sky aneed_sky _ := ⟨fun_mk (st := sneed_sky) lneed_sky dneed_sky kneed_sky, PySem.W.mg_of KX G gneed_sky⟩
  have Done_step : Defd K mg "one_step" sone_step aone_step _ := ⟨fun_mk (st := sone_step) lone_step done_step kone_step, PySem.W.mg_of KX G gone_step⟩
  have Drounds_from : Defd K mg "rounds_from" srounds_from arounds_from _ := ⟨fun_mk (st := srounds_from) lrounds_from drounds_from krounds_from, PySem.W.mg_of KX G grounds_from⟩
  have Dsnow_course : Defd K mg "snow_course" ssnow_course asnow_course _ := ⟨fun_mk (st := ssnow_course) lsnow_course dsnow_course ksnow_course, PySem.W.mg_of KX G gsnow_course⟩
  have Dgrows : Defd K mg "grows" sgrows agrows _ := ⟨fun_mk (st := sgrows) lgrows dgrows kgrows, PySem.W.mg_of KX G ggrows⟩
  have Dsettled_pack : Defd K mg "settled_pack" ssettled_pack asettled_pack _ := ⟨fun_mk (st := ssettled_pack) lsettled_pack dsettled_pack ksettled_pack, PySem.W.mg_of KX G gsettled_pack⟩
  have Dwater_row : Defd K mg "water_row" swater_row awater_row _ := ⟨fun_mk (st := swater_row) lwater_row dwater_row kwater_row, PySem.W.mg_of KX G gwater_row⟩
  have Ddeepest : Defd K mg "deepest" sdeepest adeepest _ := ⟨fun_mk (st := sdeepest) ldeepest ddeepest kdeepest, PySem.W.mg_of KX G gdeepest⟩
  have Dbare_steps : Defd K mg "bare_steps" sbare_steps abare_steps _ := ⟨fun_mk (st := sbare_steps) lbare_steps dbare_steps kbare_steps, PySem.W.mg_of KX G gbare_steps⟩
  have Dpack_at : Defd K mg "pack_at" spack_at apack_at _ := ⟨fun_mk (st := spack_at) lpack_at dpack_at kpack_at, PySem.W.mg_of KX G gpack_at⟩
  have Dleast_melt : Defd K mg "least_melt" sleast_melt aleast_melt _ := ⟨fun_mk (st := sleast_melt) lleast_melt dleast_melt kleast_melt, PySem.W.mg_of KX G gleast_melt⟩
  have D_law_dice : Defd K mg "_law_dice" s_law_dice a_law_dice _ := ⟨fun_mk (st := s_law_dice) l_law_dice d_law_dice k_law_dice, PySem.W.mg_of KX G g_law_dice⟩
  have D_law_roll : Defd K mg "_law_roll" s_law_roll a_law_roll _ := ⟨fun_mk (st := s_law_roll) l_law_roll d_law_roll k_law_roll, PySem.W.mg_of KX G g_law_roll⟩
  have D_law_pick : Defd K mg "_law_pick" s_law_pick a_law_pick _ := ⟨fun_mk (st := s_law_pick) l_law_pick d_law_pick k_law_pick, PySem.W.mg_of KX G g_law_pick⟩
  have D_law_row : Defd K mg "_law_row" s_law_row a_law_row _ := ⟨fun_mk (st := s_law_row) l_law_row d_law_row k_law_row, PySem.W.mg_of KX G g_law_row⟩
  have D_law_snow : Defd K mg "_law_snow" s_law_snow a_law_snow _ := ⟨fun_mk (st := s_law_snow) l_law_snow d_law_snow k_law_snow, PySem.W.mg_of KX G g_law_snow⟩
  have D_law_grown : Defd K mg "_law_grown" s_law_grown a_law_grown _ := ⟨fun_mk (st := s_law_grown) l_law_grown d_law_grown k_law_grown, PySem.W.mg_of KX G g_law_grown⟩
  have D_law_right : Defd K mg "_law_right" s_law_right a_law_right _ := ⟨fun_mk (st := s_law_right) l_law_right d_law_right k_law_right, PySem.W.mg_of KX G g_law_right⟩
  have Dlaw : Defd K mg "law" slaw fa _ := ⟨fun_mk (st := slaw) llaw dlaw klaw, PySem.W.mg_of KX G glaw⟩
  have Eis_row : h.get? ptis_row = some { cls := .none, data := .fields #[] } := all "is_row" ais_row ris_row (PySem.W.mg_of KX G gis_row) ccis_row ptis_row _ _ _ _ _ _ lis_row rfl rfl tis_row pis_row
  have Eis_sky : h.get? ptis_sky = some { cls := .none, data := .fields #[] } := all "is_sky" ais_sky ris_sky (PySem.W.mg_of KX G gis_sky) ccis_sky ptis_sky _ _ _ _ _ _ lis_sky rfl rfl tis_sky pis_sky
  have E_law_right : h.get? pt_law_right = some { cls := .none, data := .fields #[] } := all "_law_right" a_law_right r_law_right (PySem.W.mg_of KX G g_law_right) cc_law_right pt_law_right _ _ _ _ _ _ l_law_right rfl rfl t_law_right p_law_right
  refine ⟨PySem.W.fnOf "law" "law" (defArgs slaw) (defBody slaw) (defScope slaw) .none kVlaw dclaw pmlaw anlaw cdlaw ctlaw, [(ccis_row, ptis_row), (ccis_sky, ptis_sky), (cc_law_right, pt_law_right)], spD K (⟨[(pt_law_right, lq_law_right)], [ptis_row, ptis_sky]⟩ : Tabl) B 1 Flaw, fun p hp => ?_, fun p hp => ?_, fun p hp => ?_, fun s u => .of_eq rfl, fun H a ns hlen hb hT hS => law_sp (gd_nil (fun p hp => ?_) (fun p hp => ?_)) (main ns hlen hb) hS, fun base KB GB TBs => ?_⟩
  · simp only [List.mem_cons, List.not_mem_nil, or_false] at hp
    rcases hp with e | e | e
    · rw [e]; exact Eis_row
    · rw [e]; exact Eis_sky
    · rw [e]; exact E_law_right
  · simp only [List.mem_cons, List.not_mem_nil, or_false] at hp
    rcases hp with e | e | e
    · rw [e]; exact nis_row
    · rw [e]; exact nis_sky
    · rw [e]; exact n_law_right
  · simp only [List.mem_cons, List.not_mem_nil, or_false] at hp
    rcases hp with e | e | e
    · rw [e]; exact PySem.W.codeHd_of_K KX his_row
    · rw [e]; exact PySem.W.codeHd_of_K KX his_sky
    · rw [e]; exact PySem.W.codeHd_of_K KX h_law_right
  · simp only [List.mem_cons, List.not_mem_nil, or_false] at hp
    rw [hp]
    exact hT (cc_law_right, pt_law_right) (by simp)
  · simp only [List.mem_cons, List.not_mem_nil, or_false] at hp
    rcases hp with e | e
    · rw [e]; exact hT (ccis_row, ptis_row) (by simp)
    · rw [e]; exact hT (ccis_sky, ptis_sky) (by simp)
  · have TBis_row := TBs (ccis_row, ptis_row) (by simp)
    have TBis_sky := TBs (ccis_sky, ptis_sky) (by simp)
    have TB_law_right := TBs (cc_law_right, pt_law_right) (by simp)
    have kbbare_steps_1 := kbbare_steps_1 Dbare_steps
    have kbdeepest_1 := kbdeepest_1 Ddeepest
    have kbgrows_1 := kbgrows_1 Dgrows
    have kbleast_melt_0 := kbleast_melt_0 Dleast_melt
    have kbpack_at_2 := kbpack_at_2 Dpack_at
    have kbsnow_course_2 := kbsnow_course_2 Dsnow_course
    have kbwater_row_1 := kbwater_row_1 Dwater_row
    have cis_integer : CalD l.prog w K mg base (⟨[(pt_law_right, lq_law_right)], [ptis_row, ptis_sky]⟩ : Tabl) B 2 "is_integer" ais_integer _ ["value"] Fis_integer := okis_integer Dis_integer bi
    have cneed_integer : CalD l.prog w K mg base (⟨[(pt_law_right, lq_law_right)], [ptis_row, ptis_sky]⟩ : Tabl) B 3 "need_integer" aneed_integer _ ["value", "name", "least", "most"] Fneed_integer := okneed_integer Dneed_integer cis_integer tx
    have cis_row : CalD l.prog w K mg base (⟨[(pt_law_right, lq_law_right)], [ptis_row, ptis_sky]⟩ : Tabl) B 6 "is_row" ais_row _ ["value"] Fis_row := okis_row Dis_row cis_integer bi cs rfl ⟨TBis_row.code, TBis_row.bm, TBis_row.gP⟩ (by simp) (fun p hp => by simp only [List.mem_cons, List.not_mem_nil, or_false] at hp; first | (subst hp; exact ne02.symm) | cases hp)
    have cis_sky : CalD l.prog w K mg base (⟨[(pt_law_right, lq_law_right)], [ptis_row, ptis_sky]⟩ : Tabl) B 7 "is_sky" ais_sky _ ["value"] Fis_sky := okis_sky Dis_sky cis_row bi cs rfl ⟨TBis_sky.code, TBis_sky.bm, TBis_sky.gP⟩ (by simp) (fun p hp => by simp only [List.mem_cons, List.not_mem_nil, or_false] at hp; first | (subst hp; exact ne12.symm) | cases hp)
    have cneed_sky : CalD l.prog w K mg base (⟨[(pt_law_right, lq_law_right)], [ptis_row, ptis_sky]⟩ : Tabl) B 8 "need_sky" aneed_sky _ ["sky", "melt"] Fneed_sky := okneed_sky Dneed_sky cis_sky cneed_integer cs tx
    have cone_step : CalD l.prog w K mg base (⟨[(pt_law_right, lq_law_right)], [ptis_row, ptis_sky]⟩ : Tabl) B 2 "one_step" aone_step _ ["sky", "melt", "step", "pack"] Fone_step := okone_step Done_step bi
    have crounds_from : CalD l.prog w K mg base (⟨[(pt_law_right, lq_law_right)], [ptis_row, ptis_sky]⟩ : Tabl) B 3 "rounds_from" arounds_from _ ["sky", "melt", "pack"] Frounds_from := okrounds_from Drounds_from cone_step bi
    have csnow_course : CalD l.prog w K mg base (⟨[(pt_law_right, lq_law_right)], [ptis_row, ptis_sky]⟩ : Tabl) B 9 "snow_course" asnow_course _ ["sky", "melt", "many"] Fsnow_course := oksnow_course Dsnow_course cneed_sky cneed_integer cone_step bi cs
    have cgrows : CalD l.prog w K mg base (⟨[(pt_law_right, lq_law_right)], [ptis_row, ptis_sky]⟩ : Tabl) B 9 "grows" agrows _ ["sky", "melt"] Fgrows := okgrows Dgrows cneed_sky bi
    have csettled_pack : CalD l.prog w K mg base (⟨[(pt_law_right, lq_law_right)], [ptis_row, ptis_sky]⟩ : Tabl) B 4 "settled_pack" asettled_pack _ ["sky", "melt"] Fsettled_pack := oksettled_pack Dsettled_pack crounds_from bi
    have cwater_row : CalD l.prog w K mg base (⟨[(pt_law_right, lq_law_right)], [ptis_row, ptis_sky]⟩ : Tabl) B 10 "water_row" awater_row _ ["sky", "melt"] Fwater_row := okwater_row Dwater_row cgrows crounds_from csettled_pack bi
    have cdeepest : CalD l.prog w K mg base (⟨[(pt_law_right, lq_law_right)], [ptis_row, ptis_sky]⟩ : Tabl) B 10 "deepest" adeepest _ ["sky", "melt"] Fdeepest := okdeepest Ddeepest cgrows cone_step bi
    have cbare_steps : CalD l.prog w K mg base (⟨[(pt_law_right, lq_law_right)], [ptis_row, ptis_sky]⟩ : Tabl) B 10 "bare_steps" abare_steps _ ["sky", "melt"] Fbare_steps := okbare_steps Dbare_steps cgrows crounds_from csettled_pack bi
    have cpack_at : CalD l.prog w K mg base (⟨[(pt_law_right, lq_law_right)], [ptis_row, ptis_sky]⟩ : Tabl) B 10 "pack_at" apack_at _ ["sky", "melt", "step"] Fpack_at := okpack_at Dpack_at cneed_sky cneed_integer cgrows csettled_pack cone_step crounds_from bi cs
    have cleast_melt : CalD l.prog w K mg base (⟨[(pt_law_right, lq_law_right)], [ptis_row, ptis_sky]⟩ : Tabl) B 10 "least_melt" aleast_melt _ ["sky"] Fleast_melt := okleast_melt Dleast_melt cneed_sky cgrows bi cs
    have c_law_dice : CalD l.prog w K mg base (⟨[(pt_law_right, lq_law_right)], [ptis_row, ptis_sky]⟩ : Tabl) B 2 "_law_dice" a_law_dice _ ["script", "spot"] F_law_dice := ok_law_dice D_law_dice bi
    have c_law_roll : CalI l.prog w K mg base (⟨[(pt_law_right, lq_law_right)], [ptis_row, ptis_sky]⟩ : Tabl) 2 "_law_roll" a_law_roll _ ["dice", "many"] F_law_roll := ok_law_roll D_law_roll bi
    have c_law_pick : CalI l.prog w K mg base (⟨[(pt_law_right, lq_law_right)], [ptis_row, ptis_sky]⟩ : Tabl) 3 "_law_pick" a_law_pick _ ["dice", "things"] F_law_pick := ok_law_pick D_law_pick c_law_roll bi
    have c_law_row : CalI l.prog w K mg base (⟨[(pt_law_right, lq_law_right)], [ptis_row, ptis_sky]⟩ : Tabl) 4 "_law_row" a_law_row _ ["dice", "size", "most"] F_law_row := ok_law_row D_law_row c_law_roll c_law_pick bi
    have c_law_snow : CalD l.prog w K mg base (⟨[(pt_law_right, lq_law_right)], [ptis_row, ptis_sky]⟩ : Tabl) B 2 "_law_snow" a_law_snow _ ["sky", "melt", "many"] F_law_snow := ok_law_snow D_law_snow bi
    have c_law_grown : CalD l.prog w K mg base (⟨[(pt_law_right, lq_law_right)], [ptis_row, ptis_sky]⟩ : Tabl) B 3 "_law_grown" a_law_grown _ ["sky", "melt"] F_law_grown := ok_law_grown D_law_grown c_law_snow bi
    have c_law_right : CalI l.prog w K mg base (⟨[(pt_law_right, lq_law_right)], [ptis_row, ptis_sky]⟩ : Tabl) 13 "_law_right" a_law_right _ ["dice"] F_law_right := ok_law_right D_law_right c_law_row c_law_roll c_law_snow csnow_course c_law_grown cgrows cwater_row cdeepest cbare_steps c_law_pick cpack_at cleast_melt cis_sky kbbare_steps_1 kbdeepest_1 kbgrows_1 kbleast_melt_0 kbpack_at_2 kbsnow_course_2 kbwater_row_1 bi rt rfl TB_law_right (by simp) (fun p hp e => by simp only [List.mem_cons, List.not_mem_nil, or_false] at hp; subst hp; rfl) (fun hp => by simp only [List.mem_cons, List.not_mem_nil, or_false] at hp; rcases hp with hp | hp <;> first | exact ne02.symm hp | exact ne12.symm hp)
    have claw : CalD l.prog w K mg base (⟨[(pt_law_right, lq_law_right)], [ptis_row, ptis_sky]⟩ : Tabl) B 14 "law" fa _ ["script"] Flaw := oklaw Dlaw c_law_right c_law_dice bi
    exact claw.ok
end K19
open PySem PySem.W PyProof.Rows
set_option maxRecDepth 100000 in
set_option maxHeartbeats 0 in
theorem PySem.Challenge.cw_rainkept_k19_whole_melts_holds : PySem.Challenge.rw_rainkept_k19_whole_melts.Holds := by
  w_on; o_law; k_head; (case hw => w_witness2)
  k_fill
  refine RK.walk_rk (l := PySem.Challenge.rw_rainkept_k19_whole_melts) (n := 63) (k := 14) (x := "script") (CX := fun w => L2.CX (PySem.Challenge.rw_rainkept_k19_whole_melts).prog w) rfl (by decide) rfl ⟨rfl, by decide, by decide⟩ (fun w h Y => by first | exact PySem.W.km_in_of Y | exact PySem.W.kIn_of Y) ?F (fun _ _ _ _ _ z => RK.cx_no z)
  case F =>
    intro w mg fa h KX G hmg all
    refine' K19.law_at rfl KX G hmg all K19.law_main ?aB ?xB ?saB ?noB ?iB ?tB ?kB ?eB ?vB ?tyB ?teB ?suB ?seB ?tpB ?nsB ?toB ?lI ?cI ?oI1 ?oI2 ?oI3 ?oI4 ?xfB ?gR ?lR ?cR ?kR ?gis_integer ?lis_integer ?dis_integer ?kis_integer ?gneed_integer ?lneed_integer ?dneed_integer ?kneed_integer ?gis_row ?lis_row ?dis_row ?kis_row ?tis_row ?pis_row ?nis_row ?his_row ?ris_row ?gis_sky ?lis_sky ?dis_sky ?kis_sky ?tis_sky ?pis_sky ?nis_sky ?his_sky ?ris_sky ?gneed_sky ?lneed_sky ?dneed_sky ?kneed_sky ?gone_step ?lone_step ?done_step ?kone_step ?grounds_from ?lrounds_from ?drounds_from ?krounds_from ?gsnow_course ?lsnow_course ?dsnow_course ?ksnow_course ?ggrows ?lgrows ?dgrows ?kgrows ?gsettled_pack ?lsettled_pack ?dsettled_pack ?ksettled_pack ?gwater_row ?lwater_row ?dwater_row ?kwater_row ?gdeepest ?ldeepest ?ddeepest ?kdeepest ?gbare_steps ?lbare_steps ?dbare_steps ?kbare_steps ?gpack_at ?lpack_at ?dpack_at ?kpack_at ?gleast_melt ?lleast_melt ?dleast_melt ?kleast_melt ?g_law_dice ?l_law_dice ?d_law_dice ?k_law_dice ?g_law_roll ?l_law_roll ?d_law_roll ?k_law_roll ?g_law_pick ?l_law_pick ?d_law_pick ?k_law_pick ?g_law_row ?l_law_row ?d_law_row ?k_law_row ?g_law_snow ?l_law_snow ?d_law_snow ?k_law_snow ?g_law_grown ?l_law_grown ?d_law_grown ?k_law_grown ?g_law_right ?l_law_right ?d_law_right ?k_law_right ?t_law_right ?p_law_right ?n_law_right ?h_law_right ?r_law_right ?glaw ?llaw ?dlaw ?klaw ?ne01 ?ne02 ?ne12 ?z_abs ?z_all ?z_bool ?z_int ?z_isinstance ?z_len ?z_max ?z_min ?z_range ?z_sum ?z_tuple ?z_zip ?y_MOST_AMOUNT ?y_MOST_MANY ?y_MOST_MELT ?y_MOST_ROW ?y_MOST_SKY ?y_MOST_STEP
    (case aB => first | k_is | rfl)
    (case xB => first | k_is | rfl)
    (case saB => first | k_is | rfl)
    (case noB => first | k_is | rfl)
    (case iB => first | k_is | rfl)
    (case tB => first | k_is | rfl)
    (case kB => first | k_is | rfl)
    (case eB => first | k_is | rfl)
    (case vB => first | k_is | rfl)
    (case tyB => first | k_is | rfl)
    (case teB => first | k_is | rfl)
    (case suB => first | k_is | rfl)
    (case seB => first | k_is | rfl)
    (case tpB => first | k_is | rfl)
    (case nsB => first | k_is | rfl)
    (case toB => first | rfl | decide +kernel | k_is)
    (case lI => first | k_is | rfl)
    (case cI => first | k_is | rfl)
    (case oI1 => first | k_is | rfl)
    (case oI2 => first | k_is | rfl)
    (case oI3 => first | rfl | decide +kernel | k_is)
    (case oI4 => first | k_is | rfl)
    (case xfB => first | k_is | rfl)
    (case gR => first | k_is | rfl)
    (case lR => first | k_is | rfl)
    (case cR => first | k_is | rfl)
    (case kR => first | k_is | rfl)
    (case gis_integer => first | k_is | rfl)
    (case lis_integer => first | k_is | rfl)
    (case dis_integer => first | k_is | rfl)
    (case kis_integer => first | k_is | rfl)
    (case gneed_integer => first | k_is | rfl)
    (case lneed_integer => first | k_is | rfl)
    (case dneed_integer => first | k_is | rfl)
    (case kneed_integer => first | k_is | rfl)
    (case gis_row => first | k_is | rfl)
    (case lis_row => first | k_is | rfl)
    (case dis_row => first | k_is | rfl)
    (case kis_row => first | k_is | rfl)
    (case tis_row => first | k_is | rfl)
    (case pis_row => first | k_is | rfl)
    (case nis_row => first | k_is | rfl)
    (case his_row => first | k_is | rfl)
    (case ris_row => first | decide +kernel | k_is)
    (case gis_sky => first | k_is | rfl)
    (case lis_sky => first | k_is | rfl)
    (case dis_sky => first | k_is | rfl)
    (case kis_sky => first | k_is | rfl)
    (case tis_sky => first | k_is | rfl)
    (case pis_sky => first | k_is | rfl)
    (case nis_sky => first | k_is | rfl)
    (case his_sky => first | k_is | rfl)
    (case ris_sky => first | decide +kernel | k_is)
    (case gneed_sky => first | k_is | rfl)
    (case lneed_sky => first | k_is | rfl)
    (case dneed_sky => first | k_is | rfl)
    (case kneed_sky => first | k_is | rfl)
    (case gone_step => first | k_is | rfl)
    (case lone_step => first | k_is | rfl)
    (case done_step => first | k_is | rfl)
    (case kone_step => first | k_is | rfl)
    (case grounds_from => first | k_is | rfl)
    (case lrounds_from => first | k_is | rfl)
    (case drounds_from => first | k_is | rfl)
    (case krounds_from => first | k_is | rfl)
    (case gsnow_course => first | k_is | rfl)
    (case lsnow_course => first | k_is | rfl)
    (case dsnow_course => first | k_is | rfl)
    (case ksnow_course => first | k_is | rfl)
    (case ggrows => first | k_is | rfl)
    (case lgrows => first | k_is | rfl)
    (case dgrows => first | k_is | rfl)
    (case kgrows => first | k_is | rfl)
    (case gsettled_pack => first | k_is | rfl)
    (case lsettled_pack => first | k_is | rfl)
    (case dsettled_pack => first | k_is | rfl)
    (case ksettled_pack => first | k_is | rfl)
    (case gwater_row => first | k_is | rfl)
    (case lwater_row => first | k_is | rfl)
    (case dwater_row => first | k_is | rfl)
    (case kwater_row => first | k_is | rfl)
    (case gdeepest => first | k_is | rfl)
    (case ldeepest => first | k_is | rfl)
    (case ddeepest => first | k_is | rfl)
    (case kdeepest => first | k_is | rfl)
    (case gbare_steps => first | k_is | rfl)
    (case lbare_steps => first | k_is | rfl)
    (case dbare_steps => first | k_is | rfl)
    (case kbare_steps => first | k_is | rfl)
    (case gpack_at => first | k_is | rfl)
    (case lpack_at => first | k_is | rfl)
    (case dpack_at => first | k_is | rfl)
    (case kpack_at => first | k_is | rfl)
    (case gleast_melt => first | k_is | rfl)
    (case lleast_melt => first | k_is | rfl)
    (case dleast_melt => first | k_is | rfl)
    (case kleast_melt => first | k_is | rfl)
    (case g_law_dice => first | k_is | rfl)
    (case l_law_dice => first | k_is | rfl)
    (case d_law_dice => first | k_is | rfl)
    (case k_law_dice => first | k_is | rfl)
    (case g_law_roll => first | k_is | rfl)
    (case l_law_roll => first | k_is | rfl)
    (case d_law_roll => first | k_is | rfl)
    (case k_law_roll => first | k_is | rfl)
    (case g_law_pick => first | k_is | rfl)
    (case l_law_pick => first | k_is | rfl)
    (case d_law_pick => first | k_is | rfl)
    (case k_law_pick => first | k_is | rfl)
    (case g_law_row => first | k_is | rfl)
    (case l_law_row => first | k_is | rfl)
    (case d_law_row => first | k_is | rfl)
    (case k_law_row => first | k_is | rfl)
    (case g_law_snow => first | k_is | rfl)
    (case l_law_snow => first | k_is | rfl)
    (case d_law_snow => first | k_is | rfl)
    (case k_law_snow => first | k_is | rfl)
    (case g_law_grown => first | k_is | rfl)
    (case l_law_grown => first | k_is | rfl)
    (case d_law_grown => first | k_is | rfl)
    (case k_law_grown => first | k_is | rfl)
    (case g_law_right => first | k_is | rfl)
    (case l_law_right => first | k_is | rfl)
    (case d_law_right => first | k_is | rfl)
    (case k_law_right => first | k_is | rfl)
    (case t_law_right => first | k_is | rfl)
    (case p_law_right => first | k_is | rfl)
    (case n_law_right => first | k_is | rfl)
    (case h_law_right => first | k_is | rfl)
    (case r_law_right => first | decide +kernel | k_is)
    (case glaw => first | k_is | rfl)
    (case llaw => first | k_is | rfl)
    (case dlaw => first | k_is | rfl)
    (case klaw => first | k_is | rfl)
    (case ne01 => decide)
    (case ne02 => decide)
    (case ne12 => decide)
    (case z_abs => first | k_is | rfl)
    (case z_all => first | k_is | rfl)
    (case z_bool => first | k_is | rfl)
    (case z_int => first | k_is | rfl)
    (case z_isinstance => first | k_is | rfl)
    (case z_len => first | k_is | rfl)
    (case z_max => first | k_is | rfl)
    (case z_min => first | k_is | rfl)
    (case z_range => first | k_is | rfl)
    (case z_sum => first | k_is | rfl)
    (case z_tuple => first | k_is | rfl)
    (case z_zip => first | k_is | rfl)
    (case y_MOST_AMOUNT => first | k_is | rfl)
    (case y_MOST_MANY => first | k_is | rfl)
    (case y_MOST_MELT => first | k_is | rfl)
    (case y_MOST_ROW => first | k_is | rfl)
    (case y_MOST_SKY => first | k_is | rfl)
    (case y_MOST_STEP => first | k_is | rfl)
