import PyProof.Rows.All
import Wide.All
import OpenK.AllK
import Wide.FinOn
import HandS.ForMost
import HandS.Evl
import HandS.Star
import HandS.Property
import HandS.SlotsOwn
import HandS.ClsMeth
import HandS.OwnEq
import HandS.IsInst
import KE.KOpsOwn
import KE.KFmtOwn
import HandS.Iter
import HandS.Zip
import HandS.List
import HandS.Text
import HandS.Wide
import PyProof.ReprRoads
import HandS.FStr
import HandS.Codes
import HandS.EndBits
import HandS.Defaults
import KE.KExcSuper
import HandS.Nested
import HandS.ExcInit
import HandS.ExcOwn
import HandS.TryOnly
import HandS.TupLe
import HandS.Style
import HandS.Exc
import HandS.ExcField
import HandS.ExcIs
import HandS.SetFor
import HandS.Strs
import HandS.Hot
import HandS.HotCalls
import HandS.ExcCtx
import KE.KExcInit
import KE.KExcLine
import PySem.Challenge.RW_slotmeans_k71_sign_runs
set_option Elab.async false
set_option linter.all false
set_option maxRecDepth 100000
set_option maxHeartbeats 1000000
/-! Z: data as trees over the hand layer: what is frozen, what a slot owns. -/
namespace Z
open PySem PySem.Spec PyProof.Rows L2 Evl
/-- a datum: what a Python value is, as a tree -/
inductive D where
  | non | bl (b : Bool) | int (i : Int) | str (s : Str) | ty (n : String) | obj (a : Addr)
  | lst (xs : List D) | tup (xs : List D) | ins (C : Addr) (fs : List (Str × D))
  /-- a set of ints (its members in any order, none twice), a dict with keys ints and texts -/
  | set (xs : List Int) | dct (kvs : List (Key × D))
  /-- a caught exception at a, its dict at dd, attributes of it -/
  | exc (a dd : Addr) (gs : List (Str × D))
/-- a set of ints as the heap tells it -/
def SetOf (S : Int → Bool) (n : Nat) (xs : List Int) : Prop := xs.Nodup ∧ n = xs.length ∧ ∀ k, S k = decide (k ∈ xs)
mutual
/-- a value stands for a datum, in the frozen heap F -/
inductive Rep (K : PySem.W.Frag) (F : Hp) : V → D → Prop where
  | non : Rep K F .non .non
  | bl (b : Bool) : Rep K F (.bl b) (.bl b)
  | int (i : Int) : Rep K F (.int i) (.int i)
  | str (s : Str) : Rep K F (.str s) (.str s)
  | ty (n : String) : Rep K F (.ty n) (.ty n)
  | obj (a : Addr) : Rep K F (.ref a) (.obj a)
  | lst {a : Addr} {vs : List V} {xs : List D} (h : SqL K F a vs) (r : Reps K F vs xs) : Rep K F (.ref a) (.lst xs)
  | tup {a : Addr} {vs : List V} {xs : List D} (h : SqT K F a vs) (r : Reps K F vs xs) : Rep K F (.ref a) (.tup xs)
  | ins {a C dx : Addr} {fs : List (Str × V)} {gs : List (Str × D)} (h : F a = some (.ins C dx fs)) (r : RepF K F fs gs) : Rep K F (.ref a) (.ins C gs)
  | set {a : Addr} {S : Int → Bool} {n : Nat} {xs : List Int} (h : F a = some (.set S n)) (r : SetOf S n xs) : Rep K F (.ref a) (.set xs)
  | dct {a : Addr} {vs : List (Key × V)} {ds : List (Key × D)} (h : F a = some (.dK vs)) (r : RepK K F vs ds) : Rep K F (.ref a) (.dct ds)
  | exc {a dd : Addr} {fs vs : List (Str × V)} {gs : List (Str × D)} (h : F dd = some (.xd fs)) (l : ∀ f v, vs.lookup f = some v → fs.lookup f = some v) (r : RepF K F vs gs) : Rep K F (.ref a) (.exc a dd gs)
inductive Reps (K : PySem.W.Frag) (F : Hp) : List V → List D → Prop where
  | nil : Reps K F [] []
  | cons {v : V} {d : D} {vs : List V} {ds : List D} (r : Rep K F v d) (t : Reps K F vs ds) : Reps K F (v :: vs) (d :: ds)
inductive RepF (K : PySem.W.Frag) (F : Hp) : List (Str × V) → List (Str × D) → Prop where
  | nil : RepF K F [] []
  | cons (f : Str) {v : V} {d : D} {fs : List (Str × V)} {gs : List (Str × D)} (r : Rep K F v d) (t : RepF K F fs gs) : RepF K F ((f, v) :: fs) ((f, d) :: gs)
inductive RepK (K : PySem.W.Frag) (F : Hp) : List (Key × V) → List (Key × D) → Prop where
  | nil : RepK K F [] []
  | cons (f : Key) {v : V} {d : D} {fs : List (Key × V)} {gs : List (Key × D)} (r : Rep K F v d) (t : RepK K F fs gs) : RepK K F ((f, v) :: fs) ((f, d) :: gs)
end
section
variable {K : PySem.W.Frag} {F F' : Hp}
mutual
theorem Rep.mono (e : Ex F F') : ∀ {v : V} {d : D}, Rep K F v d → Rep K F' v d
  | _, _, .non => .non
  | _, _, .bl b => .bl b
  | _, _, .int i => .int i
  | _, _, .str s => .str s
  | _, _, .ty n => .ty n
  | _, _, .obj a => .obj a
  | _, _, .lst h r => .lst (ex_l e h) (Reps.mono e r)
  | _, _, .tup h r => .tup (ex_t e h) (Reps.mono e r)
  | _, _, .ins h r => .ins (e _ _ h) (RepF.mono e r)
  | _, _, .set h r => .set (e _ _ h) r
  | _, _, .dct h r => .dct (e _ _ h) (RepK.mono e r)
  | _, _, .exc h l r => .exc (e _ _ h) l (RepF.mono e r)
theorem Reps.mono (e : Ex F F') : ∀ {vs : List V} {ds : List D}, Reps K F vs ds → Reps K F' vs ds
  | _, _, .nil => .nil
  | _, _, .cons r t => .cons (Rep.mono e r) (Reps.mono e t)
theorem RepF.mono (e : Ex F F') : ∀ {fs : List (Str × V)} {gs : List (Str × D)}, RepF K F fs gs → RepF K F' fs gs
  | _, _, .nil => .nil
  | _, _, .cons f r t => .cons f (Rep.mono e r) (RepF.mono e t)
theorem RepK.mono (e : Ex F F') : ∀ {fs : List (Key × V)} {gs : List (Key × D)}, RepK K F fs gs → RepK K F' fs gs
  | _, _, .nil => .nil
  | _, _, .cons f r t => .cons f (Rep.mono e r) (RepK.mono e t)
end
theorem Reps.length : ∀ {vs : List V} {ds : List D}, Reps K F vs ds → vs.length = ds.length
  | _, _, .nil => rfl
  | _, _, .cons _ t => by rw [List.length_cons, List.length_cons, Reps.length t]
theorem Reps.append : ∀ {vs ws : List V} {ds es : List D}, Reps K F vs ds → Reps K F ws es → Reps K F (vs ++ ws) (ds ++ es)
  | _, _, _, _, .nil, s => s
  | _, _, _, _, .cons r t, s => .cons r (Reps.append t s)
theorem Reps.get : ∀ {vs : List V} {ds : List D} {i : Nat} {d : D}, Reps K F vs ds → ds[i]? = some d → ∃ v, vs[i]? = some v ∧ Rep K F v d
  | _, _, _, _, .nil, e => by simp at e
  | _, _, 0, _, .cons r _, e => by simp at e; subst e; exact ⟨_, rfl, r⟩
  | _, _, i + 1, d, .cons _ t, e => by
    obtain ⟨v, h1, h2⟩ := Reps.get (i := i) (d := d) t (by simpa using e)
    exact ⟨v, by simpa using h1, h2⟩
theorem Reps.getV : ∀ {vs : List V} {ds : List D} {i : Nat} {v : V}, Reps K F vs ds → vs[i]? = some v → ∃ d, ds[i]? = some d ∧ Rep K F v d
  | _, _, _, _, .nil, e => by simp at e
  | _, _, 0, _, .cons r _, e => by simp at e; subst e; exact ⟨_, rfl, r⟩
  | _, _, i + 1, v, .cons _ t, e => by
    obtain ⟨d, h1, h2⟩ := Reps.getV (i := i) (v := v) t (by simpa using e)
    exact ⟨d, by simpa using h1, h2⟩
theorem Reps.take : ∀ {vs : List V} {ds : List D} (n : Nat), Reps K F vs ds → Reps K F (vs.take n) (ds.take n)
  | _, _, 0, _ => .nil
  | _, _, _ + 1, .nil => .nil
  | _, _, n + 1, .cons r t => .cons r (Reps.take n t)
theorem Reps.drop : ∀ {vs : List V} {ds : List D} (n : Nat), Reps K F vs ds → Reps K F (vs.drop n) (ds.drop n)
  | _, _, 0, r => r
  | _, _, _ + 1, .nil => .nil
  | _, _, n + 1, .cons _ t => Reps.drop n t
theorem Reps.set : ∀ {vs : List V} {ds : List D} (n : Nat) {v : V} {d : D}, Reps K F vs ds → Rep K F v d → Reps K F (vs.set n v) (ds.set n d)
  | _, _, _, _, _, .nil, _ => .nil
  | _, _, 0, _, _, .cons _ t, r => .cons r t
  | _, _, n + 1, _, _, .cons q t, r => .cons q (Reps.set n t r)
theorem Reps.eraseIdx : ∀ {vs : List V} {ds : List D} (n : Nat), Reps K F vs ds → Reps K F (vs.eraseIdx n) (ds.eraseIdx n)
  | _, _, _, .nil => .nil
  | _, _, 0, .cons _ t => t
  | _, _, n + 1, .cons q t => .cons q (Reps.eraseIdx n t)
theorem Reps.reverse {vs : List V} {ds : List D} (r : Reps K F vs ds) : Reps K F vs.reverse ds.reverse := by
  induction vs generalizing ds with
  | nil => cases r; exact .nil
  | cons v vs ih =>
    cases r with
    | cons r t =>
      rw [List.reverse_cons, List.reverse_cons]
      exact Reps.append (ih t) (.cons r .nil)
theorem Reps.dropLast {vs : List V} {ds : List D} (r : Reps K F vs ds) : Reps K F vs.dropLast ds.dropLast := by
  rw [List.dropLast_eq_take, List.dropLast_eq_take, r.length]
  exact r.take _
theorem Reps.ints : ∀ (ns : List Int), Reps K F (ns.map V.int) (ns.map D.int)
  | [] => .nil
  | n :: r => .cons (.int n) (Reps.ints r)
theorem Reps.ints_of : ∀ {vs : List V} {ns : List Int}, Reps K F vs (ns.map D.int) → vs = ns.map V.int
  | _, [], .nil => rfl
  | _, n :: r, .cons h t => by cases h; rw [Reps.ints_of t]; rfl
theorem Reps.bls_of : ∀ {vs : List V} {ns : List Bool}, Reps K F vs (ns.map D.bl) → vs = ns.map V.bl
  | _, [], .nil => rfl
  | _, n :: r, .cons h t => by cases h; rw [Reps.bls_of t]; rfl
theorem Reps.strs_of : ∀ {vs : List V} {ns : List Str}, Reps K F vs (ns.map D.str) → vs = ns.map V.str
  | _, [], .nil => rfl
  | _, n :: r, .cons h t => by cases h; rw [Reps.strs_of t]; rfl
theorem RepF.length : ∀ {vs : List (Str × V)} {ds : List (Str × D)}, RepF K F vs ds → vs.length = ds.length
  | _, _, .nil => rfl
  | _, _, .cons _ _ t => by rw [List.length_cons, List.length_cons, RepF.length t]
theorem RepF.look {f : Str} {d : D} : ∀ {fs : List (Str × V)} {gs : List (Str × D)}, RepF K F fs gs → gs.lookup f = some d → ∃ v, fs.lookup f = some v ∧ Rep K F v d
  | _, _, .nil, e => by cases e
  | _, _, .cons g (v := v) (d := d') (fs := fs) (gs := gs) r t, e => by
    by_cases hg : f = g
    · have hb : (f == g) = true := beq_iff_eq.mpr hg
      simp only [List.lookup, hb] at e ⊢
      cases e
      exact ⟨v, rfl, r⟩
    · have hb : (f == g) = false := beq_eq_false_iff_ne.mpr hg
      simp only [List.lookup, hb] at e ⊢
      exact RepF.look t e
theorem RepF.look_none {f : Str} : ∀ {fs : List (Str × V)} {gs : List (Str × D)}, RepF K F fs gs → gs.lookup f = none → fs.lookup f = none
  | _, _, .nil, _ => rfl
  | _, _, .cons g (v := v) (d := d') (fs := fs) (gs := gs) r t, e => by
    by_cases hg : f = g
    · have hb : (f == g) = true := beq_iff_eq.mpr hg
      simp only [List.lookup, hb] at e
      cases e
    · have hb : (f == g) = false := beq_eq_false_iff_ne.mpr hg
      simp only [List.lookup, hb] at e ⊢
      exact RepF.look_none t e
/-- the attributes with one stored -/
def putG (f : Str) (v : D) : List (Str × D) → List (Str × D)
  | [] => [(f, v)]
  | (g, x) :: r => if g = f then (g, v) :: r else (g, x) :: putG f v r
theorem RepF.put {f : Str} {v : V} {d : D} (r : Rep K F v d) : ∀ {fs : List (Str × V)} {gs : List (Str × D)}, RepF K F fs gs → RepF K F (putF f v fs) (putG f d gs)
  | _, _, .nil => .cons f r .nil
  | _, _, .cons g (v := w) (d := e) (fs := fs) (gs := gs) q t => by
    by_cases hg : g = f
    · show RepF K F (if g = f then (g, v) :: fs else (g, w) :: putF f v fs) (if g = f then (g, d) :: gs else (g, e) :: putG f d gs)
      rw [if_pos hg, if_pos hg]
      exact .cons g r t
    · show RepF K F (if g = f then (g, v) :: fs else (g, w) :: putF f v fs) (if g = f then (g, d) :: gs else (g, e) :: putG f d gs)
      rw [if_neg hg, if_neg hg]
      exact .cons g q (RepF.put r t)
end
/-! ### slots -/
/-- a slot: nothing, a frozen datum, an object that the slot alone owns -/
inductive SV where
  | un | im (d : D) | own (d : D)
abbrev Env := List SV
/-- the object at p is a d that may be changed; its parts are frozen -/
def OwnAt (K : PySem.W.Frag) (F H : Hp) (p : Addr) : D → Prop
  | .lst xs => ∃ vs, H p = some (.lst vs) ∧ Reps K F vs xs
  | .ins C gs => ∃ dx fs, H p = some (.ins C dx fs) ∧ RepF K F fs gs
  | .set xs => ∃ S n, H p = some (.set S n) ∧ SetOf S n xs
  | .dct ds => ∃ vs, H p = some (.dK vs) ∧ RepK K F vs ds
  | _ => False
def Owns (ρ : Env) (σ : L2.St) (a : Addr) : Prop := ∃ (i : Nat) (d : D), ρ[i]? = some (.own d) ∧ σ[i]? = some (some (.ref a))
structure Rel (K : PySem.W.Frag) (F : Hp) (ρ : Env) (σ : L2.St) (H : Hp) : Prop where
  ex : Ex F H
  len : σ.length = ρ.length
  im : ∀ (i : Nat) (d : D), ρ[i]? = some (.im d) → ∃ v, σ[i]? = some (some v) ∧ Rep K F v d
  own : ∀ (i : Nat) (d : D), ρ[i]? = some (.own d) → ∃ p, σ[i]? = some (some (.ref p)) ∧ F p = none ∧ OwnAt K F H p d
  inj : ∀ (i j : Nat) (d e : D) (p : Addr), ρ[i]? = some (.own d) → ρ[j]? = some (.own e) → σ[i]? = some (some (.ref p)) → σ[j]? = some (some (.ref p)) → i = j
/-- from a state to a later one: what no slot owns is as it was -/
structure Stp (ρ : Env) (σ : L2.St) (F H : Hp) (ρ' : Env) (σ' : L2.St) (F' H' : Hp) : Prop where
  keep : ∀ a o, H a = some o → ¬ Owns ρ σ a → H' a = some o ∧ F' a = F a
  own : ∀ a, Owns ρ' σ' a → Owns ρ σ a ∨ H a = none
  dom : ∀ a, H a ≠ none → H' a ≠ none
theorem OwnAt.ob {K : PySem.W.Frag} {F H : Hp} {p : Addr} {d : D} (h : OwnAt K F H p d) : ∃ o, H p = some o := by
  cases d with
  | lst xs => obtain ⟨vs, h, _⟩ := h; exact ⟨_, h⟩
  | ins C gs => obtain ⟨dx, fs, h, _⟩ := h; exact ⟨_, h⟩
  | set xs => obtain ⟨S, n, h, _⟩ := h; exact ⟨_, h⟩
  | dct ds => obtain ⟨vs, h, _⟩ := h; exact ⟨_, h⟩
  | _ => exact (show False from h).elim
theorem OwnAt.at {K : PySem.W.Frag} {F F' H H' : Hp} {p : Addr} {d : D} (h : OwnAt K F H p d) (e : Ex F F') (hp : H' p = H p) : OwnAt K F' H' p d := by
  cases d with
  | lst xs => obtain ⟨vs, h, r⟩ := h; exact ⟨vs, hp.trans h, r.mono e⟩
  | ins C gs => obtain ⟨dx, fs, h, r⟩ := h; exact ⟨dx, fs, hp.trans h, r.mono e⟩
  | set xs => obtain ⟨S, n, h, r⟩ := h; exact ⟨S, n, hp.trans h, r⟩
  | dct ds => obtain ⟨vs, h, r⟩ := h; exact ⟨vs, hp.trans h, r.mono e⟩
  | _ => exact (show False from h).elim
section
variable {K : PySem.W.Frag} {F F1 F2 H H1 H2 : Hp} {ρ ρ1 ρ2 : Env} {σ σ1 σ2 : L2.St}
theorem Rel.unowned (r : Rel K F ρ σ H) {a : Addr} {o : HO} (h : F a = some o) : ¬ Owns ρ σ a := fun ⟨i, d, hi, hs⟩ => by
  obtain ⟨p, hp, hn, _⟩ := r.own i d hi
  rw [hs] at hp
  cases hp
  rw [h] at hn
  cases hn
theorem Rel.owned (r : Rel K F ρ σ H) {a : Addr} (h : Owns ρ σ a) : F a = none ∧ ∃ o, H a = some o := by
  obtain ⟨i, d, hi, hs⟩ := h
  obtain ⟨p, hp, hn, ho⟩ := r.own i d hi
  rw [hs] at hp
  cases hp
  exact ⟨hn, ho.ob⟩
/-- what is not there is not owned -/
theorem Rel.new (r : Rel K F ρ σ H) {a : Addr} (h : H a = none) : ¬ Owns ρ σ a := fun z => by
  obtain ⟨_, o, e⟩ := r.owned z
  rw [h] at e
  cases e
theorem Rel.newF (r : Rel K F ρ σ H) {a : Addr} (h : H a = none) : F a = none := by
  cases e : F a with
  | none => rfl
  | some o =>
    have := r.ex a o e
    rw [h] at this
    cases this
theorem Stp.ex (s : Stp ρ σ F H ρ1 σ1 F1 H1) (r : Rel K F ρ σ H) : Ex F F1 := fun a o h => by
  have e := (s.keep a o (r.ex a o h) (r.unowned h)).2
  rw [e, h]
theorem Stp.refl : Stp ρ σ F H ρ σ F H := ⟨fun a o h _ => ⟨h, rfl⟩, fun a h => .inl h, fun a h => h⟩
theorem Stp.trans (r : Rel K F ρ σ H) (s : Stp ρ σ F H ρ1 σ1 F1 H1) (t : Stp ρ1 σ1 F1 H1 ρ2 σ2 F2 H2) : Stp ρ σ F H ρ2 σ2 F2 H2 := by
  refine ⟨fun a o h n => ?_, fun a h => ?_, fun a h => t.dom a (s.dom a h)⟩
  · obtain ⟨e1, e2⟩ := s.keep a o h n
    have n1 : ¬ Owns ρ1 σ1 a := fun z => by
      rcases s.own a z with z | z
      · exact n z
      · rw [h] at z; cases z
    obtain ⟨e3, e4⟩ := t.keep a o e1 n1
    exact ⟨e3, e4.trans e2⟩
  · rcases t.own a h with z | z
    · exact s.own a z
    · refine .inr ?_
      cases e : H a with
      | none => rfl
      | some o => exact absurd z (s.dom a (by rw [e]; exact fun z => by cases z))
end
/-! ### results -/
/-- a result: frozen, a new object of nobody's yet, or the object that slot i owns -/
inductive R where
  | im (d : D) | fr (d : D) | sl (i : Nat)
/-- v is the result r; H_0: the heap ahead of it -/
def RepR (K : PySem.W.Frag) (F H0 H : Hp) (ρ : Env) (σ : L2.St) (v : V) : R → Prop
  | .im d => Rep K F v d
  | .fr d => ∃ p, v = .ref p ∧ F p = none ∧ H0 p = none ∧ OwnAt K F H p d ∧ ¬ Owns ρ σ p
  | .sl i => σ[i]? = some (some v)
/-- what a result holds -/
def R.con (ρ : Env) : R → Option D
  | .im d => some d
  | .fr d => some d
  | .sl i => match ρ[i]? with
    | some (.own d) => some d
    | some (.im d) => some d
    | _ => none
/-- a value read as d in H -/
def Con (K : PySem.W.Frag) (F H : Hp) (v : V) (d : D) : Prop := Rep K F v d ∨ ∃ p, v = .ref p ∧ OwnAt K F H p d
section
variable {K : PySem.W.Frag} {F F1 F2 H0 H H1 H2 : Hp} {ρ ρ1 ρ2 : Env} {σ σ1 σ2 : L2.St} {v : V} {r : R} {d : D}
theorem RepR.con (q : RepR K F H0 H ρ σ v r) (rel : Rel K F ρ σ H) (h : r.con ρ = some d) : Con K F H v d := by
  cases r with
  | im e => cases h; exact .inl q
  | fr e => cases h; obtain ⟨p, e1, _, _, o, _⟩ := q; exact .inr ⟨p, e1, o⟩
  | sl i =>
    have q : σ[i]? = some (some v) := q
    cases he : ρ[i]? with
    | none => simp only [R.con, he] at h; cases h
    | some sv =>
      cases sv with
      | un => simp only [R.con, he] at h; cases h
      | own e =>
        simp only [R.con, he] at h
        cases h
        obtain ⟨p, hp, _, o⟩ := rel.own i _ he
        rw [q] at hp
        cases hp
        exact .inr ⟨p, rfl, o⟩
      | im e =>
        simp only [R.con, he] at h
        cases h
        obtain ⟨w, hw, o⟩ := rel.im i _ he
        rw [q] at hw
        cases hw
        exact .inl o
/-- a result stays a result -/
theorem RepR.step (q : RepR K F H0 H ρ σ v r) (rel : Rel K F ρ σ H) (s : Stp ρ σ F H ρ1 σ F1 H1) : RepR K F1 H0 H1 ρ1 σ v r := by
  cases r with
  | im e => exact Rep.mono (s.ex rel) q
  | fr e =>
    obtain ⟨p, e1, f, h0, o, n⟩ := q
    obtain ⟨u, hu⟩ := o.ob
    obtain ⟨k1, k2⟩ := s.keep p u hu n
    refine ⟨p, e1, k2.trans f, h0, o.at (s.ex rel) (k1.trans hu.symm), fun z => ?_⟩
    rcases s.own p z with z | z
    · exact n z
    · rw [hu] at z; cases z
  | sl i => exact q
theorem RepR.back (q : RepR K F H H1 ρ1 σ1 v r) (s : Stp ρ σ F1 H0 ρ2 σ2 F2 H) : RepR K F H0 H1 ρ1 σ1 v r := by
  cases r with
  | im e => exact q
  | fr e =>
    obtain ⟨p, e1, f, h0, o, n⟩ := q
    refine ⟨p, e1, f, ?_, o, n⟩
    cases e : H0 p with
    | none => rfl
    | some o => exact absurd h0 (s.dom p (by rw [e]; exact fun z => by cases z))
  | sl i => exact q
theorem Con.lst {xs : List D} (c : Con K F H v (.lst xs)) (e : Ex F H) : ∃ a vs, v = .ref a ∧ SqL K H a vs ∧ Reps K F vs xs := by
  rcases c with c | ⟨p, rfl, vs, h, r⟩
  · cases c with
    | lst h r => exact ⟨_, _, rfl, ex_l e h, r⟩
  · exact ⟨p, vs, rfl, sq_of h, r⟩
theorem Con.tup {xs : List D} (c : Con K F H v (.tup xs)) (e : Ex F H) : ∃ a vs, v = .ref a ∧ SqT K H a vs ∧ Reps K F vs xs := by
  rcases c with c | ⟨p, rfl, h⟩
  · cases c with
    | tup h r => exact ⟨_, _, rfl, ex_t e h, r⟩
  · exact (show False from h).elim
theorem Con.ins {C : Addr} {gs : List (Str × D)} (c : Con K F H v (.ins C gs)) (e : Ex F H) : ∃ a dx fs, v = .ref a ∧ H a = some (.ins C dx fs) ∧ RepF K F fs gs := by
  rcases c with c | ⟨p, rfl, dx, fs, h, r⟩
  · cases c with
    | ins h r => exact ⟨_, _, _, rfl, e _ _ h, r⟩
  · exact ⟨p, dx, fs, rfl, h, r⟩
theorem Con.set {xs : List Int} (c : Con K F H v (.set xs)) (e : Ex F H) : ∃ a S n, v = .ref a ∧ H a = some (.set S n) ∧ SetOf S n xs := by
  rcases c with c | ⟨p, rfl, S, n, h, r⟩
  · cases c with
    | set h r => exact ⟨_, _, _, rfl, e _ _ h, r⟩
  · exact ⟨p, S, n, rfl, h, r⟩
theorem Con.dct {ds : List (Key × D)} (c : Con K F H v (.dct ds)) (e : Ex F H) : ∃ a vs, v = .ref a ∧ H a = some (.dK vs) ∧ RepK K F vs ds := by
  rcases c with c | ⟨p, rfl, vs, h, r⟩
  · cases c with
    | dct h r => exact ⟨_, _, rfl, e _ _ h, r⟩
  · exact ⟨p, vs, rfl, h, r⟩
end
/-! ### frozen: an owned or new object is frozen -/
section
variable {K : PySem.W.Frag} {F F1 H0 H H1 : Hp} {ρ ρ1 : Env} {σ : L2.St} {v : V} {d : D} {p : Addr}
theorem ex_put {o : HO} (hn : F p = none) : Ex F (upd F p o) := Ex.new hn
theorem OwnAt.rep {o : HO} (h : OwnAt K F H p d) (hp : H p = some o) (hn : F p = none) : Rep K (upd F p o) (.ref p) d := by
  cases d with
  | lst xs =>
    obtain ⟨vs, h, r⟩ := h
    rw [hp] at h
    cases h
    exact .lst (sq_of upd_same) (r.mono (ex_put hn))
  | ins C gs =>
    obtain ⟨dx, fs, h, r⟩ := h
    rw [hp] at h
    cases h
    exact .ins upd_same (r.mono (ex_put hn))
  | set xs =>
    obtain ⟨S, n, h, r⟩ := h
    rw [hp] at h
    cases h
    exact .set upd_same r
  | dct ds =>
    obtain ⟨vs, h, r⟩ := h
    rw [hp] at h
    cases h
    exact .dct upd_same (r.mono (ex_put hn))
  | _ => exact (show False from h).elim
theorem ex_upd {o : HO} (e : Ex F H) (hp : H p = some o) : Ex (upd F p o) H := fun a u h => by
  unfold upd at h
  split at h
  · rename_i q
    cases h
    rw [q]
    exact hp
  · exact e a u h
/-- a new object of nobody's is frozen -/
theorem Rel.freeze (r : Rel K F ρ σ H) {o : HO} (hp : H p = some o) (hn : F p = none) (no : ¬ Owns ρ σ p) : Rel K (upd F p o) ρ σ H := by
  refine ⟨ex_upd r.ex hp, r.len, fun i d h => ?_, fun i d h => ?_, r.inj⟩
  · obtain ⟨v, h1, h2⟩ := r.im i d h
    exact ⟨v, h1, h2.mono (ex_put hn)⟩
  · obtain ⟨q, h1, h2, h3⟩ := r.own i d h
    refine ⟨q, h1, ?_, h3.at (ex_put hn) rfl⟩
    rw [upd_ne (fun z => no ⟨i, d, h, by rw [h1, z]⟩)]
    exact h2
theorem Stp.freeze {o : HO} (h0 : H0 p = none) (s : Stp ρ σ F H0 ρ1 σ F1 H) : Stp ρ σ F H0 ρ1 σ (upd F1 p o) H := by
  refine ⟨fun a u h n => ?_, s.own, s.dom⟩
  obtain ⟨k1, k2⟩ := s.keep a u h n
  refine ⟨k1, ?_⟩
  rw [upd_ne (ne_of_none h h0)]
  exact k2
/-- the object of slot i is frozen -/
theorem Rel.freezeS (r : Rel K F ρ σ H) {i : Nat} (hi : ρ[i]? = some (.own d)) (hs : σ[i]? = some (some (.ref p))) {o : HO} (hp : H p = some o) : Rel K (upd F p o) (ρ.set i (.im d)) σ H ∧ Rep K (upd F p o) (.ref p) d ∧ F p = none := by
  obtain ⟨q, hq, hn, ho⟩ := r.own i d hi
  rw [hs] at hq
  cases hq
  have hil : i < ρ.length := (List.getElem?_eq_some_iff.mp hi).1
  have rp := ho.rep hp hn
  refine ⟨⟨ex_upd r.ex hp, by rw [List.length_set]; exact r.len, fun j e h => ?_, fun j e h => ?_, fun j k e f q hj hk h1 h2 => ?_⟩, rp, hn⟩
  · by_cases hj : j = i
    · subst hj
      rw [List.getElem?_set_self hil] at h
      cases h
      exact ⟨_, hs, rp⟩
    · rw [List.getElem?_set_ne (Ne.symm hj)] at h
      obtain ⟨v, h1, h2⟩ := r.im j e h
      exact ⟨v, h1, h2.mono (ex_put hn)⟩
  · have hj : j ≠ i := fun z => by
      subst z
      rw [List.getElem?_set_self hil] at h
      cases h
    rw [List.getElem?_set_ne (Ne.symm hj)] at h
    obtain ⟨q, h1, h2, h3⟩ := r.own j e h
    refine ⟨q, h1, ?_, h3.at (ex_put hn) rfl⟩
    rw [upd_ne (fun z => hj (r.inj j i e d p h hi (by rw [h1, z]) hs))]
    exact h2
  · have nj : ∀ {l : Nat} {g : D}, (ρ.set i (.im d))[l]? = some (.own g) → ρ[l]? = some (.own g) := fun {l g} h => by
      by_cases hl : l = i
      · subst hl
        rw [List.getElem?_set_self hil] at h
        cases h
      · rw [List.getElem?_set_ne (Ne.symm hl)] at h
        exact h
    exact r.inj j k e f q (nj hj) (nj hk) h1 h2
theorem owns_set {i : Nat} {s : SV} (hs : ∀ d, s ≠ .own d) {a : Addr} (h : Owns (ρ.set i s) σ a) : Owns ρ σ a := by
  obtain ⟨j, e, h1, h2⟩ := h
  by_cases hj : j = i
  · subst hj
    by_cases hl : j < ρ.length
    · rw [List.getElem?_set_self hl] at h1
      exact absurd (Option.some.inj h1) (hs e)
    · rw [List.getElem?_eq_none (by rw [List.length_set]; omega)] at h1
      cases h1
  · rw [List.getElem?_set_ne (Ne.symm hj)] at h1
    exact ⟨j, e, h1, h2⟩
end
end Z
set_option maxRecDepth 100000
set_option maxHeartbeats 1000000
/-! Z1: judgements over data: expressions. -/
namespace Z
open PySem PySem.Spec PyProof.Rows L2 Evl
/-! ### the readings -/
def tE (K : PySem.W.Frag) (ρ : Env) (r : R) (ρ' : Env) : TE := fun σ H Q => ∃ F, Rel K F ρ σ H ∧
  ∀ v F' H', Rel K F' ρ' σ H' → Stp ρ σ F H ρ' σ F' H' → RepR K F' H H' ρ' σ v r → Q v H'
def tT (K : PySem.W.Frag) (ρ : Env) (b : Bool) (ρ' : Env) : TT := fun σ H Q => ∃ F, Rel K F ρ σ H ∧
  ∀ F' H', Rel K F' ρ' σ H' → Stp ρ σ F H ρ' σ F' H' → Q b H'
/-- arguments, all frozen -/
def tD (K : PySem.W.Frag) (ρ : Env) (ds : List D) (ρ' : Env) : TA := fun σ H Q => ∃ F, Rel K F ρ σ H ∧
  ∀ vs F' H', Rel K F' ρ' σ H' → Stp ρ σ F H ρ' σ F' H' → Reps K F' vs ds → Q vs H'
/-- arguments, the first one any result -/
def tD1 (K : PySem.W.Frag) (ρ : Env) (r : R) (ds : List D) (ρ' : Env) : TA := fun σ H Q => ∃ F, Rel K F ρ σ H ∧
  ∀ v vs F' H', Rel K F' ρ' σ H' → Stp ρ σ F H ρ' σ F' H' → RepR K F' H H' ρ' σ v r → Reps K F' vs ds → Q (v :: vs) H'
abbrev WE (X : Cx) (e : Expr) (ρ : Env) (r : R) (ρ' : Env) : Prop := PE X e (tE X.K ρ r ρ')
abbrev WT (X : Cx) (e : Expr) (ρ : Env) (b : Bool) (ρ' : Env) : Prop := PT X e (tT X.K ρ b ρ')
abbrev WW (X : Cx) (e : Expr) (ρ : Env) (b : Bool) (ρ' : Env) : Prop := PW X e (tT X.K ρ b ρ')
abbrev WA (X : Cx) (es : List Expr) (ρ : Env) (ds : List D) (ρ' : Env) : Prop := PA X es (tD X.K ρ ds ρ')
abbrev WA1 (X : Cx) (es : List Expr) (ρ : Env) (r : R) (ds : List D) (ρ' : Env) : Prop := PA X es (tD1 X.K ρ r ds ρ')
theorem PE.imp {X : Cx} {e : Expr} {t t' : TE} (h : PE X e t) (m : ∀ σ H Q, t' σ H Q → t σ H Q) : PE X e t' := ⟨fun pins s σ H Q I q => h.run pins s σ H Q I (m σ H Q q)⟩
theorem PT.imp {X : Cx} {e : Expr} {t t' : TT} (h : PT X e t) (m : ∀ σ H Q, t' σ H Q → t σ H Q) : PT X e t' := ⟨fun pins s σ H Q I q => h.run pins s σ H Q I (m σ H Q q)⟩
theorem PW.imp {X : Cx} {e : Expr} {t t' : TT} (h : PW X e t) (m : ∀ σ H Q, t' σ H Q → t σ H Q) : PW X e t' := ⟨fun wh pins s σ H Q I q => h.run wh pins s σ H Q I (m σ H Q q)⟩
theorem PA.imp {X : Cx} {es : List Expr} {t t' : TA} (h : PA X es t) (m : ∀ σ H Q, t' σ H Q → t σ H Q) : PA X es t' := ⟨fun pos pins s σ H Q I q => h.run pos pins s σ H Q I (m σ H Q q)⟩
theorem PS.imp {X : Cx} {st : Stmt} {t t' : TS} (h : PS X st t) (m : ∀ D σ H, t' D σ H → t D σ H) : PS X st t' := ⟨fun pins s σ H D I q => h.run pins s σ H D I (m D σ H q)⟩
theorem PSs.imp {X : Cx} {st : List Stmt} {t t' : TS} (h : PSs X st t) (m : ∀ D σ H, t' D σ H → t D σ H) : PSs X st t' := ⟨fun pins s σ H D I q => h.run pins s σ H D I (m D σ H q)⟩
/-! ### new objects -/
section
variable {K : PySem.W.Frag} {F H : Hp} {ρ : Env} {σ : L2.St} {p : Addr} {o : HO}
theorem ex_new (e : Ex F H) (hp : H p = none) : Ex F (upd H p o) := e.trans (Ex.new hp)
theorem Rel.alloc (r : Rel K F ρ σ H) (hp : H p = none) : Rel K F ρ σ (upd H p o) := by
  refine ⟨ex_new r.ex hp, r.len, r.im, fun i d h => ?_, r.inj⟩
  obtain ⟨q, h1, h2, h3⟩ := r.own i d h
  obtain ⟨u, hu⟩ := h3.ob
  exact ⟨q, h1, h2, h3.at (Ex.refl F) (upd_ne (ne_of_none hu hp))⟩
theorem Stp.alloc (hp : H p = none) : Stp ρ σ F H ρ σ F (upd H p o) := by
  refine ⟨fun a u h _ => ⟨by rw [upd_ne (ne_of_none h hp)]; exact h, rfl⟩, fun a h => .inl h, fun a h => ?_⟩
  by_cases q : a = p
  · rw [q, upd_same]; exact fun z => by cases z
  · rw [upd_ne q]; exact h
/-- a new object, frozen at once -/
theorem Rel.allocF (r : Rel K F ρ σ H) (hp : H p = none) : Rel K (upd F p o) ρ σ (upd H p o) := (r.alloc hp).freeze upd_same (r.newF hp) (r.new hp)
theorem Stp.allocF (hp : H p = none) : Stp ρ σ F H ρ σ (upd F p o) (upd H p o) := Stp.freeze hp (Stp.alloc hp)
end
section
variable {X : Cx} {a b c e : Expr} {es : List Expr} {pos : Pos} {ρ ρ1 ρ2 ρ3 : Env} {r r1 r2 : R} {d d1 d2 : D}
/-! ### constants and names -/
theorem tE_val {K : PySem.W.Frag} {σ : L2.St} {H : Hp} {Q : VK} {v : V} (h : tE K ρ (.im d) ρ σ H Q) (q : ∀ F, Rep K F v d) : Q v H :=
  let ⟨F, rel, k⟩ := h
  k v F H rel Stp.refl (q F)
theorem we_val {v : V} (h : PE X e (tC v)) (q : ∀ F, Rep X.K F v d) : WE X e ρ (.im d) ρ := PE.imp h fun _ _ _ z => tE_val z q
theorem we_int {i : Int} {j} : WE X (.Constant (.int i) j pos) ρ (.im (.int i)) ρ := we_val pe_int fun _ => .int i
theorem we_bl {b : Bool} {j} : WE X (.Constant (.bool b) j pos) ρ (.im (.bl b)) ρ := we_val pe_bl fun _ => .bl b
theorem we_non {j} : WE X (.Constant .none j pos) ρ (.im .non) ρ := we_val pe_non fun _ => .non
theorem we_str {x : Str} {j} : WE X (.Constant (.str x) j pos) ρ (.im (.str x)) ρ := we_val pe_str fun _ => .str x
/-- a name whose slot is frozen -/
theorem we_name {i : Nat} {x : Str} (hN : X.N[i]? = some x := by rfl) (hv : Vis X.env.scope x := by first | exact .inl rfl | exact .inr (.inl rfl) | exact .inr (.inr rfl)) (hi : ρ[i]? = some (.im d) := by rfl)
    (hd : (x == ("__debug__" : Str)) = false := by decide) (hcd : (x == ("__classdict__" : Str)) = false := by decide) : WE X (.Name x pos) ρ (.im d) ρ :=
  PE.imp (pe_var hN hv hd hcd) fun σ H Q ⟨F, rel, k⟩ => by
    obtain ⟨v, h1, h2⟩ := rel.im i d hi
    exact ⟨v, h1, k v F H rel Stp.refl h2⟩
/-- a name whose slot owns its object: the object itself -/
theorem we_nameO {i : Nat} {x : Str} (hN : X.N[i]? = some x := by rfl) (hv : Vis X.env.scope x := by first | exact .inl rfl | exact .inr (.inl rfl) | exact .inr (.inr rfl)) (hi : ρ[i]? = some (.own d) := by rfl)
    (hd : (x == ("__debug__" : Str)) = false := by decide) (hcd : (x == ("__classdict__" : Str)) = false := by decide) : WE X (.Name x pos) ρ (.sl i) ρ :=
  PE.imp (pe_var hN hv hd hcd) fun σ H Q ⟨F, rel, k⟩ => by
    obtain ⟨p, h1, _, _⟩ := rel.own i d hi
    exact ⟨.ref p, h1, k _ F H rel Stp.refl h1⟩
/-- .. and it is frozen by that -/
theorem we_frz {i : Nat} (h : WE X e ρ (.sl i) ρ1) (hi : ρ1[i]? = some (.own d) := by rfl) : WE X e ρ (.im d) (ρ1.set i (.im d)) :=
  PE.imp h fun σ H Q ⟨F, rel, k⟩ => ⟨F, rel, fun v F' H' rel' st q => by
    obtain ⟨p, h1, h2, h3⟩ := rel'.own i d hi
    have q : σ[i]? = some (some v) := q
    rw [q] at h1
    cases h1
    obtain ⟨o, ho⟩ := h3.ob
    obtain ⟨rel2, rp, hn⟩ := rel'.freezeS hi q ho
    have ow : Owns ρ σ p ∨ H p = none := st.own p ⟨i, d, hi, q⟩
    refine k _ (upd F' p o) H' rel2 ⟨fun a u hu n => ?_, fun a z => st.own a (owns_set (fun d z => by cases z) z), st.dom⟩ rp
    obtain ⟨k1, k2⟩ := st.keep a u hu n
    refine ⟨k1, ?_⟩
    rw [upd_ne (fun z => ?_)]
    · exact k2
    · subst z
      rcases ow with z | z
      · exact n z
      · rw [hu] at z; cases z⟩
theorem we_nameF {i : Nat} {x : Str} (hN : X.N[i]? = some x := by rfl) (hv : Vis X.env.scope x := by first | exact .inl rfl | exact .inr (.inl rfl) | exact .inr (.inr rfl)) (hi : ρ[i]? = some (.own d) := by rfl)
    (hd : (x == ("__debug__" : Str)) = false := by decide) (hcd : (x == ("__classdict__" : Str)) = false := by decide) : WE X (.Name x pos) ρ (.im d) (ρ.set i (.im d)) := we_frz (we_nameO hN hv hi hd hcd) hi
/-- a new object is frozen -/
theorem we_im (h : WE X e ρ (.fr d) ρ1) : WE X e ρ (.im d) ρ1 :=
  PE.imp h fun σ H Q ⟨F, rel, k⟩ => ⟨F, rel, fun v F' H' rel' st ⟨p, e1, f, h0, o, n⟩ => by
    subst e1
    obtain ⟨u, hu⟩ := o.ob
    exact k _ (upd F' p u) H' (rel'.freeze hu f n) (Stp.freeze h0 st) (o.rep hu f)⟩
theorem we_glob {x : Str} {v : V} {u : Value} (hg : Gl X x) (hm : X.mg x = some u) (rv : RelV v u) (q : ∀ F, Rep X.K F v d) (hd : (x == ("__debug__" : Str)) = false := by decide) : WE X (.Name x pos) ρ (.im d) ρ :=
  we_val (pe_glob hg hm rv hd) q
theorem we_bltn {x : Str} {v : V} {u : Value} (hg : Gl X x) (hm : X.mg x = none) (hv : bootBuiltins x = some u) (rv : RelV v u) (q : ∀ F, Rep X.K F v d) (hn : x ≠ "__name__" := by decide) (hd : (x == ("__debug__" : Str)) = false := by decide) :
    WE X (.Name x pos) ρ (.im d) ρ := we_val (pe_bltn hg hm hv rv hn hd) q
/-! ### two operands -/
/-- an operation on two values, by what they hold -/
def VOp2 (X : Cx) (f : R2) (d1 d2 : D) (ρ : Env) (r : R) (ρ' : Env) : Prop := ∀ (σ : L2.St) (F H : Hp) (x y : V) (Q : VK), Rel X.K F ρ σ H → Con X.K F H x d1 → Con X.K F H y d2 →
  (∀ v F' H', Rel X.K F' ρ' σ H' → Stp ρ σ F H ρ' σ F' H' → RepR X.K F' H H' ρ' σ v r → Q v H') → f x y H Q
def VOp1 (X : Cx) (f : V → Hp → VK → Prop) (d1 : D) (ρ : Env) (r : R) (ρ' : Env) : Prop := ∀ (σ : L2.St) (F H : Hp) (x : V) (Q : VK), Rel X.K F ρ σ H → Con X.K F H x d1 →
  (∀ v F' H', Rel X.K F' ρ' σ H' → Stp ρ σ F H ρ' σ F' H' → RepR X.K F' H H' ρ' σ v r → Q v H') → f x H Q
theorem run2 {f : R2} (hv : VOp2 X f d1 d2 ρ2 r ρ3) (ca : r1.con ρ2 = some d1) (cb : r2.con ρ2 = some d2) {σ : L2.St} {H : Hp} {Q : VK} (h : tE X.K ρ r ρ3 σ H Q) :
    tE X.K ρ r1 ρ1 σ H fun x H1 => tE X.K ρ1 r2 ρ2 σ H1 fun y H2 => f x y H2 Q := by
  obtain ⟨F, rel, k⟩ := h
  refine ⟨F, rel, fun x F1 H1 rel1 st1 q1 => ⟨F1, rel1, fun y F2 H2 rel2 st2 q2 => ?_⟩⟩
  have st := st1.trans rel st2
  refine hv σ F2 H2 x y Q rel2 ((q1.step rel1 st2).con rel2 ca) (q2.con rel2 cb) fun v F3 H3 rel3 st3 q3 => ?_
  exact k v F3 H3 rel3 (st.trans rel st3) (RepR.back q3 st)
theorem we_bin {op : Operator} {f : R2} (ho : OpR X (binaryOp op) f) (ha : WE X a ρ r1 ρ1) (hb : WE X b ρ1 r2 ρ2) (hv : VOp2 X f d1 d2 ρ2 r ρ3) (ca : r1.con ρ2 = some d1 := by rfl) (cb : r2.con ρ2 = some d2 := by rfl) : WE X (.BinOp a op b pos) ρ r ρ3 :=
  PE.imp (pe_op ho ha hb) fun _ _ _ h => run2 hv ca cb h
theorem we_cmp {op : CmpOp} {f : R2} (ho : OpR X (compareOp op) f) (ha : WE X a ρ r1 ρ1) (hb : WE X b ρ1 r2 ρ2) (hv : VOp2 X f d1 d2 ρ2 r ρ3) (hm : behindInMarks op b = false) (ca : r1.con ρ2 = some d1 := by rfl) (cb : r2.con ρ2 = some d2 := by rfl) :
    WE X (.Compare a [op] [b] pos) ρ r ρ3 :=
  PE.imp (pe_cmpR ho ha hb hm) fun _ _ _ h => run2 hv ca cb h
/-- an expression whose value is a bool, as a test -/
theorem tT_bl {K : PySem.W.Frag} {b : Bool} {σ : L2.St} {H : Hp} {Q : Bool → Hp → Prop} (h : tT K ρ b ρ1 σ H Q) : tE K ρ (.im (.bl b)) ρ1 σ H fun x H1 => ∃ k, x = .bl k ∧ Q k H1 :=
  let ⟨F, rel, k⟩ := h
  ⟨F, rel, fun v F' H' rel' st q => by
    have q : Rep K F' v (.bl b) := q
    cases q
    exact ⟨b, rfl, k F' H' rel' st⟩⟩
theorem wt_cmp {op : CmpOp} {f : R2} {k : Bool} (ho : OpR X (compareOp op) f) (ha : WE X a ρ r1 ρ1) (hb : WE X b ρ1 r2 ρ2) (hv : VOp2 X f d1 d2 ρ2 (.im (.bl k)) ρ3) (hm : behindInMarks op b = false) (ca : r1.con ρ2 = some d1 := by rfl) (cb : r2.con ρ2 = some d2 := by rfl) :
    WT X (.Compare a [op] [b] pos) ρ k ρ3 :=
  PT.imp (pt_cmpR ho ha hb hm) fun _ _ _ h => run2 hv ca cb (tT_bl h)
theorem wt_val {k : Bool} (h : WE X e ρ (.im (.bl k)) ρ1) (he : ∀ whole, isTrue e X.env whole = (do let v ← whole; standAt e.pos; holding [v] (truthy v)) := by intro _; rfl) : WT X e ρ k ρ1 := PT.imp (pt_val h he) fun _ _ _ h => tT_bl h
theorem Con.int {K : PySem.W.Frag} {F H : Hp} {v : V} {i : Int} (c : Con K F H v (.int i)) : v = .int i := by
  rcases c with c | ⟨_, _, h⟩
  · cases c; rfl
  · exact (show False from h).elim
theorem Con.bl {K : PySem.W.Frag} {F H : Hp} {v : V} {i : Bool} (c : Con K F H v (.bl i)) : v = .bl i := by
  rcases c with c | ⟨_, _, h⟩
  · cases c; rfl
  · exact (show False from h).elim
theorem Con.str {K : PySem.W.Frag} {F H : Hp} {v : V} {i : Str} (c : Con K F H v (.str i)) : v = .str i := by
  rcases c with c | ⟨_, _, h⟩
  · cases c; rfl
  · exact (show False from h).elim
theorem Con.non {K : PySem.W.Frag} {F H : Hp} {v : V} (c : Con K F H v .non) : v = .non := by
  rcases c with c | ⟨_, _, h⟩
  · cases c; rfl
  · exact (show False from h).elim
theorem Con.ty {K : PySem.W.Frag} {F H : Hp} {v : V} {n : String} (c : Con K F H v (.ty n)) : v = .ty n := by
  rcases c with c | ⟨_, _, h⟩
  · cases c; rfl
  · exact (show False from h).elim
theorem Con.obj {K : PySem.W.Frag} {F H : Hp} {v : V} {a : Addr} (c : Con K F H v (.obj a)) : v = .ref a := by
  rcases c with c | ⟨_, _, h⟩
  · cases c; rfl
  · exact (show False from h).elim
theorem vop_I0 {g : Int → Int → V} {i j : Int} (q : ∀ F, Rep X.K F (g i j) d) : VOp2 X (rI0 g) (.int i) (.int j) ρ (.im d) ρ := fun σ F H x y Q rel c1 c2 k => by
  cases c1.int
  cases c2.int
  exact ⟨i, j, rfl, rfl, k _ F H rel Stp.refl (q F)⟩
theorem vop_I {C : Int → Int → Prop} {g : Int → Int → V} {i j : Int} (hc : C i j) (q : ∀ F, Rep X.K F (g i j) d) : VOp2 X (rI C g) (.int i) (.int j) ρ (.im d) ρ := fun σ F H x y Q rel c1 c2 k => by
  cases c1.int
  cases c2.int
  exact ⟨i, j, rfl, rfl, hc, k _ F H rel Stp.refl (q F)⟩
section
variable {i j : Int}
theorem we_add (ha : WE X a ρ r1 ρ1) (hb : WE X b ρ1 r2 ρ2) (ca : r1.con ρ2 = some (.int i) := by rfl) (cb : r2.con ρ2 = some (.int j) := by rfl) : WE X (.BinOp a .Add b pos) ρ (.im (.int (i + j))) ρ2 := we_bin op_add ha hb (vop_I0 fun _ => .int _) ca cb
theorem we_sub (ha : WE X a ρ r1 ρ1) (hb : WE X b ρ1 r2 ρ2) (ca : r1.con ρ2 = some (.int i) := by rfl) (cb : r2.con ρ2 = some (.int j) := by rfl) : WE X (.BinOp a .Sub b pos) ρ (.im (.int (i - j))) ρ2 := we_bin op_sub ha hb (vop_I0 fun _ => .int _) ca cb
theorem we_mul (ha : WE X a ρ r1 ρ1) (hb : WE X b ρ1 r2 ρ2) (ca : r1.con ρ2 = some (.int i) := by rfl) (cb : r2.con ρ2 = some (.int j) := by rfl) (hc : CMul i j := by first | rfl | decide | omega | assumption | exact ⟨by omega, by omega⟩ | exact ⟨by decide, by decide, by decide⟩ | exact .inr (by decide) | exact .inl (by omega)) : WE X (.BinOp a .Mult b pos) ρ (.im (.int (i * j))) ρ2 := we_bin op_mul ha hb (vop_I hc fun _ => .int _) ca cb
theorem we_mod (ha : WE X a ρ r1 ρ1) (hb : WE X b ρ1 r2 ρ2) (ca : r1.con ρ2 = some (.int i) := by rfl) (cb : r2.con ρ2 = some (.int j) := by rfl) (hc : 0 < j := by first | rfl | decide | omega | assumption | exact ⟨by omega, by omega⟩ | exact ⟨by decide, by decide, by decide⟩ | exact .inr (by decide) | exact .inl (by omega)) : WE X (.BinOp a .Mod b pos) ρ (.im (.int (i % j))) ρ2 := we_bin op_mod ha hb (vop_I hc fun _ => .int _) ca cb
theorem we_fdiv (ha : WE X a ρ r1 ρ1) (hb : WE X b ρ1 r2 ρ2) (ca : r1.con ρ2 = some (.int i) := by rfl) (cb : r2.con ρ2 = some (.int j) := by rfl) (hc : CDiv i j := by first | rfl | decide | omega | assumption | exact ⟨by omega, by omega⟩ | exact ⟨by decide, by decide, by decide⟩ | exact .inr (by decide) | exact .inl (by omega)) : WE X (.BinOp a .FloorDiv b pos) ρ (.im (.int (i / j))) ρ2 := we_bin op_fdiv ha hb (vop_I hc fun _ => .int _) ca cb
theorem we_pow (ha : WE X a ρ r1 ρ1) (hb : WE X b ρ1 r2 ρ2) (ca : r1.con ρ2 = some (.int i) := by rfl) (cb : r2.con ρ2 = some (.int j) := by rfl) (hc : CPow i j := by first | rfl | decide | omega | assumption | exact ⟨by omega, by omega⟩ | exact ⟨by decide, by decide, by decide⟩ | exact .inr (by decide) | exact .inl (by omega)) : WE X (.BinOp a .Pow b pos) ρ (.im (.int (i ^ j.toNat))) ρ2 := we_bin op_pow ha hb (vop_I hc fun _ => .int _) ca cb
theorem we_lt (ha : WE X a ρ r1 ρ1) (hb : WE X b ρ1 r2 ρ2) (ca : r1.con ρ2 = some (.int i) := by rfl) (cb : r2.con ρ2 = some (.int j) := by rfl) : WE X (.Compare a [.Lt] [b] pos) ρ (.im (.bl (decide (i < j)))) ρ2 := we_cmp op_lt ha hb (vop_I0 fun _ => .bl _) (nomark _) ca cb
theorem we_le (ha : WE X a ρ r1 ρ1) (hb : WE X b ρ1 r2 ρ2) (ca : r1.con ρ2 = some (.int i) := by rfl) (cb : r2.con ρ2 = some (.int j) := by rfl) : WE X (.Compare a [.LtE] [b] pos) ρ (.im (.bl (decide (i ≤ j)))) ρ2 := we_cmp op_le ha hb (vop_I0 fun _ => .bl _) (nomark _) ca cb
theorem we_gt (ha : WE X a ρ r1 ρ1) (hb : WE X b ρ1 r2 ρ2) (ca : r1.con ρ2 = some (.int i) := by rfl) (cb : r2.con ρ2 = some (.int j) := by rfl) : WE X (.Compare a [.Gt] [b] pos) ρ (.im (.bl (decide (j < i)))) ρ2 := we_cmp op_gt ha hb (vop_I0 fun _ => .bl _) (nomark _) ca cb
theorem we_ge (ha : WE X a ρ r1 ρ1) (hb : WE X b ρ1 r2 ρ2) (ca : r1.con ρ2 = some (.int i) := by rfl) (cb : r2.con ρ2 = some (.int j) := by rfl) : WE X (.Compare a [.GtE] [b] pos) ρ (.im (.bl (decide (j ≤ i)))) ρ2 := we_cmp op_ge ha hb (vop_I0 fun _ => .bl _) (nomark _) ca cb
theorem wt_lt (ha : WE X a ρ r1 ρ1) (hb : WE X b ρ1 r2 ρ2) (ca : r1.con ρ2 = some (.int i) := by rfl) (cb : r2.con ρ2 = some (.int j) := by rfl) : WT X (.Compare a [.Lt] [b] pos) ρ (decide (i < j)) ρ2 := wt_cmp op_lt ha hb (vop_I0 fun _ => .bl _) (nomark _) ca cb
theorem wt_le (ha : WE X a ρ r1 ρ1) (hb : WE X b ρ1 r2 ρ2) (ca : r1.con ρ2 = some (.int i) := by rfl) (cb : r2.con ρ2 = some (.int j) := by rfl) : WT X (.Compare a [.LtE] [b] pos) ρ (decide (i ≤ j)) ρ2 := wt_cmp op_le ha hb (vop_I0 fun _ => .bl _) (nomark _) ca cb
theorem wt_gt (ha : WE X a ρ r1 ρ1) (hb : WE X b ρ1 r2 ρ2) (ca : r1.con ρ2 = some (.int i) := by rfl) (cb : r2.con ρ2 = some (.int j) := by rfl) : WT X (.Compare a [.Gt] [b] pos) ρ (decide (j < i)) ρ2 := wt_cmp op_gt ha hb (vop_I0 fun _ => .bl _) (nomark _) ca cb
theorem wt_ge (ha : WE X a ρ r1 ρ1) (hb : WE X b ρ1 r2 ρ2) (ca : r1.con ρ2 = some (.int i) := by rfl) (cb : r2.con ρ2 = some (.int j) := by rfl) : WT X (.Compare a [.GtE] [b] pos) ρ (decide (j ≤ i)) ρ2 := wt_cmp op_ge ha hb (vop_I0 fun _ => .bl _) (nomark _) ca cb
end
/-- scalars that == tells apart -/
def D.sc : D → Option V
  | .non => some .non | .bl b => some (.bl b) | .int i => some (.int i) | .str s => some (.str s) | _ => none
theorem Con.sc {K : PySem.W.Frag} {F H : Hp} {v w : V} (c : Con K F H v d) (h : d.sc = some w) : v = w := by
  cases d <;> simp only [D.sc] at h <;> first
    | (cases h; exact c.non)
    | (cases h; exact c.bl)
    | (cases h; exact c.int)
    | (cases h; exact c.str)
    | cases h
theorem vop_eq {x y : V} (h1 : d1.sc = some x) (h2 : d2.sc = some y) (hs : scal x y = true) : VOp2 X rEq d1 d2 ρ (.im (.bl (decide (x = y)))) ρ := fun σ F H x' y' Q rel c1 c2 k => by
  cases c1.sc h1
  cases c2.sc h2
  exact ⟨hs, k _ F H rel Stp.refl (.bl _)⟩
theorem vop_ne {x y : V} (h1 : d1.sc = some x) (h2 : d2.sc = some y) (hs : scal x y = true) : VOp2 X rNe d1 d2 ρ (.im (.bl (!decide (x = y)))) ρ := fun σ F H x' y' Q rel c1 c2 k => by
  cases c1.sc h1
  cases c2.sc h2
  exact ⟨hs, k _ F H rel Stp.refl (.bl _)⟩
section
variable {x y : V}
theorem we_eq (ha : WE X a ρ r1 ρ1) (hb : WE X b ρ1 r2 ρ2) (ca : r1.con ρ2 = some d1 := by rfl) (cb : r2.con ρ2 = some d2 := by rfl) (h1 : d1.sc = some x := by rfl) (h2 : d2.sc = some y := by rfl) (hs : scal x y = true := by rfl) : WE X (.Compare a [.Eq] [b] pos) ρ (.im (.bl (decide (x = y)))) ρ2 := we_cmp op_eq ha hb (vop_eq h1 h2 hs) (nomark _) ca cb
theorem we_ne (ha : WE X a ρ r1 ρ1) (hb : WE X b ρ1 r2 ρ2) (ca : r1.con ρ2 = some d1 := by rfl) (cb : r2.con ρ2 = some d2 := by rfl) (h1 : d1.sc = some x := by rfl) (h2 : d2.sc = some y := by rfl) (hs : scal x y = true := by rfl) : WE X (.Compare a [.NotEq] [b] pos) ρ (.im (.bl (!decide (x = y)))) ρ2 := we_cmp op_ne ha hb (vop_ne h1 h2 hs) (nomark _) ca cb
theorem wt_eq (ha : WE X a ρ r1 ρ1) (hb : WE X b ρ1 r2 ρ2) (ca : r1.con ρ2 = some d1 := by rfl) (cb : r2.con ρ2 = some d2 := by rfl) (h1 : d1.sc = some x := by rfl) (h2 : d2.sc = some y := by rfl) (hs : scal x y = true := by rfl) : WT X (.Compare a [.Eq] [b] pos) ρ (decide (x = y)) ρ2 := wt_cmp op_eq ha hb (vop_eq h1 h2 hs) (nomark _) ca cb
theorem wt_ne (ha : WE X a ρ r1 ρ1) (hb : WE X b ρ1 r2 ρ2) (ca : r1.con ρ2 = some d1 := by rfl) (cb : r2.con ρ2 = some d2 := by rfl) (h1 : d1.sc = some x := by rfl) (h2 : d2.sc = some y := by rfl) (hs : scal x y = true := by rfl) : WT X (.Compare a [.NotEq] [b] pos) ρ (!decide (x = y)) ρ2 := wt_cmp op_ne ha hb (vop_ne h1 h2 hs) (nomark _) ca cb
end
def D.isNon : D → Bool
  | .non => true
  | _ => false
theorem Con.isNon {K : PySem.W.Frag} {F H : Hp} {v : V} (c : Con K F H v d) : decide (v = V.non) = d.isNon := by
  rcases c with c | ⟨p, rfl, o⟩
  · cases c <;> simp [D.isNon]
  · cases d <;> first
      | exact (show False from o).elim
      | simp [D.isNon]
theorem vop_isN : VOp2 X (fun x y H Q => y = .non ∧ Q (.bl (decide (x = .non))) H) d1 .non ρ (.im (.bl d1.isNon)) ρ := fun σ F H x y Q rel c1 c2 k => ⟨c2.non, k _ F H rel Stp.refl (by rw [c1.isNon]; exact .bl _)⟩
theorem vop_notN : VOp2 X (fun x y H Q => y = .non ∧ Q (.bl (!decide (x = .non))) H) d1 .non ρ (.im (.bl (!d1.isNon))) ρ := fun σ F H x y Q rel c1 c2 k => ⟨c2.non, k _ F H rel Stp.refl (by rw [c1.isNon]; exact .bl _)⟩
theorem we_isN (ha : WE X a ρ r1 ρ1) (hb : WE X b ρ1 (.im .non) ρ2) (ca : r1.con ρ2 = some d1 := by rfl) : WE X (.Compare a [.Is] [b] pos) ρ (.im (.bl d1.isNon)) ρ2 := we_cmp op_isN ha hb vop_isN (nomark _) ca rfl
theorem we_notN (ha : WE X a ρ r1 ρ1) (hb : WE X b ρ1 (.im .non) ρ2) (ca : r1.con ρ2 = some d1 := by rfl) : WE X (.Compare a [.IsNot] [b] pos) ρ (.im (.bl (!d1.isNon))) ρ2 := we_cmp op_notN ha hb vop_notN (nomark _) ca rfl
/-! ### one operand -/
theorem run1 {f : V → Hp → VK → Prop} (hv : VOp1 X f d1 ρ1 r ρ2) (ca : r1.con ρ1 = some d1) {σ : L2.St} {H : Hp} {Q : VK} (h : tE X.K ρ r ρ2 σ H Q) : tE X.K ρ r1 ρ1 σ H fun x H1 => f x H1 Q := by
  obtain ⟨F, rel, k⟩ := h
  refine ⟨F, rel, fun x F1 H1 rel1 st1 q1 => ?_⟩
  refine hv σ F1 H1 x Q rel1 (q1.con rel1 ca) fun v F3 H3 rel3 st3 q3 => ?_
  exact k v F3 H3 rel3 (st1.trans rel st3) (RepR.back q3 st1)
theorem we_un {op : UnaryOp} {f : V → Hp → VK → Prop} (ho : UnR X (unaryOp op) f) (ha : WE X a ρ r1 ρ1) (hv : VOp1 X f d1 ρ1 r ρ2) (ca : r1.con ρ1 = some d1 := by rfl) : WE X (.UnaryOp op a pos) ρ r ρ2 :=
  PE.imp (pe_un ho ha) fun _ _ _ h => run1 hv ca h
theorem we_neg {i : Int} (ha : WE X a ρ r1 ρ1) (ca : r1.con ρ1 = some (.int i) := by rfl) : WE X (.UnaryOp .USub a pos) ρ (.im (.int (-i))) ρ1 :=
  we_un un_neg ha (fun σ F H x Q rel c k => by cases c.int; exact ⟨i, rfl, k _ F H rel Stp.refl (.int _)⟩) ca
/-! ### tests -/
theorem tT_mono {K : PySem.W.Frag} {σ : L2.St} {H : Hp} {b : Bool} {Q Q' : Bool → Hp → Prop} (h : tT K ρ b ρ1 σ H Q) (m : ∀ H', Q b H' → Q' b H') : tT K ρ b ρ1 σ H Q' :=
  let ⟨F, rel, k⟩ := h
  ⟨F, rel, fun F' H' rel' st => m H' (k F' H' rel' st)⟩
theorem wt_not {k : Bool} (h : WT X a ρ k ρ1) : WT X (.UnaryOp .Not a pos) ρ (!k) ρ1 := PT.imp (pt_not h) fun σ H Q ⟨F, rel, q⟩ => ⟨F, rel, fun F' H' rel' st => q F' H' rel' st⟩
theorem we_not {k : Bool} (h : WE X a ρ (.im (.bl k)) ρ1) : WE X (.UnaryOp .Not a pos) ρ (.im (.bl (!k))) ρ1 := PE.imp (pe_not h) fun σ H Q ⟨F, rel, q⟩ => ⟨F, rel, fun v F' H' rel' st z => by
  have z : Rep X.K F' v (.bl k) := z
  cases z
  exact ⟨k, rfl, q _ F' H' rel' st (.bl _)⟩⟩
theorem ww_and1 {k : Bool} (ha : WT X a ρ k ρ1) : WW X (.BoolOp .And [a] pos) ρ k ρ1 := pw_and1 ha
theorem ww_or1 {k : Bool} (ha : WT X a ρ k ρ1) : WW X (.BoolOp .Or [a] pos) ρ k ρ1 := pw_or1 ha
/-- and: the second only where the first holds; then it changes no slot -/
theorem ww_and {k l : Bool} {rest : List Expr} (ha : WT X a ρ k ρ1) (hb : k = true → WW X (.BoolOp .And (b :: rest) pos) ρ1 l ρ1) : WW X (.BoolOp .And (a :: b :: rest) pos) ρ (k && l) ρ1 := by
  cases k with
  | true =>
    refine PW.imp (pw_and ha (hb rfl)) fun σ H Q ⟨F, rel, q⟩ => ⟨F, rel, fun F' H' rel' st => ?_⟩
    show tT X.K ρ1 l ρ1 σ H' Q
    exact ⟨F', rel', fun F2 H2 rel2 st2 => q F2 H2 rel2 (st.trans rel st2)⟩
  | false =>
    refine PW.imp (pw_and (tB' := fun _ _ _ => False) ha ⟨fun _ _ _ _ _ _ _ z => z.elim⟩) fun σ H Q ⟨F, rel, q⟩ => ⟨F, rel, fun F' H' rel' st => ?_⟩
    show Q false H'
    exact q F' H' rel' st
theorem ww_or {k l : Bool} {rest : List Expr} (ha : WT X a ρ k ρ1) (hb : k = false → WW X (.BoolOp .Or (b :: rest) pos) ρ1 l ρ1) : WW X (.BoolOp .Or (a :: b :: rest) pos) ρ (k || l) ρ1 := by
  cases k with
  | false =>
    refine PW.imp (pw_or ha (hb rfl)) fun σ H Q ⟨F, rel, q⟩ => ⟨F, rel, fun F' H' rel' st => ?_⟩
    show tT X.K ρ1 l ρ1 σ H' Q
    exact ⟨F', rel', fun F2 H2 rel2 st2 => q F2 H2 rel2 (st.trans rel st2)⟩
  | true =>
    refine PW.imp (pw_or (tB' := fun _ _ _ => False) ha ⟨fun _ _ _ _ _ _ _ z => z.elim⟩) fun σ H Q ⟨F, rel, q⟩ => ⟨F, rel, fun F' H' rel' st => ?_⟩
    show Q true H'
    exact q F' H' rel' st
theorem wt_of {k : Bool} (h : WW X e ρ k ρ1) : WT X e ρ k ρ1 := h.pt
/-- and, or as values: bools -/
theorem we_one {op : PySem.BoolOp} (h : WE X a ρ r ρ1) : WE X (.BoolOp op [a] pos) ρ r ρ1 := pe_one h
theorem we_and {k l : Bool} {rest : List Expr} (ha : WE X a ρ (.im (.bl k)) ρ1) (hb : k = true → WE X (.BoolOp .And (b :: rest) pos) ρ1 (.im (.bl l)) ρ1) : WE X (.BoolOp .And (a :: b :: rest) pos) ρ (.im (.bl (k && l))) ρ1 := by
  cases k with
  | true =>
    refine PE.imp (pe_and ha (hb rfl)) fun σ H Q ⟨F, rel, q⟩ => ⟨F, rel, fun v F' H' rel' st z => ?_⟩
    have z : Rep X.K F' v (.bl true) := z
    cases z
    refine ⟨true, rfl, ?_⟩
    show tE X.K ρ1 (.im (.bl l)) ρ1 σ H' Q
    exact ⟨F', rel', fun w F2 H2 rel2 st2 z => q w F2 H2 rel2 (st.trans rel st2) z⟩
  | false =>
    refine PE.imp (pe_and (tb := fun _ _ _ => False) ha ⟨fun _ _ _ _ _ _ z => z.elim⟩) fun σ H Q ⟨F, rel, q⟩ => ⟨F, rel, fun v F' H' rel' st z => ?_⟩
    have z : Rep X.K F' v (.bl false) := z
    cases z
    exact ⟨false, rfl, q _ F' H' rel' st (.bl _)⟩
theorem we_or {k l : Bool} {rest : List Expr} (ha : WE X a ρ (.im (.bl k)) ρ1) (hb : k = false → WE X (.BoolOp .Or (b :: rest) pos) ρ1 (.im (.bl l)) ρ1) : WE X (.BoolOp .Or (a :: b :: rest) pos) ρ (.im (.bl (k || l))) ρ1 := by
  cases k with
  | false =>
    refine PE.imp (pe_or ha (hb rfl)) fun σ H Q ⟨F, rel, q⟩ => ⟨F, rel, fun v F' H' rel' st z => ?_⟩
    have z : Rep X.K F' v (.bl false) := z
    cases z
    refine ⟨false, rfl, ?_⟩
    show tE X.K ρ1 (.im (.bl l)) ρ1 σ H' Q
    exact ⟨F', rel', fun w F2 H2 rel2 st2 z => q w F2 H2 rel2 (st.trans rel st2) z⟩
  | true =>
    refine PE.imp (pe_or (tb := fun _ _ _ => False) ha ⟨fun _ _ _ _ _ _ z => z.elim⟩) fun σ H Q ⟨F, rel, q⟩ => ⟨F, rel, fun v F' H' rel' st z => ?_⟩
    have z : Rep X.K F' v (.bl true) := z
    cases z
    exact ⟨true, rfl, q _ F' H' rel' st (.bl _)⟩
/-- a if t else b, by the test's outcome -/
theorem we_if {k : Bool} (hc : WT X c ρ k ρ1) (ha : k = true → WE X a ρ1 r ρ2) (hb : k = false → WE X b ρ1 r ρ2) : WE X (.IfExp c a b pos) ρ r ρ2 := by
  cases k with
  | true =>
    refine PE.imp (pe_ifExp (tb := fun _ _ _ => False) hc (ha rfl) ⟨fun _ _ _ _ _ _ z => z.elim⟩) fun σ H Q ⟨F, rel, q⟩ => ⟨F, rel, fun F' H' rel' st => ?_⟩
    show tE X.K ρ1 r ρ2 σ H' Q
    exact ⟨F', rel', fun w F2 H2 rel2 st2 z => q w F2 H2 rel2 (st.trans rel st2) (RepR.back z st)⟩
  | false =>
    refine PE.imp (pe_ifExp (ta := fun _ _ _ => False) hc ⟨fun _ _ _ _ _ _ z => z.elim⟩ (hb rfl)) fun σ H Q ⟨F, rel, q⟩ => ⟨F, rel, fun F' H' rel' st => ?_⟩
    show tE X.K ρ1 r ρ2 σ H' Q
    exact ⟨F', rel', fun w F2 H2 rel2 st2 z => q w F2 H2 rel2 (st.trans rel st2) (RepR.back z st)⟩
/-- the result told otherwise -/
theorem we_is {r' : R} (h : WE X e ρ r ρ1) (e' : r = r') : WE X e ρ r' ρ1 := e' ▸ h
theorem wt_is {k k' : Bool} (h : WT X e ρ k ρ1) (e' : k = k') : WT X e ρ k' ρ1 := e' ▸ h
theorem we_st {ρ1' : Env} (h : WE X e ρ r ρ1) (e' : ρ1 = ρ1') : WE X e ρ r ρ1' := e' ▸ h
/-! ### arguments, displays -/
variable {ds : List D}
theorem wa_nil : WA X [] ρ [] ρ := PA.imp pa_nil fun σ H Q ⟨F, rel, k⟩ => k [] F H rel Stp.refl .nil
theorem wa_cons (ha : WE X e ρ (.im d) ρ1) (hr : WA X es ρ1 ds ρ2) (hs : starEach (e :: es) X.env = (false, eval e X.env) :: starEach es X.env := by rfl) : WA X (e :: es) ρ (d :: ds) ρ2 :=
  PA.imp (pa_cons ha hr hs) fun σ H Q ⟨F, rel, k⟩ => ⟨F, rel, fun v F1 H1 rel1 st1 q1 => ⟨F1, rel1, fun vs F2 H2 rel2 st2 q2 => k (v :: vs) F2 H2 rel2 (st1.trans rel st2) (.cons (Rep.mono (st2.ex rel1) q1) q2)⟩⟩
theorem wa1_cons (ha : WE X e ρ r ρ1) (hr : WA X es ρ1 ds ρ2) (hs : starEach (e :: es) X.env = (false, eval e X.env) :: starEach es X.env := by rfl) : WA1 X (e :: es) ρ r ds ρ2 :=
  PA.imp (pa_cons ha hr hs) fun σ H Q ⟨F, rel, k⟩ => ⟨F, rel, fun v F1 H1 rel1 st1 q1 => ⟨F1, rel1, fun vs F2 H2 rel2 st2 q2 => k v vs F2 H2 rel2 (st1.trans rel st2) (RepR.step q1 rel1 st2) q2⟩⟩
theorem we_lst (h : WA X es ρ ds ρ1) (hz : ds.length ≤ 1000 := by first | decide | (simp; done) | exact Nat.le_of_ble_eq_true rfl) : WE X (.List es pos) ρ (.fr (.lst ds)) ρ1 :=
  PE.imp (pe_lst h) fun σ H Q ⟨F, rel, k⟩ => ⟨F, rel, fun vs F1 H1 rel1 st1 q1 => ⟨by rw [q1.length]; exact sz_of (Nat.le_trans hz (by decide)), fun p hp => by
    refine k _ F1 _ (rel1.alloc hp) (st1.trans rel (Stp.alloc hp)) ⟨p, rfl, rel1.newF hp, ?_, ⟨vs, upd_same, q1⟩, rel1.new hp⟩
    cases e : H p with
    | none => rfl
    | some o => exact absurd hp (st1.dom p (by rw [e]; exact fun z => by cases z))⟩⟩
theorem we_tup {x1} (h : WA X es ρ ds ρ1) (hz : ds.length ≤ 1000 := by first | decide | (simp; done) | exact Nat.le_of_ble_eq_true rfl) : WE X (.Tuple es x1 pos) ρ (.im (.tup ds)) ρ1 :=
  PE.imp (pe_tup h) fun σ H Q ⟨F, rel, k⟩ => ⟨F, rel, fun vs F1 H1 rel1 st1 q1 => ⟨by rw [q1.length]; exact sz_of (Nat.le_trans hz (by decide)), fun p hp => by
    exact k _ (upd F1 p (.tup vs)) _ (rel1.allocF hp) (st1.trans rel (Stp.allocF hp)) (.tup (st_of upd_same) (q1.mono (ex_put (rel1.newF hp))))⟩⟩
end
end Z
set_option maxRecDepth 100000
set_option maxHeartbeats 1000000
/-! Z2: statements, calls, fields. -/
namespace Z
open PySem PySem.Spec PyProof.Rows L2 Evl
/-- what is wanted behind a statement, by data -/
structure Post where
  nx : Env → Prop := fun _ => False
  rt : R → Env → Prop := fun _ _ => False
  bk : Env → Prop := fun _ => False
  ct : Env → Prop := fun _ => False
/-- the slots at pn stay what they are -/
def Pin (pn : List Nat) (σ σ' : L2.St) : Prop := ∀ i ∈ pn, σ'[i]? = σ[i]?
def To (K : PySem.W.Frag) (pn : List Nat) (ρ : Env) (σ : L2.St) (F H : Hp) (G : Env → Prop) (N : L2.St → Hp → Prop) : Prop :=
  ∀ ρ' σ' F' H', Rel K F' ρ' σ' H' → Stp ρ σ F H ρ' σ' F' H' → Pin pn σ σ' → G ρ' → N σ' H'
def ToR (K : PySem.W.Frag) (pn : List Nat) (ρ : Env) (σ : L2.St) (F H : Hp) (G : R → Env → Prop) (N : VK) : Prop :=
  ∀ v r ρ' σ' F' H', Rel K F' ρ' σ' H' → Stp ρ σ F H ρ' σ' F' H' → Pin pn σ σ' → RepR K F' H H' ρ' σ' v r → G r ρ' → N v H'
def tS (K : PySem.W.Frag) (pn : List Nat) (ρ : Env) (P : Post) : TS := fun D σ H => ∃ F, Rel K F ρ σ H ∧
  To K pn ρ σ F H P.nx D.nx ∧ ToR K pn ρ σ F H P.rt D.rt ∧ To K pn ρ σ F H P.bk D.bk ∧ To K pn ρ σ F H P.ct D.ct
abbrev WS (X : Cx) (pn : List Nat) (st : Stmt) (ρ : Env) (P : Post) : Prop := PS X st (tS X.K pn ρ P)
abbrev WB (X : Cx) (pn : List Nat) (st : List Stmt) (ρ : Env) (P : Post) : Prop := PSs X st (tS X.K pn ρ P)
section
variable {K : PySem.W.Frag} {pn : List Nat} {ρ ρ1 : Env} {σ σ1 : L2.St} {F F1 H H1 : Hp} {G G' : Env → Prop} {N : L2.St → Hp → Prop}
theorem Pin.refl : Pin pn σ σ := fun _ _ => rfl
theorem Pin.trans {σ2 : L2.St} (a : Pin pn σ σ1) (b : Pin pn σ1 σ2) : Pin pn σ σ2 := fun i h => (b i h).trans (a i h)
theorem To.mono (t : To K pn ρ σ F H G N) (m : ∀ ρ', G' ρ' → G ρ') : To K pn ρ σ F H G' N := fun ρ' σ' F' H' rel st p g => t ρ' σ' F' H' rel st p (m ρ' g)
theorem ToR.mono {G G' : R → Env → Prop} {N : VK} (t : ToR K pn ρ σ F H G N) (m : ∀ r ρ', G' r ρ' → G r ρ') : ToR K pn ρ σ F H G' N := fun v r ρ' σ' F' H' rel st p q g => t v r ρ' σ' F' H' rel st p q (m r ρ' g)
theorem To.from (t : To K pn ρ σ F H G N) (rel : Rel K F ρ σ H) (st : Stp ρ σ F H ρ1 σ1 F1 H1) (p : Pin pn σ σ1) : To K pn ρ1 σ1 F1 H1 G N := fun ρ' σ' F' H' rel' st' p' g => t ρ' σ' F' H' rel' (st.trans rel st') (p.trans p') g
theorem ToR.from {G : R → Env → Prop} {N : VK} (t : ToR K pn ρ σ F H G N) (rel : Rel K F ρ σ H) (st : Stp ρ σ F H ρ1 σ1 F1 H1) (p : Pin pn σ σ1) : ToR K pn ρ1 σ1 F1 H1 G N := fun v r ρ' σ' F' H' rel' st' p' q g => t v r ρ' σ' F' H' rel' (st.trans rel st') (p.trans p') (RepR.back q st) g
/-- the reading carried on to a later state -/
theorem tS.go {P : Post} {D : Ends} (rel1 : Rel K F1 ρ1 σ1 H1) (rel : Rel K F ρ σ H) (st : Stp ρ σ F H ρ1 σ1 F1 H1) (p : Pin pn σ σ1) (a : To K pn ρ σ F H P.nx D.nx) (b : ToR K pn ρ σ F H P.rt D.rt) (c : To K pn ρ σ F H P.bk D.bk) (d : To K pn ρ σ F H P.ct D.ct) :
    tS K pn ρ1 P D σ1 H1 := ⟨F1, rel1, a.from rel st p, b.from rel st p, c.from rel st p, d.from rel st p⟩
end
section
variable {X : Cx} {pn : List Nat} {st : Stmt} {rest : List Stmt} {ρ ρ1 ρ2 : Env} {P P' : Post} {e : Expr} {pos : Pos} {r : R} {d : D}
theorem WS.mono (h : WS X pn st ρ P') (a : ∀ ρ', P'.nx ρ' → P.nx ρ') (b : ∀ r ρ', P'.rt r ρ' → P.rt r ρ') (c : ∀ ρ', P'.bk ρ' → P.bk ρ') (d : ∀ ρ', P'.ct ρ' → P.ct ρ') : WS X pn st ρ P :=
  PS.imp h fun D σ H ⟨F, rel, p, q, u, v⟩ => ⟨F, rel, p.mono a, q.mono b, u.mono c, v.mono d⟩
theorem WB.mono {sts : List Stmt} (h : WB X pn sts ρ P') (a : ∀ ρ', P'.nx ρ' → P.nx ρ') (b : ∀ r ρ', P'.rt r ρ' → P.rt r ρ') (c : ∀ ρ', P'.bk ρ' → P.bk ρ') (d : ∀ ρ', P'.ct ρ' → P.ct ρ') : WB X pn sts ρ P :=
  PSs.imp h fun D σ H ⟨F, rel, p, q, u, v⟩ => ⟨F, rel, p.mono a, q.mono b, u.mono c, v.mono d⟩
theorem wb_nil (h : P.nx ρ) : WB X pn [] ρ P := PSs.imp pss_nil fun D σ H ⟨F, rel, p, _⟩ => p ρ σ F H rel Stp.refl Pin.refl h
/-- a statement, then the rest from wherever it leads -/
theorem wb_cons {M : Env → Prop} (h : WS X pn st ρ { P with nx := M }) (k : ∀ ρ1, M ρ1 → WB X pn rest ρ1 P) : WB X pn (st :: rest) ρ P := by
  refine ⟨fun pins s σ H D I ⟨F, rel, a, b, c, d⟩ => ?_⟩
  have a' : To X.K pn ρ σ F H M (fun σ' H' => ∃ ρ', M ρ' ∧ tS X.K pn ρ' P D σ' H') := fun ρ' σ' F' H' rel' st' p' g => ⟨ρ', g, tS.go rel' rel st' p' a b c d⟩
  refine wpAny_execs_cons (thn (h.run pins s σ H { D with nx := fun σ' H' => ∃ ρ', M ρ' ∧ tS X.K pn ρ' P D σ' H' } I ⟨F, rel, a', b, c, d⟩) fun f s1 q => ?_)
  cases f with
  | next =>
    obtain ⟨σ', H', I', ρ', g, q⟩ := q
    exact (k ρ' g).run pins s1 σ' H' D I' q
  | ret v => exact q
  | brk => exact q
  | cont => exact q
theorem wb_one (h : WS X pn st ρ P) : WB X pn [st] ρ P := wb_cons (M := P.nx) h fun ρ1 g => wb_nil g
/-- a statement that goes on, to one state -/
abbrev WN (X : Cx) (pn : List Nat) (st : Stmt) (ρ ρ' : Env) : Prop := ∀ P : Post, P.nx ρ' → WS X pn st ρ P
theorem wb_seq (h : WN X pn st ρ ρ1) (k : WB X pn rest ρ1 P) : WB X pn (st :: rest) ρ P := wb_cons (M := fun x => x = ρ1) (h _ rfl) fun _ g => g ▸ k
theorem wb_end (h : WN X pn st ρ ρ1) (k : P.nx ρ1) : WB X pn [st] ρ P := wb_one (h _ k)
theorem ws_pass : WN X pn (.Pass pos) ρ ρ := fun P g => PS.imp ps_pass fun D σ H ⟨F, rel, p, _⟩ => p ρ σ F H rel Stp.refl Pin.refl g
theorem ws_break (h : P.bk ρ) : WS X pn (.Break pos) ρ P := PS.imp ps_break fun D σ H ⟨F, rel, _, _, p, _⟩ => p ρ σ F H rel Stp.refl Pin.refl h
theorem ws_continue (h : P.ct ρ) : WS X pn (.Continue pos) ρ P := PS.imp ps_continue fun D σ H ⟨F, rel, _, _, _, p⟩ => p ρ σ F H rel Stp.refl Pin.refl h
theorem ws_expr (he : WE X e ρ r ρ1) (hs : swapsWith e none pos.line X.env = pure false := by rfl) : WN X pn (.Expr e pos) ρ ρ1 := fun P g =>
  PS.imp (ps_expr he hs) fun D σ H ⟨F, rel, p, _⟩ => ⟨F, rel, fun v F' H' rel' st' _ => p ρ1 σ F' H' rel' st' Pin.refl g⟩
theorem ws_ret (he : WE X e ρ r ρ1) (g : P.rt r ρ1) : WS X pn (.Return (some e) pos) ρ P :=
  PS.imp (ps_ret he) fun D σ H ⟨F, rel, _, p, _⟩ => ⟨F, rel, fun v F' H' rel' st' q => p v r ρ1 σ F' H' rel' st' Pin.refl q g⟩
theorem ws_retN (g : P.rt (.im .non) ρ) : WS X pn (.Return none pos) ρ P :=
  PS.imp ps_retN fun D σ H ⟨F, rel, _, p, _⟩ => p .non (.im .non) ρ σ F H rel Stp.refl Pin.refl .non g
/-- if: by the test's outcome -/
theorem ws_if {c : Expr} {a b : List Stmt} {k : Bool} (hc : WT X c ρ k ρ1) (ha : k = true → WB X pn a ρ1 P) (hb : k = false → WB X pn b ρ1 P) : WS X pn (.If c a b pos) ρ P := by
  cases k with
  | true =>
    refine PS.imp (ps_if (u := tNever) hc (ha rfl) pss_never) fun D σ H ⟨F, rel, p, q, u, v⟩ => ⟨F, rel, fun F' H' rel' st' => ?_⟩
    show tS X.K pn ρ1 P D σ H'
    exact tS.go rel' rel st' Pin.refl p q u v
  | false =>
    refine PS.imp (ps_if (t := tNever) hc pss_never (hb rfl)) fun D σ H ⟨F, rel, p, q, u, v⟩ => ⟨F, rel, fun F' H' rel' st' => ?_⟩
    show tS X.K pn ρ1 P D σ H'
    exact tS.go rel' rel st' Pin.refl p q u v
/-! ### assignments -/
/-- what a slot holds when a result is stored -/
inductive Sto : R → SV → Prop where
  | im (d : D) : Sto (.im d) (.im d)
  | fr (d : D) : Sto (.fr d) (.own d)
theorem set_rel {K : PySem.W.Frag} {F H0 H : Hp} {σ : L2.St} {v : V} {i : Nat} {s : SV} (rel : Rel K F ρ σ H) (q : RepR K F H0 H ρ σ v r) (so : Sto r s) (hi : i < ρ.length) : Rel K F (ρ.set i s) (σ.set i (some v)) H := by
  have hs : i < σ.length := by rw [rel.len]; exact hi
  refine ⟨rel.ex, by rw [List.length_set, List.length_set]; exact rel.len, fun j e h => ?_, fun j e h => ?_, fun j k d e p hj hk h1 h2 => ?_⟩
  · by_cases hj : j = i
    · subst hj
      rw [List.getElem?_set_self hi] at h
      rw [List.getElem?_set_self hs]
      cases so with
      | im d => cases h; exact ⟨v, rfl, q⟩
      | fr d => cases h
    · rw [List.getElem?_set_ne (Ne.symm hj)] at h ⊢
      exact rel.im j e h
  · by_cases hj : j = i
    · subst hj
      rw [List.getElem?_set_self hi] at h
      rw [List.getElem?_set_self hs]
      cases so with
      | im d => cases h
      | fr d =>
        cases h
        obtain ⟨p, e1, f, _, o, _⟩ := q
        exact ⟨p, by rw [e1], f, o⟩
    · rw [List.getElem?_set_ne (Ne.symm hj)] at h ⊢
      exact rel.own j e h
  · have old : ∀ {l : Nat} {g : D}, l ≠ i → (ρ.set i s)[l]? = some (.own g) → (σ.set i (some v))[l]? = some (some (.ref p)) → ρ[l]? = some (.own g) ∧ σ[l]? = some (some (.ref p)) := fun {l g} hl h h' => by
      rw [List.getElem?_set_ne (Ne.symm hl)] at h h'
      exact ⟨h, h'⟩
    have new : ∀ {g : D}, (ρ.set i s)[i]? = some (.own g) → (σ.set i (some v))[i]? = some (some (.ref p)) → ¬ Owns ρ σ p := fun {g} h h' => by
      rw [List.getElem?_set_self hi] at h
      rw [List.getElem?_set_self hs] at h'
      cases so with
      | im d => cases h
      | fr d =>
        obtain ⟨p', e1, _, _, _, n⟩ := q
        have e2 : v = .ref p := Option.some.inj (Option.some.inj h')
        rw [e1] at e2
        cases e2
        exact n
    by_cases hji : j = i
    · by_cases hki : k = i
      · rw [hji, hki]
      · obtain ⟨o1, o2⟩ := old hki hk h2
        subst hji
        exact absurd ⟨k, e, o1, o2⟩ (new hj h1)
    · by_cases hki : k = i
      · obtain ⟨o1, o2⟩ := old hji hj h1
        subst hki
        exact absurd ⟨j, d, o1, o2⟩ (new hk h2)
      · obtain ⟨a1, a2⟩ := old hji hj h1
        obtain ⟨b1, b2⟩ := old hki hk h2
        exact rel.inj j k d e p a1 b1 a2 b2
theorem set_stp {K : PySem.W.Frag} {F0 F H0 H : Hp} {σ : L2.St} {v : V} {i : Nat} {s : SV} (st : Stp ρ σ F0 H0 ρ1 σ F H) (q : RepR K F H0 H ρ1 σ v r) (so : Sto r s) : Stp ρ σ F0 H0 (ρ1.set i s) (σ.set i (some v)) F H := by
  refine ⟨st.keep, fun a h => ?_, st.dom⟩
  obtain ⟨j, e, h1, h2⟩ := h
  by_cases hj : j = i
  · subst hj
    by_cases hl : j < ρ1.length
    · rw [List.getElem?_set_self hl] at h1
      cases so with
      | im d => cases h1
      | fr d =>
        obtain ⟨p, e1, _, h0, _, _⟩ := q
        by_cases hs : j < σ.length
        · rw [List.getElem?_set_self hs] at h2
          have e2 : v = .ref a := Option.some.inj (Option.some.inj h2)
          rw [e1] at e2
          cases e2
          exact .inr h0
        · rw [List.getElem?_eq_none (by rw [List.length_set]; omega)] at h2
          cases h2
    · rw [List.getElem?_eq_none (by rw [List.length_set]; omega)] at h1
      cases h1
  · rw [List.getElem?_set_ne (Ne.symm hj)] at h1 h2
    exact st.own a ⟨j, e, h1, h2⟩
theorem pin_set {σ : L2.St} {i : Nat} {v : Option V} (h : i ∉ pn) : Pin pn σ (σ.set i v) := fun j hj => by
  rw [List.getElem?_set_ne]
  intro z
  subst z
  exact h hj
/-- name = e -/
theorem ws_set {i : Nat} {x : Str} {pos' : Pos} {s : SV} (he : WE X e ρ r ρ1) (so : Sto r s := by first | exact .im _ | exact .fr _) (hp : i ∉ pn := by first | decide | exact of_decide_eq_true rfl) (hN : X.N.Nodup := by first | assumption | decide +kernel) (hi : X.N[i]? = some x := by rfl) (hx : Loc X.env.scope x := by first | exact .inl rfl | exact .inr rfl)
    (hl : i < ρ1.length := by first | decide | (simp; done) | exact Nat.le_of_ble_eq_true rfl) (hs : swapsWith e (some (.Name x pos')) pos.line X.env = pure false := by rfl) (hf : X.fn x = true ∨ X.env.scope.names.lookup x = some .local := by first | exact .inl rfl | exact .inr rfl) :
    WN X pn (.Assign [.Name x pos'] e pos) ρ (ρ1.set i s) := fun P g =>
  PS.imp (ps_set hN hi hx he hs hf) fun D σ H ⟨F, rel, p, _⟩ => ⟨F, rel, fun v F' H' rel' st' q => p _ _ F' H' (set_rel rel' q so hl) (set_stp st' q so) (pin_set hp) g⟩
/-! ### targets -/
/-- a frozen datum is assigned -/
def tG (K : PySem.W.Frag) (pn : List Nat) (d : D) (ρ ρ' : Env) : TG := fun v σ H Q => ∃ F, Rel K F ρ σ H ∧ Rep K F v d ∧ ∀ σ' F' H', Rel K F' ρ' σ' H' → Stp ρ σ F H ρ' σ' F' H' → Pin pn σ σ' → Q σ' H'
def tGs (K : PySem.W.Frag) (pn : List Nat) (ds : List D) (ρ ρ' : Env) : TGs := fun vs σ H Q => ∃ F, Rel K F ρ σ H ∧ Reps K F vs ds ∧ ∀ σ' F' H', Rel K F' ρ' σ' H' → Stp ρ σ F H ρ' σ' F' H' → Pin pn σ σ' → Q σ' H'
abbrev WG (X : Cx) (pn : List Nat) (tg : Expr) (d : D) (ρ ρ' : Env) : Prop := PG X tg (tG X.K pn d ρ ρ')
abbrev WGs (X : Cx) (pn : List Nat) (ts : List Expr) (ds : List D) (ρ ρ' : Env) : Prop := PGs X ts (tGs X.K pn ds ρ ρ')
theorem PG.imp {tg : Expr} {t t' : TG} (h : PG X tg t) (m : ∀ v σ H Q, t' v σ H Q → t v σ H Q) : PG X tg t' := ⟨fun pins s σ H v u Q I rv q => h.run pins s σ H v u Q I rv (m v σ H Q q)⟩
theorem PGs.imp {ts : List Expr} {t t' : TGs} (h : PGs X ts t) (m : ∀ v σ H Q, t' v σ H Q → t v σ H Q) : PGs X ts t' := ⟨fun pins s σ H v u Q I rv q => h.run pins s σ H v u Q I rv (m v σ H Q q)⟩
theorem wg_name {i : Nat} {x : Str} (hp : i ∉ pn := by first | decide | exact of_decide_eq_true rfl) (hN : X.N.Nodup := by first | assumption | decide +kernel) (hi : X.N[i]? = some x := by rfl) (hx : Loc X.env.scope x := by first | exact .inl rfl | exact .inr rfl) (hl : i < ρ.length := by first | decide | (simp; done) | exact Nat.le_of_ble_eq_true rfl)
    (hf : X.fn x = true ∨ X.env.scope.names.lookup x = some .local := by first | exact .inl rfl | exact .inr rfl) : WG X pn (.Name x pos) d ρ (ρ.set i (.im d)) :=
  PG.imp (pg_name hN hi hx hf) fun v σ H Q ⟨F, rel, rp, k⟩ => by
    have q : RepR X.K F H H ρ σ v (.im d) := rp
    exact k _ F H (set_rel rel q (.im d) hl) (set_stp Stp.refl q (.im d)) (pin_set hp)
theorem wgs_nil : WGs X pn [] [] ρ ρ := PGs.imp pgs_nil fun vs σ H Q ⟨F, rel, rp, k⟩ => by
  cases rp
  exact ⟨rfl, k σ F H rel Stp.refl Pin.refl⟩
theorem wgs_cons {tg : Expr} {ts : List Expr} {ds : List D} (h1 : WG X pn tg d ρ ρ1) (h2 : WGs X pn ts ds ρ1 ρ2) (hs : (assignEach (tg :: ts) X.env).map (·.2) = assign tg X.env :: (assignEach ts X.env).map (·.2) := by rfl) : WGs X pn (tg :: ts) (d :: ds) ρ ρ2 :=
  PGs.imp (pgs_cons h1 h2 hs) fun vs σ H Q ⟨F, rel, rp, k⟩ => by
    cases rp with
    | cons r t => exact ⟨_, _, rfl, F, rel, r, fun σ1 F1 H1 rel1 st1 p1 => ⟨F1, rel1, t.mono (st1.ex rel), fun σ2 F2 H2 rel2 st2 p2 => k σ2 F2 H2 rel2 (st1.trans rel st2) (p1.trans p2)⟩⟩
theorem wg_tup {es : List Expr} {k : Nat} {ds : List D} {n : Nat} (h : WGs X pn es ds ρ ρ1) (hc : X.calm = true := by rfl) (hz : ds.length = n := by rfl) (hn : (assignEach es X.env).length = n := by rfl) (hst : (assignEach es X.env).findIdx? (·.1) = none := by rfl) :
    WG X pn (.Tuple es k pos) (.tup ds) ρ ρ1 :=
  PG.imp (pg_tup hc h hn hst) fun v σ H Q ⟨F, rel, rp, k⟩ => by
    cases rp with
    | tup hs r => exact ⟨_, _, rfl, ex_t rel.ex hs, by rw [r.length, hz], F, rel, r, k⟩
/-- target = e, the value frozen -/
theorem ws_asg {tg : Expr} (he : WE X e ρ (.im d) ρ1) (hg : WG X pn tg d ρ1 ρ2) (hs : swapsWithSole [tg] e pos.line X.env = pure false := by rfl) (hw : swappedStores [tg] e X.env = pure none := by rfl)
    (h1 : (assignEach [tg] X.env).map (·.2) = [assign tg X.env] := by rfl) : WN X pn (.Assign [tg] e pos) ρ ρ2 := fun P g =>
  PS.imp (ps_asg he hg hs hw h1) fun D σ H ⟨F, rel, p, _⟩ => ⟨F, rel, fun v F1 H1 rel1 st1 q => ⟨F1, rel1, q, fun σ2 F2 H2 rel2 st2 p2 => p ρ2 σ2 F2 H2 rel2 (st1.trans rel st2) p2 g⟩⟩
/-- a, b = x, y with plain local names -/
theorem ws_par {i j : Nat} {x y : Str} {a b : Expr} {px py pt : Pos} {kt k2 pt2} {d1 d2 : D} (ha : WA X [a, b] ρ [d1, d2] ρ1) (hpi : i ∉ pn := by first | decide | exact of_decide_eq_true rfl) (hpj : j ∉ pn := by first | decide | exact of_decide_eq_true rfl) (hij : i ≠ j := by decide) (hc : X.calm = true := by rfl) (hN : X.N.Nodup := by first | assumption | decide +kernel) (hi : X.N[i]? = some x := by rfl) (hj : X.N[j]? = some y := by rfl)
    (hx : X.env.scope.names.lookup x = some .local := by rfl) (hy : X.env.scope.names.lookup y = some .local := by rfl) (hli : i < ρ1.length := by first | decide | (simp; done) | exact Nat.le_of_ble_eq_true rfl) (hlj : j < ρ1.length := by first | decide | (simp; done) | exact Nat.le_of_ble_eq_true rfl)
    (hw : swappedStores [.Tuple [.Name x px, .Name y py] kt pt] (.Tuple [a, b] k2 pt2) X.env = pure (some [x, y]) := by rfl)
    (hs : swapsWithSole [.Tuple [.Name x px, .Name y py] kt pt] (.Tuple [a, b] k2 pt2) pos.line X.env = pure false := by rfl) :
    WN X pn (.Assign [.Tuple [.Name x px, .Name y py] kt pt] (.Tuple [a, b] k2 pt2) pos) ρ ((ρ1.set i (.im d1)).set j (.im d2)) := fun P g =>
  PS.imp (ps_par hc hN hi hj hij hx hy ha hw hs) fun D σ H ⟨F, rel, p, _⟩ => ⟨F, rel, fun vs F1 H1 rel1 st1 q => by
    cases q with
    | cons r1 t1 =>
      cases t1 with
      | cons r2 t2 =>
        cases t2
        rename_i v1 v2
        refine ⟨v1, v2, rfl, ?_⟩
        have q1 : RepR X.K F1 H H1 ρ1 σ v1 (.im d1) := r1
        have rel2 := set_rel rel1 q1 (.im d1) hli
        have st2 := set_stp (i := i) st1 q1 (.im d1)
        have q2 : RepR X.K F1 H H1 (ρ1.set i (.im d1)) (σ.set i (some v1)) v2 (.im d2) := r2
        have rel3 := set_rel rel2 q2 (.im d2) (by rw [List.length_set]; exact hlj)
        have q2' : RepR X.K F1 H1 H1 (ρ1.set i (.im d1)) (σ.set i (some v1)) v2 (.im d2) := r2
        have st3 : Stp (ρ1.set i (.im d1)) (σ.set i (some v1)) F1 H1 ((ρ1.set i (.im d1)).set j (.im d2)) ((σ.set i (some v1)).set j (some v2)) F1 H1 := set_stp (K := X.K) Stp.refl q2' (.im d2)
        exact p _ _ F1 H1 rel3 (st2.trans rel st3) ((pin_set hpi).trans (pin_set hpj)) g⟩
/-! ### loops -/
theorem ws_while {c : Expr} {body : List Stmt} (hp : PassesOwn (model X.prog X.w) X.A X.env X.xe) (I : Nat → Env → Prop) (m0 : Nat) (k : Nat → Env → Bool) (ρc : Nat → Env → Env) (h0 : I m0 ρ)
    (hc : ∀ m ρ', I m ρ' → WT X c ρ' (k m ρ') (ρc m ρ'))
    (hb : ∀ m ρ', I m ρ' → k m ρ' = true → WB X pn body (ρc m ρ') { P with nx := fun ρ2 => ∃ m', m' < m ∧ I m' ρ2, ct := fun ρ2 => ∃ m', m' < m ∧ I m' ρ2, bk := P.nx })
    (hd : ∀ m ρ', I m ρ' → k m ρ' = false → P.nx (ρc m ρ')) : WS X pn (.While c body [] pos) ρ P := by
  refine ⟨fun pins s σ H D J ⟨F, rel, a, b, u, v⟩ => ?_⟩
  refine wpAny_While (codeAny_whileLoop (fun n s' => ∃ σ' H' ρ' F', Inv X pins σ' H' s' ∧ Rel X.K F' ρ' σ' H' ∧ Stp ρ σ F H ρ' σ' F' H' ∧ Pin pn σ σ' ∧ I n ρ') ?_ m0 ⟨σ, H, ρ, F, J, rel, Stp.refl, Pin.refl, h0⟩)
  rintro n s1 ⟨σ1, H1, ρ1, F1, I1, rel1, st1, p1, w1⟩
  refine wpAny_passesOwn hp (thn ((hc n ρ1 w1).run pins s1 σ1 H1 (fun b H2 => b = k n ρ1 ∧ ∃ F2, Rel X.K F2 (ρc n ρ1) σ1 H2 ∧ Stp ρ1 σ1 F1 H1 (ρc n ρ1) σ1 F2 H2) I1 ⟨F1, rel1, fun F2 H2 rel2 st2 => ⟨rfl, F2, rel2, st2⟩⟩) fun b s2 ⟨H2, I2, e2, F2, rel2, st2⟩ => ?_)
  subst e2
  have st12 := st1.trans rel st2
  cases hk : k n ρ1 with
  | true =>
    rw [if_pos rfl]
    refine wpAny_passesOwn hp (thn ((hb n ρ1 w1 hk).run pins s2 σ1 H2 { D with nx := fun σ' H' => ∃ ρ' F', Rel X.K F' ρ' σ' H' ∧ Stp ρ σ F H ρ' σ' F' H' ∧ Pin pn σ σ' ∧ ∃ m', m' < n ∧ I m' ρ', ct := fun σ' H' => ∃ ρ' F', Rel X.K F' ρ' σ' H' ∧ Stp ρ σ F H ρ' σ' F' H' ∧ Pin pn σ σ' ∧ ∃ m', m' < n ∧ I m' ρ', bk := D.nx } I2
      ⟨F2, rel2, fun ρ' σ' F' H' rel' st' p' g => ⟨ρ', F', rel', st12.trans rel st', p1.trans p', g⟩, b.from rel st12 p1, a.from rel st12 p1, fun ρ' σ' F' H' rel' st' p' g => ⟨ρ', F', rel', st12.trans rel st', p1.trans p', g⟩⟩) fun f s3 q3 => ?_)
    cases f with
    | next =>
      obtain ⟨σ3, H3, I3, ρ3, F3, rel3, st3, p3, m', hm, w3⟩ := q3
      exact ⟨m', hm, σ3, H3, ρ3, F3, I3, rel3, st3, p3, w3⟩
    | cont =>
      obtain ⟨σ3, H3, I3, ρ3, F3, rel3, st3, p3, m', hm, w3⟩ := q3
      exact ⟨m', hm, σ3, H3, ρ3, F3, I3, rel3, st3, p3, w3⟩
    | brk => exact q3
    | ret v => exact q3
  | false =>
    rw [if_neg Bool.false_ne_true]
    exact wpAny_execs_nil ⟨σ1, H2, I2, a _ _ F2 H2 rel2 st12 p1 (hd n ρ1 w1 hk)⟩
/-- slots that are read while something is walked: they own what they owned -/
def Bor (bs : List (Nat × D)) (σ0 : L2.St) (ρ : Env) (σ : L2.St) : Prop := ∀ b ∈ bs, ρ[b.1]? = some (.own b.2) ∧ σ[b.1]? = σ0[b.1]?
theorem Bor.nil {σ0 σ : L2.St} {ρ : Env} : Bor [] σ0 ρ σ := fun b h => by cases h
/-- what a for walks: data, one after another -/
def Wk (K : PySem.W.Frag) (F0 : Hp) (σ0 : L2.St) (bs : List (Nat × D)) (J : It) (ds : List D) : Prop := ∀ (i : Nat) (ρ : Env) (σ : L2.St) (F2 H2 : Hp), Rel K F2 ρ σ H2 → Ex F0 F2 → Bor bs σ0 ρ σ →
  (ds.length ≤ i → J.stop i H2) ∧ ∀ d, ds[i]? = some d → J.go i H2 ∧ ∀ x H3, J.yld i H2 x H3 → ∃ F3, Rel K F3 ρ σ H3 ∧ Stp ρ σ F2 H2 ρ σ F3 H3 ∧ Rep K F3 x d
def tI (K : PySem.W.Frag) (ρ : Env) (bs : List (Nat × D)) (ds : List D) (ρ' : Env) : TI := fun σ H Rr => ∃ F, Rel K F ρ σ H ∧
  ∀ J F' H', Rel K F' ρ' σ H' → Stp ρ σ F H ρ' σ F' H' → Wk K F' σ bs J ds → Rr J H'
/-- iter is walked over ds, the slots bs are read meanwhile -/
abbrev WI (X : Cx) (tg iter : Expr) (ρ : Env) (bs : List (Nat × D)) (ds : List D) (ρ' : Env) : Prop := PI X tg iter (tI X.K ρ bs ds ρ')
theorem PI.imp {tg iter : Expr} {t t' : TI} (h : PI X tg iter t) (m : ∀ σ H Q, t' σ H Q → t σ H Q) : PI X tg iter t' := ⟨fun pins s σ H Q I q => h.run pins s σ H Q I (m σ H Q q)⟩
/-- the list (its items frozen) that x is: frozen, or slot i's -/
theorem wi_list {tg l : Expr} {ds : List D} (hl : WE X l ρ (.im (.lst ds)) ρ1) : WI X tg l ρ [] ds ρ1 :=
  PI.imp (pi_list hl) fun σ H Rr ⟨F, rel, k⟩ => ⟨F, rel, fun v F1 H1 rel1 st1 q => by
    have q : Rep X.K F1 v (.lst ds) := q
    cases q with
    | lst hs r =>
      rename_i a vs
      refine ⟨a, rfl, ⟨vs, ex_l rel1.ex hs⟩, k _ F1 H1 rel1 st1 fun i ρ2 σ2 F2 H2 rel2 e2 _ => ⟨fun hi => ⟨vs, ex_l (e2.trans rel2.ex) hs, by rw [r.length]; exact hi⟩, fun d hd => ?_⟩⟩
      obtain ⟨x, hx, rx⟩ := r.get hd
      refine ⟨⟨vs, x, ex_l (e2.trans rel2.ex) hs, hx⟩, fun y H3 ⟨e3, hy⟩ => ?_⟩
      subst e3
      have e4 := hy vs (ex_l (e2.trans rel2.ex) hs)
      rw [hx] at e4
      cases e4
      exact ⟨F2, rel2, Stp.refl, rx.mono e2⟩⟩
theorem wi_listO {tg l : Expr} {ds : List D} {n : Nat} (hl : WE X l ρ (.sl n) ρ1) (hn : ρ1[n]? = some (.own (.lst ds)) := by rfl) : WI X tg l ρ [(n, .lst ds)] ds ρ1 :=
  PI.imp (pi_list hl) fun σ H Rr ⟨F, rel, k⟩ => ⟨F, rel, fun v F1 H1 rel1 st1 q => by
    have q : σ[n]? = some (some v) := q
    obtain ⟨a, ha, _, vs, hv, r⟩ := rel1.own n _ hn
    rw [q] at ha
    cases ha
    have at_ : ∀ {ρ2 : Env} {σ2 : L2.St} {F2 H2 : Hp}, Rel X.K F2 ρ2 σ2 H2 → Bor [(n, D.lst ds)] σ ρ2 σ2 → ∃ ws, SqL X.K H2 a ws ∧ Reps X.K F2 ws ds := fun {ρ2 σ2 F2 H2} rel2 b => by
      obtain ⟨b1, b2⟩ := b (n, .lst ds) (List.mem_singleton.mpr rfl)
      obtain ⟨a2, ha2, _, ws, hw, rw'⟩ := rel2.own n _ b1
      rw [b2, q] at ha2
      cases ha2
      exact ⟨ws, sq_of hw, rw'⟩
    refine ⟨a, rfl, ⟨vs, sq_of hv⟩, k _ F1 H1 rel1 st1 fun i ρ2 σ2 F2 H2 rel2 e2 b2 => ⟨fun hi => ?_, fun d hd => ?_⟩⟩
    · obtain ⟨ws, hw, rw'⟩ := at_ rel2 b2
      exact ⟨ws, hw, by rw [rw'.length]; exact hi⟩
    · obtain ⟨ws, hw, rw'⟩ := at_ rel2 b2
      obtain ⟨x, hx, rx⟩ := rw'.get hd
      refine ⟨⟨ws, x, hw, hx⟩, fun y H3 ⟨e3, hy⟩ => ?_⟩
      subst e3
      have e4 := hy ws hw
      rw [hx] at e4
      cases e4
      exact ⟨F2, rel2, Stp.refl, rx⟩⟩
theorem wi_tup {tg l : Expr} {ds : List D} (hl : WE X l ρ (.im (.tup ds)) ρ1) : WI X tg l ρ [] ds ρ1 :=
  PI.imp (pi_tup hl) fun σ H Rr ⟨F, rel, k⟩ => ⟨F, rel, fun v F1 H1 rel1 st1 q => by
    have q : Rep X.K F1 v (.tup ds) := q
    cases q with
    | tup hs r =>
      rename_i a vs
      refine ⟨a, rfl, ⟨vs, ex_t rel1.ex hs⟩, k _ F1 H1 rel1 st1 fun i ρ2 σ2 F2 H2 rel2 e2 _ => ⟨fun hi => ⟨vs, ex_t (e2.trans rel2.ex) hs, by rw [r.length]; exact hi⟩, fun d hd => ?_⟩⟩
      obtain ⟨x, hx, rx⟩ := r.get hd
      refine ⟨⟨vs, x, ex_t (e2.trans rel2.ex) hs, hx⟩, fun y H3 ⟨e3, hy⟩ => ?_⟩
      subst e3
      have e4 := hy vs (ex_t (e2.trans rel2.ex) hs)
      rw [hx] at e4
      cases e4
      exact ⟨F2, rel2, Stp.refl, rx.mono e2⟩⟩
/-- lo, lo + 1, .. -/
def rng (lo : Int) (n : Nat) : List D := (List.range n).map fun i => .int (lo + (i : Nat))
theorem rng_len {lo : Int} {n : Nat} : (rng lo n).length = n := by simp [rng]
theorem rng_at {lo : Int} {n i : Nat} {d : D} (h : (rng lo n)[i]? = some d) : i < n ∧ d = .int (lo + (i : Nat)) := by
  have hi : i < n := by
    have := (List.getElem?_eq_some_iff.mp h).1
    rw [rng_len] at this
    exact this
  refine ⟨hi, ?_⟩
  simp [rng, hi] at h
  exact h.symm
theorem wk_range {K : PySem.W.Frag} {F : Hp} {σ : L2.St} (lo : Int) (n : Nat) : Wk K F σ [] (Itr lo n) (rng lo n) := fun i ρ2 σ2 F2 H2 rel2 e2 _ => by
  refine ⟨fun hi => by rw [rng_len] at hi; exact hi, fun d hd => ?_⟩
  obtain ⟨hi, ed⟩ := rng_at hd
  subst ed
  refine ⟨hi, fun x H3 ⟨e3, ex⟩ => ?_⟩
  subst e3 ex
  exact ⟨F2, rel2, Stp.refl, .int _⟩
theorem wi_range1 {tg a : Expr} {j : Int} {p : Pos} (hm : X.mg "range" = none) (ha : WA X [a] ρ [.int j] ρ1) (h1 : -(2 ^ 62) ≤ j ∧ j < 2 ^ 62) (hg : Gl X "range" := by rfl) (hs : starEach [a] X.env = [(false, eval a X.env)] := by rfl) :
    WI X tg (.Call (.Name "range" p) [a] [] pos) ρ [] (rng 0 j.toNat) ρ1 :=
  PI.imp (pi_range1 hg hm ha hs) fun σ H Rr ⟨F, rel, k⟩ => ⟨F, rel, fun vs F1 H1 rel1 st1 q => by
    cases q with
    | cons r t =>
      cases t
      cases r
      exact ⟨j, rfl, h1.1, h1.2, k _ F1 H1 rel1 st1 (wk_range 0 _)⟩⟩
theorem wi_range2 {tg a b : Expr} {i j : Int} {p : Pos} (hm : X.mg "range" = none) (ha : WA X [a, b] ρ [.int i, .int j] ρ1) (h1 : -(2 ^ 62) ≤ i ∧ i < 2 ^ 62 ∧ -(2 ^ 62) ≤ j ∧ j < 2 ^ 62) (hg : Gl X "range" := by rfl)
    (hs : starEach [a, b] X.env = [(false, eval a X.env), (false, eval b X.env)] := by rfl) (hs2 : starEach [b] X.env = [(false, eval b X.env)] := by rfl) :
    WI X tg (.Call (.Name "range" p) [a, b] [] pos) ρ [] (rng i (j - i).toNat) ρ1 :=
  PI.imp (pi_range2 hg hm ha hs hs2) fun σ H Rr ⟨F, rel, k⟩ => ⟨F, rel, fun vs F1 H1 rel1 st1 q => by
    cases q with
    | cons r t =>
      cases t with
      | cons r2 t =>
        cases t
        cases r
        cases r2
        exact ⟨i, j, rfl, h1, k _ F1 H1 rel1 st1 (wk_range i _)⟩⟩
/-! a reading for every state at once -/
def aG (X : Cx) (pn : List Nat) (tg : Expr) : TG := fun v σ H Q => ∃ d ρ ρ', WG X pn tg d ρ ρ' ∧ tG X.K pn d ρ ρ' v σ H Q
def aS (X : Cx) (pn : List Nat) (body : List Stmt) : TS := fun D σ H => ∃ ρ P, WB X pn body ρ P ∧ tS X.K pn ρ P D σ H
theorem pg_any {tg : Expr} : PG X tg (aG X pn tg) := ⟨fun pins s σ H v u Q I rv ⟨d, ρ, ρ', h, q⟩ => h.run pins s σ H v u Q I rv q⟩
theorem pb_any {body : List Stmt} : PSs X body (aS X pn body) := ⟨fun pins s σ H D I ⟨ρ, P, h, q⟩ => h.run pins s σ H D I q⟩
theorem Pin.of_app {qs pn : List Nat} {σ σ1 : L2.St} (h : Pin (qs ++ pn) σ σ1) : Pin pn σ σ1 := fun i hi => h i (List.mem_append_right _ hi)
theorem To.app {K : PySem.W.Frag} {qs pn : List Nat} {ρ : Env} {σ : L2.St} {F H : Hp} {G : Env → Prop} {N : L2.St → Hp → Prop} (t : To K pn ρ σ F H G N) : To K (qs ++ pn) ρ σ F H G N := fun ρ' σ' F' H' rel st p g => t ρ' σ' F' H' rel st p.of_app g
theorem ToR.app {K : PySem.W.Frag} {qs pn : List Nat} {ρ : Env} {σ : L2.St} {F H : Hp} {G : R → Env → Prop} {N : VK} (t : ToR K pn ρ σ F H G N) : ToR K (qs ++ pn) ρ σ F H G N := fun v r ρ' σ' F' H' rel st p q g => t v r ρ' σ' F' H' rel st p.of_app q g
/-- for: by an invariant; while the loop goes on, the slots bs are only read -/
theorem ws_for {tg iter : Expr} {body : List Stmt} {bs : List (Nat × D)} {ds : List D} (hp : PassesOwn (model X.prog X.w) X.A X.env X.xe) (hi : WI X tg iter ρ bs ds ρ1) (I : Nat → Env → Prop) (h0 : I 0 ρ1)
    (hs : ∀ (i : Nat) d ρi, ds[i]? = some d → I i ρi → ∃ ρt, WG X (bs.map (·.1) ++ pn) tg d ρi ρt ∧ WB X (bs.map (·.1) ++ pn) body ρt { P with nx := I (i + 1), ct := I (i + 1), bk := P.nx })
    (hd : ∀ ρ', I ds.length ρ' → P.nx ρ') (hbo : ∀ i ρ', I i ρ' → ∀ b ∈ bs, ρ'[b.1]? = some (.own b.2) := by first | (intro _ _ _ b hb; cases hb; done) | skip) (hc : X.calm = true := by rfl) (hf : ∀ x, foldedSetIterable iter X.env x = pure x := by intro _; rfl) : WS X pn (.For tg iter body [] pos) ρ P :=
  PS.imp (ps_for hp hc hi (pg_any (pn := bs.map (·.1) ++ pn)) (pb_any (pn := bs.map (·.1) ++ pn)) hf) fun D σ H ⟨F, rel, a, b, u, v⟩ => ⟨F, rel, fun J F1 H1 rel1 st1 wk => by
    refine ⟨fun i m σ' H' => m = ds.length - i ∧ i ≤ ds.length ∧ ∃ ρ' F', Rel X.K F' ρ' σ' H' ∧ Stp ρ σ F H ρ' σ' F' H' ∧ Pin (bs.map (·.1) ++ pn) σ σ' ∧ Ex F1 F' ∧ I i ρ', ⟨ds.length, by simp, Nat.zero_le _, ρ1, F1, rel1, st1, Pin.refl, Ex.refl _, h0⟩, ?_⟩
    rintro i m σ2 H2 ⟨rfl, hi', ρ2, F2, rel2, st2, p2, e2, w2⟩
    obtain ⟨wstop, wgo⟩ := wk i ρ2 σ2 F2 H2 rel2 e2 fun c hc => ⟨hbo i ρ2 w2 c hc, p2 c.1 (List.mem_append_left _ (List.mem_map_of_mem hc))⟩
    by_cases hlt : i < ds.length
    · obtain ⟨go, yld⟩ := wgo ds[i] (List.getElem?_eq_getElem hlt)
      refine .inr ⟨go, fun σ' H' => ∃ ρ' F', Rel X.K F' ρ' σ' H' ∧ Stp ρ σ F H ρ' σ' F' H' ∧ Pin (bs.map (·.1) ++ pn) σ σ' ∧ Ex F1 F' ∧ I (i + 1) ρ', fun σ' H' h => ⟨ds.length - (i + 1), by omega, rfl, hlt, h⟩, fun x H3 y => ?_⟩
      obtain ⟨F3, rel3, st3, rx⟩ := yld x H3 y
      obtain ⟨ρt, wg, wb⟩ := hs i ds[i] ρ2 (List.getElem?_eq_getElem hlt) w2
      have st23 := st2.trans rel st3
      have e3 : Ex F1 F3 := e2.trans (st3.ex rel2)
      refine ⟨ds[i], ρ2, ρt, wg, F3, rel3, rx, fun σ4 F4 H4 rel4 st4 p4 => ?_⟩
      have st24 := st23.trans rel st4
      have p24 := p2.trans p4
      have e4 : Ex F1 F4 := e3.trans (st4.ex rel3)
      have next : To X.K (bs.map (·.1) ++ pn) ρt σ4 F4 H4 (I (i + 1)) (fun σ' H' => ∃ ρ' F', Rel X.K F' ρ' σ' H' ∧ Stp ρ σ F H ρ' σ' F' H' ∧ Pin (bs.map (·.1) ++ pn) σ σ' ∧ Ex F1 F' ∧ I (i + 1) ρ') :=
        fun ρ5 σ5 F5 H5 rel5 st5 p5 g => ⟨ρ5, F5, rel5, st24.trans rel st5, p24.trans p5, e4.trans (st5.ex rel4), g⟩
      exact ⟨ρt, _, wb, F4, rel4, next, (b.from rel st24 p24.of_app).app, (a.from rel st24 p24.of_app).app, next⟩
    · have e : i = ds.length := by omega
      subst e
      exact .inl ⟨wstop (Nat.le_refl _), a ρ2 σ2 F2 H2 rel2 st2 p2.of_app (hd ρ2 w2)⟩⟩
end
end Z
set_option maxRecDepth 100000
set_option maxHeartbeats 1000000
/-! Z3: comprehensions, promises by data, calls. -/
namespace Z
open PySem PySem.Spec PyProof.Rows L2 Evl
/-! ### comprehensions -/
/-- the block's own slots forgotten -/
def wipeE (ρ : Env) : List Nat → Env
  | [] => ρ
  | i :: is => (wipeE ρ is).set i .un
theorem wipeE_len (ρ : Env) : ∀ (vs : List Nat), (wipeE ρ vs).length = ρ.length
  | [] => rfl
  | i :: is => by
    show ((wipeE ρ is).set i .un).length = ρ.length
    rw [List.length_set, wipeE_len ρ is]
theorem wipeE_get (ρ : Env) (j : Nat) (s : SV) (hs : ∀ z : s = .un, False) : ∀ (vs : List Nat), (wipeE ρ vs)[j]? = some s → j ∉ vs ∧ ρ[j]? = some s
  | [], h => ⟨fun z => (by cases z), h⟩
  | i :: is, h => by
    have h : ((wipeE ρ is).set i .un)[j]? = some s := h
    by_cases hj : j = i
    · subst hj
      by_cases hl : j < (wipeE ρ is).length
      · rw [List.getElem?_set_self hl] at h
        exact (hs (Option.some.inj h).symm).elim
      · rw [List.getElem?_eq_none (by rw [List.length_set]; omega)] at h
        cases h
    · rw [List.getElem?_set_ne (Ne.symm hj)] at h
      obtain ⟨h1, h2⟩ := wipeE_get ρ j s hs is h
      exact ⟨fun z => (List.mem_cons.mp z).elim hj h1, h2⟩
theorem wipe_in {σ : L2.St} {j : Nat} (hl : j < σ.length) : ∀ {vs : List Nat}, j ∈ vs → (wipe σ vs)[j]? = some none
  | [], h => by cases h
  | i :: is, h => by
    show ((wipe σ is).set i none)[j]? = some none
    by_cases hj : j = i
    · subst hj
      rw [List.getElem?_set_self (by rw [wipe_length]; exact hl)]
    · rw [List.getElem?_set_ne (Ne.symm hj)]
      exact wipe_in hl ((List.mem_cons.mp h).resolve_left hj)
/-- all slots but the block's own -/
def cmpl (n : Nat) (vs : List Nat) : List Nat := (List.range n).filter fun i => !vs.contains i
theorem wipe_pin {σ σ2 : L2.St} {vs : List Nat} (hl : σ2.length = σ.length) (p : Pin (cmpl σ.length vs) (wipe σ vs) σ2) : wipe σ2 vs = wipe σ vs := by
  refine List.ext_getElem? fun j => ?_
  by_cases hj : j < σ.length
  · by_cases hv : j ∈ vs
    · rw [wipe_in (by rw [hl]; exact hj) hv, wipe_in hj hv]
    · rw [wipe_out hv, wipe_out hv]
      have := p j (List.mem_filter.mpr ⟨List.mem_range.mpr hj, by simpa using hv⟩)
      rw [this, wipe_out hv]
  · rw [List.getElem?_eq_none (by rw [wipe_length, hl]; omega), List.getElem?_eq_none (by rw [wipe_length]; omega)]
section
variable {K : PySem.W.Frag} {F F1 H H1 : Hp} {ρ ρ1 : Env} {σ σ1 σ2 : L2.St} {vs : List Nat}
theorem Rel.reslot (r : Rel K F ρ σ H) (hl : σ2.length = ρ1.length) (h : ∀ (j : Nat) (s : SV), (∀ z : s = .un, False) → ρ1[j]? = some s → ρ[j]? = some s ∧ σ2[j]? = σ[j]?) : Rel K F ρ1 σ2 H := by
  refine ⟨r.ex, hl, fun j d e => ?_, fun j d e => ?_, fun i j d e p h1 h2 h3 h4 => ?_⟩
  · obtain ⟨e1, e2⟩ := h j _ (fun z => by cases z) e
    rw [e2]
    exact r.im j d e1
  · obtain ⟨e1, e2⟩ := h j _ (fun z => by cases z) e
    rw [e2]
    exact r.own j d e1
  · obtain ⟨e1, e2⟩ := h i _ (fun z => by cases z) h1
    obtain ⟨e3, e4⟩ := h j _ (fun z => by cases z) h2
    rw [e2] at h3
    rw [e4] at h4
    exact r.inj i j d e p e1 e3 h3 h4
theorem owns_reslot (h : ∀ (j : Nat) (s : SV), (∀ z : s = .un, False) → ρ1[j]? = some s → ρ[j]? = some s ∧ σ2[j]? = σ[j]?) {a : Addr} (o : Owns ρ1 σ2 a) : Owns ρ σ a := by
  obtain ⟨j, d, h1, h2⟩ := o
  obtain ⟨e1, e2⟩ := h j _ (fun z => by cases z) h1
  exact ⟨j, d, e1, by rw [← e2]; exact h2⟩
theorem wiped (hw : wipe σ2 vs = wipe σ vs) : ∀ (j : Nat) (s : SV), (∀ z : s = .un, False) → (wipeE ρ vs)[j]? = some s → ρ[j]? = some s ∧ (wipe σ vs)[j]? = σ2[j]? := fun j s hs h => by
  obtain ⟨h1, h2⟩ := wipeE_get ρ j s hs vs h
  exact ⟨h2, by rw [← hw, wipe_out h1]⟩
/-- an object that nobody knows is changed -/
theorem Rel.mut (r : Rel K F ρ σ H) {p : Addr} {o : HO} (hn : F p = none) (no : ¬ Owns ρ σ p) : Rel K F ρ σ (upd H p o) := by
  refine ⟨Ex.mut r.ex hn, r.len, r.im, fun i d h => ?_, r.inj⟩
  obtain ⟨q, h1, h2, h3⟩ := r.own i d h
  exact ⟨q, h1, h2, h3.at (Ex.refl F) (upd_ne (fun z => no ⟨i, d, h, by rw [h1, z]⟩))⟩
theorem Stp.mut (s : Stp ρ σ F H ρ1 σ1 F1 H1) {p : Addr} {o : HO} (hn : H p = none) : Stp ρ σ F H ρ1 σ1 F1 (upd H1 p o) := by
  refine ⟨fun a u h n => ?_, s.own, fun a h => ?_⟩
  · obtain ⟨k1, k2⟩ := s.keep a u h n
    exact ⟨by rw [upd_ne (ne_of_none h hn)]; exact k1, k2⟩
  · by_cases q : a = p
    · rw [q, upd_same]; exact fun z => by cases z
    · rw [upd_ne q]; exact s.dom a h
end
section
variable {X : Cx} {elt tg iter : Expr} {ifs : List Expr} {scope : Scope} {own : List (Str × Nat)} {pos : Pos} {ρ ρ1 ρ2 : Env} {bs : List (Nat × D)} {ds out : List D}
/-- judgements within a comprehension's block -/
def BG (X : Cx) (scope : Scope) (pn : List Nat) (tg : Expr) (d : D) (ρ ρ' : Env) : Prop := ∀ (s : Shared) (H : Hp) (C : Addr) (cl : List (Str × Addr)) (fp : List Addr), WG (X.blk s H scope (compEnvC scope cl C X.env) fp) pn tg d ρ ρ'
def BT (X : Cx) (scope : Scope) (ifs : List Expr) (ρ : Env) (b : Bool) (ρ' : Env) : Prop := ∀ (s : Shared) (H : Hp) (C : Addr) (cl : List (Str × Addr)) (fp : List Addr), PTs (X.blk s H scope (compEnvC scope cl C X.env) fp) ifs (tT X.K ρ b ρ')
def BE (X : Cx) (scope : Scope) (e : Expr) (ρ : Env) (r : R) (ρ' : Env) : Prop := ∀ (s : Shared) (H : Hp) (C : Addr) (cl : List (Str × Addr)) (fp : List Addr), WE (X.blk s H scope (compEnvC scope cl C X.env) fp) e ρ r ρ'
theorem bt_nil : BT X scope [] ρ true ρ := fun s H C cl fp => ⟨fun pins s' σ H Q I ⟨F, rel, k⟩ => pts_nil.run pins s' σ H Q I (k F H rel Stp.refl)⟩
theorem bt_one {c : Expr} {b : Bool} (h : ∀ (s : Shared) (H : Hp) (C : Addr) (cl : List (Str × Addr)) (fp : List Addr), WT (X.blk s H scope (compEnvC scope cl C X.env) fp) c ρ b ρ1) : BT X scope [c] ρ b ρ1 := fun s H C cl fp => pts_one (h s H C cl fp)
def aBG (X : Cx) (scope : Scope) (tg : Expr) : TG := fun v σ H Q => ∃ pn d ρ ρ', BG X scope pn tg d ρ ρ' ∧ tG X.K pn d ρ ρ' v σ H Q
def aBT (X : Cx) (scope : Scope) (ifs : List Expr) : TT := fun σ H Q => ∃ ρ b ρ', BT X scope ifs ρ b ρ' ∧ tT X.K ρ b ρ' σ H Q
def aBE (X : Cx) (scope : Scope) (e : Expr) : TE := fun σ H Q => ∃ ρ r ρ', BE X scope e ρ r ρ' ∧ tE X.K ρ r ρ' σ H Q
/-- what a turn of a comprehension does: from ρ with the item d, to ρ' with the new items add -/
def Turned (X : Cx) (scope : Scope) (tg elt : Expr) (ifs : List Expr) (vs : List Nat) (d : D) (ρ : Env) (G : List D → Env → Prop) : Prop :=
  ∃ ρt b ρc, BG X scope (cmpl ρ.length vs) tg d ρ ρt ∧ ρt.length = ρ.length ∧ BT X scope ifs ρt b ρc ∧ ρc.length = ρ.length ∧
    (b = true → ∃ e ρe, BE X scope elt ρc (.im e) ρe ∧ ρe.length = ρ.length ∧ G [e] (wipeE ρe vs)) ∧ (b = false → G [] (wipeE ρc vs))
theorem run_lc {vs : List Nat} (I : Nat → Env → List D → Prop) (h0 : I 0 (wipeE ρ1 vs) []) (hlen : ∀ i ρ acc, I i ρ acc → ρ.length = ρ1.length ∧ acc.length ≤ i)
    (hs : ∀ (i : Nat) d ρi acc, ds[i]? = some d → I i ρi acc → Turned X scope tg elt ifs vs d ρi fun add ρ' => I (i + 1) ρ' (acc ++ add))
    (hd : ∀ ρ' acc, I ds.length ρ' acc → acc = out ∧ ρ' = ρ2) (hz : ds.length ≤ 100000) {σ : L2.St} {H : Hp} {Q : VK} (h : tE X.K ρ (.fr (.lst out)) ρ2 σ H Q) (hbo : ∀ i ρ acc, I i ρ acc → ∀ b ∈ bs, b.1 ∉ vs ∧ ρ[b.1]? = some (.own b.2)) :
    tLc (tI X.K ρ bs ds ρ1) (aBG X scope tg) (aBT X scope ifs) (aBE X scope elt) vs σ H Q := by
  obtain ⟨F, rel, k⟩ := h
  refine ⟨F, rel, fun J F1 H1 rel1 st1 wk Dl hDl => ?_⟩
  have hDl0 : H Dl = none := by
    cases e : H Dl with
    | none => rfl
    | some o => exact absurd hDl (st1.dom Dl (by rw [e]; exact fun z => by cases z))
  have ls : σ.length = ρ1.length := rel1.len
  -- the invariant: the turn's state at the wiped slots, the list so far at Dl
  refine ⟨fun i m H' => m = ds.length - i ∧ i ≤ ds.length ∧ ∃ ρi F' acc ws, Rel X.K F' ρi (wipe σ vs) H' ∧ Stp ρ σ F H ρi (wipe σ vs) F' H' ∧ Ex F1 F' ∧ F' Dl = none ∧ H' Dl = some (.lst ws) ∧ Reps X.K F' ws acc ∧ ¬ Owns ρi (wipe σ vs) Dl ∧ I i ρi acc, ⟨ds.length, by simp, Nat.zero_le _, ?_⟩, ?_⟩
  · have rs : ∀ (j : Nat) (s : SV), (∀ z : s = .un, False) → (wipeE ρ1 vs)[j]? = some s → ρ1[j]? = some s ∧ (wipe σ vs)[j]? = σ[j]? := wiped rfl
    have rel2 : Rel X.K F1 (wipeE ρ1 vs) (wipe σ vs) H1 := rel1.reslot (by rw [wipe_length, wipeE_len]; exact ls) rs
    have st2 : Stp ρ σ F H (wipeE ρ1 vs) (wipe σ vs) F1 H1 := ⟨st1.keep, fun a o => st1.own a (owns_reslot rs o), st1.dom⟩
    exact ⟨wipeE ρ1 vs, F1, [], [], rel2.alloc hDl, st2.mut hDl0, Ex.refl _, rel1.newF hDl, upd_same, .nil, rel2.new hDl, h0⟩
  · rintro i m H2 ⟨rfl, hi, ρi, F2, acc, ws, rel2, st2, e2, n2, l2, r2, no2, w2⟩
    obtain ⟨wstop, wgo⟩ := wk i ρi (wipe σ vs) F2 H2 rel2 e2 fun c hc => ⟨(hbo i ρi acc w2 c hc).2, wipe_out (hbo i ρi acc w2 c hc).1⟩
    by_cases hlt : i < ds.length
    · obtain ⟨go, yld⟩ := wgo ds[i] (List.getElem?_eq_getElem hlt)
      refine .inr ⟨go, fun H' => ∃ ρi F' acc ws, Rel X.K F' ρi (wipe σ vs) H' ∧ Stp ρ σ F H ρi (wipe σ vs) F' H' ∧ Ex F1 F' ∧ F' Dl = none ∧ H' Dl = some (.lst ws) ∧ Reps X.K F' ws acc ∧ ¬ Owns ρi (wipe σ vs) Dl ∧ I (i + 1) ρi acc, fun H' h => ⟨ds.length - (i + 1), by omega, rfl, hlt, h⟩, fun x H3 y => ?_⟩
      obtain ⟨F3, rel3, st3, rx⟩ := yld x H3 y
      obtain ⟨ρt, b, ρc, bg, lt, bt, lc, yes, no⟩ := hs i ds[i] ρi acc (List.getElem?_eq_getElem hlt) w2
      have li : ρi.length = σ.length := by rw [(hlen i ρi acc w2).1, ls]
      refine ⟨cmpl ρi.length vs, ds[i], ρi, ρt, bg, F3, rel3, rx, fun σ4 F4 H4 rel4 st4 p4 => ?_⟩
      have hw : wipe σ4 vs = wipe σ vs := wipe_pin (by rw [rel4.len, lt, li]) (by rw [← li]; exact p4)
      refine ⟨hw, ρt, b, ρc, bt, F4, rel4, fun F5 H5 rel5 st5 => ?_⟩
      have s35 : Stp ρi (wipe σ vs) F2 H2 ρc σ4 F5 H5 := (st3.trans rel2 st4).trans rel2 st5
      -- what holds at the end of the turn
      have fin : ∀ {ρ6 : Env} {F6 H6 : Hp} {add : List D} {ws6 : List V}, ρ6.length = ρi.length → Rel X.K F6 ρ6 σ4 H6 → Stp ρi (wipe σ vs) F2 H2 ρ6 σ4 F6 H6 → Reps X.K F6 ws6 (acc ++ add) → I (i + 1) (wipeE ρ6 vs) (acc ++ add) →
          ∃ ρi F' acc ws, Rel X.K F' ρi (wipe σ vs) (upd H6 Dl (.lst ws6)) ∧ Stp ρ σ F H ρi (wipe σ vs) F' (upd H6 Dl (.lst ws6)) ∧ Ex F1 F' ∧ F' Dl = none ∧ (upd H6 Dl (.lst ws6)) Dl = some (.lst ws) ∧ Reps X.K F' ws acc ∧ ¬ Owns ρi (wipe σ vs) Dl ∧ I (i + 1) ρi acc :=
        fun {ρ6 F6 H6 add ws6} l6 rel6 st6 r6 g => by
          have rs := wiped (ρ := ρ6) (σ := σ) (σ2 := σ4) hw
          have n6 : F6 Dl = none := (st6.keep Dl _ l2 no2).2.trans n2
          have no6 : ¬ Owns ρ6 σ4 Dl := fun z => by
            rcases st6.own Dl z with z | z
            · exact no2 z
            · rw [l2] at z; cases z
          have rel7 : Rel X.K F6 (wipeE ρ6 vs) (wipe σ vs) H6 := rel6.reslot (by rw [wipe_length, wipeE_len, l6, li]) rs
          have no7 : ¬ Owns (wipeE ρ6 vs) (wipe σ vs) Dl := fun z => no6 (owns_reslot rs z)
          have st7 : Stp ρ σ F H (wipeE ρ6 vs) (wipe σ vs) F6 H6 := by
            have s := st2.trans rel st6
            exact ⟨s.keep, fun a o => s.own a (owns_reslot rs o), s.dom⟩
          exact ⟨wipeE ρ6 vs, F6, acc ++ add, ws6, rel7.mut n6 no7, st7.mut hDl0, e2.trans (st6.ex rel2), n6, upd_same, r6, no7, g⟩
      cases b with
      | true =>
        show aBE X scope elt σ4 H5 fun y H4 => ∃ acc, H4 Dl = some (.lst acc) ∧ acc.length < sizeLine ∧ _
        obtain ⟨e, ρe, be, le, g⟩ := yes rfl
        refine ⟨ρc, .im e, ρe, be, F5, rel5, fun y F6 H6 rel6 st6 q6 => ?_⟩
        have s36 := s35.trans rel2 st6
        obtain ⟨k1, k2⟩ := s36.keep Dl _ l2 no2
        refine ⟨ws, k1, ?_, fin le rel6 s36 (Reps.append (r2.mono (s36.ex rel2)) (.cons q6 .nil)) g⟩
        rw [r2.length]
        exact sz_lt (by have := (hlen i ρi acc w2).2; omega)
      | false =>
        show ∃ ρi F' acc ws, _
        obtain ⟨k1, k2⟩ := s35.keep Dl _ l2 no2
        have z := fin (add := []) (ws6 := ws) lc rel5 s35 (by rw [List.append_nil]; exact r2.mono (s35.ex rel2)) (no rfl)
        have e5 : upd H5 Dl (.lst ws) = H5 := by
          funext a
          by_cases q : a = Dl
          · rw [q, upd_same, k1]
          · rw [upd_ne q]
        rw [e5] at z
        exact z
    · have e : i = ds.length := by omega
      subst e
      refine .inl ⟨wstop (Nat.le_refl _), ?_⟩
      obtain ⟨ea, er⟩ := hd ρi acc w2
      subst ea er
      -- back at the slots of the def
      have rs : ∀ (j : Nat) (s : SV), (∀ z : s = .un, False) → ρi[j]? = some s → ρi[j]? = some s ∧ σ[j]? = (wipe σ vs)[j]? := fun j s hs' h => by
        refine ⟨h, ?_⟩
        cases s with
        | un => exact (hs' rfl).elim
        | im d =>
          obtain ⟨v, hv, _⟩ := rel2.im j d h
          rw [hv, (wipe_some hv).1]
        | own d =>
          obtain ⟨v, hv, _⟩ := rel2.own j d h
          rw [hv, (wipe_some hv).1]
      have rel3 : Rel X.K F2 ρi σ H2 := rel2.reslot (by rw [ls, (hlen _ ρi acc w2).1]) rs
      have st3 : Stp ρ σ F H ρi σ F2 H2 := ⟨st2.keep, fun a o => st2.own a (owns_reslot rs o), st2.dom⟩
      exact k _ F2 H2 rel3 st3 ⟨Dl, rfl, n2, hDl0, ⟨ws, l2, r2⟩, fun z => no2 (owns_reslot rs z)⟩
theorem pg_b {s : Shared} {H : Hp} {C : Addr} {cl : List (Str × Addr)} {fp : List Addr} : PG (X.blk s H scope (compEnvC scope cl C X.env) fp) tg (aBG X scope tg) :=
  ⟨fun pins s' σ H' v u Q I rv ⟨pn, d, ρ, ρ', h, q⟩ => (h s H C cl fp).run pins s' σ H' v u Q I rv q⟩
theorem pt_b {s : Shared} {H : Hp} {C : Addr} {cl : List (Str × Addr)} {fp : List Addr} : PTs (X.blk s H scope (compEnvC scope cl C X.env) fp) ifs (aBT X scope ifs) :=
  ⟨fun pins s' σ H' Q I ⟨ρ, b, ρ', h, q⟩ => (h s H C cl fp).run pins s' σ H' Q I q⟩
theorem pe_b {s : Shared} {H : Hp} {C : Addr} {cl : List (Str × Addr)} {fp : List Addr} : PE (X.blk s H scope (compEnvC scope cl C X.env) fp) elt (aBE X scope elt) :=
  ⟨fun pins s' σ H' Q I ⟨ρ, r, ρ', h, q⟩ => (h s H C cl fp).run pins s' σ H' Q I q⟩
/-- [elt for tg in iter if ..]: by an invariant over turn, state, list so far -/
theorem we_lc (own : List (Str × Nat)) (hi : WI X tg iter ρ bs ds ρ1) (I : Nat → Env → List D → Prop) (h0 : I 0 (wipeE ρ1 (own.map (·.2))) []) (hlen : ∀ i ρ acc, I i ρ acc → ρ.length = ρ1.length ∧ acc.length ≤ i)
    (hs : ∀ (i : Nat) d ρi acc, ds[i]? = some d → I i ρi acc → Turned X scope tg elt ifs (own.map (·.2)) d ρi fun add ρ' => I (i + 1) ρ' (acc ++ add))
    (hd : ∀ ρ' acc, I ds.length ρ' acc → acc = out ∧ ρ' = ρ2) (hz : ds.length ≤ 100000) (ok : BlkOk X.N X.env.scope scope own) (hc : X.calm = true := by rfl) (hN : X.N.Nodup := by first | assumption | decide +kernel) (hf : ∀ x, foldedSetIterable iter X.env x = pure x := by intro _; rfl) (hbo : ∀ i ρ acc, I i ρ acc → ∀ b ∈ bs, b.1 ∉ own.map (·.2) ∧ ρ[b.1]? = some (.own b.2) := by first | (intro _ _ _ _ b hb; cases hb; done) | skip) :
    WE X (.ListComp elt [⟨tg, iter, ifs, 0⟩] scope pos) ρ (.fr (.lst out)) ρ2 :=
  PE.imp (pe_lc hc hN hi ok (fun _ _ _ _ _ => pg_b) (fun _ _ _ _ _ => pt_b) (fun _ _ _ _ _ => pe_b) hf) fun σ H Q h => run_lc I h0 hlen hs hd hz h hbo
/-- name = [..] on one line -/
theorem ws_setLc {pn : List Nat} {i : Nat} {y : Str} {py spos : Pos} (own : List (Str × Nat)) (hi : WI X tg iter ρ bs ds ρ1) (I : Nat → Env → List D → Prop) (h0 : I 0 (wipeE ρ1 (own.map (·.2))) []) (hlen : ∀ i ρ acc, I i ρ acc → ρ.length = ρ1.length ∧ acc.length ≤ i)
    (hs : ∀ (i : Nat) d ρi acc, ds[i]? = some d → I i ρi acc → Turned X scope tg elt ifs (own.map (·.2)) d ρi fun add ρ' => I (i + 1) ρ' (acc ++ add))
    (hd : ∀ ρ' acc, I ds.length ρ' acc → acc = out ∧ ρ' = ρ2) (hz : ds.length ≤ 100000) (ok : BlkOk X.N X.env.scope scope own) (hsw : swapsWith (.ListComp elt [⟨tg, iter, ifs, 0⟩] scope pos) (some (.Name y py)) spos.line X.env = pure true)
    (hp : i ∉ pn := by first | decide | exact of_decide_eq_true rfl) (hl : i < ρ2.length := by first | decide | (simp; done) | exact Nat.le_of_ble_eq_true rfl) (hy : X.N[i]? = some y := by rfl) (hyl : X.env.scope.names.lookup y = some .local := by rfl) (hc : X.calm = true := by rfl) (hN : X.N.Nodup := by first | assumption | decide +kernel) (hf : ∀ x, foldedSetIterable iter X.env x = pure x := by intro _; rfl) (hbo : ∀ i ρ acc, I i ρ acc → ∀ b ∈ bs, b.1 ∉ own.map (·.2) ∧ ρ[b.1]? = some (.own b.2) := by first | (intro _ _ _ _ b hb; cases hb; done) | skip) :
    WN X pn (.Assign [.Name y py] (.ListComp elt [⟨tg, iter, ifs, 0⟩] scope pos) spos) ρ (ρ2.set i (.own (.lst out))) := fun P g =>
  PS.imp (ps_setLc hc hN hy hyl hsw hi ok (fun _ _ _ _ _ => pg_b) (fun _ _ _ _ _ => pt_b) (fun _ _ _ _ _ => pe_b) hf) fun D σ H ⟨F, rel, p, _⟩ =>
    run_lc I h0 hlen hs hd hz ⟨F, rel, fun v F' H' rel' st' q => p _ _ F' H' (set_rel rel' q (.fr _) hl) (set_stp st' q (.fr _)) (pin_set hp) g⟩ hbo
end
end Z
set_option maxRecDepth 100000
set_option maxHeartbeats 1000000
/-! Z4: promises by data, calls. -/
namespace Z
open PySem PySem.Spec PyProof.Rows L2 Evl
/-- a promise: data in, a result out; nothing that stood is changed -/
def spP (K : PySem.W.Frag) (S : List D → R → Prop) : Sp := fun vs H Q _ => ∃ ds r, S ds r ∧ tE K (ds.map .im) r (ds.map .im) (vs.map some) H Q
/-- .. the first argument an object that is changed -/
def spM (K : PySem.W.Frag) (S : D → List D → R → D → Prop) : Sp := fun vs H Q _ => ∃ d ds r d', S d ds r d' ∧ tE K (.own d :: ds.map .im) r (.own d' :: ds.map .im) (vs.map some) H Q
abbrev EF : XK := fun _ _ _ => False
/-- what a return gives -/
inductive Rt (pn : List Nat) (ρ : Env) : R → R → Prop where
  | im (d : D) : Rt pn ρ (.im d) (.im d)
  | fr (d : D) : Rt pn ρ (.fr d) (.fr d)
  | sl {i : Nat} {d : D} (hi : i ∉ pn) (h : ρ[i]? = some (.own d)) : Rt pn ρ (.fr d) (.sl i)
section
variable {K : PySem.W.Frag} {F F1 H H1 : Hp} {ds : List D} {vs : List V} {d d' : D} {p : Addr}
theorem get_im {i : Nat} {s : SV} (h : (ds.map SV.im)[i]? = some s) : ∃ e, s = .im e ∧ ds[i]? = some e := by
  rw [List.getElem?_map] at h
  cases e : ds[i]? with
  | none => rw [e] at h; cases h
  | some x => rw [e] at h; exact ⟨x, (Option.some.inj h).symm, rfl⟩
theorem rel_args (r : Reps K F vs ds) (e : Ex F H) : Rel K F (ds.map .im) (vs.map some) H := by
  refine ⟨e, by rw [List.length_map, List.length_map, r.length], fun i x h => ?_, fun i x h => ?_, fun i j x y p h _ _ _ => ?_⟩
  · obtain ⟨z, ez, hz⟩ := get_im h
    cases ez
    obtain ⟨v, hv, rv⟩ := r.get hz
    exact ⟨v, by rw [List.getElem?_map, hv]; rfl, rv⟩
  · obtain ⟨z, ez, _⟩ := get_im h
    cases ez
  · obtain ⟨z, ez, _⟩ := get_im h
    cases ez
theorem rel_args1 (hn : F p = none) (ho : OwnAt K F H p d) (r : Reps K F vs ds) (e : Ex F H) : Rel K F (.own d :: ds.map .im) ((V.ref p :: vs).map some) H := by
  refine ⟨e, by rw [List.length_map, List.length_cons, List.length_cons, List.length_map, r.length], fun i x h => ?_, fun i x h => ?_, fun i j x y q h1 h2 _ _ => ?_⟩
  · cases i with
    | zero => cases h
    | succ i =>
      obtain ⟨z, ez, hz⟩ := get_im h
      cases ez
      obtain ⟨v, hv, rv⟩ := r.get hz
      exact ⟨v, by show ((vs.map some)[i]? : Option (Option V)) = _; rw [List.getElem?_map, hv]; rfl, rv⟩
  · cases i with
    | zero => cases h; exact ⟨p, rfl, hn, ho⟩
    | succ i =>
      obtain ⟨z, ez, _⟩ := get_im h
      cases ez
  · cases i with
    | zero =>
      cases j with
      | zero => rfl
      | succ j => obtain ⟨z, ez, _⟩ := get_im h2; cases ez
    | succ i => obtain ⟨z, ez, _⟩ := get_im h1; cases ez
theorem no_owns {σ : L2.St} {a : Addr} (h : Owns (ds.map .im) σ a) : False := by
  obtain ⟨i, x, h1, _⟩ := h
  obtain ⟨z, ez, _⟩ := get_im h1
  cases ez
theorem owns1 {a : Addr} (h : Owns (.own d :: ds.map .im) ((V.ref p :: vs).map some) a) : a = p := by
  obtain ⟨i, x, h1, h2⟩ := h
  cases i with
  | zero => cases h2; rfl
  | succ i => obtain ⟨z, ez, _⟩ := get_im h1; cases ez
theorem owns1' : Owns (.own d :: ds.map .im) ((V.ref p :: vs).map some) p := ⟨0, d, rfl, rfl⟩
end
/-! all is kept but what p may have become -/
section
variable {K : PySem.W.Frag} {F F1 H H1 : Hp} {ρ : Env} {σ : L2.St}
theorem Rel.keepAll (r : Rel K F ρ σ H) (k : ∀ a o, H a = some o → H1 a = some o ∧ F1 a = F a) (e : Ex F1 H1) : Rel K F1 ρ σ H1 := by
  have ef : Ex F F1 := fun a o h => by rw [(k a o (r.ex a o h)).2, h]
  refine ⟨e, r.len, fun i d h => ?_, fun i d h => ?_, r.inj⟩
  · obtain ⟨v, h1, h2⟩ := r.im i d h
    exact ⟨v, h1, h2.mono ef⟩
  · obtain ⟨q, h1, h2, h3⟩ := r.own i d h
    obtain ⟨o, ho⟩ := h3.ob
    obtain ⟨k1, k2⟩ := k q o ho
    exact ⟨q, h1, by rw [k2, h2], h3.at ef (k1.trans ho.symm)⟩
theorem Rel.keepBut (r : Rel K F ρ σ H) {i : Nat} {d d' : D} {p : Addr} (hi : ρ[i]? = some (.own d)) (hs : σ[i]? = some (some (.ref p))) (k : ∀ a o, a ≠ p → H a = some o → H1 a = some o ∧ F1 a = F a) (e : Ex F1 H1) (hn : F1 p = none) (ho : OwnAt K F1 H1 p d') :
    Rel K F1 (ρ.set i (.own d')) σ H1 := by
  obtain ⟨q0, hq0, hn0, _⟩ := r.own i d hi
  rw [hs] at hq0
  cases hq0
  have hil : i < ρ.length := (List.getElem?_eq_some_iff.mp hi).1
  have ef : Ex F F1 := fun a o h => by
    have : a ≠ p := fun z => by rw [z, hn0] at h; cases h
    rw [(k a o this (r.ex a o h)).2, h]
  refine ⟨e, by rw [List.length_set]; exact r.len, fun j x h => ?_, fun j x h => ?_, fun j l x y q hj hl h1 h2 => ?_⟩
  · have hj : j ≠ i := fun z => by subst z; rw [List.getElem?_set_self hil] at h; cases h
    rw [List.getElem?_set_ne (Ne.symm hj)] at h
    obtain ⟨v, h1, h2⟩ := r.im j x h
    exact ⟨v, h1, h2.mono ef⟩
  · by_cases hj : j = i
    · subst hj
      rw [List.getElem?_set_self hil] at h
      cases h
      exact ⟨p, hs, hn, ho⟩
    · rw [List.getElem?_set_ne (Ne.symm hj)] at h
      obtain ⟨q, h1, h2, h3⟩ := r.own j x h
      obtain ⟨o, hob⟩ := h3.ob
      have hqp : q ≠ p := fun z => hj (r.inj j i x d p h hi (by rw [h1, z]) hs)
      obtain ⟨k1, k2⟩ := k q o hqp hob
      exact ⟨q, h1, by rw [k2, h2], h3.at ef (k1.trans hob.symm)⟩
  · have old : ∀ {l : Nat} {g : D}, (ρ.set i (.own d'))[l]? = some (.own g) → ∃ g', ρ[l]? = some (.own g') := fun {l g} h => by
      by_cases hl : l = i
      · subst hl; exact ⟨d, hi⟩
      · rw [List.getElem?_set_ne (Ne.symm hl)] at h; exact ⟨g, h⟩
    obtain ⟨x', hx⟩ := old hj
    obtain ⟨y', hy⟩ := old hl
    exact r.inj j l x' y' q hx hy h1 h2
theorem owns_set_own {i : Nat} {d d' : D} (hi : ρ[i]? = some (.own d)) {a : Addr} (h : Owns (ρ.set i (.own d')) σ a) : Owns ρ σ a := by
  obtain ⟨j, e, h1, h2⟩ := h
  by_cases hj : j = i
  · subst hj; exact ⟨j, d, hi, h2⟩
  · rw [List.getElem?_set_ne (Ne.symm hj)] at h1
    exact ⟨j, e, h1, h2⟩
end
/-! ### promises of calls, where nothing is being shown (repr) around -/
def FnG (P : Program) (w : World) (K : PySem.W.Frag) (mg : Str → Option Value) (base : Heap) (CX : CXT) (k : Nat) (f : Addr) (sp : Sp) : Prop :=
  ∀ (A : Around) (outer : List PySem.Env) (s : Shared) (H : Hp) (us : List Value) (vs : List V) (Q : VK) (E : XK), A.guards = some [] → Room k A → Env0 P w K mg base A outer s H → Vals vs us → sp vs H Q E →
    codeAny (model P w) A (.call (.ref f) ⟨us, []⟩) (CR CX outer P w H s Q E) s
section
variable {P : Program} {w : World} {K : PySem.W.Frag} {mg : Str → Option Value} {base : Heap} {CX : CXT} {j k : Nat} {f : Addr} {sp sp' : Sp}
theorem FnG.mono (F : FnG P w K mg base CX j f sp) (h : j ≤ k) : FnG P w K mg base CX k f sp := fun A outer s H us vs Q E hg hr => F A outer s H us vs Q E hg (hr.mono h)
theorem FnG.imp (F : FnG P w K mg base CX k f sp) (h : ∀ vs H Q E, sp' vs H Q E → sp vs H Q E) : FnG P w K mg base CX k f sp' := fun A outer s H us vs Q E hg hr e0 r hs => F A outer s H us vs Q E hg hr e0 r (h _ _ _ _ hs)
theorem FnG.of (F : FnR P w K mg base CX k f sp) : FnG P w K mg base CX k f sp := fun A outer s H us vs Q E _ hr => F A outer s H us vs Q E hr
end
/-- the callee runs -/
theorem run_fnG {X : Cx} {pins : List (Addr × Obj)} {σ : L2.St} {H : Hp} {s : Shared} {CX : CXT} {k : Nat} {f : Addr} {sp : Sp} {E : XK} {Q : VK} {us : List Value} {vs : List V} (F : FnG X.prog X.w X.K X.mg X.base CX k f sp) (hg : X.A.guards = some []) (hr : Room k X.A) (hx : Passes CX X E)
    (I : Inv X pins σ H s) (r : Vals vs us) (h : sp vs H Q E) : codeAny (model X.prog X.w) X.A (.call (.ref f) ⟨us, []⟩) (fun r s' => match r with
      | .ok (.ret v) => EP X pins σ Q v s'
      | .ok _ => False
      | .error e => X.xe e s') s := by
  refine codeAny_mono (F X.A X.stack s H us vs Q E hg hr I.env0 r h) fun res s' q => ?_
  match res, q with
  | .error e, q => exact hx pins σ H s e s' I q
  | .ok (.ret u), q => exact I.after q
  | .ok .next, q => exact q.elim
  | .ok .brk, q => exact q.elim
  | .ok .cont, q => exact q.elim
/-! ### a def keeps its promise -/
section
variable {CX : CXT} {P : Program} {w : World} {K : PySem.W.Frag} {mg : Str → Option Value} {base : Heap} {k : Nat} {f : Addr} {name qual : Str} {params : Arguments} {body : List Stmt} {scope : Scope} {dV kV doc pm cdv ct oc : Value} {an od : Option Addr}
  {osl : Array (Option Value)} {N ps : List Str}
theorem start_get {vs : List V} {ρ : Env} (hl : vs.length = ρ.length) {i : Nat} {s : SV} (hs : ∀ z : s = .un, False) (h : (ρ ++ List.replicate (N.length - ρ.length) SV.un)[i]? = some s) : ρ[i]? = some s ∧ (L2.start N vs)[i]? = (vs.map some)[i]? := by
  by_cases hi : i < ρ.length
  · rw [List.getElem?_append_left hi] at h
    refine ⟨h, ?_⟩
    unfold L2.start
    rw [List.getElem?_append_left (by rw [List.length_map, hl]; exact hi)]
  · rw [List.getElem?_append_right (by omega), List.getElem?_replicate] at h
    split at h
    · exact (hs (Option.some.inj h).symm).elim
    · cases h
theorem rel_start {F H : Hp} {ρ : Env} {vs : List V} (r : Rel K F ρ (vs.map some) H) : Rel K F (ρ ++ List.replicate (N.length - ρ.length) SV.un) (L2.start N vs) H := by
  have hl : vs.length = ρ.length := by have := r.len; rwa [List.length_map] at this
  refine r.reslot ?_ fun j s hs h => start_get hl hs h
  unfold L2.start
  rw [List.length_append, List.length_append, List.length_map, List.length_replicate, List.length_replicate, hl]
theorem owns_start {ρ : Env} {vs : List V} (hl : vs.length = ρ.length) {a : Addr} (h : Owns (ρ ++ List.replicate (N.length - ρ.length) SV.un) (L2.start N vs) a) : Owns ρ (vs.map some) a := owns_reslot (fun j s hs h => start_get hl hs h) h
theorem Rt.good {pn : List Nat} {ρ ρ' : Env} {σ σ' : L2.St} {F F' H H' : Hp} {r r' : R} {v : V} (h : Rt pn ρ' r r') (rel : Rel K F ρ σ H) (rel' : Rel K F' ρ' σ' H') (st : Stp ρ σ F H ρ' σ' F' H') (q : RepR K F' H H' ρ' σ' v r')
    (hp : Pin pn σ σ') (own : ∀ i d, ρ[i]? = some (.own d) → i ∈ pn ∧ ∃ d', ρ'[i]? = some (.own d')) {ρ2 : Env} {σ2 : L2.St} (ho : ∀ a, Owns ρ2 σ2 a → ∃ i d, i ∈ pn ∧ ρ'[i]? = some (.own d) ∧ σ'[i]? = some (some (.ref a))) :
    RepR K F' H H' ρ2 σ2 v r := by
  cases h with
  | im d => exact q
  | fr d =>
    obtain ⟨p, e1, f, h0, o, n⟩ := q
    refine ⟨p, e1, f, h0, o, fun z => n ?_⟩
    obtain ⟨i, d', _, h1, h2⟩ := ho p z
    exact ⟨i, d', h1, h2⟩
  | @sl i d hi h =>
    have q : σ'[i]? = some (some v) := q
    obtain ⟨p, hp', hn, o⟩ := rel'.own i d h
    rw [q] at hp'
    cases hp'
    refine ⟨p, rfl, hn, ?_, o, fun z => ?_⟩
    · rcases st.own p ⟨i, d, h, q⟩ with z | z
      · obtain ⟨j, e, h1, h2⟩ := z
        obtain ⟨hj, d2, h3⟩ := own j e h1
        have h4 : σ'[j]? = some (some (.ref p)) := (hp j hj).trans h2
        have := rel'.inj i j d d2 p h h3 q h4
        subst this
        exact absurd hj hi
      · exact z
    · obtain ⟨j, d2, hj, h3, h4⟩ := ho p z
      have := rel'.inj i j d d2 p h h3 q h4
      subst this
      exact hi hj
/-- the body's reading at a call -/
theorem body_P {S : List D → R → Prop} {A : Around} {outer : List PySem.Env} {s : Shared} {H : Hp} {E : XK} {vs : List V} {Q : VK}
    (hb : ∀ ds r, S ds r → WB (cxOf CX P w K mg base N qual scope f cdv A outer s H E).nox [] body (ds.map .im ++ List.replicate (N.length - (ds.map SV.im).length) .un) { nx := fun _ => r = .im .non, rt := fun r' ρ' => Rt [] ρ' r r' }) (h : spP K S vs H Q E) :
    ∃ t, PSs (cxOf CX P w K mg base N qual scope f cdv A outer s H E) body t ∧ t { nx := fun _ H' => Q .non H', rt := Q } (L2.start N vs) H := by
  obtain ⟨ds, r, hS, F, rel, kk⟩ := h
  have hl : vs.length = (ds.map SV.im).length := by have := rel.len; rwa [List.length_map] at this
  refine ⟨_, (hb ds r hS).nox, F, rel_start rel, ?_, ?_, fun _ _ _ _ _ _ _ z => z.elim, fun _ _ _ _ _ _ _ z => z.elim⟩
  · intro ρ' σ' F' H' rel' st pn e
    subst e
    have st' : Stp (ds.map .im) (vs.map some) F H (ds.map .im) (vs.map some) F' H' := ⟨fun a o h _ => st.keep a o h (fun z => no_owns (owns_start hl z)), fun a z => (no_owns z).elim, st.dom⟩
    exact kk .non F' H' (rel.keepAll (fun a o h => st.keep a o h (fun z => no_owns (owns_start hl z))) rel'.ex) st' .non
  · intro v r' ρ' σ' F' H' rel' st pn q g
    have st' : Stp (ds.map .im) (vs.map some) F H (ds.map .im) (vs.map some) F' H' := ⟨fun a o h _ => st.keep a o h (fun z => no_owns (owns_start hl z)), fun a z => (no_owns z).elim, st.dom⟩
    refine kk v F' H' (rel.keepAll (fun a o h => st.keep a o h (fun z => no_owns (owns_start hl z))) rel'.ex) st' ?_
    exact Rt.good g (rel_start rel) rel' st q pn (fun i d h => (by
      obtain ⟨h1, _⟩ := start_get (N := N) hl (fun z => by cases z) h
      obtain ⟨z, ez, _⟩ := get_im h1
      cases ez)) fun a z => (no_owns z).elim
theorem body_M {S : D → List D → R → D → Prop} {A : Around} {outer : List PySem.Env} {s : Shared} {H : Hp} {E : XK} {vs : List V} {Q : VK}
    (hb : ∀ d ds r d', S d ds r d' → WB (cxOf CX P w K mg base N qual scope f cdv A outer s H E).nox [0] body (.own d :: ds.map .im ++ List.replicate (N.length - (SV.own d :: ds.map SV.im).length) .un) { nx := fun ρ' => r = .im .non ∧ ρ'[0]? = some (.own d'), rt := fun r' ρ' => Rt [0] ρ' r r' ∧ ρ'[0]? = some (.own d') })
    (h : spM K S vs H Q E) : ∃ t, PSs (cxOf CX P w K mg base N qual scope f cdv A outer s H E) body t ∧ t { nx := fun _ H' => Q .non H', rt := Q } (L2.start N vs) H := by
  obtain ⟨d, ds, r, d', hS, F, rel, kk⟩ := h
  have hl : vs.length = (SV.own d :: ds.map SV.im).length := by have := rel.len; rwa [List.length_map] at this
  obtain ⟨v0, rest, rfl⟩ : ∃ v0 rest, vs = v0 :: rest := by
    cases vs with
    | nil => cases hl
    | cons a b => exact ⟨a, b, rfl⟩
  obtain ⟨p, hp, hpn, hpo⟩ := rel.own 0 d rfl
  have ev : v0 = .ref p := Option.some.inj (Option.some.inj hp)
  subst ev
  -- the argument's object behind the body
  have back : ∀ {ρ' : Env} {σ' : L2.St} {F' H' : Hp}, Rel K F' ρ' σ' H' → Stp (.own d :: ds.map .im ++ List.replicate (N.length - (SV.own d :: ds.map SV.im).length) .un) (L2.start N (.ref p :: rest)) F H ρ' σ' F' H' → Pin [0] (L2.start N (.ref p :: rest)) σ' → ρ'[0]? = some (.own d') →
      Rel K F' (.own d' :: ds.map .im) ((V.ref p :: rest).map some) H' ∧ Stp (.own d :: ds.map .im) ((V.ref p :: rest).map some) F H (.own d' :: ds.map .im) ((V.ref p :: rest).map some) F' H' ∧ σ'[0]? = some (some (.ref p)) := fun {ρ' σ' F' H'} rel' st pn e => by
    have h0 : σ'[0]? = some (some (.ref p)) := (pn 0 (List.mem_singleton.mpr rfl)).trans rfl
    obtain ⟨q, hq, hqn, hqo⟩ := rel'.own 0 d' e
    rw [h0] at hq
    cases hq
    have st' : Stp (.own d :: ds.map .im) ((V.ref p :: rest).map some) F H (.own d' :: ds.map .im) ((V.ref p :: rest).map some) F' H' :=
      ⟨fun a o h n => st.keep a o h fun z => n (owns_start hl z), fun a z => .inl (by rw [owns1 z]; exact owns1'), st.dom⟩
    have r := rel.keepBut (i := 0) (d := d) (d' := d') (p := p) rfl rfl (fun a o hne h => st'.keep a o h fun z => hne (owns1 z)) rel'.ex hqn hqo
    exact ⟨r, st', h0⟩
  refine ⟨_, (hb d ds r d' hS).nox, F, rel_start rel, ?_, ?_, fun _ _ _ _ _ _ _ z => z.elim, fun _ _ _ _ _ _ _ z => z.elim⟩
  · intro ρ' σ' F' H' rel' st pn ⟨e, e0⟩
    subst e
    obtain ⟨r1, s1, _⟩ := back rel' st pn e0
    exact kk .non F' H' r1 s1 .non
  · intro v r' ρ' σ' F' H' rel' st pn q ⟨g, e0⟩
    obtain ⟨r1, s1, h0⟩ := back rel' st pn e0
    refine kk v F' H' r1 s1 ?_
    refine Rt.good g (rel_start rel) rel' st q pn (fun i e h => ?_) fun a z => ⟨0, d', List.mem_singleton.mpr rfl, e0, by rw [owns1 z]; exact h0⟩
    obtain ⟨h1, _⟩ := start_get (N := N) hl (fun z => by cases z) h
    cases i with
    | zero => exact ⟨List.mem_singleton.mpr rfl, d', e0⟩
    | succ i => obtain ⟨z, ez, _⟩ := get_im h1; cases ez
/-- a call by position, from the body's reading -/
theorem g_of {sp : Sp} {dvs : List V} {ds : List Value} (lk : K.lookup f = some ⟨oc, od, .func (PySem.W.fnOf name qual params body scope dV kV doc pm an cdv ct), osl⟩) (hcd : PySem.W.codeIn K cdv qual = true) (sc : FnScope N ps scope)
    (hbi : Binds K (PySem.W.fnOf name qual params body scope dV kV doc pm an cdv ct) ps ds) (hd : Vals dvs ds) (len : ∀ vs H Q E, sp vs H Q E → vs.length = ps.length)
    (hb : ∀ (A : Around) (outer : List PySem.Env) (s : Shared) (H : Hp) (vs : List V) (Q : VK) (E : XK), A.guards = some [] → Room k (A.deeper (envOfC qual scope s.heap.objs.size f cdv)) → sp vs H Q E →
      ∃ t, PSs (cxOf CX P w K mg base N qual scope f cdv A outer s H E) body t ∧ t { nx := fun _ H' => Q .non H', rt := Q } (L2.start N vs) H) :
    FnG P w K mg base CX (k + 1) f (fun vs H Q E => sp (vs ++ dvs) H Q E) := by
  intro A outer s H us vs Q E hg hr e0 r hsp
  have r2 : Vals (vs ++ dvs) (us ++ ds) := r.append hd
  have l1 : (us ++ ds).length = ps.length := r2.length.symm.trans (len _ _ _ _ hsp)
  refine StX.run_bnd (s := s) lk hcd sc hr e0 (G := fun xs H2 => xs = vs ++ dvs ∧ H2 = H) (fun A' Ex' Q' h => ?_) ?_
  · refine hbi s us (e0.mod.kin.keeps fun b o e => (e0.bs b o e).1) l1 _ A' Ex' Q' ?_
    exact h s H (vs ++ dvs) (us ++ ds) e0 Un.refl rfl (fun _ _ z => z) r2 (len _ _ _ _ hsp) ⟨rfl, rfl⟩
  · intro s2 H2 xs ⟨e1, e2⟩ hr2
    subst e1 e2
    exact hb A outer s2 _ _ Q E hg hr2 hsp
end
/-! ### calls -/
def R.ok : R → Bool
  | .sl _ => false
  | _ => true
theorem RepR.move {K : PySem.W.Frag} {F H0 H : Hp} {ρ ρ' : Env} {σ σ' : L2.St} {v : V} {r : R} (q : RepR K F H0 H ρ σ v r) (hr : r.ok = true) (n : ∀ p, H0 p = none → ¬ Owns ρ' σ' p) : RepR K F H0 H ρ' σ' v r := by
  cases r with
  | im d => exact q
  | fr d => obtain ⟨p, e, f, h0, o, _⟩ := q; exact ⟨p, e, f, h0, o, n p h0⟩
  | sl i => cases hr
section
variable {X : Cx} {CX : CXT} {k : Nat} {f : Addr} {E : XK} {x : Str} {p pos : Pos} {e : Expr} {es : List Expr} {ρ ρ1 : Env} {ds : List D} {r : R} {d d' : D} {S : List D → R → Prop} {SM : D → List D → R → D → Prop}
/-- x(e, ..), by a promise of its values -/
theorem pe_callG {sp : Sp} {t : TA} (F : FnG X.prog X.w X.K X.mg X.base CX k f sp) (hgu : X.A.guards = some []) (hr : Room k X.A) (hm : X.mg x = some (.ref f)) (hk : PySem.W.keepIn X.K (.ref f) = true) (hx : Passes CX X E) (ha : PA X (e :: es) t) (hg : Gl X x := by rfl) (hd : (x == ("__debug__" : Str)) = false := by decide)
    (he : starEach (e :: es) X.env = (false, eval e X.env) :: starEach es X.env := by rfl) (hpl : (backTo pos (starEach es X.env)).any (·.1) = false := by rfl) :
    PE X (.Call (.Name x p) (e :: es) [] pos) (fun σ H Q => t σ H fun vs H1 => sp vs H1 Q E) := by
  refine ⟨fun pins s σ H Q I h => ?_⟩
  have go : wpAny (model X.prog X.w) X.A (spliced (backTo pos (starEach (e :: es) X.env))) (fun us s1 => X.K.In s1.heap ∧ wpAny (model X.prog X.w) X.A (call (.ref f) ([] ++ us)) (EP X pins σ Q) X.xe s1) X.xe s :=
    thn (ha.run pos pins s σ H _ I h) fun us s1 ⟨vs, H1, I1, rv, q⟩ => ⟨I1.kIn, wpAny_call (run_fnG F hgu hr hx I1 rv q)⟩
  exact wpAny_Call_Name_kw (ld_glob I hg hm (PySem.W.callWith_K (h₀ := X.base) I.ok.mod.kin hk go he hpl) hd)
theorem pe_callG0 {sp : Sp} (F : FnG X.prog X.w X.K X.mg X.base CX k f sp) (hgu : X.A.guards = some []) (hr : Room k X.A) (hm : X.mg x = some (.ref f)) (hk : PySem.W.keepIn X.K (.ref f) = true) (hx : Passes CX X E) (hg : Gl X x := by rfl) (hd : (x == ("__debug__" : Str)) = false := by decide) :
    PE X (.Call (.Name x p) [] [] pos) (fun σ H Q => sp [] H Q E) := by
  refine ⟨fun pins s σ H Q I h => ?_⟩
  refine wpAny_Call_Name_kw (ld_glob I hg hm ?_ hd)
  exact PySem.W.callWith_K0 I.kIn hk (wpAny_call (run_fnG (us := []) F hgu hr hx I .nil h))
/-- the callee's end, seen by the caller -/
theorem backP {K : PySem.W.Frag} {F F1 H H1 : Hp} {σ : L2.St} {Q : VK} {vs : List V} (rel : Rel K F ρ σ H) (rel1 : Rel K F1 ρ1 σ H1) (st1 : Stp ρ σ F H ρ1 σ F1 H1) (rd : Reps K F1 vs ds) (hr : r.ok = true)
    (kk : ∀ v F' H', Rel K F' ρ1 σ H' → Stp ρ σ F H ρ1 σ F' H' → RepR K F' H H' ρ1 σ v r → Q v H') : tE K (ds.map .im) r (ds.map .im) (vs.map some) H1 Q := by
  refine ⟨F1, rel_args rd rel1.ex, fun v F2 H2 rel2 st2 q2 => ?_⟩
  have keep : ∀ a o, H1 a = some o → H2 a = some o ∧ F2 a = F1 a := fun a o h => st2.keep a o h fun z => no_owns z
  have st12 : Stp ρ1 σ F1 H1 ρ1 σ F2 H2 := ⟨fun a o h _ => keep a o h, fun a z => .inl z, st2.dom⟩
  refine kk v F2 H2 (rel1.keepAll keep rel2.ex) (st1.trans rel st12) (RepR.back (ρ2 := ρ1) (σ2 := σ) (F2 := F1) (q2.move hr fun q h0 z => ?_) st1)
  obtain ⟨_, o, ho⟩ := rel1.owned z
  rw [h0] at ho
  cases ho
theorem we_call (G : FnG X.prog X.w X.K X.mg X.base CX k f (spP X.K S)) (hgu : X.A.guards = some []) (hr : Room k X.A) (hm : X.mg x = some (.ref f)) (hk : PySem.W.keepIn X.K (.ref f) = true) (hx : Passes CX X E) (ha : WA X (e :: es) ρ ds ρ1) (hS : S ds r) (ho : r.ok = true := by rfl) (hg : Gl X x := by rfl) (hd : (x == ("__debug__" : Str)) = false := by decide)
    (he : starEach (e :: es) X.env = (false, eval e X.env) :: starEach es X.env := by rfl) (hpl : (backTo pos (starEach es X.env)).any (·.1) = false := by rfl) : WE X (.Call (.Name x p) (e :: es) [] pos) ρ r ρ1 :=
  PE.imp (pe_callG G hgu hr hm hk hx ha hg hd he hpl) fun σ H Q ⟨F, rel, kk⟩ => ⟨F, rel, fun vs F1 H1 rel1 st1 rd => ⟨ds, r, hS, backP rel rel1 st1 rd ho kk⟩⟩
theorem we_call0 (G : FnG X.prog X.w X.K X.mg X.base CX k f (spP X.K S)) (hgu : X.A.guards = some []) (hr : Room k X.A) (hm : X.mg x = some (.ref f)) (hk : PySem.W.keepIn X.K (.ref f) = true) (hx : Passes CX X E) (hS : S [] r) (ho : r.ok = true := by rfl) (hg : Gl X x := by rfl) (hd : (x == ("__debug__" : Str)) = false := by decide) : WE X (.Call (.Name x p) [] [] pos) ρ r ρ :=
  PE.imp (pe_callG0 G hgu hr hm hk hx hg hd) fun σ H Q ⟨F, rel, kk⟩ => ⟨[], r, hS, backP (vs := []) (ds := []) rel rel Stp.refl .nil ho kk⟩
/-- the first argument a slot's own object, which the callee changes -/
theorem backM {K : PySem.W.Frag} {F F1 H H1 : Hp} {σ : L2.St} {Q : VK} {v0 : V} {vs : List V} {i : Nat} (rel : Rel K F ρ σ H) (rel1 : Rel K F1 ρ1 σ H1) (st1 : Stp ρ σ F H ρ1 σ F1 H1) (hi : ρ1[i]? = some (.own d)) (q0 : σ[i]? = some (some v0)) (rd : Reps K F1 vs ds) (hr : r.ok = true)
    (kk : ∀ v F' H', Rel K F' (ρ1.set i (.own d')) σ H' → Stp ρ σ F H (ρ1.set i (.own d')) σ F' H' → RepR K F' H H' (ρ1.set i (.own d')) σ v r → Q v H') : tE K (.own d :: ds.map .im) r (.own d' :: ds.map .im) ((v0 :: vs).map some) H1 Q := by
  obtain ⟨p, hp, hn, ho⟩ := rel1.own i d hi
  rw [q0] at hp
  cases hp
  refine ⟨F1, rel_args1 hn ho rd rel1.ex, fun v F2 H2 rel2 st2 q2 => ?_⟩
  have keep : ∀ a o, a ≠ p → H1 a = some o → H2 a = some o ∧ F2 a = F1 a := fun a o hne h => st2.keep a o h fun z => hne (owns1 z)
  obtain ⟨p2, hp2, hn2, ho2⟩ := rel2.own 0 d' rfl
  cases hp2
  have ow : Owns ρ1 σ p := ⟨i, d, hi, q0⟩
  have st12 : Stp ρ1 σ F1 H1 (ρ1.set i (.own d')) σ F2 H2 := ⟨fun a o h n => keep a o (fun z => n (by rw [z]; exact ow)) h, fun a z => .inl (owns_set_own hi z), st2.dom⟩
  have rel3 := rel1.keepBut hi q0 keep rel2.ex hn2 ho2
  refine kk v F2 H2 rel3 (st1.trans rel st12) (RepR.back (ρ2 := ρ1) (σ2 := σ) (F2 := F1) (q2.move hr fun q h0 z => ?_) st1)
  obtain ⟨_, o, ho⟩ := rel1.owned (owns_set_own hi z)
  rw [h0] at ho
  cases ho
theorem we_callM {i : Nat} (G : FnG X.prog X.w X.K X.mg X.base CX k f (spM X.K SM)) (hgu : X.A.guards = some []) (hr : Room k X.A) (hm : X.mg x = some (.ref f)) (hk : PySem.W.keepIn X.K (.ref f) = true) (hx : Passes CX X E) (ha : WA1 X (e :: es) ρ (.sl i) ds ρ1) (hS : SM d ds r d') (hi : ρ1[i]? = some (.own d) := by rfl) (ho : r.ok = true := by rfl) (hg : Gl X x := by rfl)
    (hd : (x == ("__debug__" : Str)) = false := by decide) (he : starEach (e :: es) X.env = (false, eval e X.env) :: starEach es X.env := by rfl) (hpl : (backTo pos (starEach es X.env)).any (·.1) = false := by rfl) : WE X (.Call (.Name x p) (e :: es) [] pos) ρ r (ρ1.set i (.own d')) :=
  PE.imp (pe_callG G hgu hr hm hk hx ha hg hd he hpl) fun σ H Q ⟨F, rel, kk⟩ => ⟨F, rel, fun v0 vs F1 H1 rel1 st1 q0 rd => ⟨d, ds, r, d', hS, backM rel rel1 st1 hi q0 rd ho kk⟩⟩
/-- .. or a new object, dropped behind the call -/
theorem backN {K : PySem.W.Frag} {F F1 H H1 : Hp} {σ : L2.St} {Q : VK} {v0 : V} {vs : List V} (rel : Rel K F ρ σ H) (rel1 : Rel K F1 ρ1 σ H1) (st1 : Stp ρ σ F H ρ1 σ F1 H1) (q0 : RepR K F1 H H1 ρ1 σ v0 (.fr d)) (rd : Reps K F1 vs ds) (hr : r.ok = true)
    (kk : ∀ v F' H', Rel K F' ρ1 σ H' → Stp ρ σ F H ρ1 σ F' H' → RepR K F' H H' ρ1 σ v r → Q v H') : tE K (.own d :: ds.map .im) r (.own d' :: ds.map .im) ((v0 :: vs).map some) H1 Q := by
  obtain ⟨p, rfl, hn, h0, ho, no⟩ := q0
  refine ⟨F1, rel_args1 hn ho rd rel1.ex, fun v F2 H2 rel2 st2 q2 => ?_⟩
  have keep : ∀ a o, a ≠ p → H1 a = some o → H2 a = some o ∧ F2 a = F1 a := fun a o hne h => st2.keep a o h fun z => hne (owns1 z)
  obtain ⟨p2, hp2, hn2, ho2⟩ := rel2.own 0 d' rfl
  cases hp2
  have st12 : Stp ρ σ F H ρ1 σ F2 H2 := by
    refine ⟨fun a o h n => ?_, st1.own, fun a h => st2.dom a (st1.dom a h)⟩
    obtain ⟨k1, k2⟩ := st1.keep a o h n
    have hne : a ≠ p := ne_of_none h h0
    obtain ⟨k3, k4⟩ := keep a o hne k1
    exact ⟨k3, k4.trans k2⟩
  -- the caller's own state: all but p is kept
  have rel3 : Rel K F2 ρ1 σ H2 := by
    have ef : Ex F1 F2 := fun a o h => by
      have : a ≠ p := fun z => by rw [z, hn] at h; cases h
      rw [(keep a o this (rel1.ex a o h)).2, h]
    refine ⟨rel2.ex, rel1.len, fun i e h => ?_, fun i e h => ?_, rel1.inj⟩
    · obtain ⟨v, h1, h2⟩ := rel1.im i e h
      exact ⟨v, h1, h2.mono ef⟩
    · obtain ⟨q, h1, h2, h3⟩ := rel1.own i e h
      obtain ⟨o, hob⟩ := h3.ob
      have hqp : q ≠ p := fun z => no ⟨i, e, h, by rw [h1, z]⟩
      obtain ⟨k1, k2⟩ := keep q o hqp hob
      exact ⟨q, h1, by rw [k2, h2], h3.at ef (k1.trans hob.symm)⟩
  refine kk v F2 H2 rel3 st12 (RepR.back (ρ2 := ρ1) (σ2 := σ) (F2 := F1) (q2.move hr fun q h0 z => ?_) st1)
  obtain ⟨_, o, ho⟩ := rel1.owned z
  rw [h0] at ho
  cases ho
theorem we_callN (G : FnG X.prog X.w X.K X.mg X.base CX k f (spM X.K SM)) (hgu : X.A.guards = some []) (hr : Room k X.A) (hm : X.mg x = some (.ref f)) (hk : PySem.W.keepIn X.K (.ref f) = true) (hx : Passes CX X E) (ha : WA1 X (e :: es) ρ (.fr d) ds ρ1) (hS : SM d ds r d') (ho : r.ok = true := by rfl) (hg : Gl X x := by rfl)
    (hd : (x == ("__debug__" : Str)) = false := by decide) (he : starEach (e :: es) X.env = (false, eval e X.env) :: starEach es X.env := by rfl) (hpl : (backTo pos (starEach es X.env)).any (·.1) = false := by rfl) : WE X (.Call (.Name x p) (e :: es) [] pos) ρ r ρ1 :=
  PE.imp (pe_callG G hgu hr hm hk hx ha hg hd he hpl) fun σ H Q ⟨F, rel, kk⟩ => ⟨F, rel, fun v0 vs F1 H1 rel1 st1 q0 rd => ⟨d, ds, r, d', hS, backN rel rel1 st1 q0 rd ho kk⟩⟩
end
end Z
set_option maxRecDepth 100000
set_option maxHeartbeats 1000000
/-! Z5: instances: fields, methods, making, own operators. -/
namespace Z
open PySem PySem.Spec PyProof.Rows L2 Evl
/-- what a call by a global name needs -/
structure CallC (P : Program) (w : World) (K : PySem.W.Frag) (mg : Str → Option Value) (base : Heap) (A : Around) (x : Str) (sp : Sp) : Prop where
  run : ∃ (f : Addr) (k : Nat), FnG P w K mg base (L2.CX P w) k f sp ∧ A.guards = some [] ∧ Room k A ∧ mg x = some (.ref f) ∧ PySem.W.keepIn K (.ref f) = true
/-- .. by an address (a method) -/
structure CallA (P : Program) (w : World) (K : PySem.W.Frag) (mg : Str → Option Value) (base : Heap) (A : Around) (f : Addr) (sp : Sp) : Prop where
  run : ∃ (k : Nat), FnG P w K mg base (L2.CX P w) k f sp ∧ A.guards = some [] ∧ Room (k + 3) A
abbrev Call (X : Cx) (x : Str) (sp : Sp) : Prop := CallC X.prog X.w X.K X.mg X.base X.A x sp
abbrev MCall (X : Cx) (f : Addr) (sp : Sp) : Prop := CallA X.prog X.w X.K X.mg X.base X.A f sp
theorem passF {P : Program} {w : World} {X : Cx} : Passes (L2.CX P w) X EF := fun pins σ H s e s' I h => by
  obtain ⟨a, B, H', cls, d, _, _, _, _, _, _, _, z⟩ := h
  exact z.elim
section
variable {X : Cx} {x : Str} {p pos : Pos} {e : Expr} {es : List Expr} {ρ ρ1 : Env} {ds : List D} {r : R} {d d' : D} {S : List D → R → Prop} {SM : D → List D → R → D → Prop}
theorem wc (G : Call X x (spP X.K S)) (ha : WA X (e :: es) ρ ds ρ1) (hS : S ds r) (ho : r.ok = true := by rfl) (hg : Gl X x := by rfl) (hd : (x == ("__debug__" : Str)) = false := by decide)
    (he : starEach (e :: es) X.env = (false, eval e X.env) :: starEach es X.env := by rfl) (hpl : (backTo pos (starEach es X.env)).any (·.1) = false := by rfl) : WE X (.Call (.Name x p) (e :: es) [] pos) ρ r ρ1 := by
  obtain ⟨f, k, F, hgu, hr, hm, hk⟩ := G.run
  exact we_call F hgu hr hm hk passF ha hS ho hg hd he hpl
theorem wc0 (G : Call X x (spP X.K S)) (hS : S [] r) (ho : r.ok = true := by rfl) (hg : Gl X x := by rfl) (hd : (x == ("__debug__" : Str)) = false := by decide) : WE X (.Call (.Name x p) [] [] pos) ρ r ρ := by
  obtain ⟨f, k, F, hgu, hr, hm, hk⟩ := G.run
  exact we_call0 F hgu hr hm hk passF hS ho hg hd
theorem wcM {i : Nat} (G : Call X x (spM X.K SM)) (ha : WA1 X (e :: es) ρ (.sl i) ds ρ1) (hS : SM d ds r d') (hi : ρ1[i]? = some (.own d) := by rfl) (ho : r.ok = true := by rfl) (hg : Gl X x := by rfl)
    (hd : (x == ("__debug__" : Str)) = false := by decide) (he : starEach (e :: es) X.env = (false, eval e X.env) :: starEach es X.env := by rfl) (hpl : (backTo pos (starEach es X.env)).any (·.1) = false := by rfl) : WE X (.Call (.Name x p) (e :: es) [] pos) ρ r (ρ1.set i (.own d')) := by
  obtain ⟨f, k, F, hgu, hr, hm, hk⟩ := G.run
  exact we_callM F hgu hr hm hk passF ha hS hi ho hg hd he hpl
theorem wcN (G : Call X x (spM X.K SM)) (ha : WA1 X (e :: es) ρ (.fr d) ds ρ1) (hS : SM d ds r d') (ho : r.ok = true := by rfl) (hg : Gl X x := by rfl)
    (hd : (x == ("__debug__" : Str)) = false := by decide) (he : starEach (e :: es) X.env = (false, eval e X.env) :: starEach es X.env := by rfl) (hpl : (backTo pos (starEach es X.env)).any (·.1) = false := by rfl) : WE X (.Call (.Name x p) (e :: es) [] pos) ρ r ρ1 := by
  obtain ⟨f, k, F, hgu, hr, hm, hk⟩ := G.run
  exact we_callN F hgu hr hm hk passF ha hS ho hg hd he hpl
end
/-! ### fields -/
section
variable {X : Cx} {e o : Expr} {pos pos' : Pos} {ρ ρ1 ρ2 : Env} {r : R} {d : D} {f : Str} {C : Addr} {gs : List (Str × D)}
theorem we_fld (he : WE X e ρ r ρ1) (c : Cls X.K C) (n : NoAttr X.K C f) (ca : r.con ρ1 = some (.ins C gs) := by rfl) (hl : gs.lookup f = some d := by rfl) (hb : attributeBase e f X.env (eval e X.env) = eval e X.env := by rfl) : WE X (.Attribute e f pos) ρ (.im d) ρ1 :=
  PE.imp (pe_fld he hb) fun σ H Q ⟨F, rel, k⟩ => ⟨F, rel, fun v F1 H1 rel1 st1 q => by
    obtain ⟨a, dx, fs, ev, ea, rf⟩ := (q.con rel1 ca).ins rel1.ex
    obtain ⟨x, hx, rx⟩ := rf.look hl
    exact ⟨a, C, dx, fs, x, ev, ea, c, n, hx, k x F1 H1 rel1 st1 rx⟩⟩
/-- an object that a slot owns is changed in place -/
theorem Stp.mutO {K : PySem.W.Frag} {F F1 H H1 : Hp} {σ : L2.St} {i : Nat} {p : Addr} {d d' : D} {ob : HO} (rel : Rel K F ρ σ H) (st : Stp ρ σ F H ρ1 σ F1 H1) (hi : ρ1[i]? = some (.own d)) (hs : σ[i]? = some (some (.ref p))) :
    Stp ρ σ F H (ρ1.set i (.own d')) σ F1 (upd H1 p ob) := by
  refine ⟨fun a o h n => ?_, fun a z => st.own a (owns_set_own hi z), fun a h => ?_⟩
  · obtain ⟨k1, k2⟩ := st.keep a o h n
    refine ⟨?_, k2⟩
    by_cases q : a = p
    · subst q
      rcases st.own a ⟨i, d, hi, hs⟩ with z | z
      · exact absurd z n
      · rw [h] at z; cases z
    · rw [upd_ne q]; exact k1
  · by_cases q : a = p
    · rw [q, upd_same]; exact fun z => by cases z
    · rw [upd_ne q]; exact st.dom a h
/-- name.f = value, name's slot owns the instance -/
theorem ws_fld {pn : List Nat} {value : Expr} {i : Nat} (hv : WE X value ρ (.im d) ρ1) (ho : WE X o ρ1 (.sl i) ρ2) (c : Cls X.K C) (n : NoAttr X.K C f) (hi : ρ2[i]? = some (.own (.ins C gs)) := by rfl) (hl : gs.length < 1000 := by first | decide | (show 1 < 1000; decide) | (show 2 < 1000; decide) | (show 3 < 1000; decide) | (show 4 < 1000; decide) | (show 5 < 1000; decide) | (show 6 < 1000; decide))
    (hs : swapsWith value (some (.Attribute o f pos')) pos.line X.env = pure false := by rfl) : WN X pn (.Assign [.Attribute o f pos'] value pos) ρ (ρ2.set i (.own (.ins C (putG f d gs)))) := fun P g =>
  PS.imp (ps_fld ho hv hs) fun D σ H ⟨F, rel, p, _⟩ => ⟨F, rel, fun y F1 H1 rel1 st1 q1 => ⟨F1, rel1, fun x F2 H2 rel2 st2 q2 => by
    have q2 : σ[i]? = some (some x) := q2
    obtain ⟨a, ha, hn, dx, fs, hob, rf⟩ := rel2.own i _ hi
    rw [q2] at ha
    cases ha
    have q1' : Rep X.K F2 y d := Rep.mono (st2.ex rel1) q1
    refine ⟨a, C, dx, fs, rfl, hob, c, n, by rw [rf.length]; exact hl, ?_⟩
    have rel3 : Rel X.K F2 (ρ2.set i (.own (.ins C (putG f d gs)))) σ (upd H2 a (.ins C dx (putF f y fs))) :=
      rel2.keepBut hi q2 (fun b u hb h => ⟨by rw [upd_ne hb]; exact h, rfl⟩) (Ex.mut rel2.ex hn) hn ⟨dx, _, upd_same, rf.put q1'⟩
    exact p _ σ F2 _ rel3 (Stp.mutO rel (st1.trans rel st2) hi q2) Pin.refl g⟩⟩
end
/-! ### methods -/
section
variable {X : Cx} {CX : CXT} {k : Nat} {E : XK} {m : Str} {apos pos : Pos} {o e : Expr} {es : List Expr} {ρ ρ1 ρ2 : Env} {r r0 : R} {d d' : D} {ds : List D} {C f : Addr} {gs : List (Str × D)} {S : List D → R → Prop} {SM : D → List D → R → D → Prop} {ta : TE} {t : TA} {sp : Sp}
theorem pe_methG {pl : Sem Bool} (he : PE X o ta) (c : Cls X.K C) (hm : Meth X.K C m f) (F : FnG X.prog X.w X.K X.mg X.base CX k f sp) (hgu : X.A.guards = some []) (hr : Room k X.A) (hx : Passes CX X E) (ha : PA X (e :: es) t)
    (hst : starEach (e :: es) X.env = (false, eval e X.env) :: starEach es X.env := by rfl) (hpl : (backTo pos (starEach es X.env)).any (·.1) = false := by rfl)
    (ht : eval (.Call (.Attribute o m apos) (e :: es) [] pos) X.env = (do
      let ov ← eval o X.env
      standAt apos.atName
      let (f, first) ← holding [ov] (getMethod ov m pl)
      callWith pos f first (backTo pos (starEach (e :: es) X.env)) (backToKw pos (keywordEach [] X.env))) := by rfl) :
    PE X (.Call (.Attribute o m apos) (e :: es) [] pos) (fun σ H Q => ta σ H fun x H1 => ∃ a dx fs, x = .ref a ∧ H1 a = some (.ins C dx fs) ∧ fs.lookup m = none ∧ t σ H1 fun vs H2 => sp (x :: vs) H2 Q E) := by
  refine ⟨fun pins s σ H Q I h => ?_⟩
  refine PySem.W.methodCall_KW (pl := pl) (thn (he.run pins s σ H _ I h) fun u s1 ⟨x, H1, I1, rx, a, dx, fs, ex, ea, l, q⟩ => ?_) ht
  subst ex
  obtain rfl : u = Value.ref a := rx
  refine getmeth_ok I1 ea c hm l ?_
  refine PySem.W.callWith_K (first := [.ref a]) (h₀ := X.base) I.ok.mod.kin hm.kp (thn (ha.run pos pins s1 σ H1 _ I1 q) fun us s2 ⟨vs, H2, I2, r, q2⟩ => ⟨I2.kIn, ?_⟩) hst hpl
  exact wpAny_call (run_fnG (us := .ref a :: us) (vs := .ref a :: vs) F hgu hr hx I2 (.cons rfl r) q2)
theorem pe_methG0 {pl : Sem Bool} (he : PE X o ta) (c : Cls X.K C) (hm : Meth X.K C m f) (F : FnG X.prog X.w X.K X.mg X.base CX k f sp) (hgu : X.A.guards = some []) (hr : Room k X.A) (hx : Passes CX X E)
    (ht : eval (.Call (.Attribute o m apos) [] [] pos) X.env = (do
      let ov ← eval o X.env
      standAt apos.atName
      let (f, first) ← holding [ov] (getMethod ov m pl)
      callWith pos f first (backTo pos (starEach [] X.env)) (backToKw pos (keywordEach [] X.env))) := by rfl) :
    PE X (.Call (.Attribute o m apos) [] [] pos) (fun σ H Q => ta σ H fun x H1 => ∃ a dx fs, x = .ref a ∧ H1 a = some (.ins C dx fs) ∧ fs.lookup m = none ∧ sp [x] H1 Q E) := by
  refine ⟨fun pins s σ H Q I h => ?_⟩
  refine PySem.W.methodCall_KW (pl := pl) (thn (he.run pins s σ H _ I h) fun u s1 ⟨x, H1, I1, rx, a, dx, fs, ex, ea, l, q⟩ => ?_) ht
  subst ex
  obtain rfl : u = Value.ref a := rx
  refine getmeth_ok I1 ea c hm l ?_
  exact PySem.W.callWith_K0 (first := [.ref a]) I1.kIn hm.kp (wpAny_call (run_fnG (us := [.ref a]) (vs := [.ref a]) F hgu hr hx I1 (.cons rfl .nil) q))
theorem Rep.insI {K : PySem.W.Frag} {F : Hp} {v : V} (q : Rep K F v (.ins C gs)) : ∃ a dx fs, v = .ref a ∧ F a = some (.ins C dx fs) ∧ RepF K F fs gs := by
  cases q with
  | ins h r => exact ⟨_, _, _, rfl, h, r⟩
theorem we_meth (G : MCall X f (spP X.K S)) (he : WE X o ρ (.im (.ins C gs)) ρ1) (c : Cls X.K C) (hm : Meth X.K C m f) (ha : WA X (e :: es) ρ1 ds ρ2) (hS : S (.ins C gs :: ds) r) (hl : gs.lookup m = none := by rfl) (ho : r.ok = true := by rfl)
    (hst : starEach (e :: es) X.env = (false, eval e X.env) :: starEach es X.env := by rfl) (hpl : (backTo pos (starEach es X.env)).any (·.1) = false := by rfl) {pl : Sem Bool}
    (ht : eval (.Call (.Attribute o m apos) (e :: es) [] pos) X.env = (do
      let ov ← eval o X.env
      standAt apos.atName
      let (f, first) ← holding [ov] (getMethod ov m pl)
      callWith pos f first (backTo pos (starEach (e :: es) X.env)) (backToKw pos (keywordEach [] X.env))) := by rfl) : WE X (.Call (.Attribute o m apos) (e :: es) [] pos) ρ r ρ2 := by
  obtain ⟨k, F, hgu, hr⟩ := G.run
  exact PE.imp (pe_methG he c hm F hgu (hr.mono (Nat.le_add_right _ _)) passF ha hst hpl ht) fun σ H Q ⟨F, rel, kk⟩ => ⟨F, rel, fun v F1 H1 rel1 st1 q1 => by
    obtain ⟨a, dx, fs, ev, ea, rf⟩ := q1.insI
    refine ⟨a, dx, fs, ev, rel1.ex _ _ ea, rf.look_none hl, F1, rel1, fun vs F2 H2 rel2 st2 rd => ⟨.ins C gs :: ds, r, hS, ?_⟩⟩
    exact backP rel rel2 (st1.trans rel st2) (.cons (Rep.mono (st2.ex rel1) q1) rd) ho kk⟩
theorem we_meth0 (G : MCall X f (spP X.K S)) (he : WE X o ρ (.im (.ins C gs)) ρ1) (c : Cls X.K C) (hm : Meth X.K C m f) (hS : S [.ins C gs] r) (hl : gs.lookup m = none := by rfl) (ho : r.ok = true := by rfl) {pl : Sem Bool}
    (ht : eval (.Call (.Attribute o m apos) [] [] pos) X.env = (do
      let ov ← eval o X.env
      standAt apos.atName
      let (f, first) ← holding [ov] (getMethod ov m pl)
      callWith pos f first (backTo pos (starEach [] X.env)) (backToKw pos (keywordEach [] X.env))) := by rfl) : WE X (.Call (.Attribute o m apos) [] [] pos) ρ r ρ1 := by
  obtain ⟨k, F, hgu, hr⟩ := G.run
  exact PE.imp (pe_methG0 he c hm F hgu (hr.mono (Nat.le_add_right _ _)) passF ht) fun σ H Q ⟨F, rel, kk⟩ => ⟨F, rel, fun v F1 H1 rel1 st1 q1 => by
    obtain ⟨a, dx, fs, ev, ea, rf⟩ := q1.insI
    refine ⟨a, dx, fs, ev, rel1.ex _ _ ea, rf.look_none hl, [.ins C gs], r, hS, ?_⟩
    exact backP rel rel1 st1 (.cons q1 .nil) ho kk⟩
end
/-! ### making -/
section
variable {X : Cx} {CX : CXT} {k : Nat} {E : XK} {x : Str} {p pos : Pos} {e : Expr} {es : List Expr} {ρ ρ1 : Env} {d d' : D} {ds : List D} {C f : Addr} {gs : List (Str × D)} {SM : D → List D → R → D → Prop} {t : TA} {sp : Sp}
theorem run_makeG {pins : List (Addr × Obj)} {σ : L2.St} {H : Hp} {s : Shared} {Q : VK} {us : List Value} {vs : List V} (M : Mk X.K C f) (F : FnG X.prog X.w X.K X.mg X.base CX k f sp) (hgu : X.A.guards = some []) (hr : Room (k + 1) X.A) (hx : Passes CX X E) (I : Inv X pins σ H s) (r : Vals vs us)
    (h : ∀ x dx, H x = none → H dx = none → dx ≠ x → sp (.ref x :: vs) (upd (upd H dx (.own x)) x (.ins C dx [])) (fun v H2 => v = .non ∧ Q (.ref x) H2) E) :
    wpAny (model X.prog X.w) X.A (call (.ref C) us) (EP X pins σ Q) X.xe s := by
  have hq := h (s.heap.objs.size + 1) s.heap.objs.size (I.hok.fresh (Nat.le_succ _)) (I.hok.fresh (Nat.le_refl _)) (Nat.ne_of_lt (Nat.lt_succ_self _))
  have I2 := Inv.made (C := C) I
  have r2 : Vals (V.ref (s.heap.objs.size + 1) :: vs) (Value.ref (s.heap.objs.size + 1) :: us) := .cons rfl r
  refine wpAny_call (make_map (f := f) I.kIn M.makes M.init (beq_iff_eq.mp M.fn) (codeAny_mono (F _ X.stack _ _ (Value.ref (s.heap.objs.size + 1) :: us) _ _ E hgu (hr.make C us []) (I2.env0.make C us []) r2 hq) fun r s' hq' => ?_))
  cases r with
  | error e => exact hx pins σ _ _ e s' I2 hq'
  | ok fl =>
    cases fl with
    | ret u =>
      obtain ⟨v, H', I3, rv, ev, q3⟩ := I2.after hq'
      subst ev
      exact ⟨rv, ⟨V.ref (s.heap.objs.size + 1), H', I3, rfl, q3⟩⟩
    | next => exact False.elim hq'
    | brk => exact False.elim hq'
    | cont => exact False.elim hq'
theorem pe_makeG (M : Mk X.K C f) (F : FnG X.prog X.w X.K X.mg X.base CX k f sp) (hgu : X.A.guards = some []) (hr : Room (k + 1) X.A) (hm : X.mg x = some (.ref C)) (hx : Passes CX X E) (ha : PA X (e :: es) t) (hg : Gl X x := by rfl) (hdb : (x == ("__debug__" : Str)) = false := by decide)
    (he : starEach (e :: es) X.env = (false, eval e X.env) :: starEach es X.env := by rfl) (hpl : (backTo pos (starEach es X.env)).any (·.1) = false := by rfl) :
    PE X (.Call (.Name x p) (e :: es) [] pos) (fun σ H Q => t σ H fun vs H1 => ∀ y dx, H1 y = none → H1 dx = none → dx ≠ y → sp (.ref y :: vs) (upd (upd H1 dx (.own y)) y (.ins C dx [])) (fun v H2 => v = .non ∧ Q (.ref y) H2) E) := by
  refine ⟨fun pins s σ H Q I h => ?_⟩
  refine wpAny_Call_Name_kw (ld_glob I hg hm ?_ hdb)
  refine PySem.W.callWith_K (h₀ := X.base) I.ok.mod.kin M.kp (thn (ha.run pos pins s σ H _ I h) fun us s1 ⟨vs, H1, I1, r, q⟩ => ⟨I1.kIn, ?_⟩) he hpl
  exact run_makeG M F hgu hr hx I1 r q
theorem pe_makeG0 (M : Mk X.K C f) (F : FnG X.prog X.w X.K X.mg X.base CX k f sp) (hgu : X.A.guards = some []) (hr : Room (k + 1) X.A) (hm : X.mg x = some (.ref C)) (hx : Passes CX X E) (hg : Gl X x := by rfl) (hdb : (x == ("__debug__" : Str)) = false := by decide) :
    PE X (.Call (.Name x p) [] [] pos) (fun σ H Q => ∀ y dx, H y = none → H dx = none → dx ≠ y → sp [.ref y] (upd (upd H dx (.own y)) y (.ins C dx [])) (fun v H2 => v = .non ∧ Q (.ref y) H2) E) := by
  refine ⟨fun pins s σ H Q I h => ?_⟩
  refine wpAny_Call_Name_kw (ld_glob I hg hm ?_ hdb)
  exact PySem.W.callWith_K0 I.kIn M.kp (run_makeG (us := []) M F hgu hr hx I .nil h)
/-- the new instance behind __init__ -/
theorem backI {K : PySem.W.Frag} {F F1 H H1 : Hp} {σ : L2.St} {Q : VK} {vs : List V} (rel : Rel K F ρ σ H) (rel1 : Rel K F1 ρ1 σ H1) (st1 : Stp ρ σ F H ρ1 σ F1 H1) (rd : Reps K F1 vs ds)
    (kk : ∀ v F' H', Rel K F' ρ1 σ H' → Stp ρ σ F H ρ1 σ F' H' → RepR K F' H H' ρ1 σ v (.fr d') → Q v H') {y dx : Addr} (hy : H1 y = none) (hdx : H1 dx = none) (ne : dx ≠ y) :
    tE K (.own (.ins C []) :: ds.map .im) (.im .non) (.own d' :: ds.map .im) ((V.ref y :: vs).map some) (upd (upd H1 dx (.own y)) y (.ins C dx [])) (fun v H2 => v = .non ∧ Q (.ref y) H2) := by
  have hy2 : (upd H1 dx (.own y)) y = none := by rw [upd_ne ne.symm]; exact hy
  have rel2 : Rel K F1 ρ1 σ (upd (upd H1 dx (.own y)) y (.ins C dx [])) := (rel1.alloc hdx).alloc hy2
  have st2 : Stp ρ1 σ F1 H1 ρ1 σ F1 (upd (upd H1 dx (.own y)) y (.ins C dx [])) := (Stp.alloc hdx).trans rel1 (Stp.alloc hy2)
  have hn : F1 y = none := rel1.newF hy
  have ho : OwnAt K F1 (upd (upd H1 dx (.own y)) y (.ins C dx [])) y (.ins C []) := ⟨dx, [], upd_same, .nil⟩
  refine ⟨F1, rel_args1 hn ho rd rel2.ex, fun v F2 H2 rel3 st3 q3 => ?_⟩
  have e : v = .non := by
    have q3 : Rep K F2 v .non := q3
    cases q3
    rfl
  refine ⟨e, ?_⟩
  have keep : ∀ a o, a ≠ y → (upd (upd H1 dx (.own y)) y (.ins C dx [])) a = some o → H2 a = some o ∧ F2 a = F1 a := fun a o hne h => st3.keep a o h fun z => hne (owns1 z)
  obtain ⟨p2, hp2, hn2, ho2⟩ := rel3.own 0 d' rfl
  cases hp2
  have no1 : ¬ Owns ρ1 σ y := rel1.new hy
  have keep1 : ∀ a o, H1 a = some o → H2 a = some o ∧ F2 a = F1 a := fun a o h => by
    have hne : a ≠ y := ne_of_none h hy
    refine keep a o hne ?_
    rw [upd_ne hne, upd_ne (ne_of_none h hdx)]
    exact h
  have st4 : Stp ρ1 σ F1 H1 ρ1 σ F2 H2 := ⟨fun a o h _ => keep1 a o h, fun a z => .inl z, fun a h => by
    cases z : H1 a with
    | none => exact absurd z h
    | some o => rw [(keep1 a o z).1]; exact fun z => by cases z⟩
  have rel4 := rel1.keepAll keep1 rel3.ex
  have q4 : RepR K F2 H1 H2 ρ1 σ (.ref y) (.fr d') := ⟨y, rfl, hn2, hy, ho2, no1⟩
  exact kk (.ref y) F2 H2 rel4 (st1.trans rel st4) (RepR.back q4 st1)
theorem we_make (G : MCall X f (spM X.K SM)) (M : Mk X.K C f) (hm : X.mg x = some (.ref C)) (ha : WA X (e :: es) ρ ds ρ1) (hS : SM (.ins C []) ds (.im .non) d') (hg : Gl X x := by rfl) (hdb : (x == ("__debug__" : Str)) = false := by decide)
    (he : starEach (e :: es) X.env = (false, eval e X.env) :: starEach es X.env := by rfl) (hpl : (backTo pos (starEach es X.env)).any (·.1) = false := by rfl) : WE X (.Call (.Name x p) (e :: es) [] pos) ρ (.fr d') ρ1 := by
  obtain ⟨k, F, hgu, hr⟩ := G.run
  exact PE.imp (pe_makeG M F hgu (hr.mono (by omega)) hm passF ha hg hdb he hpl) fun σ H Q ⟨F, rel, kk⟩ => ⟨F, rel, fun vs F1 H1 rel1 st1 rd y dx hy hdx ne =>
    ⟨.ins C [], ds, .im .non, d', hS, backI rel rel1 st1 rd kk hy hdx ne⟩⟩
theorem we_make0 (G : MCall X f (spM X.K SM)) (M : Mk X.K C f) (hm : X.mg x = some (.ref C)) (hS : SM (.ins C []) [] (.im .non) d') (hg : Gl X x := by rfl) (hdb : (x == ("__debug__" : Str)) = false := by decide) : WE X (.Call (.Name x p) [] [] pos) ρ (.fr d') ρ := by
  obtain ⟨k, F, hgu, hr⟩ := G.run
  exact PE.imp (pe_makeG0 M F hgu (hr.mono (by omega)) hm passF hg hdb) fun σ H Q ⟨F, rel, kk⟩ y dx hy hdx ne =>
    ⟨.ins C [], [], .im .non, d', hS, backI (vs := []) (ds := []) rel rel Stp.refl .nil kk hy hdx ne⟩
end
/-! ### properties -/
section
variable {X : Cx} {CX : CXT} {k : Nat} {f : Str} {pos : Pos} {e : Expr} {ρ ρ1 : Env} {r : R} {C p g : Addr} {gs : List (Str × D)} {S : List D → R → Prop} {ta : TE} {sp : Sp}
theorem pe_propG (he : PE X e ta) (c : Cls X.K C) (hp : PropOf X.K C f p g) (F : FnG X.prog X.w X.K X.mg X.base CX k g sp) (hgu : X.A.guards = some []) (hr : Room (k + 1) X.A) (hx : Passes CX X.nox EF)
    (hab : attributeBase e f X.env (eval e X.env) = eval e X.env) : PE X (.Attribute e f pos) (fun σ H Q => ta σ H fun x H1 => ∃ a dx fs, x = .ref a ∧ H1 a = some (.ins C dx fs) ∧ sp [.ref a] H1 Q EF) := by
  refine ⟨fun pins s σ H Q I h => ?_⟩
  refine attr_of hab (thn (he.run pins s σ H _ I h) fun u s1 ⟨x, H1, I1, rx, a, dx, fs, ex, ea, q⟩ => ?_)
  subst ex
  obtain rfl : u = Value.ref a := rx
  obtain ⟨mA, O, _, _, _, _⟩ := ins_get I1.hok ea
  obtain ⟨od, J, _⟩ := O.look
  obtain ⟨rest, hrec⟩ := hp.rec_
  have I2 := I1.tok (s1.toks + 1)
  have hc : (PySem.W.clsIn X.K C).isSome = true := by
    obtain ⟨cd, hc, _⟩ := PySem.W.any_some c.hd
    rw [hc]
    rfl
  refine PySem.W.get_bind I1.kIn J (PySem.W.plainGet_of (c.get f)).1 (PySem.W.findObj_data hc hp.at_ hp.get hp.tak) (PySem.W.plainGet_of (c.get f)).2 (wpAny_call (PySem.W.prop_get (s := { s1 with toks := s1.toks + 1 }) I1.kIn hrec ?_))
  refine codeAny_mono (F X.A.in1 X.stack { s1 with toks := s1.toks + 1 } H1 [.ref a] [.ref a] Q EF hgu hr.in1 I2.env0.in1 (.cons rfl .nil) q) fun r s' hq => ?_
  cases r with
  | error er => exact False.elim (hx pins σ H1 { s1 with toks := s1.toks + 1 } er s' (I2.wish _) hq)
  | ok fl =>
    cases fl with
    | ret u =>
      obtain ⟨v, H', I3, rv, q3⟩ := I2.after hq
      show wpAny _ _ (handedOut u) _ _ _
      rw [PySem.W.handedOut_of (handed_of rv)]
      exact wpAny_pure ⟨v, H', I3, rv, q3⟩
    | next => exact False.elim hq
    | brk => exact False.elim hq
    | cont => exact False.elim hq
theorem we_prop (G : MCall X g (spP X.K S)) (he : WE X e ρ (.im (.ins C gs)) ρ1) (c : Cls X.K C) (hp : PropOf X.K C f p g) (hS : S [.ins C gs] r) (ho : r.ok = true := by rfl)
    (hab : attributeBase e f X.env (eval e X.env) = eval e X.env := by rfl) : WE X (.Attribute e f pos) ρ r ρ1 := by
  obtain ⟨k, F, hgu, hr⟩ := G.run
  exact PE.imp (pe_propG he c hp F hgu (hr.mono (by omega)) passF hab) fun σ H Q ⟨F, rel, kk⟩ => ⟨F, rel, fun v F1 H1 rel1 st1 q1 => by
    obtain ⟨a, dx, fs, ev, ea, rf⟩ := q1.insI
    subst ev
    exact ⟨a, dx, fs, rfl, rel1.ex _ _ ea, [.ins C gs], r, hS, backP rel rel1 st1 (.cons q1 .nil) ho kk⟩⟩
end
end Z
set_option maxRecDepth 100000
set_option maxHeartbeats 1000000
/-! Z6: own operators; built-ins by what they are given. -/
namespace Z
open PySem PySem.Spec PyProof.Rows L2 Evl
section
variable {X : Cx} {pins : List (Addr × Obj)} {σ : L2.St} {H : Hp} {s : Shared} {k : Nat} {f : Addr} {sp : Sp} {Q : VK} {us : List Value} {vs : List V}
theorem MCall.go (G : MCall X f sp) (I : Inv X pins σ H s) (r : Vals vs us) (h : sp vs H Q EF) : wpAny (model X.prog X.w) X.A (call (.ref f) us) (EP X pins σ Q) X.xe s := by
  obtain ⟨k, F, hgu, hr⟩ := G.run
  exact wpAny_call (run_fnG F hgu (hr.mono (Nat.le_add_right _ _)) passF I r h)
/-- .. one frame of C deeper -/
theorem MCall.in1 (G : MCall X f sp) (I : Inv X pins σ H s) (r : Vals vs us) (h : sp vs H Q EF) : wpAny (model X.prog X.w) X.A.in1 (call (.ref f) us) (EP X pins σ Q) X.xe s := by
  obtain ⟨k, F, hgu, hr⟩ := G.run
  refine wpAny_call (codeAny_mono (F X.A.in1 X.stack s H us vs Q EF hgu (Room.in1 (hr.mono (by omega))) I.env0.in1 r h) fun res s' q => ?_)
  match res, q with
  | .error e, q => exact passF pins σ H s e s' I q
  | .ok (.ret u), q => exact I.after q
  | .ok .next, q => exact False.elim q
  | .ok .brk, q => exact False.elim q
  | .ok .cont, q => exact False.elim q
theorem insAt (I : Inv X pins σ H s) {a C dx : Addr} {fs : List (Str × V)} (h : H a = some (.ins C dx fs)) : ∃ ox od, PySem.W.InstAt s.heap a ox C od := by
  obtain ⟨mA, J, _⟩ := ins_get I.hok h
  obtain ⟨od, J, _⟩ := J.look
  exact ⟨_, _, J⟩
end
/-- what an own binary operator wants of the class -/
structure OwnOp (K : PySem.W.Frag) (C f : Addr) (name : Str) : Prop where
  at_ : PySem.W.findIn K (.ref C) name = some (some (.ref f))
  fn : PySem.W.isFn K (.ref f) = true
  first : PySem.W.selfFirst K C = true
/-- .. for a right side of the built-in type T -/
structure OwnT (K : PySem.W.Frag) (C : Addr) (T : String) (n : String) : Prop where
  rc : ∃ rc, PySem.W.findIn K (.ref C) (dunderR n) = some rc ∧ (rc = none ∨ ∃ g : Addr, rc = some (.ref g))
  t1 : ∃ fo, PySem.W.findIn K (.type T) (PySem.dunder n) = some fo
  t2 : ∃ ro, PySem.W.findIn K (.type T) (dunderR n) = some ro
  sub : PySem.W.subIn K (.type T) (.ref C) = some false
section
variable {X : Cx} {a b : Expr} {pos : Pos} {ρ ρ1 ρ2 : Env} {r : R} {C f : Addr} {gs hs : List (Str × D)} {S : List D → R → Prop} {op : Operator} {sp : Sp} {d2 : D}
/-- two frozen arguments to a pure def -/
theorem run2P (hS : S [.ins C gs, d2] r) (ho : r.ok = true) {σ : L2.St} {H : Hp} {Q : VK} {y : V → Hp → V → Hp → Prop} (h : tE X.K ρ r ρ2 σ H Q)
    (hy : ∀ F x1 H1 x2 H2, Ex F H2 → Rep X.K F x1 (.ins C gs) → Rep X.K F x2 d2 → spP X.K S [x1, x2] H2 Q EF → y x1 H1 x2 H2) : tE X.K ρ (.im (.ins C gs)) ρ1 σ H fun x1 H1 => tE X.K ρ1 (.im d2) ρ2 σ H1 fun x2 H2 => y x1 H1 x2 H2 := by
  obtain ⟨F, rel, kk⟩ := h
  refine ⟨F, rel, fun x1 F1 H1 rel1 st1 q1 => ⟨F1, rel1, fun x2 F2 H2 rel2 st2 q2 => ?_⟩⟩
  have q1' : Rep X.K F2 x1 (.ins C gs) := Rep.mono (st2.ex rel1) q1
  exact hy F2 x1 H1 x2 H2 rel2.ex q1' q2 ⟨[.ins C gs, d2], r, hS, backP rel rel2 (st1.trans rel st2) (.cons q1' (.cons q2 .nil)) ho kk⟩
/-- x op y, y of the same class -/
theorem we_binO (G : MCall X f (spP X.K S)) (h : OwnOp X.K C f (PySem.dunder op.info.2)) (ha : WE X a ρ (.im (.ins C gs)) ρ1) (hb : WE X b ρ1 (.im (.ins C hs)) ρ2) (hS : S [.ins C gs, .ins C hs] r) (ho : r.ok = true := by rfl) : WE X (.BinOp a op b pos) ρ r ρ2 := by
  refine PE.imp (pe_op (r := fun x y H Q => ∃ p q d1 f1 d2 f2, x = V.ref p ∧ y = V.ref q ∧ H p = some (.ins C d1 f1) ∧ H q = some (.ins C d2 f2) ∧ spP X.K S [x, y] H Q EF) ?_ ha hb) fun σ H Q h => run2P hS ho h fun F x1 H1 x2 H2 e q1 q2 z => ?_
  · intro pins s σ H x y v u Q I rx ry ⟨p, q, dx, f1, dy, f2, ex, ey, hp, hq, hsp⟩
    subst ex ey
    cases (show v = Value.ref p from rx)
    cases (show u = Value.ref q from ry)
    obtain ⟨ox, od, J⟩ := insAt I hp
    obtain ⟨oy, od', J'⟩ := insAt I hq
    obtain ⟨m, hF⟩ := I.fr
    refine PySem.W.binop_K hF I.ok.mod.kin J J'.type h.first h.at_ h.fn (wpAny_mono (G.go (us := [.ref p, .ref q]) (vs := [.ref p, .ref q]) I (.cons rfl (.cons rfl .nil)) hsp) (fun w s' z => ?_) fun _ _ x => x)
    obtain ⟨z', H', I', rz, qz⟩ := z
    exact SlX.cmpback rz ⟨z', H', I', rz, qz⟩
  · obtain ⟨p, d1, f1, e1, h1, _⟩ := q1.insI
    obtain ⟨q, d2, f2, e2, h2, _⟩ := q2.insI
    exact ⟨p, q, d1, f1, d2, f2, e1, e2, e _ _ h1, e _ _ h2, z⟩
/-- x op i, i an int -/
theorem we_binI {i : Int} (G : MCall X f (spP X.K S)) (h : OwnOp X.K C f (PySem.dunder op.info.2)) (t : OwnT X.K C "int" op.info.2) (ha : WE X a ρ (.im (.ins C gs)) ρ1) (hb : WE X b ρ1 (.im (.int i)) ρ2) (hS : S [.ins C gs, .int i] r) (ho : r.ok = true := by rfl) : WE X (.BinOp a op b pos) ρ r ρ2 := by
  refine PE.imp (pe_op (r := fun x y H Q => ∃ p d1 f1, x = V.ref p ∧ y = V.int i ∧ H p = some (.ins C d1 f1) ∧ spP X.K S [x, y] H Q EF) ?_ ha hb) fun σ H Q h => run2P hS ho h fun F x1 H1 x2 H2 e q1 q2 z => ?_
  · intro pins s σ H x y v u Q I rx ry ⟨p, dx, f1, ex, ey, hp, hsp⟩
    subst ex ey
    cases (show v = Value.ref p from rx)
    obtain ⟨tk, eu⟩ := (show ∃ t, u = Value.int i t from ry)
    subst eu
    obtain ⟨ox, od, J⟩ := insAt I hp
    obtain ⟨m, hF⟩ := I.fr
    obtain ⟨rc, hrc, hpr⟩ := t.rc
    obtain ⟨fo, h1⟩ := t.t1
    obtain ⟨ro, h2⟩ := t.t2
    refine PySem.W.ksp_binT (T := "int") hF I.ok.mod.kin J rfl h.first h.at_ h.fn hrc hpr h1 h2 t.sub (wpAny_mono (G.go (us := [.ref p, .int i tk]) (vs := [.ref p, .int i]) I (.cons rfl (.cons ⟨tk, rfl⟩ .nil)) hsp) (fun w s' z => ?_) fun _ _ x => x)
    obtain ⟨z', H', I', rz, qz⟩ := z
    exact SlX.cmpback rz ⟨z', H', I', rz, qz⟩
  · obtain ⟨p, d1, f1, e1, h1, _⟩ := q1.insI
    have q2 : Rep X.K F x2 (.int i) := q2
    cases q2
    exact ⟨p, d1, f1, e1, rfl, e _ _ h1, z⟩
/-- - x -/
theorem we_negO (G : MCall X f (spP X.K S)) (h1 : PySem.W.findIn X.K (.ref C) "__neg__" = some (some (.ref f))) (h2 : PySem.W.isFn X.K (.ref f) = true) (ha : WE X a ρ (.im (.ins C gs)) ρ1) (hS : S [.ins C gs] r) (ho : r.ok = true := by rfl) : WE X (.UnaryOp .USub a pos) ρ r ρ1 := by
  refine PE.imp (pe_un (r := fun x H Q => ∃ p d1 f1, x = V.ref p ∧ H p = some (.ins C d1 f1) ∧ spP X.K S [x] H Q EF) ?_ ha) fun σ H Q ⟨F, rel, kk⟩ => ⟨F, rel, fun x1 F1 H1 rel1 st1 q1 => ?_⟩
  · intro pins s σ H x v Q I rx ⟨p, dx, f1, ex, hp, hsp⟩
    subst ex
    cases (show v = Value.ref p from rx)
    obtain ⟨ox, od, J⟩ := insAt I hp
    obtain ⟨m, hF⟩ := I.fr
    exact PySem.W.ksp_neg hF I.ok.mod.kin J h1 h2 (G.go (us := [.ref p]) (vs := [.ref p]) I (.cons rfl .nil) hsp)
  · obtain ⟨p, d1, f1, e1, h1, _⟩ := q1.insI
    exact ⟨p, d1, f1, e1, rel1.ex _ _ h1, [.ins C gs], r, hS, backP rel rel1 st1 (.cons q1 .nil) ho kk⟩
end
/-! ### == and != with an own __eq__ -/
/-- a datum's class, as the model has it -/
def D.ty? : D → Option Value
  | .non => some (.type "NoneType") | .bl _ => some (.type "bool") | .int _ => some (.type "int") | .str _ => some (.type "str") | .ins C _ => some (.ref C) | _ => none
section
variable {X : Cx} {pins : List (Addr × Obj)} {σ : L2.St} {F H : Hp} {s : Shared} {v : V} {u t : Value} {d : D} {C f x : Addr} {A : Around} {E : Value → Shared → Prop}
theorem looks_ty (I : Inv X pins σ H s) (rv : RelV v u) (q : Rep X.K F v d) (e : Ex F H) (h : d.ty? = some t) : PySem.W.Looks (model X.prog X.w) s.heap (typeOf u) t := by
  cases q with
  | non => cases h; cases (show u = Value.none from rv); exact .of_pure rfl
  | bl b => cases h; cases (show u = Value.bool b from rv); exact .of_pure rfl
  | int i => cases h; obtain ⟨k, z⟩ := (show ∃ k, u = Value.int i k from rv); subst z; exact .of_pure rfl
  | str y => cases h; obtain ⟨k, z⟩ := (show ∃ k, u = Value.str y k from rv); subst z; exact .of_pure rfl
  | ins hp r =>
    rename_i a C dx fs gs
    cases h
    cases (show u = Value.ref a from rv)
    obtain ⟨ox, od, J⟩ := insAt I (e _ _ hp)
    exact J.type
  | ty n => cases h
  | obj a => cases h
  | lst a b => cases h
  | tup a b => cases h
  | set a b => cases h
  | dct a b => cases h
  | exc a b c => cases h
open Builtin in
/-- x != y where the class has an own == alone -/
theorem ne_own {P : Program} {w : World} {K : PySem.W.Frag} {ox : Obj} {od : Option Obj} {b tb : Value} {R : Value → Shared → Prop} (hu : A.units + 1 < cLine) (KI : K.In s.heap) (J : PySem.W.InstAt s.heap x ox C od) (hb : PySem.W.Looks (model P w) s.heap (typeOf b) tb) (hn : PySem.W.notFirst K C tb = true)
    (hne : PySem.W.findIn K (.ref C) "__ne__" = some (some (.builtin "object.__ne__"))) (hm : PySem.W.mroIn K C (.type "object") = some true) (hs : PySem.W.findIn K (.ref C) "__eq__" = some (some (.ref f))) (hf : PySem.W.isFn K (.ref f) = true)
    (h : wpAny (model P w) A.in1 (call (.ref f) [.ref x, b]) (fun v s' => ∃ k, v = .bool k ∧ R (.bool (!k)) s') E s) : wpAny (model P w) A (compareOp .NotEq (.ref x) b) R E s := by
  have inner : wpAny (model P w) A (call (.builtin "object.__ne__") [.ref x, b]) (fun v s' => ∃ k, v = .bool k ∧ R (.bool k) s') E s := by
    refine wpAny_call (codeAny_call_builtin PySem.F.slot_object_ne.plain PySem.F.cmpEntry_ne (PySem.W.check_slot (i := "object.__ne__") (owner := "object") (n := "__ne__") PySem.F.cmpKind_ne PySem.F.cmpSplit_ne (J.type.andThen (PySem.W.looks_mroIn KI hm)) (PySem.F.cmpArgs_ne _ _) ?_))
    unfold Builtin.«object.__ne__»
    refine wpAny_bind (m := slotArgs "__ne__" 1 _) (wpAny_pure ?_)
    refine wpAny_bind (m := cRoomFor _ _) (wpAny_cRoomFor hu ?_)
    refine wpAny_bind (m := callSpecialIfBound? (.ref x) (Str.ofString "__eq__") _) (PySem.W.ifBound_K KI J hs hf (wpAny_mono h (fun r s' hq => ?_) fun _ _ y => y))
    obtain ⟨k, rfl, hr⟩ := hq
    exact wpAny_bind (wpAny_truthy_bool (wpAny_pure ⟨!k, rfl, hr⟩))
  have one : wpAny (model P w) A (tryCompare (.ref x) (cmpInfo .NotEq).2.1 b) (fun r s' => ∃ v, r = some v ∧ R v s') E s := by
    unfold tryCompare
    refine wpAny_bind (m := callSpecialIfBound? (.ref x) _ _) ?_
    simp only [callSpecialIfBound?, bindSpecialIfBound?]
    refine wpAny_holding (wpAny_bind (wpAny_bind (wpAny_bind (J.type.here ((PySem.W.looks_findIn KI hne).here ?_)))))
    refine wpAny_bind (wpAny_askSetting (wpAny_ite ?_))
    have fin : wpAny (model P w) A (call (.builtin "object.__ne__") ([.ref x] ++ [b]) >>= fun v => pure (some v)) (fun r s' => ∃ k, r = some (.bool k) ∧ R (.bool k) s') E s :=
      wpAny_bind (wpAny_mono inner (fun v s' ⟨k, e, q⟩ => wpAny_pure ⟨k, by rw [e], q⟩) fun _ _ y => y)
    split
    · exact wpAny_bind ((PySem.W.Looks.of_pure (PySem.F.slot_object_ne.bind _)).here (wpAny_pure (wpAny_mono (show wpAny _ _ _ (fun r s' => ∃ k, r = some (.bool k) ∧ R (.bool k) s') _ _ from fin) (fun r s' ⟨k, e, q⟩ => by subst e; exact wpAny_pure ⟨_, rfl, q⟩) fun _ _ y => y)))
    · exact wpAny_tryCatch (wpAny_bind ((PySem.W.Looks.of_pure (PySem.F.slot_object_ne.bind _)).here (wpAny_pure (wpAny_mono (show wpAny _ _ _ (fun r s' => ∃ k, r = some (.bool k) ∧ R (.bool k) s') _ _ from fin) (fun r s' ⟨k, e, q⟩ => by subst e; exact wpAny_pure ⟨_, rfl, q⟩) fun _ _ y => y))))
  show wpAny (model P w) A (richCompare .NotEq (.ref x) b) R E s
  unfold richCompare
  simp only [oneThing_ref]
  refine wpAny_holding (wpAny_bind (wpAny_cRoomFor (by omega) ?_))
  refine wpAny_bind (J.type.here (wpAny_bind (hb.here ?_)))
  split
  · rename_i q
    have e : PySem.W.subIn K tb (.ref C) = some false := by
      rcases Bool.or_eq_true_iff.mp hn with e | e
      · rw [beq_iff_eq.mp e] at q; simp at q
      · exact beq_iff_eq.mp e
    refine wpAny_bind ((PySem.W.looks_subIn KI e).here ?_)
    simp only [Bool.false_eq_true, if_false]
    refine wpAny_bind (wpAny_mono one (fun r s' z => ?_) fun _ _ y => y)
    obtain ⟨v, rfl, hq⟩ := z
    exact wpAny_pure hq
  · refine wpAny_bind (wpAny_pure ?_)
    simp only [Bool.false_eq_true, if_false]
    refine wpAny_bind (wpAny_mono one (fun r s' z => ?_) fun _ _ y => y)
    obtain ⟨v, rfl, hq⟩ := z
    exact wpAny_pure hq
end
/-- an own == of the class at C, and no own != -/
structure OwnEq (K : PySem.W.Frag) (C f : Addr) : Prop where
  at_ : PySem.W.findIn K (.ref C) "__eq__" = some (some (.ref f))
  fn : PySem.W.isFn K (.ref f) = true
  ne : PySem.W.findIn K (.ref C) "__ne__" = some (some (.builtin "object.__ne__"))
  obj : PySem.W.mroIn K C (.type "object") = some true
section
variable {X : Cx} {a b : Expr} {pos : Pos} {ρ ρ1 ρ2 : Env} {r : R} {C f : Addr} {gs : List (Str × D)} {S : List D → R → Prop} {d2 : D} {t : Value} {k : Bool}
def rOwnC (X : Cx) (C : Addr) (S : List D → R → Prop) (d2 : D) : R2 := fun x y H Q => ∃ F p d1 f1, x = V.ref p ∧ H p = some (.ins C d1 f1) ∧ Ex F H ∧ Rep X.K F y d2 ∧ spP X.K S [x, y] H Q EF
theorem op_eqO (G : MCall X f (spP X.K S)) (h : OwnEq X.K C f) (hn : PySem.W.notFirst X.K C t = true) (ht : d2.ty? = some t) : OpR X (compareOp .Eq) (rOwnC X C S d2) := by
  intro pins s σ H x y v u Q I rx ry ⟨F, p, dx, f1, ex, hp, e, ry2, hsp⟩
  subst ex
  cases (show v = Value.ref p from rx)
  obtain ⟨ox, od, J⟩ := insAt I hp
  obtain ⟨m, hF⟩ := I.fr
  have hu : X.A.units < cLine := by
    obtain ⟨k, _, _, hr⟩ := G.run
    exact hr.units0
  show wpAny (model X.prog X.w) X.A (richCompare .Eq (.ref p) u) _ _ s
  refine PySem.W.cmp_K (op := .Eq) (tb := t) hu hF I.ok.mod.kin J (looks_ty I ry ry2 e ht) hn h.at_ h.fn ?_
  refine wpAny_mono (G.go (us := [.ref p, u]) (vs := [.ref p, y]) I (.cons rfl (.cons ry .nil)) hsp) (fun w s' z => ?_) fun _ _ x => x
  obtain ⟨z', H', I', rz, qz⟩ := z
  exact SlX.cmpback rz ⟨z', H', I', rz, qz⟩
def rOwnN (X : Cx) (C : Addr) (S : List D → R → Prop) (d2 : D) : R2 := fun x y H Q => ∃ F p d1 f1, x = V.ref p ∧ H p = some (.ins C d1 f1) ∧ Ex F H ∧ Rep X.K F y d2 ∧ spP X.K S [x, y] H (fun v H' => ∃ k, v = .bl k ∧ Q (.bl (!k)) H') EF
theorem op_neO (G : MCall X f (spP X.K S)) (h : OwnEq X.K C f) (hn : PySem.W.notFirst X.K C t = true) (ht : d2.ty? = some t) : OpR X (compareOp .NotEq) (rOwnN X C S d2) := by
  intro pins s σ H x y v u Q I rx ry ⟨F, p, dx, f1, ex, hp, e, ry2, hsp⟩
  subst ex
  cases (show v = Value.ref p from rx)
  obtain ⟨ox, od, J⟩ := insAt I hp
  have hu : X.A.units + 1 < cLine := by
    obtain ⟨k, _, _, hr⟩ := G.run
    exact hu_of hr
  refine ne_own hu I.kIn J (looks_ty I ry ry2 e ht) hn h.ne h.obj h.at_ h.fn ?_
  refine wpAny_mono (G.in1 (us := [.ref p, u]) (vs := [.ref p, y]) I (.cons rfl (.cons ry .nil)) hsp) (fun w s' z => ?_) fun _ _ x => x
  obtain ⟨z', H', I', rz, k, ek, qz⟩ := z
  subst ek
  cases (show w = Value.bool k from rz)
  exact ⟨k, rfl, .bl (!k), H', I', rfl, qz⟩
theorem eqO_run (hS : S [.ins C gs, d2] r) (ho : r.ok = true) {σ : L2.St} {H : Hp} {Q : VK} (h : tE X.K ρ r ρ2 σ H Q) : tE X.K ρ (.im (.ins C gs)) ρ1 σ H fun x1 H1 => tE X.K ρ1 (.im d2) ρ2 σ H1 fun x2 H2 => rOwnC X C S d2 x1 x2 H2 Q :=
  run2P hS ho h fun F x1 H1 x2 H2 e q1 q2 z => by
    obtain ⟨p, d1, f1, e1, h1, _⟩ := q1.insI
    exact ⟨F, p, d1, f1, e1, e _ _ h1, e, q2, z⟩
theorem neO_run (hS : S [.ins C gs, d2] (.im (.bl k))) {σ : L2.St} {H : Hp} {Q : VK} (h : tE X.K ρ (.im (.bl (!k))) ρ2 σ H Q) : tE X.K ρ (.im (.ins C gs)) ρ1 σ H fun x1 H1 => tE X.K ρ1 (.im d2) ρ2 σ H1 fun x2 H2 => rOwnN X C S d2 x1 x2 H2 Q := by
  have h' : tE X.K ρ (.im (.bl k)) ρ2 σ H (fun v H' => ∃ k, v = .bl k ∧ Q (.bl (!k)) H') := by
    obtain ⟨F, rel, kk⟩ := h
    refine ⟨F, rel, fun v F' H' rel' st q => ?_⟩
    have q : Rep X.K F' v (.bl k) := q
    cases q
    exact ⟨k, rfl, kk _ F' H' rel' st (.bl _)⟩
  exact run2P hS rfl h' fun F x1 H1 x2 H2 e q1 q2 z => by
    obtain ⟨p, d1, f1, e1, h1, _⟩ := q1.insI
    exact ⟨F, p, d1, f1, e1, e _ _ h1, e, q2, z⟩
theorem we_eqO (G : MCall X f (spP X.K S)) (h : OwnEq X.K C f) (hn : PySem.W.notFirst X.K C t = true) (ha : WE X a ρ (.im (.ins C gs)) ρ1) (hb : WE X b ρ1 (.im d2) ρ2) (hS : S [.ins C gs, d2] (.im (.bl k))) (ht : d2.ty? = some t := by rfl) : WE X (.Compare a [.Eq] [b] pos) ρ (.im (.bl k)) ρ2 :=
  PE.imp (pe_cmpR (op_eqO G h hn ht) ha hb (nomark _)) fun _ _ _ z => eqO_run hS rfl z
theorem wt_eqO (G : MCall X f (spP X.K S)) (h : OwnEq X.K C f) (hn : PySem.W.notFirst X.K C t = true) (ha : WE X a ρ (.im (.ins C gs)) ρ1) (hb : WE X b ρ1 (.im d2) ρ2) (hS : S [.ins C gs, d2] (.im (.bl k))) (ht : d2.ty? = some t := by rfl) : WT X (.Compare a [.Eq] [b] pos) ρ k ρ2 :=
  PT.imp (pt_cmpR (op_eqO G h hn ht) ha hb (nomark _)) fun _ _ _ z => eqO_run hS rfl (tT_bl z)
theorem we_neO (G : MCall X f (spP X.K S)) (h : OwnEq X.K C f) (hn : PySem.W.notFirst X.K C t = true) (ha : WE X a ρ (.im (.ins C gs)) ρ1) (hb : WE X b ρ1 (.im d2) ρ2) (hS : S [.ins C gs, d2] (.im (.bl k))) (ht : d2.ty? = some t := by rfl) : WE X (.Compare a [.NotEq] [b] pos) ρ (.im (.bl (!k))) ρ2 :=
  PE.imp (pe_cmpR (op_neO G h hn ht) ha hb (nomark _)) fun _ _ _ z => neO_run hS z
theorem wt_neO (G : MCall X f (spP X.K S)) (h : OwnEq X.K C f) (hn : PySem.W.notFirst X.K C t = true) (ha : WE X a ρ (.im (.ins C gs)) ρ1) (hb : WE X b ρ1 (.im d2) ρ2) (hS : S [.ins C gs, d2] (.im (.bl k))) (ht : d2.ty? = some t := by rfl) : WT X (.Compare a [.NotEq] [b] pos) ρ (!k) ρ2 :=
  PT.imp (pt_cmpR (op_neO G h hn ht) ha hb (nomark _)) fun _ _ _ z => neO_run hS (tT_bl z)
end
end Z
set_option maxRecDepth 100000
set_option maxHeartbeats 1000000
/-! Z7: calls with any arguments: frozen, new, or objects that slots own and lend. -/
namespace Z
open PySem PySem.Spec PyProof.Rows L2 Evl
/-! ### results, one behind the other -/
inductive RepRs (K : PySem.W.Frag) (F H0 H : Hp) (ρ : Env) (σ : L2.St) : List V → List R → Prop where
  | nil : RepRs K F H0 H ρ σ [] []
  | cons {v : V} {r : R} {vs : List V} {rs : List R} (q : RepR K F H0 H ρ σ v r) (t : RepRs K F H0 H ρ σ vs rs) (ap : ∀ d p, r = .fr d → v = .ref p → ∀ (i : Nat) (e : D), rs[i]? = some (.fr e) → vs[i]? ≠ some (.ref p)) : RepRs K F H0 H ρ σ (v :: vs) (r :: rs)
def tDr (K : PySem.W.Frag) (ρ : Env) (rs : List R) (ρ' : Env) : TA := fun σ H Q => ∃ F, Rel K F ρ σ H ∧
  ∀ vs F' H', Rel K F' ρ' σ H' → Stp ρ σ F H ρ' σ F' H' → RepRs K F' H H' ρ' σ vs rs → Q vs H'
abbrev WR (X : Cx) (es : List Expr) (ρ : Env) (rs : List R) (ρ' : Env) : Prop := PA X es (tDr X.K ρ rs ρ')
/-- what the callee's parameter holds -/
def asSV (ρ : Env) : R → SV
  | .im d => .im d
  | .fr d => .own d
  | .sl i => ρ[i]?.getD .un
/-- the slots that are lent -/
def lent : List R → List Nat
  | [] => []
  | .sl i :: rs => i :: lent rs
  | .im _ :: rs => lent rs
  | .fr _ :: rs => lent rs
/-- the slots behind the call -/
def puts : Env → List R → List SV → Env
  | ρ, .sl i :: rs, s :: ss => puts (ρ.set i s) rs ss
  | ρ, .im _ :: rs, _ :: ss => puts ρ rs ss
  | ρ, .fr _ :: rs, _ :: ss => puts ρ rs ss
  | ρ, _, _ => ρ
section
variable {K : PySem.W.Frag} {F F1 F2 H0 H H1 H2 : Hp} {ρ ρ0 ρ1 ρ2 : Env} {σ : L2.St} {vs : List V} {rs : List R} {r : R} {v : V}
theorem RepRs.length : ∀ {vs : List V} {rs : List R}, RepRs K F H0 H ρ σ vs rs → vs.length = rs.length
  | _, _, .nil => rfl
  | _, _, .cons _ t _ => by rw [List.length_cons, List.length_cons, RepRs.length t]
theorem RepRs.get : ∀ {vs : List V} {rs : List R} {i : Nat} {r : R}, RepRs K F H0 H ρ σ vs rs → rs[i]? = some r → ∃ v, vs[i]? = some v ∧ RepR K F H0 H ρ σ v r
  | _, _, _, _, .nil, e => by simp at e
  | _, _, 0, _, .cons q _ _, e => by simp at e; subst e; exact ⟨_, rfl, q⟩
  | _, _, i + 1, r, .cons _ t _, e => by
    obtain ⟨v, h1, h2⟩ := RepRs.get (i := i) (r := r) t (by simpa using e)
    exact ⟨v, by simpa using h1, h2⟩
theorem RepRs.back : ∀ {vs : List V} {rs : List R}, RepRs K F H H1 ρ1 σ vs rs → Stp ρ2 σ F2 H0 ρ0 σ F1 H → RepRs K F H0 H1 ρ1 σ vs rs
  | _, _, .nil, _ => .nil
  | _, _, .cons q t ap, s => .cons (RepR.back q s) (RepRs.back t s) ap
theorem RepRs.apart : ∀ {vs : List V} {rs : List R} {i j : Nat} {d e : D} {p : Addr}, RepRs K F H0 H ρ σ vs rs → rs[i]? = some (.fr d) → rs[j]? = some (.fr e) → vs[i]? = some (.ref p) → vs[j]? = some (.ref p) → i = j
  | _, _, _, _, _, _, _, .nil, h, _, _, _ => by simp at h
  | _, _, 0, 0, _, _, _, .cons _ _ _, _, _, _, _ => rfl
  | _, _, 0, j + 1, d, e, p, .cons _ _ ap, h1, h2, h3, h4 => by
    simp at h1 h3
    exact absurd (by simpa using h4) (ap d p h1 h3 j e (by simpa using h2))
  | _, _, i + 1, 0, d, e, p, .cons _ _ ap, h1, h2, h3, h4 => by
    simp at h2 h4
    exact absurd (by simpa using h3) (ap e p h2 h4 i d (by simpa using h1))
  | _, _, i + 1, j + 1, d, e, p, .cons _ t _, h1, h2, h3, h4 => by
    rw [RepRs.apart (i := i) (j := j) (d := d) (e := e) (p := p) t (by simpa using h1) (by simpa using h2) (by simpa using h3) (by simpa using h4)]
theorem mem_lent : ∀ {rs : List R} {k i : Nat}, rs[k]? = some (.sl i) → i ∈ lent rs
  | [], _, _, h => by simp at h
  | .sl j :: rs, 0, i, h => by simp at h; subst h; exact List.mem_cons_self
  | .im d :: rs, 0, i, h => by simp at h
  | .fr d :: rs, 0, i, h => by simp at h
  | .sl j :: rs, k + 1, i, h => List.mem_cons_of_mem _ (mem_lent (k := k) (by simpa using h))
  | .im d :: rs, k + 1, i, h => mem_lent (rs := rs) (k := k) (by simpa using h)
  | .fr d :: rs, k + 1, i, h => mem_lent (rs := rs) (k := k) (by simpa using h)
theorem lent_inj : ∀ {rs : List R} {i j a : Nat}, (lent rs).Nodup → rs[i]? = some (.sl a) → rs[j]? = some (.sl a) → i = j
  | [], _, _, _, _, h, _ => by simp at h
  | _ :: _, 0, 0, _, _, _, _ => rfl
  | r :: rs, 0, j + 1, a, n, h1, h2 => by
    simp at h1; subst h1
    exact absurd (mem_lent (rs := rs) (k := j) (by simpa using h2)) (List.nodup_cons.mp n).1
  | r :: rs, i + 1, 0, a, n, h1, h2 => by
    simp at h2; subst h2
    exact absurd (mem_lent (rs := rs) (k := i) (by simpa using h1)) (List.nodup_cons.mp n).1
  | r :: rs, i + 1, j + 1, a, n, h1, h2 => by
    have n' : (lent rs).Nodup := by
      cases r with
      | sl k => exact (List.nodup_cons.mp n).2
      | im d => exact n
      | fr d => exact n
    rw [lent_inj (i := i) (j := j) (a := a) n' (by simpa using h1) (by simpa using h2)]
theorem puts_len : ∀ (rs : List R) (ss : List SV) (ρ : Env), (puts ρ rs ss).length = ρ.length
  | .sl i :: rs, s :: ss, ρ => by
    show (puts (ρ.set i s) rs ss).length = ρ.length
    rw [puts_len rs ss, List.length_set]
  | .im _ :: rs, _ :: ss, ρ => puts_len rs ss ρ
  | .fr _ :: rs, _ :: ss, ρ => puts_len rs ss ρ
  | [], _, ρ => by unfold puts; rfl
  | .sl _ :: _, [], ρ => by unfold puts; rfl
  | .im _ :: _, [], ρ => by unfold puts; rfl
  | .fr _ :: _, [], ρ => by unfold puts; rfl
theorem puts_out : ∀ (rs : List R) (ss : List SV) (ρ : Env) {j : Nat}, j ∉ lent rs → (puts ρ rs ss)[j]? = ρ[j]?
  | .sl i :: rs, s :: ss, ρ, j, h => by
    show (puts (ρ.set i s) rs ss)[j]? = ρ[j]?
    rw [puts_out rs ss _ (fun z => h (List.mem_cons_of_mem _ z)), List.getElem?_set_ne]
    intro z
    exact h (z ▸ List.mem_cons_self)
  | .im _ :: rs, _ :: ss, ρ, j, h => puts_out rs ss ρ h
  | .fr _ :: rs, _ :: ss, ρ, j, h => puts_out rs ss ρ h
  | [], _, ρ, _, _ => by unfold puts; rfl
  | .sl _ :: _, [], ρ, _, _ => by unfold puts; rfl
  | .im _ :: _, [], ρ, _, _ => by unfold puts; rfl
  | .fr _ :: _, [], ρ, _, _ => by unfold puts; rfl
theorem puts_in : ∀ (rs : List R) (ss : List SV) (ρ : Env) {j : Nat}, (lent rs).Nodup → rs.length = ss.length → j < ρ.length → j ∈ lent rs → ∃ k : Nat, rs[k]? = some (R.sl j) ∧ (puts ρ rs ss)[j]? = ss[k]?
  | .sl i :: rs, s :: ss, ρ, j, n, hl, hj, h => by
    show ∃ k : Nat, (R.sl i :: rs)[k]? = some (R.sl j) ∧ (puts (ρ.set i s) rs ss)[j]? = (s :: ss)[k]?
    by_cases q : j = i
    · subst q
      refine ⟨0, rfl, ?_⟩
      rw [puts_out rs ss _ (List.nodup_cons.mp n).1, List.getElem?_set_self hj]
      rfl
    · obtain ⟨k, h1, h2⟩ := puts_in rs ss (ρ.set i s) (List.nodup_cons.mp n).2 (by simpa using hl) (by rw [List.length_set]; exact hj) ((List.mem_cons.mp h).resolve_left q)
      exact ⟨k + 1, by simpa using h1, by simpa using h2⟩
  | .im _ :: rs, _ :: ss, ρ, j, n, hl, hj, h => by
    obtain ⟨k, h1, h2⟩ := puts_in rs ss ρ n (by simpa using hl) hj h
    exact ⟨k + 1, by simpa using h1, h2⟩
  | .fr _ :: rs, _ :: ss, ρ, j, n, hl, hj, h => by
    obtain ⟨k, h1, h2⟩ := puts_in rs ss ρ n (by simpa using hl) hj h
    exact ⟨k + 1, by simpa using h1, h2⟩
  | [], _, _, _, _, _, _, h => by cases h
  | .sl _ :: _, [], _, _, _, hl, _, _ => by cases hl
  | .im _ :: _, [], _, _, _, hl, _, _ => by cases hl
  | .fr _ :: _, [], _, _, _, hl, _, _ => by cases hl
/-- all that is lent is owned -/
def LentOk (ρ : Env) (rs : List R) : Prop := ∀ i ∈ lent rs, ∃ d, ρ[i]? = some (.own d)
theorem as_get {s : SV} {i : Nat} (h : (rs.map (asSV ρ))[i]? = some s) : ∃ r, rs[i]? = some r ∧ asSV ρ r = s := by
  rw [List.getElem?_map] at h
  cases e : rs[i]? with
  | none => rw [e] at h; cases h
  | some r => rw [e] at h; exact ⟨r, rfl, Option.some.inj h⟩
theorem vs_get {i : Nat} {v : Option V} (h : (vs.map some)[i]? = some v) : ∃ x, vs[i]? = some x ∧ v = some x := by
  rw [List.getElem?_map] at h
  cases e : vs[i]? with
  | none => rw [e] at h; cases h
  | some r => rw [e] at h; exact ⟨r, rfl, (Option.some.inj h).symm⟩
/-- an argument that may change: a slot's own or a new one -/
def ArgO (K : PySem.W.Frag) (F H0 H : Hp) (ρ : Env) (σ : L2.St) (r : R) (d : D) (p : Addr) : Prop :=
  (∃ j, r = .sl j ∧ ρ[j]? = some (.own d) ∧ σ[j]? = some (some (.ref p))) ∨ (r = .fr d ∧ F p = none ∧ H0 p = none ∧ OwnAt K F H p d ∧ ¬ Owns ρ σ p)
theorem own_arg (ok : LentOk ρ rs) (q : RepRs K F H0 H ρ σ vs rs) (rel : Rel K F ρ σ H) {i : Nat} {d : D} (h : (rs.map (asSV ρ))[i]? = some (.own d)) : ∃ r p, rs[i]? = some r ∧ vs[i]? = some (.ref p) ∧ ArgO K F H0 H ρ σ r d p := by
  obtain ⟨r, hr, e⟩ := as_get h
  obtain ⟨v, hv, qv⟩ := q.get hr
  cases r with
  | im d => cases e
  | fr d' =>
    cases e
    obtain ⟨p, ev, f, h0, o, n⟩ := qv
    subst ev
    exact ⟨_, p, hr, hv, .inr ⟨rfl, f, h0, o, n⟩⟩
  | sl j =>
    obtain ⟨d', hd⟩ := ok j (mem_lent hr)
    have e : (ρ[j]?).getD .un = .own d := e
    rw [hd] at e
    cases e
    obtain ⟨p, hp, _, _⟩ := rel.own j _ hd
    have qv : σ[j]? = some (some v) := qv
    rw [qv] at hp
    cases hp
    exact ⟨_, p, hr, hv, .inl ⟨j, rfl, hd, qv⟩⟩
theorem ArgO.at {d : D} {p : Addr} (h : ArgO K F H0 H ρ σ r d p) (rel : Rel K F ρ σ H) : F p = none ∧ OwnAt K F H p d := by
  rcases h with ⟨j, _, h1, h2⟩ | ⟨_, f, _, o, _⟩
  · obtain ⟨p', hp, hn, ho⟩ := rel.own j d h1
    rw [h2] at hp
    cases hp
    exact ⟨hn, ho⟩
  · exact ⟨f, o⟩
theorem rel_argsG (rel : Rel K F ρ σ H) (q : RepRs K F H0 H ρ σ vs rs) (nd : (lent rs).Nodup) (ok : LentOk ρ rs) : Rel K F (rs.map (asSV ρ)) (vs.map some) H := by
  refine ⟨rel.ex, by rw [List.length_map, List.length_map, q.length], fun i d h => ?_, fun i d h => ?_, fun i j d e p h1 h2 h3 h4 => ?_⟩
  · obtain ⟨r, hr, e⟩ := as_get h
    obtain ⟨v, hv, qv⟩ := q.get hr
    cases r with
    | im d' => cases e; exact ⟨v, by rw [List.getElem?_map, hv]; rfl, qv⟩
    | fr d' => cases e
    | sl j =>
      obtain ⟨d', hd⟩ := ok j (mem_lent hr)
      have e : (ρ[j]?).getD .un = .im d := e
      rw [hd] at e
      cases e
  · obtain ⟨r, p, hr, hv, a⟩ := own_arg ok q rel h
    obtain ⟨f, o⟩ := a.at rel
    exact ⟨p, by rw [List.getElem?_map, hv]; rfl, f, o⟩
  · obtain ⟨r1, p1, hr1, hv1, a1⟩ := own_arg ok q rel h1
    obtain ⟨r2, p2, hr2, hv2, a2⟩ := own_arg ok q rel h2
    rw [List.getElem?_map, hv1] at h3
    rw [List.getElem?_map, hv2] at h4
    cases h3
    cases h4
    rcases a1 with ⟨j1, e1, o1, s1⟩ | ⟨e1, f1, z1, o1, n1⟩
    · rcases a2 with ⟨j2, e2, o2, s2⟩ | ⟨e2, f2, z2, o2, n2⟩
      · have := rel.inj j1 j2 d e p o1 o2 s1 s2
        subst this
        rw [e1] at hr1
        rw [e2] at hr2
        exact lent_inj nd hr1 hr2
      · exact absurd ⟨j1, d, o1, s1⟩ n2
    · rcases a2 with ⟨j2, e2, o2, s2⟩ | ⟨e2, f2, z2, o2, n2⟩
      · exact absurd ⟨j2, e, o2, s2⟩ n1
      · rw [e1] at hr1
        rw [e2] at hr2
        exact q.apart hr1 hr2 hv1 hv2
theorem owns_args (ok : LentOk ρ rs) (q : RepRs K F H0 H ρ σ vs rs) (rel : Rel K F ρ σ H) {a : Addr} (h : Owns (rs.map (asSV ρ)) (vs.map some) a) : Owns ρ σ a ∨ H0 a = none := by
  obtain ⟨i, d, h1, h2⟩ := h
  obtain ⟨r, p, hr, hv, ag⟩ := own_arg ok q rel h1
  rw [List.getElem?_map, hv] at h2
  cases h2
  rcases ag with ⟨j, _, o, s⟩ | ⟨_, _, z, _, _⟩
  · exact .inl ⟨j, d, o, s⟩
  · exact .inr z
theorem lent_owns (nd : (lent rs).Nodup) (ok : LentOk ρ rs) (q : RepRs K F H0 H ρ σ vs rs) (rel : Rel K F ρ σ H) {j : Nat} {p : Addr} {d : D} (h1 : ρ[j]? = some (.own d)) (h2 : σ[j]? = some (some (.ref p))) (h : Owns (rs.map (asSV ρ)) (vs.map some) p) : j ∈ lent rs := by
  obtain ⟨i, e, g1, g2⟩ := h
  obtain ⟨r, p', hr, hv, ag⟩ := own_arg ok q rel g1
  rw [List.getElem?_map, hv] at g2
  cases g2
  rcases ag with ⟨j', er, o, s⟩ | ⟨_, _, _, _, n⟩
  · have := rel.inj j j' d e p h1 o h2 s
    subst this
    subst er
    exact mem_lent hr
  · exact absurd ⟨j, d, h1, h2⟩ n
end
/-- a promise: any arguments; own ones may change -/
def spG (K : PySem.W.Frag) (S : List SV → R → List SV → Prop) : Sp := fun vs H Q _ => ∃ as r as', S as r as' ∧ as'.length = as.length ∧ (∀ (i : Nat) (d : D), as'[i]? = some (SV.own d) → ∃ e, as[i]? = some (SV.own e)) ∧ tE K as r as' (vs.map some) H Q
section
variable {K : PySem.W.Frag} {F F1 H H1 : Hp} {ρ ρ1 : Env} {σ : L2.St} {vs : List V} {rs : List R} {r : R} {as' : List SV} {Q : VK}
theorem backG (rel : Rel K F ρ σ H) (rel1 : Rel K F1 ρ1 σ H1) (st1 : Stp ρ σ F H ρ1 σ F1 H1) (q : RepRs K F1 H H1 ρ1 σ vs rs) (nd : (lent rs).Nodup) (ok : LentOk ρ1 rs) (hl : as'.length = rs.length)
    (hown : ∀ (i : Nat) (d : D), as'[i]? = some (SV.own d) → ∃ e, (rs.map (asSV ρ1))[i]? = some (SV.own e)) (hr : r.ok = true)
    (kk : ∀ v F' H', Rel K F' (puts ρ1 rs as') σ H' → Stp ρ σ F H (puts ρ1 rs as') σ F' H' → RepR K F' H H' (puts ρ1 rs as') σ v r → Q v H') : tE K (rs.map (asSV ρ1)) r as' (vs.map some) H1 Q := by
  have relA := rel_argsG rel1 q nd ok
  refine ⟨F1, relA, fun v F2 H2 rel2 st2 q2 => ?_⟩
  have ef : Ex F1 F2 := st2.ex relA
  -- a slot behind the call
  have slot : ∀ {j : Nat} {s : SV}, (puts ρ1 rs as')[j]? = some s → (∃ k : Nat, rs[k]? = some (R.sl j) ∧ as'[k]? = some s) ∨ (j ∉ lent rs ∧ ρ1[j]? = some s) := fun {j s} h => by
    by_cases hj : j ∈ lent rs
    · obtain ⟨d, hd⟩ := ok j hj
      obtain ⟨k, h1, h2⟩ := puts_in rs as' ρ1 nd hl.symm (List.getElem?_eq_some_iff.mp hd).1 hj
      exact .inl ⟨k, h1, h2.symm.trans h⟩
    · exact .inr ⟨hj, (puts_out rs as' ρ1 hj).symm.trans h⟩
  have sig : ∀ {j k : Nat}, rs[k]? = some (R.sl j) → ∃ x, vs[k]? = some x ∧ σ[j]? = some (some x) := fun {j k} h => by
    obtain ⟨x, h1, h2⟩ := q.get h
    exact ⟨x, h1, h2⟩
  have was : ∀ {j : Nat} {d : D}, (puts ρ1 rs as')[j]? = some (.own d) → ∃ e, ρ1[j]? = some (.own e) := fun {j d} h => by
    rcases slot h with ⟨k, h1, _⟩ | ⟨_, h2⟩
    · exact ok j (mem_lent h1)
    · exact ⟨d, h2⟩
  have keep : ∀ a o, H1 a = some o → ¬ Owns (rs.map (asSV ρ1)) (vs.map some) a → H2 a = some o ∧ F2 a = F1 a := st2.keep
  have rel3 : Rel K F2 (puts ρ1 rs as') σ H2 := by
    refine ⟨rel2.ex, by rw [puts_len]; exact rel1.len, fun j d h => ?_, fun j d h => ?_, fun i j d e p h1 h2 h3 h4 => ?_⟩
    · rcases slot h with ⟨k, h1, h2⟩ | ⟨_, h2⟩
      · obtain ⟨x, hx, hs⟩ := sig h1
        obtain ⟨y, hy, ry⟩ := rel2.im k d h2
        rw [List.getElem?_map, hx] at hy
        cases hy
        exact ⟨x, hs, ry⟩
      · obtain ⟨x, hx, rx⟩ := rel1.im j d h2
        exact ⟨x, hx, rx.mono ef⟩
    · rcases slot h with ⟨k, h1, h2⟩ | ⟨hj, h2⟩
      · obtain ⟨x, hx, hs⟩ := sig h1
        obtain ⟨p, hp, hn, ho⟩ := rel2.own k d h2
        rw [List.getElem?_map, hx] at hp
        cases hp
        exact ⟨p, hs, hn, ho⟩
      · obtain ⟨p, hp, hn, ho⟩ := rel1.own j d h2
        obtain ⟨o, hob⟩ := ho.ob
        obtain ⟨k1, k2⟩ := keep p o hob fun z => hj (lent_owns nd ok q rel1 h2 hp z)
        exact ⟨p, hp, by rw [k2, hn], ho.at ef (k1.trans hob.symm)⟩
    · obtain ⟨d', hd⟩ := was h1
      obtain ⟨e', he⟩ := was h2
      exact rel1.inj i j d' e' p hd he h3 h4
  have ow3 : ∀ a, Owns (puts ρ1 rs as') σ a → Owns ρ1 σ a := fun a ⟨j, d, h1, h2⟩ => by
    obtain ⟨e, he⟩ := was h1
    exact ⟨j, e, he, h2⟩
  have st3 : Stp ρ σ F H (puts ρ1 rs as') σ F2 H2 := by
    refine ⟨fun a o h n => ?_, fun a z => st1.own a (ow3 a z), fun a h => st2.dom a (st1.dom a h)⟩
    obtain ⟨k1, k2⟩ := st1.keep a o h n
    obtain ⟨k3, k4⟩ := keep a o k1 fun z => by
      rcases owns_args ok q rel1 z with z | z
      · rcases st1.own a z with z | z
        · exact n z
        · rw [h] at z; cases z
      · rw [h] at z; cases z
    exact ⟨k3, k4.trans k2⟩
  refine kk v F2 H2 rel3 st3 (RepR.back (ρ2 := ρ1) (σ2 := σ) (F2 := F1) (q2.move hr fun p h0 z => ?_) st1)
  obtain ⟨_, o, ho⟩ := rel1.owned (ow3 p z)
  rw [h0] at ho
  cases ho
end
/-! ### arguments -/
section
variable {X : Cx} {e : Expr} {es : List Expr} {ρ ρ1 ρ2 : Env} {r : R} {rs : List R} {d : D} {ds : List D}
theorem wr_nil : WR X [] ρ [] ρ := PA.imp pa_nil fun σ H Q ⟨F, rel, k⟩ => k [] F H rel Stp.refl .nil
theorem wr_cons (ha : WE X e ρ r ρ1) (hr : WR X es ρ1 rs ρ2) (hs : starEach (e :: es) X.env = (false, eval e X.env) :: starEach es X.env := by rfl) : WR X (e :: es) ρ (r :: rs) ρ2 :=
  PA.imp (pa_cons ha hr hs) fun σ H Q ⟨F, rel, k⟩ => ⟨F, rel, fun v F1 H1 rel1 st1 q1 => ⟨F1, rel1, fun vs F2 H2 rel2 st2 q2 => k (v :: vs) F2 H2 rel2 (st1.trans rel st2)
    (.cons (RepR.step q1 rel1 st2) (q2.back st1) fun d p er ev i e' h1 h2 => by
      subst er ev
      obtain ⟨p', e1, _, _, o, _⟩ := q1
      cases e1
      obtain ⟨u, hu⟩ := o.ob
      obtain ⟨x, hx, qx⟩ := q2.get h1
      rw [h2] at hx
      cases hx
      obtain ⟨p2, e2, _, h0, _⟩ := qx
      cases e2
      rw [hu] at h0
      cases h0)⟩⟩
theorem RepRs.of {K : PySem.W.Frag} {F H0 H : Hp} {σ : L2.St} : ∀ {vs : List V} {ds : List D}, Reps K F vs ds → RepRs K F H0 H ρ σ vs (ds.map .im)
  | _, _, .nil => .nil
  | _, _, .cons r t => .cons r (RepRs.of t) fun d p er => by cases er
theorem wr_of (h : WA X es ρ ds ρ1) : WR X es ρ (ds.map .im) ρ1 := PA.imp h fun σ H Q ⟨F, rel, k⟩ => ⟨F, rel, fun vs F1 H1 rel1 st1 q => k vs F1 H1 rel1 st1 (.of q)⟩
end
/-! ### the call -/
section
variable {X : Cx} {x : Str} {p pos apos : Pos} {o e : Expr} {es : List Expr} {ρ ρ1 ρ2 : Env} {rs : List R} {r : R} {as' : List SV} {S : List SV → R → List SV → Prop} {C f : Addr} {gs : List (Str × D)} {m : Str}
def lentOk (ρ : Env) (rs : List R) : Bool := (lent rs).all fun i => match ρ[i]? with
  | some (.own _) => true
  | _ => false
theorem lentOk_of (h : lentOk ρ rs = true) : LentOk ρ rs := fun i hi => by
  have := List.all_eq_true.mp h i hi
  cases e : ρ[i]? with
  | none => rw [e] at this; cases this
  | some s =>
    rw [e] at this
    cases s with
    | own d => exact ⟨d, rfl⟩
    | un => cases this
    | im d => cases this
/-- own ones stay own -/
inductive Keeps : List SV → List SV → Prop where
  | nil : Keeps [] []
  | im (d : D) {a b : List SV} (h : Keeps a b) : Keeps (.im d :: a) (.im d :: b)
  | own (d e : D) {a b : List SV} (h : Keeps a b) : Keeps (.own d :: a) (.own e :: b)
theorem Keeps.length : ∀ {a b : List SV}, Keeps a b → b.length = a.length
  | _, _, .nil => rfl
  | _, _, .im _ h => by rw [List.length_cons, List.length_cons, Keeps.length h]
  | _, _, .own _ _ h => by rw [List.length_cons, List.length_cons, Keeps.length h]
theorem Keeps.own_of : ∀ {a b : List SV} {i : Nat} {d : D}, Keeps a b → b[i]? = some (.own d) → ∃ e, a[i]? = some (SV.own e)
  | _, _, _, _, .nil, h => by simp at h
  | _, _, 0, _, .im _ _, h => by simp at h
  | _, _, 0, _, .own d e _, h => ⟨d, rfl⟩
  | _, _, i + 1, d, .im _ t, h => by
    obtain ⟨e, he⟩ := Keeps.own_of (i := i) (d := d) t (by simpa using h)
    exact ⟨e, by simpa using he⟩
  | _, _, i + 1, d, .own _ _ t, h => by
    obtain ⟨e, he⟩ := Keeps.own_of (i := i) (d := d) t (by simpa using h)
    exact ⟨e, by simpa using he⟩
theorem wg (G : Call X x (spG X.K S)) (ha : WR X (e :: es) ρ rs ρ1) (hS : S (rs.map (asSV ρ1)) r as') (hk : Keeps (rs.map (asSV ρ1)) as' := by first | exact .nil | repeat constructor) (nd : (lent rs).Nodup := by first | decide | exact List.nodup_nil | (show List.Nodup [_]; decide) | (show List.Nodup [_, _]; decide) | (show List.Nodup [_, _, _]; decide)) (ok : lentOk ρ1 rs = true := by rfl) (ho : r.ok = true := by rfl) (hg : Gl X x := by rfl)
    (hd : (x == ("__debug__" : Str)) = false := by decide) (he : starEach (e :: es) X.env = (false, eval e X.env) :: starEach es X.env := by rfl) (hpl : (backTo pos (starEach es X.env)).any (·.1) = false := by rfl) : WE X (.Call (.Name x p) (e :: es) [] pos) ρ r (puts ρ1 rs as') := by
  obtain ⟨f, k, F, hgu, hr, hm, hkp⟩ := G.run
  have hl : as'.length = rs.length := by rw [hk.length, List.length_map]
  exact PE.imp (pe_callG F hgu hr hm hkp passF ha hg hd he hpl) fun σ H Q ⟨F, rel, kk⟩ => ⟨F, rel, fun vs F1 H1 rel1 st1 q => ⟨_, r, as', hS, by rw [hl, List.length_map], fun i d h => hk.own_of h, backG rel rel1 st1 q nd (lentOk_of ok) hl (fun i d h => hk.own_of h) ho kk⟩⟩
/-- a method's call, the receiver any result -/
theorem wgm (G : MCall X f (spG X.K S)) (he : WE X o ρ r0 ρ1) (ha : WR X (e :: es) ρ1 rs ρ2) (c : Cls X.K C) (hm : Meth X.K C m f) (hc : r0.con ρ1 = some (.ins C gs)) (hS : S (asSV ρ2 r0 :: rs.map (asSV ρ2)) r as') (hk : Keeps (asSV ρ2 r0 :: rs.map (asSV ρ2)) as' := by repeat constructor) (hl : gs.lookup m = none := by rfl) (nd : (lent (r0 :: rs)).Nodup := by first | decide | exact List.nodup_nil | (show List.Nodup [_]; decide) | (show List.Nodup [_, _]; decide) | (show List.Nodup [_, _, _]; decide)) (ok : lentOk ρ2 (r0 :: rs) = true := by rfl) (ho : r.ok = true := by rfl)
    (hst : starEach (e :: es) X.env = (false, eval e X.env) :: starEach es X.env := by rfl) (hpl : (backTo pos (starEach es X.env)).any (·.1) = false := by rfl) {pl : Sem Bool}
    (ht : eval (.Call (.Attribute o m apos) (e :: es) [] pos) X.env = (do
      let ov ← eval o X.env
      standAt apos.atName
      let (f, first) ← holding [ov] (getMethod ov m pl)
      callWith pos f first (backTo pos (starEach (e :: es) X.env)) (backToKw pos (keywordEach [] X.env))) := by rfl) : WE X (.Call (.Attribute o m apos) (e :: es) [] pos) ρ r (puts ρ2 (r0 :: rs) as') := by
  obtain ⟨k, F, hgu, hr⟩ := G.run
  have hln : as'.length = (r0 :: rs).length := by rw [hk.length, List.length_cons, List.length_cons, List.length_map]
  exact PE.imp (pe_methG he c hm F hgu (hr.mono (Nat.le_add_right _ _)) passF ha hst hpl ht) fun σ H Q ⟨F, rel, kk⟩ => ⟨F, rel, fun v F1 H1 rel1 st1 q1 => by
    obtain ⟨a, dx, fs, ev, ea, rf⟩ := (q1.con rel1 hc).ins rel1.ex
    refine ⟨a, dx, fs, ev, ea, rf.look_none hl, F1, rel1, fun vs F2 H2 rel2 st2 q2 => ?_⟩
    have q3 : RepRs X.K F2 H H2 ρ2 σ (v :: vs) (r0 :: rs) := .cons (RepR.step q1 rel1 st2) (q2.back st1) fun d p er ev i e' h1 h2 => by
      subst er ev
      obtain ⟨p', e1, _, _, o, _⟩ := q1
      cases e1
      obtain ⟨u, hu⟩ := o.ob
      obtain ⟨x, hx, qx⟩ := q2.get h1
      rw [h2] at hx
      cases hx
      obtain ⟨p2, e2, _, h0, _⟩ := qx
      cases e2
      rw [hu] at h0
      cases h0
    exact ⟨_, r, as', hS, by rw [hln, List.length_cons, List.length_cons, List.length_map], fun i d h => hk.own_of h, backG rel rel2 (st1.trans rel st2) q3 nd (lentOk_of ok) hln (fun i d h => hk.own_of h) ho kk⟩⟩
end
/-! ### a def keeps such a promise -/
/-- the places of the own arguments -/
def ownIx : Nat → List SV → List Nat
  | _, [] => []
  | n, .own _ :: as => n :: ownIx (n + 1) as
  | n, .im _ :: as => ownIx (n + 1) as
  | n, .un :: as => ownIx (n + 1) as
theorem mem_ownIx : ∀ {as : List SV} {n i : Nat} {d : D}, as[i]? = some (.own d) → n + i ∈ ownIx n as
  | [], _, _, _, h => by simp at h
  | .own _ :: as, n, 0, _, _ => List.mem_cons_self
  | .im _ :: as, n, 0, _, h => by simp at h
  | .un :: as, n, 0, _, h => by simp at h
  | .own _ :: as, n, i + 1, d, h => List.mem_cons_of_mem _ (by have := mem_ownIx (as := as) (n := n + 1) (i := i) (d := d) (by simpa using h); rwa [Nat.add_assoc, Nat.add_comm 1 i] at this)
  | .im _ :: as, n, i + 1, d, h => by have := mem_ownIx (as := as) (n := n + 1) (i := i) (d := d) (by simpa using h); rwa [Nat.add_assoc, Nat.add_comm 1 i] at this
  | .un :: as, n, i + 1, d, h => by have := mem_ownIx (as := as) (n := n + 1) (i := i) (d := d) (by simpa using h); rwa [Nat.add_assoc, Nat.add_comm 1 i] at this
/-- at the body's end: the own arguments hold what is promised -/
inductive EndS : List SV → List SV → Env → Prop where
  | nil (ρ : Env) : EndS [] [] ρ
  | im (d : D) (s : SV) {a b : List SV} {ρ : Env} (h : EndS a b ρ) : EndS (.im d :: a) (.im d :: b) (s :: ρ)
  | own (d e : D) {a b : List SV} {ρ : Env} (h : EndS a b ρ) : EndS (.own d :: a) (.own e :: b) (.own e :: ρ)
theorem EndS.keeps : ∀ {a b : List SV} {ρ : Env}, EndS a b ρ → Keeps a b
  | _, _, _, .nil _ => .nil
  | _, _, _, .im d _ h => .im d h.keeps
  | _, _, _, .own d e h => .own d e h.keeps
theorem EndS.own_at : ∀ {a b : List SV} {ρ : Env} {i : Nat} {d : D}, EndS a b ρ → b[i]? = some (.own d) → ρ[i]? = some (.own d) ∧ ∃ e, a[i]? = some (SV.own e)
  | _, _, _, _, _, .nil _, h => by simp at h
  | _, _, _, 0, _, .im _ _ _, h => by simp at h
  | _, _, _, 0, _, .own d e _, h => by simp at h; subst h; exact ⟨rfl, d, rfl⟩
  | _, _, _, i + 1, d, .im _ _ t, h => by
    obtain ⟨h1, e, h2⟩ := EndS.own_at (i := i) (d := d) t (by simpa using h)
    exact ⟨by simpa using h1, e, by simpa using h2⟩
  | _, _, _, i + 1, d, .own _ _ t, h => by
    obtain ⟨h1, e, h2⟩ := EndS.own_at (i := i) (d := d) t (by simpa using h)
    exact ⟨by simpa using h1, e, by simpa using h2⟩
theorem EndS.own_was : ∀ {a b : List SV} {ρ : Env} {i : Nat} {d : D}, EndS a b ρ → a[i]? = some (.own d) → ∃ e, b[i]? = some (SV.own e) ∧ ρ[i]? = some (.own e)
  | _, _, _, _, _, .nil _, h => by simp at h
  | _, _, _, 0, _, .im _ _ _, h => by simp at h
  | _, _, _, 0, _, .own d e _, h => ⟨e, rfl, rfl⟩
  | _, _, _, i + 1, d, .im _ _ t, h => by
    obtain ⟨e, h1, h2⟩ := EndS.own_was (i := i) (d := d) t (by simpa using h)
    exact ⟨e, by simpa using h1, by simpa using h2⟩
  | _, _, _, i + 1, d, .own _ _ t, h => by
    obtain ⟨e, h1, h2⟩ := EndS.own_was (i := i) (d := d) t (by simpa using h)
    exact ⟨e, by simpa using h1, by simpa using h2⟩
theorem EndS.im_at : ∀ {a b : List SV} {ρ : Env} {i : Nat} {d : D}, EndS a b ρ → b[i]? = some (.im d) → a[i]? = some (.im d)
  | _, _, _, _, _, .nil _, h => by simp at h
  | _, _, _, 0, _, .im _ _ _, h => by simpa using h
  | _, _, _, 0, _, .own d e _, h => by simp at h
  | _, _, _, i + 1, d, .im _ _ t, h => by
    have := EndS.im_at (i := i) (d := d) t (by simpa using h)
    simpa using this
  | _, _, _, i + 1, d, .own _ _ t, h => by
    have := EndS.im_at (i := i) (d := d) t (by simpa using h)
    simpa using this
section
variable {CX : CXT} {P : Program} {w : World} {K : PySem.W.Frag} {mg : Str → Option Value} {base : Heap} {k : Nat} {f : Addr} {name qual : Str} {params : Arguments} {body : List Stmt} {scope : Scope} {dV kV doc pm cdv ct oc : Value} {an od : Option Addr}
  {osl : Array (Option Value)} {N ps : List Str}
theorem body_G {S : List SV → R → List SV → Prop} {A : Around} {outer : List PySem.Env} {s : Shared} {H : Hp} {E : XK} {vs : List V} {Q : VK}
    (hb : ∀ as r as', S as r as' → WB (cxOf CX P w K mg base N qual scope f cdv A outer s H E).nox (ownIx 0 as) body (as ++ List.replicate (N.length - as.length) .un) { nx := fun ρ' => r = .im .non ∧ EndS as as' ρ', rt := fun r' ρ' => Rt (ownIx 0 as) ρ' r r' ∧ EndS as as' ρ' })
    (h : spG K S vs H Q E) : ∃ t, PSs (cxOf CX P w K mg base N qual scope f cdv A outer s H E) body t ∧ t { nx := fun _ H' => Q .non H', rt := Q } (L2.start N vs) H := by
  obtain ⟨as, r, as', hS, _, _, F, rel, kk⟩ := h
  have hl : vs.length = as.length := by have := rel.len; rwa [List.length_map] at this
  have back : ∀ {ρ' : Env} {σ' : L2.St} {F' H' : Hp}, Rel K F' ρ' σ' H' → Stp (as ++ List.replicate (N.length - as.length) .un) (L2.start N vs) F H ρ' σ' F' H' → Pin (ownIx 0 as) (L2.start N vs) σ' → EndS as as' ρ' →
      Rel K F' as' (vs.map some) H' ∧ Stp as (vs.map some) F H as' (vs.map some) F' H' ∧ ∀ a, Owns as' (vs.map some) a → ∃ i d, i ∈ ownIx 0 as ∧ ρ'[i]? = some (.own d) ∧ σ'[i]? = some (some (.ref a)) := fun {ρ' σ' F' H'} rel' st pn e => by
    have pinned : ∀ {i : Nat} {d : D}, as[i]? = some (.own d) → i ∈ ownIx 0 as ∧ σ'[i]? = (vs.map some)[i]? := fun {i d} h => by
      have hi := mem_ownIx (n := 0) h
      rw [Nat.zero_add] at hi
      refine ⟨hi, (pn i hi).trans ?_⟩
      have h2 : (as ++ List.replicate (N.length - as.length) SV.un)[i]? = some (.own d) := by rw [List.getElem?_append_left (List.getElem?_eq_some_iff.mp h).1]; exact h
      exact (start_get hl (fun z => by cases z) h2).2
    have st' : Stp as (vs.map some) F H as' (vs.map some) F' H' := by
      refine ⟨fun a o h n => st.keep a o h fun z => n (owns_start hl z), fun a z => ?_, st.dom⟩
      obtain ⟨i, d, h1, h2⟩ := z
      obtain ⟨_, e', h3⟩ := e.own_at h1
      exact .inl ⟨i, e', h3, h2⟩
    have ef := st'.ex rel
    refine ⟨⟨rel'.ex, ?_, fun i d h => ?_, fun i d h => ?_, fun i j d d2 p h1 h2 h3 h4 => ?_⟩, st', fun a z => ?_⟩
    · rw [List.length_map, hl, e.keeps.length]
    · obtain ⟨v, hv, rv⟩ := rel.im i d (e.im_at h)
      exact ⟨v, hv, rv.mono ef⟩
    · obtain ⟨h1, e', h2⟩ := e.own_at h
      obtain ⟨p, hp, hn, ho⟩ := rel'.own i d h1
      obtain ⟨_, hs⟩ := pinned h2
      rw [hs] at hp
      exact ⟨p, hp, hn, ho⟩
    · obtain ⟨_, e1, g1⟩ := e.own_at h1
      obtain ⟨_, e2, g2⟩ := e.own_at h2
      exact rel.inj i j e1 e2 p g1 g2 h3 h4
    · obtain ⟨i, d, h1, h2⟩ := z
      obtain ⟨h3, e', h4⟩ := e.own_at h1
      obtain ⟨hi, hs⟩ := pinned h4
      exact ⟨i, d, hi, h3, hs.trans h2⟩
  refine ⟨_, (hb as r as' hS).nox, F, rel_start rel, ?_, ?_, fun _ _ _ _ _ _ _ z => z.elim, fun _ _ _ _ _ _ _ z => z.elim⟩
  · intro ρ' σ' F' H' rel' st pn ⟨e, e0⟩
    subst e
    obtain ⟨r1, s1, _⟩ := back rel' st pn e0
    exact kk .non F' H' r1 s1 .non
  · intro v r' ρ' σ' F' H' rel' st pn q ⟨g, e0⟩
    obtain ⟨r1, s1, o1⟩ := back rel' st pn e0
    refine kk v F' H' r1 s1 ?_
    refine Rt.good g (rel_start rel) rel' st q pn (fun i d h => ?_) o1
    obtain ⟨h1, _⟩ := start_get (N := N) hl (fun z => by cases z) h
    obtain ⟨e, _, he⟩ := e0.own_was h1
    have hi := mem_ownIx (n := 0) h1
    rw [Nat.zero_add] at hi
    exact ⟨hi, e, he⟩
end
end Z
set_option maxRecDepth 100000
set_option maxHeartbeats 1000000
/-! Z8: built-ins, lists, tuples. -/
namespace Z
open PySem PySem.Spec PyProof.Rows L2 Evl
section
variable {X : Cx} {a b e : Expr} {es : List Expr} {x : Str} {p pos apos : Pos} {ρ ρ1 ρ2 ρ3 : Env} {r r1 r2 : R} {d d1 d2 : D} {ds xs ys : List D} {id T : String} {f : List V → Hp → VK → Prop} {i j k : Int}
/-! ### a built-in called by name -/
/-- on one value, by what it holds -/
def VB1 (X : Cx) (f : List V → Hp → VK → Prop) (d : D) (r : R) : Prop := ∀ (ρ : Env) (σ : L2.St) (F H : Hp) (x : V) (Q : VK), Rel X.K F ρ σ H → Con X.K F H x d →
  (∀ v F' H', Rel X.K F' ρ σ H' → Stp ρ σ F H ρ σ F' H' → RepR X.K F' H H' ρ σ v r → Q v H') → f [x] H Q
def VBn (X : Cx) (f : List V → Hp → VK → Prop) (ds : List D) (r : R) : Prop := ∀ (ρ : Env) (σ : L2.St) (F H : Hp) (xs : List V) (Q : VK), Rel X.K F ρ σ H → Reps X.K F xs ds →
  (∀ v F' H', Rel X.K F' ρ σ H' → Stp ρ σ F H ρ σ F' H' → RepR X.K F' H H' ρ σ v r → Q v H') → f xs H Q
theorem b1_run (hv : VB1 X f d r) (ca : r1.con ρ1 = some d) {σ : L2.St} {H : Hp} {Q : VK} (h : tE X.K ρ r ρ1 σ H Q) : tD1 X.K ρ r1 [] ρ1 σ H fun vs H1 => f vs H1 Q := by
  obtain ⟨F, rel, kk⟩ := h
  refine ⟨F, rel, fun v vs F1 H1 rel1 st1 q1 q2 => ?_⟩
  cases q2
  exact hv ρ1 σ F1 H1 v Q rel1 (q1.con rel1 ca) fun w F2 H2 rel2 st2 q3 => kk w F2 H2 rel2 (st1.trans rel st2) (RepR.back q3 st1)
theorem bn_run (hv : VBn X f ds r) {σ : L2.St} {H : Hp} {Q : VK} (h : tE X.K ρ r ρ1 σ H Q) : tD X.K ρ ds ρ1 σ H fun vs H1 => f vs H1 Q := by
  obtain ⟨F, rel, kk⟩ := h
  exact ⟨F, rel, fun vs F1 H1 rel1 st1 q => hv ρ1 σ F1 H1 vs Q rel1 q fun w F2 H2 rel2 st2 q3 => kk w F2 H2 rel2 (st1.trans rel st2) (RepR.back q3 st1)⟩
theorem we_b1 (hc : CallR X (.builtin id) f) (hv : VB1 X f d r) (hm : X.mg x = none) (ha : WE X e ρ r1 ρ1) (hb : bootBuiltins x = some (.builtin id) := by rfl) (ca : r1.con ρ1 = some d := by rfl) (hg : Gl X x := by rfl) (hn : x ≠ "__name__" := by decide) (hdb : (x == ("__debug__" : Str)) = false := by decide)
    (he : starEach [e] X.env = (false, eval e X.env) :: starEach [] X.env := by rfl) (hpl : (backTo pos (starEach [] X.env)).any (·.1) = false := by rfl) : WE X (.Call (.Name x p) [e] [] pos) ρ r ρ1 :=
  PE.imp (pe_callB hc hg hm hb (wa1_cons ha wa_nil he) hn hdb he hpl) fun _ _ _ h => b1_run hv ca h
theorem we_bn (hc : CallR X (.builtin id) f) (hv : VBn X f ds r) (hm : X.mg x = none) (ha : WA X (e :: es) ρ ds ρ1) (hb : bootBuiltins x = some (.builtin id) := by rfl) (hg : Gl X x := by rfl) (hn : x ≠ "__name__" := by decide) (hdb : (x == ("__debug__" : Str)) = false := by decide)
    (he : starEach (e :: es) X.env = (false, eval e X.env) :: starEach es X.env := by rfl) (hpl : (backTo pos (starEach es X.env)).any (·.1) = false := by rfl) : WE X (.Call (.Name x p) (e :: es) [] pos) ρ r ρ1 :=
  PE.imp (pe_callB hc hg hm hb ha hn hdb he hpl) fun _ _ _ h => bn_run hv h
theorem we_t1 (hc : CallR X (.type T) f) (hv : VB1 X f d r) (hm : X.mg x = none) (ha : WE X e ρ r1 ρ1) (hb : bootBuiltins x = some (.type T) := by rfl) (ca : r1.con ρ1 = some d := by rfl) (hg : Gl X x := by rfl) (hn : x ≠ "__name__" := by decide) (hdb : (x == ("__debug__" : Str)) = false := by decide)
    (he : starEach [e] X.env = (false, eval e X.env) :: starEach [] X.env := by rfl) (hpl : (backTo pos (starEach [] X.env)).any (·.1) = false := by rfl) : WE X (.Call (.Name x p) [e] [] pos) ρ r ρ1 :=
  PE.imp (pe_callTy hc hg hm hb (wa1_cons ha wa_nil he) hn hdb he hpl) fun _ _ _ h => b1_run hv ca h
theorem we_abs (hm : X.mg "abs" = none) (ha : WE X e ρ (.im (.int i)) ρ1) (hg : Gl X "abs" := by rfl) (he : starEach [e] X.env = (false, eval e X.env) :: starEach [] X.env := by rfl) : WE X (.Call (.Name "abs" p) [e] [] pos) ρ (.im (.int (i.natAbs : Int))) ρ1 :=
  we_b1 (d := .int i) call_abs (fun ρ σ F H x Q rel c k => by cases c.int; refine ⟨i, rfl, ?_⟩; have e : (if i < 0 then -i else i) = (i.natAbs : Int) := (by split <;> omega); rw [e]; exact k _ F H rel Stp.refl (.int _)) hm ha rfl rfl hg (by decide) (by decide) he
theorem we_max2 (hm : X.mg "max" = none) (ha : WA X [a, b] ρ [.int i, .int j] ρ1) (hc : X.calm = true := by rfl) (hg : Gl X "max" := by rfl) (he : starEach [a, b] X.env = (false, eval a X.env) :: starEach [b] X.env := by rfl) (hpl : (backTo pos (starEach [b] X.env)).any (·.1) = false := by rfl) : WE X (.Call (.Name "max" p) [a, b] [] pos) ρ (.im (.int (max i j))) ρ1 :=
  we_bn (call_max2 hc) (fun ρ σ F H xs Q rel c k => by
    cases c with
    | cons r t =>
      cases t with
      | cons r2 t =>
        cases t; cases r; cases r2
        refine ⟨i, j, rfl, ?_⟩
        have e : (if j > i then j else i) = max i j := by split <;> omega
        rw [e]; exact k _ F H rel Stp.refl (.int _)) hm ha rfl hg (by decide) (by decide) he hpl
theorem we_min2 (hm : X.mg "min" = none) (ha : WA X [a, b] ρ [.int i, .int j] ρ1) (hc : X.calm = true := by rfl) (hg : Gl X "min" := by rfl) (he : starEach [a, b] X.env = (false, eval a X.env) :: starEach [b] X.env := by rfl) (hpl : (backTo pos (starEach [b] X.env)).any (·.1) = false := by rfl) : WE X (.Call (.Name "min" p) [a, b] [] pos) ρ (.im (.int (min i j))) ρ1 :=
  we_bn (call_min2 hc) (fun ρ σ F H xs Q rel c k => by
    cases c with
    | cons r t =>
      cases t with
      | cons r2 t =>
        cases t; cases r; cases r2
        refine ⟨i, j, rfl, ?_⟩
        have e : (if j < i then j else i) = min i j := by split <;> omega
        rw [e]; exact k _ F H rel Stp.refl (.int _)) hm ha rfl hg (by decide) (by decide) he hpl
theorem we_intI (hm : X.mg "int" = none) (ha : WE X e ρ (.im (.int i)) ρ1) (hg : Gl X "int" := by rfl) (he : starEach [e] X.env = (false, eval e X.env) :: starEach [] X.env := by rfl) : WE X (.Call (.Name "int" p) [e] [] pos) ρ (.im (.int i)) ρ1 :=
  we_t1 (d := .int i) call_int1 (fun ρ σ F H x Q rel c k => by cases c.int; exact .inl ⟨i, rfl, k _ F H rel Stp.refl (.int _)⟩) hm ha rfl rfl hg (by decide) (by decide) he
theorem we_intB {k : Bool} (hm : X.mg "int" = none) (ha : WE X e ρ (.im (.bl k)) ρ1) (hg : Gl X "int" := by rfl) (he : starEach [e] X.env = (false, eval e X.env) :: starEach [] X.env := by rfl) : WE X (.Call (.Name "int" p) [e] [] pos) ρ (.im (.int (if k then 1 else 0))) ρ1 :=
  we_t1 (d := .bl k) call_int1 (fun ρ σ F H x Q rel c q => by cases c.bl; exact .inr ⟨k, rfl, q _ F H rel Stp.refl (.int _)⟩) hm ha rfl rfl hg (by decide) (by decide) he
theorem we_strI (hm : X.mg "str" = none) (ha : WE X e ρ (.im (.int i)) ρ1) (hg : Gl X "str" := by rfl) (he : starEach [e] X.env = (false, eval e X.env) :: starEach [] X.env := by rfl) (hz : i.natAbs.log2 < 1920 := by first | rfl | decide | omega | assumption | exact ⟨by omega, by omega⟩ | exact ⟨by decide, by decide, by decide⟩ | exact .inr (by decide) | exact .inl (by omega)) : WE X (.Call (.Name "str" p) [e] [] pos) ρ (.im (.str (toString i))) ρ1 :=
  we_t1 (d := .int i) call_str_int (fun ρ σ F H x Q rel c k => by cases c.int; exact ⟨i, rfl, hz, k _ F H rel Stp.refl (.str _)⟩) hm ha rfl rfl hg (by decide) (by decide) he
theorem we_lenL (hm : X.mg "len" = none) (ha : WE X e ρ r1 ρ1) (ca : r1.con ρ1 = some (.lst xs) := by rfl) (hg : Gl X "len" := by rfl) (he : starEach [e] X.env = (false, eval e X.env) :: starEach [] X.env := by rfl) : WE X (.Call (.Name "len" p) [e] [] pos) ρ (.im (.int (xs.length : Nat))) ρ1 :=
  we_b1 (d := .lst xs) call_len_seq (fun ρ σ F H x Q rel c k => by obtain ⟨l, vs, ev, hs, rp⟩ := c.lst rel.ex; subst ev; exact ⟨l, vs, rfl, .inl hs, by rw [rp.length]; exact k _ F H rel Stp.refl (.int _)⟩) hm ha rfl ca hg (by decide) (by decide) he
theorem we_lenT (hm : X.mg "len" = none) (ha : WE X e ρ r1 ρ1) (ca : r1.con ρ1 = some (.tup xs) := by rfl) (hg : Gl X "len" := by rfl) (he : starEach [e] X.env = (false, eval e X.env) :: starEach [] X.env := by rfl) : WE X (.Call (.Name "len" p) [e] [] pos) ρ (.im (.int (xs.length : Nat))) ρ1 :=
  we_b1 (d := .tup xs) call_len_seq (fun ρ σ F H x Q rel c k => by obtain ⟨l, vs, ev, hs, rp⟩ := c.tup rel.ex; subst ev; exact ⟨l, vs, rfl, .inr hs, by rw [rp.length]; exact k _ F H rel Stp.refl (.int _)⟩) hm ha rfl ca hg (by decide) (by decide) he
theorem we_allB {bs : List Bool} (hm : X.mg "all" = none) (ha : WE X e ρ r1 ρ1) (ca : r1.con ρ1 = some (.lst (bs.map .bl)) := by rfl) (hc : X.calm = true := by rfl) (hg : Gl X "all" := by rfl) (he : starEach [e] X.env = (false, eval e X.env) :: starEach [] X.env := by rfl) : WE X (.Call (.Name "all" p) [e] [] pos) ρ (.im (.bl (bs.all _root_.id))) ρ1 :=
  we_b1 (d := .lst (bs.map .bl)) (cr_all hc) (fun ρ σ F H x Q rel c k => by obtain ⟨l, vs, ev, hs, rp⟩ := c.lst rel.ex; subst ev; rw [rp.bls_of] at hs; exact ⟨l, bs, rfl, hs, k _ F H rel Stp.refl (.bl _)⟩) hm ha rfl ca hg (by decide) (by decide) he
theorem we_anyB {bs : List Bool} (hm : X.mg "any" = none) (ha : WE X e ρ r1 ρ1) (ca : r1.con ρ1 = some (.lst (bs.map .bl)) := by rfl) (hc : X.calm = true := by rfl) (hg : Gl X "any" := by rfl) (he : starEach [e] X.env = (false, eval e X.env) :: starEach [] X.env := by rfl) : WE X (.Call (.Name "any" p) [e] [] pos) ρ (.im (.bl (bs.any _root_.id))) ρ1 :=
  we_b1 (d := .lst (bs.map .bl)) (cr_any hc) (fun ρ σ F H x Q rel c k => by obtain ⟨l, vs, ev, hs, rp⟩ := c.lst rel.ex; subst ev; rw [rp.bls_of] at hs; exact ⟨l, bs, rfl, hs, k _ F H rel Stp.refl (.bl _)⟩) hm ha rfl ca hg (by decide) (by decide) he
/-- divmod: a frozen pair -/
theorem we_divmod (hm : X.mg "divmod" = none) (ha : WA X [a, b] ρ [.int i, .int j] ρ1) (hg : Gl X "divmod" := by rfl) (he : starEach [a, b] X.env = (false, eval a X.env) :: starEach [b] X.env := by rfl) (hpl : (backTo pos (starEach [b] X.env)).any (·.1) = false := by rfl) (hj : CDiv i j := by first | rfl | decide | omega | assumption | exact ⟨by omega, by omega⟩ | exact ⟨by decide, by decide, by decide⟩ | exact .inr (by decide) | exact .inl (by omega)) : WE X (.Call (.Name "divmod" p) [a, b] [] pos) ρ (.im (.tup [.int (i / j), .int (i % j)])) ρ1 :=
  we_bn call_divmod (fun ρ σ F H xs Q rel c k => by
    cases c with
    | cons r t =>
      cases t with
      | cons r2 t =>
        cases t; cases r; cases r2
        exact ⟨i, j, rfl, hj, fun p hp => k _ (upd F p (.tup _)) _ (rel.allocF hp) (Stp.allocF hp) (.tup (st_of upd_same) (.cons (.int _) (.cons (.int _) .nil)))⟩) hm ha rfl hg (by decide) (by decide) he hpl
/-! ### subscripts -/
theorem atI_reps {K : PySem.W.Frag} {F : Hp} {vs : List V} {n : Int} (rp : Reps K F vs ds) (h : atI ds n = some d) : ∃ v, atI vs n = some v ∧ Rep K F v d := by
  unfold atI at h ⊢
  rw [rp.length]
  cases e : ixN ds.length n with
  | none => rw [e] at h; cases h
  | some m =>
    rw [e] at h
    exact rp.get h
theorem we_ixL (ha : WE X a ρ r1 ρ1) (hb : WE X b ρ1 r2 ρ2) (ca : r1.con ρ2 = some (.lst xs) := by rfl) (cb : r2.con ρ2 = some (.int i) := by rfl) (hs : PlainIx b := by intro _ _; rfl) (hi : atI xs i = some d := by first | rfl | decide | omega | assumption | exact ⟨by omega, by omega⟩ | exact ⟨by decide, by decide, by decide⟩ | exact .inr (by decide) | exact .inl (by omega)) : WE X (.Subscript a b pos) ρ (.im d) ρ2 :=
  PE.imp (pe_ix ix_list ha hb hs) fun _ _ _ h => run2 (d1 := .lst xs) (d2 := .int i) (fun σ F H x y Q rel c1 c2 k => by
    obtain ⟨l, vs, ev, hs, rp⟩ := c1.lst rel.ex
    subst ev
    cases c2.int
    obtain ⟨v, hv, rv⟩ := atI_reps rp hi
    exact ⟨l, vs, i, v, rfl, rfl, hs, hv, k v F H rel Stp.refl rv⟩) ca cb h
theorem we_ixT (ha : WE X a ρ r1 ρ1) (hb : WE X b ρ1 r2 ρ2) (ca : r1.con ρ2 = some (.tup xs) := by rfl) (cb : r2.con ρ2 = some (.int i) := by rfl) (hs : PlainIx b := by intro _ _; rfl) (hi : atI xs i = some d := by first | rfl | decide | omega | assumption | exact ⟨by omega, by omega⟩ | exact ⟨by decide, by decide, by decide⟩ | exact .inr (by decide) | exact .inl (by omega)) : WE X (.Subscript a b pos) ρ (.im d) ρ2 :=
  PE.imp (pe_ix ix_tup ha hb hs) fun _ _ _ h => run2 (d1 := .tup xs) (d2 := .int i) (fun σ F H x y Q rel c1 c2 k => by
    obtain ⟨l, vs, ev, hs, rp⟩ := c1.tup rel.ex
    subst ev
    cases c2.int
    obtain ⟨v, hv, rv⟩ := atI_reps rp hi
    exact ⟨l, vs, i, v, rfl, rfl, hs, hv, k v F H rel Stp.refl rv⟩) ca cb h
/-- the items of xs[lo:hi] -/
def cut (xs : List D) (lo hi : Option Int) : List D := (xs.drop (HT.sIx xs.length 0 lo)).take (HT.sIx xs.length xs.length hi - HT.sIx xs.length 0 lo)
theorem cut_reps {K : PySem.W.Frag} {F : Hp} {vs : List V} {lo hi : Option Int} (rp : Reps K F vs ds) : Reps K F (cutV vs lo hi) (cut ds lo hi) := by
  unfold cutV cut
  rw [rp.length]
  exact (rp.drop _).take _
/-- a slice's part -/
def tPo (K : PySem.W.Frag) (ρ : Env) (o : Option Int) (ρ' : Env) : TO := fun σ H Q => ∃ F, Rel K F ρ σ H ∧ ∀ F' H', Rel K F' ρ' σ H' → Stp ρ σ F H ρ' σ F' H' → Q o H'
abbrev WO (X : Cx) (e : Option Expr) (ρ : Env) (o : Option Int) (ρ' : Env) : Prop := PO X e (tPo X.K ρ o ρ')
theorem wo_none : WO X none ρ none ρ := ⟨fun pins s σ H Q I ⟨F, rel, k⟩ => po_none.run pins s σ H Q I (k F H rel Stp.refl)⟩
theorem wo_some (h : WE X e ρ (.im (.int i)) ρ1) : WO X (some e) ρ (some i) ρ1 := ⟨fun pins s σ H Q I ⟨F, rel, k⟩ => (po_some h).run pins s σ H Q I ⟨F, rel, fun v F1 H1 rel1 st1 q => by
  have q : Rep X.K F1 v (.int i) := q
  cases q
  exact ⟨i, rfl, k F1 H1 rel1 st1⟩⟩⟩
/-- xs[lo:hi]: a new list -/
theorem we_slL {lo hi : Option Expr} {l h : Option Int} {p2 : Pos} (ha : WE X a ρ r1 ρ1) (hl : WO X lo ρ1 l ρ2) (hh : WO X hi ρ2 h ρ3) (ca : r1.con ρ3 = some (.lst xs) := by rfl) : WE X (.Subscript a (.Slice lo hi none p2) pos) ρ (.fr (.lst (cut xs l h))) ρ3 :=
  PE.imp (pe_slice sl_list ha hl hh) fun σ H Q ⟨F, rel, k⟩ => ⟨F, rel, fun v F1 H1 rel1 st1 q1 => ⟨F1, rel1, fun F2 H2 rel2 st2 => ⟨F2, rel2, fun F3 H3 rel3 st3 => by
    have st := (st1.trans rel st2).trans rel st3
    obtain ⟨l', vs, ev, hs, rp⟩ := (((q1.step rel1 st2).step rel2 st3).con rel3 ca).lst rel3.ex
    refine ⟨l', vs, ev, hs, fun p hp => k _ F3 _ (rel3.alloc hp) (st.trans rel (Stp.alloc hp)) ⟨p, rfl, rel3.newF hp, ?_, ⟨_, upd_same, cut_reps rp⟩, rel3.new hp⟩⟩
    cases e : H p with
    | none => rfl
    | some o => exact absurd hp (st.dom p (by rw [e]; exact fun z => by cases z))⟩⟩⟩
/-- t[lo:hi], not all of it -/
theorem we_slT {lo hi : Option Expr} {l h : Option Int} {p2 : Pos} (ha : WE X a ρ r1 ρ1) (hl : WO X lo ρ1 l ρ2) (hh : WO X hi ρ2 h ρ3) (ca : r1.con ρ3 = some (.tup xs) := by rfl) (hw : ¬ (HT.sIx xs.length 0 l = 0 ∧ HT.sIx xs.length xs.length h = xs.length) := by first | rfl | decide | omega | assumption | exact ⟨by omega, by omega⟩ | exact ⟨by decide, by decide, by decide⟩ | exact .inr (by decide) | exact .inl (by omega)) : WE X (.Subscript a (.Slice lo hi none p2) pos) ρ (.im (.tup (cut xs l h))) ρ3 :=
  PE.imp (pe_slice sl_tup ha hl hh) fun σ H Q ⟨F, rel, k⟩ => ⟨F, rel, fun v F1 H1 rel1 st1 q1 => ⟨F1, rel1, fun F2 H2 rel2 st2 => ⟨F2, rel2, fun F3 H3 rel3 st3 => by
    have st := (st1.trans rel st2).trans rel st3
    obtain ⟨l', vs, ev, hs, rp⟩ := (((q1.step rel1 st2).step rel2 st3).con rel3 ca).tup rel3.ex
    refine ⟨l', vs, ev, hs, by rw [rp.length]; exact hw, fun p hp => k _ (upd F3 p (.tup _)) _ (rel3.allocF hp) (st.trans rel (Stp.allocF hp)) (.tup (st_of upd_same) ((cut_reps rp).mono (ex_put (rel3.newF hp))))⟩⟩⟩⟩
/-! ### lists: new ones -/
theorem op_catS : OpR X (binaryOp .Add) (fun x y H Q => ∃ l b xs zs, x = .ref l ∧ y = .ref b ∧ SqL X.K H l xs ∧ SqL X.K H b zs ∧ xs.length + zs.length ≤ sizeLine ∧ ∀ p, H p = none → Q (.ref p) (upd H p (.lst (xs ++ zs)))) := by
  rintro pins s σ H x y v u Q I rx ry ⟨l, b, xs, zs, rfl, rfl, hl, hb, hz, q⟩
  cases (show v = Value.ref l from rx)
  cases (show u = Value.ref b from ry)
  obtain ⟨its, r1, p1, _⟩ := I.list hl
  obtain ⟨jts, r2, p2, _⟩ := I.list hb
  obtain ⟨⟨c1, e1, t1, s1⟩, n1, g1, c1', d1', f1⟩ := p1
  obtain ⟨⟨c2, e2, t2, s2⟩, n2, g2, c2', d2', f2⟩ := p2
  simp only at c1' d1' f1 c2' d2' f2
  subst c1' d1' f1 c2' d2' f2
  have l1 := r1.length
  have l2 := r2.length
  have sz : its.toArray.size + jts.toArray.size ≤ sizeLine := by rw [List.size_toArray, List.size_toArray]; omega
  refine concat_meets ⟨_, g1, rfl⟩ ⟨_, g2, rfl⟩ noFill_list_add seq_list_add PySem.F.slot_list_add PySem.F.entry_list_add (PySem.F.args_list_add_2 _ _) (list_addW l b its.toArray jts.toArray n1 n2 none none s1 s2 sz) ⟨g1, g2, ?_⟩
  rw [show its.toArray ++ jts.toArray = (its ++ jts).toArray from by simp]
  exact ⟨.ref _, _, I.lnew (t' := s.toks) (r1.append r2) (by rw [List.length_append]; omega), rfl, q _ I.fresh⟩
theorem we_cat (ha : WE X a ρ r1 ρ1) (hb : WE X b ρ1 r2 ρ2) (ca : r1.con ρ2 = some (.lst xs) := by rfl) (cb : r2.con ρ2 = some (.lst ys) := by rfl) (hz : xs.length + ys.length ≤ 100000 := by first | rfl | decide | omega | assumption | exact ⟨by omega, by omega⟩ | exact ⟨by decide, by decide, by decide⟩ | exact .inr (by decide) | exact .inl (by omega)) : WE X (.BinOp a .Add b pos) ρ (.fr (.lst (xs ++ ys))) ρ2 :=
  we_bin op_catS ha hb (fun σ F H x y Q rel c1 c2 k => by
    obtain ⟨l, vs, ev, hs, rp⟩ := c1.lst rel.ex
    obtain ⟨l', vs', ev', hs', rp'⟩ := c2.lst rel.ex
    refine ⟨l, l', vs, vs', ev, ev', hs, hs', by rw [rp.length, rp'.length]; exact sz_of (Nat.le_trans hz (by decide)), fun p hp => ?_⟩
    exact k _ F _ (rel.alloc hp) (Stp.alloc hp) ⟨p, rfl, rel.newF hp, hp, ⟨_, upd_same, rp.append rp'⟩, rel.new hp⟩) ca cb
theorem we_catS {x y : Str} (ha : WE X a ρ r1 ρ1) (hb : WE X b ρ1 r2 ρ2) (ca : r1.con ρ2 = some (.str x) := by rfl) (cb : r2.con ρ2 = some (.str y) := by rfl) (hz : x.length + y.length ≤ 100000 := by first | rfl | decide | omega | assumption | exact ⟨by omega, by omega⟩ | exact ⟨by decide, by decide, by decide⟩ | exact .inr (by decide) | exact .inl (by omega)) : WE X (.BinOp a .Add b pos) ρ (.im (.str (x ++ y))) ρ2 :=
  we_bin (d1 := .str x) (d2 := .str y) op_add_str ha hb (fun σ F H u v Q rel c1 c2 k => by
    cases c1.str
    cases c2.str
    exact ⟨x, y, rfl, rfl, sz_of hz, k _ F H rel Stp.refl (.str _)⟩) ca cb
/-! ### lists that a slot owns, changed in place -/
theorem own_lst {K : PySem.W.Frag} {F H : Hp} {σ : L2.St} {n : Nat} (rel : Rel K F ρ σ H) (hn : ρ[n]? = some (.own (.lst xs))) {v : V} (hs : σ[n]? = some (some v)) : ∃ l vs, v = .ref l ∧ F l = none ∧ H l = some (.lst vs) ∧ Reps K F vs xs := by
  obtain ⟨l, hl, hf, vs, hv, rp⟩ := rel.own n _ hn
  rw [hs] at hl
  cases hl
  exact ⟨l, vs, rfl, hf, hv, rp⟩
/-- the list behind a change -/
theorem lst_done {K : PySem.W.Frag} {F0 F H0 H : Hp} {ρ0 : Env} {σ : L2.St} {n : Nat} {l : Addr} {ws : List V} (rel0 : Rel K F0 ρ0 σ H0) (rel : Rel K F ρ σ H) (st : Stp ρ0 σ F0 H0 ρ σ F H) (hn : ρ[n]? = some (.own (.lst xs))) (hs : σ[n]? = some (some (.ref l))) (hf : F l = none) (rp : Reps K F ws ys) :
    Rel K F (ρ.set n (.own (.lst ys))) σ (upd H l (.lst ws)) ∧ Stp ρ0 σ F0 H0 (ρ.set n (.own (.lst ys))) σ F (upd H l (.lst ws)) :=
  ⟨rel.keepBut hn hs (fun b u hb h => ⟨by rw [upd_ne hb]; exact h, rfl⟩) (Ex.mut rel.ex hf) hf ⟨ws, upd_same, rp⟩, Stp.mutO rel0 st hn hs⟩
/-- name.append(e) -/
theorem we_append {n : Nat} {o : Expr} (ho : WE X o ρ (.sl n) ρ1) (ha : WE X e ρ1 (.im d) ρ2) (hn : ρ2[n]? = some (.own (.lst xs)) := by rfl) (hz : xs.length < 100000 := by first | decide | omega | assumption) (hn1 : ∃ zs, ρ1[n]? = some (.own (.lst zs)) := by exact ⟨_, rfl⟩)
    (hbase : attributeBase o "append" X.env (eval o X.env) = eval o X.env := by rfl)
    (hfew : ((backTo pos (starEach [e] X.env)).all (fun x => !x.1) && (backToKw pos (keywordEach [] X.env)).all (fun x => x.1.isSome) && decide ([e].length + ([] : List Keyword).length + (if ([] : List Keyword).isEmpty then 0 else 1) < 30)) = true := by rfl)
    (hline : (apos.endLine == pos.line) = true := by rfl) (hs : starEach [e] X.env = (false, eval e X.env) :: starEach [] X.env := by rfl) (hpl : (backTo pos (starEach [] X.env)).any (·.1) = false := by rfl) :
    WE X (.Call (.Attribute o "append" apos) [e] [] pos) ρ (.im .non) (ρ2.set n (.own (.lst (xs ++ [d])))) :=
  PE.imp (pe_bm PySem.F.plainAttrs_list PySem.F.slot_list_append PySem.F.type_list_append mt_append ho (wa_cons ha wa_nil hs) hbase hfew hline hs hpl) fun σ H Q ⟨F, rel, k⟩ => ⟨F, rel, fun v F1 H1 rel1 st1 q1 => by
    have q1 : σ[n]? = some (some v) := q1
    obtain ⟨zs, hz1⟩ := hn1
    obtain ⟨l1, vs1, ev1, _, h1, _⟩ := own_lst rel1 hz1 q1
    subst ev1
    refine ⟨.inl ⟨rfl, vs1, sq_of h1⟩, F1, rel1, fun us F2 H2 rel2 st2 q2 => ?_⟩
    cases q2 with
    | cons r2 t2 =>
      cases t2
      obtain ⟨l, vs, ev, hf, hv, rp⟩ := own_lst rel2 hn q1
      cases ev
      obtain ⟨rel3, st3⟩ := lst_done rel rel2 (st1.trans rel st2) hn q1 hf (rp.append (.cons r2 .nil))
      exact ⟨l1, vs, _, rfl, rfl, hv, by rw [rp.length]; exact sz_lt hz, k _ F2 _ rel3 st3 .non⟩⟩
/-- o[i] = .., o a list that slot n owns -/
theorem wg_sub {pn : List Nat} {n m : Nat} {o : Expr} (ho : WE X o ρ (.sl n) ρ1) (hi : WE X e ρ1 (.im (.int i)) ρ2) (hn : ρ2[n]? = some (.own (.lst xs)) := by rfl) (hix : ixN xs.length i = some m := by rfl)
    (ha : ∀ v, assign (.Subscript o e pos) X.env v = (do
      let ov ← holding [v] (eval o X.env)
      let iv ← holding [v, ov] (eval e X.env)
      standAt pos
      holding [v, ov, iv] (setItem ov iv v)
      release [v, ov, iv] []) := by intro _; rfl) : WG X pn (.Subscript o e pos) d ρ (ρ2.set n (.own (.lst (xs.set m d)))) :=
  PG.imp (pg_sub ho hi set_list ha) fun v σ H Q ⟨F, rel, rp, k⟩ => ⟨F, rel, fun ov F1 H1 rel1 st1 q1 => ⟨F1, rel1, fun iv F2 H2 rel2 st2 q2 => by
    have q1 : σ[n]? = some (some ov) := q1
    have q2 : Rep X.K F2 iv (.int i) := q2
    cases q2
    have st := st1.trans rel st2
    obtain ⟨l, vs, ev, hf, hv, rs⟩ := own_lst rel2 hn q1
    subst ev
    obtain ⟨rel3, st3⟩ := lst_done rel rel2 st hn q1 hf (rs.set m (Rep.mono (st.ex rel) rp))
    exact ⟨l, vs, i, m, rfl, rfl, hv, by rw [rs.length]; exact hix, k _ F2 _ rel3 st3 Pin.refl⟩⟩⟩
/-! ### zip, enumerate -/
def zipD (xs ys : List D) : List D := (xs.zip ys).map fun p => .tup [p.1, p.2]
theorem zipD_len : (zipD xs ys).length = min xs.length ys.length := by simp [zipD]
theorem zipD_at {n : Nat} (h : (zipD xs ys)[n]? = some d) : ∃ x y, xs[n]? = some x ∧ ys[n]? = some y ∧ d = .tup [x, y] := by
  unfold zipD at h
  rw [List.getElem?_map] at h
  cases e : (xs.zip ys)[n]? with
  | none => rw [e] at h; cases h
  | some p =>
    rw [e] at h
    obtain ⟨h1, h2⟩ := List.getElem?_zip_eq_some.mp e
    exact ⟨p.1, p.2, h1, h2, (Option.some.inj h).symm⟩
/-- a result that can be walked: a frozen list, or a slot's own -/
inductive Src (ρ : Env) : R → List D → List (Nat × D) → Prop where
  | im (xs : List D) : Src ρ (.im (.lst xs)) xs []
  | own (n : Nat) (xs : List D) (h : ρ[n]? = some (.own (.lst xs))) : Src ρ (.sl n) xs [(n, .lst xs)]
theorem Src.at {K : PySem.W.Frag} {F H0 H F2 H2 : Hp} {σ σ2 : L2.St} {bs : List (Nat × D)} {v : V} (s : Src ρ1 r xs bs) (rel : Rel K F ρ1 σ H) (q : RepR K F H0 H ρ1 σ v r) (rel2 : Rel K F2 ρ2 σ2 H2) (e : Ex F F2) (b : Bor bs σ ρ2 σ2) : ∃ a vs, v = .ref a ∧ SqL K H2 a vs ∧ Reps K F2 vs xs := by
  cases s with
  | im =>
    have q : Rep K F v (.lst xs) := q
    cases q with
    | lst hs r => exact ⟨_, _, rfl, ex_l (e.trans rel2.ex) hs, r.mono e⟩
  | own n _ h =>
    have q : σ[n]? = some (some v) := q
    obtain ⟨b1, b2⟩ := b (n, .lst xs) (List.mem_singleton.mpr rfl)
    obtain ⟨l, vs, ev, _, hv, rp⟩ := own_lst rel2 b1 (b2.trans q)
    exact ⟨l, vs, ev, sq_of hv, rp⟩
theorem Bor.left {bs cs : List (Nat × D)} {σ0 σ : L2.St} (h : Bor (bs ++ cs) σ0 ρ σ) : Bor bs σ0 ρ σ := fun b hb => h b (List.mem_append_left _ hb)
theorem Bor.right {bs cs : List (Nat × D)} {σ0 σ : L2.St} (h : Bor (bs ++ cs) σ0 ρ σ) : Bor cs σ0 ρ σ := fun b hb => h b (List.mem_append_right _ hb)
theorem Bor.self {K : PySem.W.Frag} {F H0 H : Hp} {σ : L2.St} {bs : List (Nat × D)} (s : Src ρ r xs bs) : Bor bs σ ρ σ := by
  cases s with
  | im => exact Bor.nil
  | own n _ h => exact fun b hb => by rw [List.mem_singleton.mp hb]; exact ⟨h, rfl⟩
theorem Src.back {bs : List (Nat × D)} (s : Src ρ r xs bs) (h : ∀ n xs, r = .sl n → ρ[n]? = some (.own (.lst xs)) → ρ1[n]? = some (.own (.lst xs))) : Src ρ1 r xs bs := by
  cases s with
  | im => exact .im _
  | own n _ g => exact .own n _ (h n xs rfl g)
theorem wi_zip {tp : Pos} {elts : List Expr} {kk : Nat} {bs cs : List (Nat × D)} (hm : X.mg "zip" = none) (ha : WE X a ρ r1 ρ1) (hb : WE X b ρ1 r2 ρ2) (h1 : Src ρ2 r1 xs bs) (h2 : Src ρ2 r2 ys cs) (hg : Gl X "zip" := by rfl)
    (hs : starEach [a, b] X.env = (false, eval a X.env) :: starEach [b] X.env := by rfl) (hs2 : starEach [b] X.env = (false, eval b X.env) :: starEach [] X.env := by rfl) (hpl : (backTo pos (starEach [b] X.env)).any (·.1) = false := by rfl) :
    WI X (.Tuple elts kk tp) (.Call (.Name "zip" p) [a, b] [] pos) ρ (bs ++ cs) (zipD xs ys) ρ2 :=
  PI.imp (pi_zip hg hm (wr_cons ha (wr_cons hb wr_nil hs2) hs) hs hpl) fun σ H Rr ⟨F, rel, k⟩ => ⟨F, rel, fun us F1 H1 rel1 st1 q => by
    cases q with
    | cons q1 t _ =>
      cases t with
      | cons q2 t _ =>
        cases t
        have sides : ∀ {ρ3 : Env} {σ3 : L2.St} {F3 H3 : Hp}, Rel X.K F3 ρ3 σ3 H3 → Ex F1 F3 → Bor (bs ++ cs) σ ρ3 σ3 → _ := fun {ρ3 σ3 F3 H3} rel3 e3 b3 => And.intro (h1.at rel1 q1 rel3 e3 b3.left) (h2.at rel1 q2 rel3 e3 b3.right)
        have b0 : Bor (bs ++ cs) σ ρ2 σ := fun z hz => (List.mem_append.mp hz).elim (fun hz => Bor.self (K := X.K) (F := F1) (H0 := H1) (H := H1) h1 z hz) fun hz => Bor.self (K := X.K) (F := F1) (H0 := H1) (H := H1) h2 z hz
        obtain ⟨⟨l, vs, e1, s1, p1⟩, ⟨l', vs', e2, s2, p2⟩⟩ := sides rel1 (Ex.refl _) b0
        subst e1 e2
        refine ⟨l, l', vs, vs', rfl, s1, s2, k _ F1 H1 rel1 st1 fun i ρ3 σ3 F3 H3 rel3 e3 b3 => ?_⟩
        obtain ⟨⟨m, ws, z1, g1, w1⟩, ⟨m', ws', z2, g2, w2⟩⟩ := sides rel3 e3 b3
        cases z1
        cases z2
        refine ⟨fun hi => ⟨ws, ws', g1, g2, ?_⟩, fun d hd => ?_⟩
        · rw [zipD_len] at hi
          rw [w1.length, w2.length]
          omega
        · obtain ⟨x, y, hx, hy, ed⟩ := zipD_at hd
          subst ed
          obtain ⟨u, hu, ru⟩ := w1.get hx
          obtain ⟨u', hu', ru'⟩ := w2.get hy
          refine ⟨⟨ws, ws', u, u', g1, g2, hu, hu'⟩, fun v H4 ⟨T, x4, y4, ev, hT, eH, hx4, hy4⟩ => ?_⟩
          subst ev eH
          have ex4 := hx4 ws g1
          rw [hu] at ex4
          cases ex4
          have ey4 := hy4 ws' g2
          rw [hu'] at ey4
          cases ey4
          exact ⟨upd F3 T (.tup [u, u']), rel3.allocF hT, Stp.allocF hT, .tup (st_of upd_same) (.cons (ru.mono (ex_put (rel3.newF hT))) (.cons (ru'.mono (ex_put (rel3.newF hT))) .nil))⟩⟩
def enumD (xs : List D) : List D := xs.zipIdx.map fun p => .tup [.int (p.2 : Nat), p.1]
theorem enumD_len : (enumD xs).length = xs.length := by simp [enumD]
theorem enumD_at {n : Nat} (h : (enumD xs)[n]? = some d) : ∃ x, xs[n]? = some x ∧ d = .tup [.int (n : Nat), x] := by
  unfold enumD at h
  rw [List.getElem?_map, List.getElem?_zipIdx] at h
  cases e : xs[n]? with
  | none => rw [e] at h; cases h
  | some x =>
    rw [e] at h
    refine ⟨x, rfl, ?_⟩
    have := Option.some.inj h
    simpa using this.symm
theorem wi_enum {tp : Pos} {elts : List Expr} {kk : Nat} {bs : List (Nat × D)} (hm : X.mg "enumerate" = none) (ha : WE X a ρ r1 ρ1) (h1 : Src ρ1 r1 xs bs) (hg : Gl X "enumerate" := by rfl) (hs : starEach [a] X.env = (false, eval a X.env) :: starEach [] X.env := by rfl) (hs1 : starEach [a] X.env = [(false, eval a X.env)] := by rfl) :
    WI X (.Tuple elts kk tp) (.Call (.Name "enumerate" p) [a] [] pos) ρ bs (enumD xs) ρ1 :=
  PI.imp (pi_enum hg hm (wr_cons ha wr_nil hs) hs1) fun σ H Rr ⟨F, rel, k⟩ => ⟨F, rel, fun us F1 H1 rel1 st1 q => by
    cases q with
    | cons q1 t _ =>
      cases t
      obtain ⟨l, vs, e1, s1, p1⟩ := h1.at rel1 q1 rel1 (Ex.refl _) (Bor.self (K := X.K) (F := F1) (H0 := H1) (H := H1) h1)
      subst e1
      refine ⟨l, vs, rfl, s1, k _ F1 H1 rel1 st1 fun i ρ3 σ3 F3 H3 rel3 e3 b3 => ?_⟩
      obtain ⟨m, ws, z1, g1, w1⟩ := h1.at rel1 q1 rel3 e3 b3
      cases z1
      refine ⟨fun hi => ⟨ws, g1, ?_⟩, fun d hd => ?_⟩
      · rw [enumD_len] at hi
        rw [w1.length]
        exact hi
      · obtain ⟨x, hx, ed⟩ := enumD_at hd
        subst ed
        obtain ⟨u, hu, ru⟩ := w1.get hx
        refine ⟨⟨ws, u, g1, hu⟩, fun v H4 ⟨T, x4, ev, hT, eH, hx4⟩ => ?_⟩
        subst ev eH
        have ex4 := hx4 ws g1
        rw [hu] at ex4
        cases ex4
        exact ⟨upd F3 T (.tup [.int (i : Nat), u]), rel3.allocF hT, Stp.allocF hT, .tup (st_of upd_same) (.cons (.int _) (.cons (ru.mono (ex_put (rel3.newF hT))) .nil))⟩⟩
end
end Z
set_option maxRecDepth 100000
set_option maxHeartbeats 1000000
/-! Z9: repr of data in which own instances stand. -/
namespace Z
open PySem PySem.Spec PyProof.Rows L2 Evl ClX
/-- what was tracked stays as it was -/
def Up (H H' : Hp) : Prop := ∀ a o, H a = some o → H' a = some o
theorem Up.refl {H : Hp} : Up H H := fun _ _ h => h
theorem Up.trans {H H1 H2 : Hp} (a : Up H H1) (b : Up H1 H2) : Up H H2 := fun c o h => b c o (a c o h)
theorem Up.ex {F H H' : Hp} (u : Up H H') (e : Ex F H) : Ex F H' := fun a o h => u a o (e a o h)
theorem sqL_up {K : PySem.W.Frag} {H H' : Hp} {a : Addr} {xs : List V} (h : SqL K H a xs) (e : Up H H') : SqL K H' a xs := by
  rcases h with (h | ⟨o, h⟩) | h
  · exact .inl (.inl (e _ _ h))
  · exact .inl (.inr ⟨o, e _ _ h⟩)
  · exact .inr h
theorem sqT_up {K : PySem.W.Frag} {H H' : Hp} {a : Addr} {xs : List V} (h : SqT K H a xs) (e : Up H H') : SqT K H' a xs := by
  rcases h with (h | ⟨o, h⟩) | h
  · exact .inl (.inl (e _ _ h))
  · exact .inl (.inr ⟨o, e _ _ h⟩)
  · exact .inr h
theorem Around.fr_under {A : Around} {c : Code} (h : c.envs = []) : (A.under c).frames = A.frames := by
  simp only [Around.under, h]
  cases A.frames <;> rfl
/-- room for k calls around, the handled exception being that of X -/
structure RoomZ (X : Cx) (k : Nat) (A : Around) : Prop where
  hd : A.handled = X.A.handled
  dp : A.depth + 3 * k + 5 < recursionLimit
  un : A.units + 16 * k + 200 < cLine
theorem RoomZ.mono {X : Cx} {j k : Nat} {A : Around} (r : RoomZ X k A) (h : j ≤ k) : RoomZ X j A := ⟨r.hd, by have := r.dp; omega, by have := r.un; omega⟩
theorem RoomZ.in1 {X : Cx} {k : Nat} {A : Around} (r : RoomZ X (k + 1) A) : RoomZ X k A.in1 := ⟨r.hd, by have := r.dp; show A.depth + 3 * k + 5 < _; omega, by have := r.un; show A.units + 1 + 16 * k + 200 < _; omega⟩
theorem RoomZ.units0 {X : Cx} {k : Nat} {A : Around} (r : RoomZ X k A) : A.units < cLine := by have := r.un; omega
theorem RoomZ.of {X : Cx} {k : Nat} (r : Room k X.A) : RoomZ X k X.A := ⟨rfl, r.dp, r.un⟩
/-- what a def promises wherever X's states show something -/
def FnX (X : Cx) (k : Nat) (f : Addr) (sp : Sp) : Prop :=
  ∀ (A : Around) (pins : List (Addr × Obj)) (σ : L2.St) (s : Shared) (H : Hp) (us : List Value) (vs : List V) (Q : VK) (E : XK), Inv X pins σ H s → A.frames = X.A.frames → RoomZ X k A → Env0 X.prog X.w X.K X.mg X.base A X.stack s H → Vals vs us → sp vs H Q E →
    codeAny (model X.prog X.w) A (.call (.ref f) ⟨us, []⟩) (CR (L2.CX X.prog X.w) X.stack X.prog X.w H s Q E) s
theorem FnX.ofR {X : Cx} {k : Nat} {f : Addr} {sp : Sp} (F : FnR X.prog X.w X.K X.mg X.base (L2.CX X.prog X.w) k f sp) (h0 : X.A.handled = none) : FnX X k f sp := fun A pins σ s H us vs Q E I hf hr e0 r hs => F A X.stack s H us vs Q E ⟨hr.hd.trans h0, hr.dp, hr.un⟩ e0 r hs
/-- v is shown as t, whatever is being shown around it that is none of `bad` -/
def Sh (X : Cx) (n : Nat) (F : Hp) (bad : Addr → Prop) (v : V) (t : Str) : Prop :=
  ∀ (base : Nat) (A : Around) (g : List Code) (pins : List (Addr × Obj)) (σ : L2.St) (s : Shared) (H : Hp) (u : Value) (Q : Str → Shared → Prop), base + t.length ≤ sizeLine → A.guards = some g → A.frames = X.A.frames → RoomZ X n A → (∀ b, bad b → Clear g b) →
    Inv X pins σ H s → Ex F H → RelV v u → (∀ s' H', Inv X pins σ H' s' → Up H H' → Q t s') → wpAny (model X.prog X.w) A (pyReprUnder base u) Q X.xe s
section
variable {X : Cx} {n m : Nat} {F : Hp} {bad bad' : Addr → Prop} {v : V} {t : Str}
theorem Sh.mono (h : Sh X n F bad v t) (hn : n ≤ m) (hb : ∀ b, bad b → bad' b) : Sh X m F bad' v t := fun base A g pins σ s H u Q hz hg hf hr hc => h base A g pins σ s H u Q hz hg hf (hr.mono hn) fun b z => hc b (hb b z)
theorem Sh.of_is (h : ∀ u, RelV v u → ReprIs X.prog X.w u t) : Sh X n F bad v t := fun base A g pins σ s H u Q hz _ _ _ _ I _ rv k => h u rv base hz A X.xe s Q fun tk => k _ H (I.tok tk) Up.refl
theorem room_loop {A : Around} {k : Nat} {c : Code} (hr : RoomZ X (k + 1) A) (h1 : (A.under c).units ≤ A.units + 1) (h2 : (A.under c).depth ≤ A.depth + 3) (h3 : (A.under c).handled = A.handled) : RoomZ X k (A.under c) :=
  ⟨h3.trans hr.hd, by have := hr.dp; omega, by have := hr.un; omega⟩
theorem depth_loop (A : Around) (args : Args) : (A.under (.builtin "list.__repr__.loop" args)).depth ≤ A.depth + 3 := by
  refine Nat.add_le_add_left (m := 3) ?_ A.depth
  simp [Code.weight, Code.isCreation, Code.isGuard, Code.isCaller, Code.frames, Code.isFrame, guardIds]
theorem depth_tup (A : Around) (args : Args) (id : String) (h : id = "tuple.__repr__" ∨ id = "tuple.__repr__.under") : (A.under (.builtin id args)).depth ≤ A.depth + 3 := by
  refine Nat.add_le_add_left (m := 3) ?_ A.depth
  rcases h with h | h <;> subst h <;> simp [Code.weight, Code.isCreation, Code.isGuard, Code.isCaller, Code.frames, Code.isFrame, guardIds]
/-! ### a list -/
theorem sh_loop {A : Around} {g : List Code} {R : Result → Shared → Prop} {a P : Addr} {vs : List V} {ts : List Str} {base : Nat} {σ : L2.St} {pins : List (Addr × Obj)} (hne : a ≠ P) (hlen : ts.length = vs.length)
    (hT : ∀ (i : Nat) (v : V), vs[i]? = some v → ∃ t, ts[i]? = some t ∧ Sh X n F bad v t) (hg : A.guards = some g) (hf : A.frames = X.A.frames) (hr : RoomZ X (n + 1) A) (hc : ∀ b, bad b → Clear g b) (hba : ¬ bad a)
    (hPx : P ∈ X.ex ∨ X.s_0.heap.objs.size ≤ P) (hPc : ∀ x c, X.env.cells.lookup x = some c → c ≠ P) (hPp : ∀ p ∈ X.pn ++ pins, p.1 ≠ P) (hsz : base + (listText ts).length ≤ sizeLine) (hE : ∀ e s', X.xe e s' → R (.error e) s') :
    ∀ (k i : Nat) (s : Shared) (H H0 : Hp) (o : Obj) (acc : Array Value) (c : Nat) (done : List (Str × Tok)), vs.length - i = k → i ≤ vs.length → Inv X ((P, o) :: pins) σ H s → o.data = .seq acc c → o.isFreed = false → Ex F H → SqL X.K H a vs → Up H0 H → acc.toList = strValues done → done.map (·.1) = ts.take i →
      (∀ s' H' u, Inv X pins σ H' s' → Up H0 H' → R (.ok (.ret (.str (listText ts) u))) s') →
      codeAny (model X.prog X.w) A (.builtin "list.__repr__.loop" ⟨[.ref a, rawInt i, .ref P, rawInt ((base + piled (ts.take i) : Nat) : Int)], []⟩) R s := by
  have hL : (textFrom 0 "[" ts).length + 1 = (listText ts).length := by
    show _ = (textFrom 0 "[" ts ++ "]").length
    rw [strLen_append]; rfl
  have hl := textFrom_len ts 0 "["
  have hp := piled_le_listText ts
  intro k
  induction k with
  | zero =>
    intro i s H H0 o acc c done hk hi I ho hfr eF hs up hacc hdone hR
    have hin : i = vs.length := by omega
    obtain ⟨its, rv, ⟨oa, na, ga, _, _, da⟩, _⟩ := I.list hs
    refine codeAny_builtin PySem.F.entry_list_repr_loop ?_
    show wpAny _ _ (Builtin.«list.__repr__.loop» ⟨[.ref a, .int i 0, .ref P, .int ((base + piled (ts.take i) : Nat) : Int) 0], []⟩) _ _ s
    rw [repr_loop_tree]
    refine wpAny_bind (wpAny_listItems ga da ?_)
    have hnone : its.toArray[(i : Int).toNat]? = none := by
      have := rv.length
      simp
      omega
    simp only [hnone]
    unfold reprEnd
    refine wpAny_bind (wpAny_listItems (pin_at I) ho ?_)
    rw [hacc, repr_fold]
    refine wpAny_bind (wpAny_pure ?_)
    have hall : done.map (·.1) = ts := by rw [hdone, hin, ← hlen, List.take_length]
    rw [hall]
    exact wpAny_bind (wpAny_mkStr (wpAny_pure (hR _ H _ ((unpin I).tok _) up)) (by show (listText ts).length ≤ _; omega))
  | succ k ih =>
    intro i s H H0 o acc c done hk hi I ho hfr eF hs up hacc hdone hR
    have hlt : i < vs.length := by omega
    obtain ⟨its, rv, ⟨oa, na, ga, _, _, da⟩, _⟩ := I.list hs
    have hvi : vs[i]? = some vs[i] := List.getElem?_eq_getElem hlt
    obtain ⟨y, hy, ry⟩ := rv.get hvi
    obtain ⟨t, ht, hsh⟩ := hT i vs[i] hvi
    have p1 := piled_take_succ ht
    have p2 := piled_take_le ts (i + 1)
    refine codeAny_builtin PySem.F.entry_list_repr_loop ?_
    show wpAny _ _ (Builtin.«list.__repr__.loop» ⟨[.ref a, .int i 0, .ref P, .int ((base + piled (ts.take i) : Nat) : Int) 0], []⟩) _ _ s
    rw [repr_loop_tree]
    refine wpAny_bind (wpAny_listItems ga da ?_)
    have hsome : its.toArray[(i : Int).toNat]? = some y := by simpa using hy
    simp only [hsome]
    rw [Int.toNat_natCast]
    refine wpAny_bind (wpAny_holding ?_)
    have hg2 := guards_under_guard (isGuard_list_loop ⟨[.ref a, rawInt i, .ref P, rawInt ((base + piled (ts.take i) : Nat) : Int)], []⟩) hg
    refine wpAny_mono (hsh (base + piled (ts.take i) + 1) _ _ _ σ s H y (fun x s' => x = t ∧ ∃ H', Inv X ((P, o) :: pins) σ H' s' ∧ Up H H') (by omega) hg2 ((Around.fr_under rfl).trans hf) (room_loop hr (by rw [units_under_list_loop]; exact Nat.le_refl _) (depth_loop _ _) rfl)
      (fun b hb => (hc b hb).cons (a := a) fun e => hba (e ▸ hb)) I eF ry fun s' H' I' up' => ⟨rfl, H', I', up'⟩) (fun x s1 ⟨ex, H1, I1, up1⟩ => ?_) fun e s' z => hE e s' z
    subst ex
    refine wpAny_bind (wpAny_mkStr ?_ (by have := hl.2.1 _ (List.mem_of_getElem? ht); omega))
    refine wpAny_bind ?_
    show wpAny _ _ (updateSeq P _) _ _ _
    have hasz : acc.size ≤ sizeLine := by
      have e1 : acc.toList.length = acc.size := by simp
      have e2 : (strValues done).length = done.length := by simp [strValues]
      have e3 : done.length = (ts.take i).length := by rw [← hdone, List.length_map]
      have e4 : (ts.take i).length ≤ i := by rw [List.length_take]; omega
      rw [hacc] at e1; omega
    have gP := pin_at I1
    have nP : H1 P = none := pin_un I1
    refine wpAny_updateSeq (show ({ s1 with toks := s1.toks + 1 } : Shared).heap.get? P = some o from gP) ho (wpAny_pure ⟨PySem.F.quiet_list_repr_loop _, ?_⟩) hasz
    obtain ⟨oc, od, dt, sl⟩ := o
    simp only at ho
    subst ho
    have gP2 : (s1.heap.update P (Obj.mapSeq (·.push (.str x s1.toks)))).get? P = some (Obj.mapSeq (·.push (.str x s1.toks)) ⟨oc, od, .seq acc c, sl⟩) := Heap.get?_update_self _ gP rfl
    have fp : FpOk X pins H1 P := by
      obtain ⟨_, q2, q3, q4, _⟩ := I1.pin (P, _) (List.mem_append_right _ List.mem_cons_self)
      exact ⟨q2, q3, q4, hPx, hPc, hPp⟩
    have I2 : Inv X pins σ H1 { s1 with heap := s1.heap.update P (Obj.mapSeq (·.push (.str x s1.toks))), toks := s1.toks + 1 } :=
      L2.Inv.turnedL (ch := [P]) (unpin I1) (fun b o hb q => (Heap.get?_update_other _ _ (fun z : P = b => hb (by rw [z]; exact List.mem_singleton.mpr rfl))).trans q) (fun b hb => by rw [List.mem_singleton.mp hb]; exact fp)
    have I3 : Inv X ((P, Obj.mapSeq (·.push (.str x s1.toks)) ⟨oc, od, .seq acc c, sl⟩) :: pins) σ H1 { s1 with heap := s1.heap.update P (Obj.mapSeq (·.push (.str x s1.toks))), toks := s1.toks + 1 } := I2.pins_of fun p hp => by
      rcases List.mem_cons.mp hp with e | e
      · subst e
        refine ⟨gP2, nP, fp.2.1, fp.2.2.1, fun v z => ?_⟩
        simp [Obj.mapSeq] at z
      · exact I2.pin p (List.mem_append_right _ e)
    have e1 : ((i : Int) + 1) = ((i + 1 : Nat) : Int) := by omega
    have e2 : base + piled (ts.take i) + (x.length + 2) = base + piled (ts.take (i + 1)) := by omega
    rw [e1, e2]
    refine ih (i + 1) _ H1 H0 _ (acc.push (.str x s1.toks)) _ (done ++ [(x, s1.toks)]) (by omega) hlt I3 (by simp [Obj.mapSeq]; rfl) rfl (up1.ex eF) (sqL_up hs up1) (up.trans up1) (by simp [hacc, strValues]) (by simp [List.take_add_one, ht, hdone]) hR
/-- the walk of a list's repr, from its head -/
theorem sh_head {A : Around} {g : List Code} {R : Result → Shared → Prop} {a : Addr} {vs : List V} {ts : List Str} {base : Nat} {σ : L2.St} {pins : List (Addr × Obj)} {s : Shared} {H : Hp} (hlen : ts.length = vs.length) (hv : vs ≠ [])
    (hT : ∀ (i : Nat) (v : V), vs[i]? = some v → ∃ t, ts[i]? = some t ∧ Sh X n F bad v t) (hg : A.guards = some g) (hf : A.frames = X.A.frames) (hr : RoomZ X (n + 1) A) (hc : ∀ b, bad b → Clear g b) (hca : Clear g a) (hba : ¬ bad a) (I : Inv X pins σ H s) (eF : Ex F H) (hs : SqL X.K H a vs)
    (hsz : base + (listText ts).length ≤ sizeLine) (hE : ∀ e s', X.xe e s' → R (.error e) s') (hR : ∀ s' H' u, Inv X pins σ H' s' → Up H H' → R (.ok (.ret (.str (listText ts) u))) s') :
    wpAny (model X.prog X.w) A.in1 (Builtin.listReprAt base ⟨[.ref a], []⟩) (fun fin s' => match fin with | .done f => R (.ok f) s' | .again c' => c'.quiet = true ∧ codeAny (model X.prog X.w) A c' R s') (fun e s' => R (.error e) s') s := by
  obtain ⟨its, rv, pl, _⟩ := I.list hs
  have la : a < s.heap.objs.size := pl.lt
  obtain ⟨oa, na, ga, _, _, da⟩ := pl
  have hne : its ≠ [] := fun z => hv (by have := rv.length; rw [z] at this; exact List.length_eq_zero_iff.mp this)
  obtain ⟨y, r, e⟩ := List.exists_cons_of_ne_nil hne
  rw [e] at da
  refine wpAny_list_repr_head (A := A.in1) hg (fun v rest kw hm => listSameRef_of_ne (hca _ _ _ _ hm)) ga da ?_
  refine wpAny_bind (m := newList []) (wpAny_newObj_type (wpAny_pure ⟨PySem.F.quiet_list_repr_loop _, ?_⟩))
  have fp : FpOk X pins H s.heap.objs.size := I.fpOk (Nat.le_refl _) (I.hok.fresh (Nat.le_refl _))
  refine sh_loop (P := s.heap.objs.size) (Nat.ne_of_lt la) hlen hT hg hf hr hc hba fp.2.2.2.1 fp.2.2.2.2.1 fp.2.2.2.2.2 hsz hE _ 0 _ H H _ #[] 0 [] rfl (Nat.zero_le _)
    (pin_new (t' := s.toks) I (fun _ _ z => Heap.get?_push_of_some _ z) (Nat.le_refl _) (Heap.get?_push_size _ rfl) (fun v z => nomatch z)) rfl rfl eF hs Up.refl rfl (by simp) hR
theorem clear_of {m : Nat} {a : Addr} {g : List Code} {bad' : Addr → Prop} (ha : bad' a) (hc : ∀ b, bad' b → Clear g b) : Clear g a := hc a ha
theorem sh_list {a : Addr} {vs : List V} {ts : List Str} (hs : SqL X.K F a vs) (hlen : ts.length = vs.length) (hT : ∀ (i : Nat) (v : V), vs[i]? = some v → ∃ t, ts[i]? = some t ∧ Sh X n F bad v t)
    (hba : ∀ pins σ s H, Inv X pins σ H s → Ex F H → ¬ bad a) (hbb : ∀ b, bad b → bad' b) (ha : bad' a) : Sh X (n + 1) F bad' (.ref a) (listText ts) := fun base A g pins σ s H u Q hz hg hf hr hc I eF rv k => by
  cases (show u = Value.ref a from rv)
  have hs' : SqL X.K H a vs := ex_l eF hs
  obtain ⟨its, rv', pl, _⟩ := I.list hs'
  have hTy : s.TypeIs (.ref a) "list" := pl.isList.typeIs
  refine wpAny_pyReprUnder_ref (by omega) ?_
  by_cases hv : vs = []
  · subst hv
    have et : ts = [] := List.length_eq_zero_iff.mp hlen
    subst et
    cases rv'
    obtain ⟨oa, na, ga, _, _, da⟩ := pl
    refine wpAny_pyReprObjUnder_list_empty hTy hr.units0 ga da ⟨_, _, rfl, ?_⟩
    exact listText_nil ▸ k _ H (I.tok _) Up.refl
  · refine wpAny_pyReprObjUnder_twin (twin := "list.__repr__.under") hTy PySem.F.slot_list_repr.toG rfl hr.units0 ?_
    refine call_twin_plain PySem.F.plain_list_repr_under PySem.F.entry_list_repr_under PySem.F.check_list_repr_under hTy PySem.F.slot_list_repr.toG (PySem.F.args_list_repr_1 _) ?_
    exact sh_head (R := callEnd (fun v s' => (∃ x u, v = .str x u) ∧ ∃ x u, v = .str x u ∧ Q x s') X.xe) hlen hv hT hg hf hr (fun b hb => hc b (hbb b hb)) (hc a ha) (hba pins σ s H I eF) I eF hs' hz (fun _ _ z => z) fun s' H' u I' up => ⟨⟨_, _, rfl⟩, _, _, rfl, k s' H' I' up⟩
/-! ### a tuple -/
theorem sh_fold {A : Around} {g : List Code} {pins : List (Addr × Obj)} {σ : L2.St} (hg : A.guards = some g) (hf : A.frames = X.A.frames) (hr : RoomZ X n A) (hc : ∀ b, bad b → Clear g b) :
    ∀ (us : List Value) (vs : List V) (ts : List Str) (acc : Array Str) (m : Nat) (s : Shared) (H : Hp) (Q : (Array Str × Nat) → Shared → Prop), Vals vs us → ts.length = vs.length → (∀ (i : Nat) (v : V), vs[i]? = some v → ∃ t, ts[i]? = some t ∧ Sh X n F bad v t) → m + piled ts ≤ sizeLine → Inv X pins σ H s → Ex F H →
      (∀ s' H', Inv X pins σ H' s' → Up H H' → Q ⟨acc ++ ts.toArray, m + piled ts⟩ s') → wpAny (model X.prog X.w) A (forIn us (⟨acc, m⟩ : (Array Str × Nat)) tupBody) Q X.xe s := by
  intro us
  induction us with
  | nil =>
    intro vs ts acc m s H Q rv hl _ _ I _ h
    cases rv
    have et : ts = [] := List.length_eq_zero_iff.mp hl
    subst et
    rw [List.forIn_nil]
    have := h s H I Up.refl
    exact wpAny_pure (by simpa [piled] using this)
  | cons u us ih =>
    intro vs ts acc m s H Q rv hl hT hz I eF h
    cases rv with
    | cons r rr =>
      rename_i v vs
      obtain ⟨t, ht, hsh⟩ := hT 0 v rfl
      obtain ⟨t0, ts, rfl⟩ : ∃ t0 ts', ts = t0 :: ts' := by
        cases ts with
        | nil => simp at ht
        | cons a b => exact ⟨a, b, rfl⟩
      have et : t0 = t := by simpa using ht
      subst et
      rw [piled_cons] at hz
      rw [List.forIn_cons]
      refine wpAny_bind (wpAny_bind (hsh (m + 1) A g pins σ s H u _ (by omega) hg hf hr hc I eF r fun s1 H1 I1 up1 => wpAny_pure ?_))
      refine ih vs ts (acc.push t0) (m + (t0.length + 2)) s1 H1 Q rr (by simpa using hl) (fun i v hv => hT (i + 1) v (by simpa using hv)) (by omega) I1 (up1.ex eF) fun s2 H2 I2 up2 => ?_
      have h1 := h s2 H2 I2 (up1.trans up2)
      have e : m + piled (t0 :: ts) = m + (t0.length + 2) + piled ts := by rw [piled_cons]; omega
      rw [e] at h1
      simpa using h1
theorem sh_tupAt {A : Around} {g : List Code} {R : Result → Shared → Prop} {a : Addr} {vs : List V} {ts : List Str} {base : Nat} {σ : L2.St} {pins : List (Addr × Obj)} {s : Shared} {H : Hp} {id : String} {rest : List Value} (hid : id = "tuple.__repr__" ∨ id = "tuple.__repr__.under") (hlen : ts.length = vs.length)
    (hT : ∀ (i : Nat) (v : V), vs[i]? = some v → ∃ t, ts[i]? = some t ∧ Sh X n F bad v t) (hg : A.guards = some g) (hf : A.frames = X.A.frames) (hr : RoomZ X (n + 1) A) (hc : ∀ b, bad b → Clear g b) (hca : Clear g a) (hba : ¬ bad a) (I : Inv X pins σ H s) (eF : Ex F H) (hs : SqT X.K H a vs)
    (hsz : base + (tupleText ts).length ≤ sizeLine) (hE : ∀ e s', X.xe e s' → R (.error e) s') (hR : ∀ s' H' u, Inv X pins σ H' s' → Up H H' → R (.ok (.ret (.str (tupleText ts) u))) s') :
    wpOwn (model X.prog X.w) A (.builtin id ⟨.ref a :: rest, []⟩) (Builtin.tupleReprAt base ⟨[.ref a], []⟩) (fun fin s' => match fin with | .done f => R (.ok f) s' | .again c' => c'.quiet = true ∧ codeAny (model X.prog X.w) A c' R s') (fun e s' => R (.error e) s') s := by
  obtain ⟨its, rv, pl, _⟩ := I.tuple hs
  obtain ⟨oa, ga, _, na, da⟩ := pl
  have hcg : (Code.builtin id ⟨.ref a :: rest, []⟩).isGuard = true := by
    rcases hid with e | e <;> subst e
    · exact isGuard_tuple_repr _
    · exact isGuard_tuple_repr_under _
  have hcu : (A.under (.builtin id ⟨.ref a :: rest, []⟩)).units = A.units + 1 := by
    rcases hid with e | e <;> subst e
    · exact units_under_tuple_repr _ _
    · exact units_under_tuple_repr_under _ _
  have hp := piled_le_tupleText ts
  have hl2 : ts.length = its.length := hlen.trans rv.length
  rw [tuple_repr_tree, tupleReprUnderWay_eq]
  refine wpOwn_bind (wpOwn_stackTailAny hg (tupGuardF_off _) (tupGuardF_pos _) ?_)
  rw [show (g.any fun c => tupGuardF (.ref a) (c, default)) = false from List.any_eq_false.mpr fun c hm => by rw [tupGuardF_of_clear hca c hm]; exact Bool.false_ne_true]
  refine wpOwn_of_wpAny ?_
  show wpAny _ _ (tupleReprRest base (.ref a)) _ _ s
  unfold tupleReprRest Builtin.Tuple.tupleItemsOf
  refine wpAny_bind (wpAny_bind (wpAny_seqItems ga da (wpAny_pure ?_)))
  rw [← Array.forIn_toList]
  refine wpAny_bind (wpAny_mono (sh_fold (pins := pins) (σ := σ) (guards_under_guard hcg hg) ((Around.fr_under rfl).trans hf) (room_loop hr (by rw [hcu]; exact Nat.le_refl _) (depth_tup _ _ _ hid) rfl) (fun b hb => (hc b hb).cons (a := a) fun e => hba (e ▸ hb)) its vs ts #[] base s H
    (fun r s' => r = ⟨#[] ++ ts.toArray, base + piled ts⟩ ∧ ∃ H', Inv X pins σ H' s' ∧ Up H H') rv hlen hT (by omega) I eF fun s' H' I' up' => ⟨rfl, H', I', up'⟩) (fun r s1 ⟨er, H1, I1, up1⟩ => ?_) fun e s' z => hE e s' z)
  subst er
  have e1 : its.toArray.size = ts.length := by rw [List.size_toArray, hl2]
  refine wpAny_bind (wpAny_mkStr (wpAny_pure ?_) ?_)
  · have := hR _ H1 s1.toks (I1.tok (s1.toks + 1)) up1
    simpa [tupleText, e1, hl2] using this
  · have : (tupleText ts).length ≤ sizeLine := by omega
    simpa [tupleText, e1, hl2] using this
theorem sh_tup {a : Addr} {vs : List V} {ts : List Str} (hs : SqT X.K F a vs) (hlen : ts.length = vs.length) (hT : ∀ (i : Nat) (v : V), vs[i]? = some v → ∃ t, ts[i]? = some t ∧ Sh X n F bad v t)
    (hba : ∀ pins σ s H, Inv X pins σ H s → Ex F H → ¬ bad a) (hbb : ∀ b, bad b → bad' b) (ha : bad' a) : Sh X (n + 1) F bad' (.ref a) (tupleText ts) := fun base A g pins σ s H u Q hz hg hf hr hc I eF rv k => by
  cases (show u = Value.ref a from rv)
  have hs' : SqT X.K H a vs := ex_t eF hs
  obtain ⟨its, rv', pl, _⟩ := I.tuple hs'
  have hTy : s.TypeIs (.ref a) "tuple" := pl.typeIs
  refine wpAny_pyReprUnder_ref (by omega) ?_
  refine wpAny_pyReprObjUnder_twin (twin := "tuple.__repr__.under") hTy PySem.F.slot_tuple_repr rfl hr.units0 ?_
  refine call_twin_own (PySem.F.quiet_tuple_repr_under _) PySem.F.entry_tuple_repr_under PySem.F.check_tuple_repr_under hTy PySem.F.slot_tuple_repr (PySem.F.args_tuple_repr_1 _) ?_
  exact sh_tupAt (R := callEnd (fun v s' => (∃ x u, v = .str x u) ∧ ∃ x u, v = .str x u ∧ Q x s') X.xe) (.inr rfl) hlen hT hg hf hr (fun b hb => hc b (hbb b hb)) (hc a ha) (hba pins σ s H I eF) I eF hs' hz (fun _ _ z => z) fun s' H' u I' up => ⟨⟨_, _, rfl⟩, _, _, rfl, k s' H' I' up⟩
/-! ### an instance with an own __repr__ -/
/-- repr of an instance of C with these attributes is t -/
def ShowI (X : Cx) (n : Nat) (C : Addr) (gs : List (Str × D)) (t : Str) : Prop :=
  ∃ (f : Addr) (S : List D → R → Prop), PySem.W.findIn X.K (.ref C) "__repr__" = some (some (.ref f)) ∧ PySem.W.isFn X.K (.ref f) = true ∧ FnX X n f (spP X.K S) ∧ S [.ins C gs] (.im (.str t))
/-- the call of its def -/
theorem showI_run {A : Around} {pins : List (Addr × Obj)} {σ : L2.St} {s : Shared} {H : Hp} {C a : Addr} {gs : List (Str × D)} {f : Addr} {S : List D → R → Prop} {Q : Str → Shared → Prop} (hF : FnX X n f (spP X.K S)) (hS : S [.ins C gs] (.im (.str t)))
    (hf : A.frames = X.A.frames) (hr : RoomZ X n A) (I : Inv X pins σ H s) (eF : Ex F H) (rp : Rep X.K F (.ref a) (.ins C gs)) (k : ∀ s' H', Inv X pins σ H' s' → Up H H' → Q t s') :
    wpAny (model X.prog X.w) A (call (.ref f) [.ref a]) (PySem.W.StrBack fun v s' => ∃ x u, v = .str x u ∧ Q x s') X.xe s := by
  have e0 : Env0 X.prog X.w X.K X.mg X.base A X.stack s H := by
    have e := I.env0
    exact ⟨by rw [hf]; exact e.frames, e.mod, e.bs, e.bsz, e.funs, e.frf, e.hok, e.bare⟩
  have hsp : spP X.K S [V.ref a] H (fun v H' => v = .str t ∧ Up H H') EF := by
    refine ⟨[.ins C gs], .im (.str t), hS, F, rel_args (.cons rp .nil) eF, fun v F' H' rel' st' q' => ?_⟩
    have q' : Rep X.K F' v (.str t) := q'
    cases q'
    exact ⟨rfl, fun b o h => (st'.keep b o h fun z => no_owns (ds := [D.ins C gs]) z).1⟩
  refine wpAny_call (codeAny_mono (hF A pins σ s H [.ref a] [.ref a] _ EF I hf hr e0 (.cons rfl .nil) hsp) fun res s' q => ?_)
  match res, q with
  | .error e, q => exact passF pins σ H s e s' I q
  | .ok (.ret w), q =>
    obtain ⟨z, H', I', rz, ez, up⟩ := I.after q
    subst ez
    obtain ⟨tk, ew⟩ := (show ∃ tk, w = Value.str t tk from rz)
    subst ew
    exact ⟨_, _, rfl, k s' H' I' up⟩
  | .ok .next, q => exact False.elim q
  | .ok .brk, q => exact False.elim q
  | .ok .cont, q => exact False.elim q
theorem sh_ins {C a : Addr} {gs : List (Str × D)} (h : ShowI X n C gs t) (rp : Rep X.K F (.ref a) (.ins C gs)) : Sh X n F bad (.ref a) t := fun base A g pins σ s H u Q hz hg hf hr hc I eF rv k => by
  cases (show u = Value.ref a from rv)
  obtain ⟨f, S, hs, hfn, hF, hS⟩ := h
  obtain ⟨a', dx, fs, ea, hi, _⟩ := rp.insI
  cases ea
  obtain ⟨ox, od, J⟩ := insAt I (eF _ _ hi)
  have KI := I.kIn
  refine wpAny_pyReprUnder_ref (by omega) ?_
  unfold pyReprObjUnder pyReprObjBy
  refine wpAny_bind (wpAny_cRoomFor hr.units0 ?_)
  refine wpAny_bind (wpAny_bind (J.type.here ((PySem.W.looks_findIn KI hs).here ?_)))
  show wpAny _ _ (if (some (Value.ref f)).isNone = true then _ else _) _ _ _
  rw [if_neg (by simp)]
  have run := showI_run (Q := Q) hF hS hf hr I eF rp k
  have fin : wpAny (model X.prog X.w) A (call (.ref f) [.ref a] >>= fun v => pure (some v)) (fun r s' => ∃ x u, r = some (.str x u) ∧ Q x s') X.xe s :=
    wpAny_bind (wpAny_mono run (fun v s' z => by
      cases v <;> first | exact (show False from z).elim | skip
      obtain ⟨x, u, e, q⟩ := z
      cases e
      exact wpAny_pure ⟨_, _, rfl, q⟩) fun _ _ y => y)
  refine wpAny_bind (m := callSpecialIfBoundBy? _ (.ref a) _) ?_
  simp only [callSpecialIfBoundBy?, bindSpecialIfBound?]
  refine wpAny_holding (wpAny_bind (wpAny_bind (wpAny_bind (J.type.here ((PySem.W.looks_findIn KI hs).here ?_)))))
  refine wpAny_bind (wpAny_askSetting (wpAny_ite ?_))
  split
  · exact wpAny_bind ((PySem.W.bind_fn KI _ (beq_iff_eq.mp hfn)).here (wpAny_pure (wpAny_mono (show wpAny _ _ _ (fun r s' => ∃ x u, r = some (.str x u) ∧ Q x s') _ _ from fin) (fun r s' ⟨x, u, e, q⟩ => by
      subst e
      exact wpAny_bind (wpAny_isInstance (T := "str") (b := true) rfl isSubtype_str_str (wpAny_pure ⟨_, _, rfl, q⟩))) fun _ _ y => y)))
  · exact wpAny_tryCatch (wpAny_bind ((PySem.W.bind_fn KI _ (beq_iff_eq.mp hfn)).here (wpAny_pure (wpAny_mono (show wpAny _ _ _ (fun r s' => ∃ x u, r = some (.str x u) ∧ Q x s') _ _ from fin) (fun r s' ⟨x, u, e, q⟩ => by
      subst e
      exact wpAny_bind (wpAny_isInstance (T := "str") (b := true) rfl isSubtype_str_str (wpAny_pure ⟨_, _, rfl, q⟩))) fun _ _ y => y))))
end
/-! ### data and their texts -/
mutual
def D.txt (own : Addr → List (Str × D) → Option Str) : D → Option Str
  | .non => some "None"
  | .bl b => some (if b then "True" else "False")
  | .int i => if i.natAbs.log2 < 1920 then some (toString i) else none
  | .str x => some (reprText x)
  | .lst xs => (D.txts own xs).map listText
  | .tup xs => (D.txts own xs).map tupleText
  | .ins C gs => own C gs
  | .ty _ => none
  | .obj _ => none
  | .set _ => none
  | .dct [] => some "{}"
  | .dct (_ :: _) => none
  | .exc _ _ _ => none
def D.txts (own : Addr → List (Str × D) → Option Str) : List D → Option (List Str)
  | [] => some []
  | x :: xs => match D.txt own x with
    | none => none
    | some t => (D.txts own xs).map (t :: ·)
end
mutual
def D.deep : D → Nat
  | .lst xs => D.deeps xs + 1
  | .tup xs => D.deeps xs + 1
  | .dct _ => 1
  | _ => 0
def D.deeps : List D → Nat
  | [] => 0
  | x :: xs => max (D.deep x) (D.deeps xs)
end
theorem txts_len {own : Addr → List (Str × D) → Option Str} : ∀ {xs : List D} {ts : List Str}, D.txts own xs = some ts → ts.length = xs.length
  | [], _, h => by simp only [D.txts] at h; cases h; rfl
  | x :: xs, ts, h => by
    simp only [D.txts] at h
    cases e : D.txt own x with
    | none => rw [e] at h; cases h
    | some t =>
      rw [e] at h
      cases e2 : D.txts own xs with
      | none => rw [e2] at h; cases h
      | some us =>
        rw [e2] at h
        cases h
        rw [List.length_cons, List.length_cons, txts_len e2]
theorem txts_at {own : Addr → List (Str × D) → Option Str} : ∀ {xs : List D} {ts : List Str} {i : Nat} {d : D}, D.txts own xs = some ts → xs[i]? = some d → ∃ t, ts[i]? = some t ∧ D.txt own d = some t
  | [], _, _, _, _, h2 => by simp at h2
  | x :: xs, ts, i, d, h, h2 => by
    simp only [D.txts] at h
    cases e : D.txt own x with
    | none => rw [e] at h; cases h
    | some t =>
      rw [e] at h
      cases e2 : D.txts own xs with
      | none => rw [e2] at h; cases h
      | some us =>
        rw [e2] at h
        cases h
        cases i with
        | zero => simp at h2; subst h2; exact ⟨t, rfl, e⟩
        | succ i =>
          obtain ⟨t', h3, h4⟩ := txts_at (i := i) (d := d) e2 (by simpa using h2)
          exact ⟨t', by simpa using h3, h4⟩
theorem deep_at : ∀ {xs : List D} {i : Nat} {d : D}, xs[i]? = some d → D.deep d ≤ D.deeps xs
  | [], _, _, h => by simp at h
  | x :: xs, 0, d, h => by simp at h; subst h; simp only [D.deeps]; exact Nat.le_max_left _ _
  | x :: xs, i + 1, d, h => by
    have := deep_at (xs := xs) (i := i) (d := d) (by simpa using h)
    simp only [D.deeps]
    exact Nat.le_trans this (Nat.le_max_right _ _)
/-! ### what stands at an address stands for one datum -/
section
variable {X : Cx} {pins : List (Addr × Obj)} {σ : L2.St} {F H : Hp} {s : Shared}
def OkT (own : Addr → List (Str × D) → Option Str) (d : D) : Prop := ∃ t, D.txt own d = some t
variable {own : Addr → List (Str × D) → Option Str}
theorem okT_lst {xs : List D} (h : OkT own (.lst xs)) : ∃ ts, D.txts own xs = some ts := by
  obtain ⟨t, h⟩ := h
  simp only [D.txt] at h
  cases e : D.txts own xs with
  | none => rw [e] at h; cases h
  | some ts => exact ⟨ts, rfl⟩
theorem okT_tup {xs : List D} (h : OkT own (.tup xs)) : ∃ ts, D.txts own xs = some ts := by
  obtain ⟨t, h⟩ := h
  simp only [D.txt] at h
  cases e : D.txts own xs with
  | none => rw [e] at h; cases h
  | some ts => exact ⟨ts, rfl⟩
theorem okT_cons {x : D} {xs : List D} (h : ∃ ts, D.txts own (x :: xs) = some ts) : OkT own x ∧ ∃ ts, D.txts own xs = some ts := by
  obtain ⟨ts, h⟩ := h
  simp only [D.txts] at h
  cases e : D.txt own x with
  | none => rw [e] at h; cases h
  | some t =>
    rw [e] at h
    cases e2 : D.txts own xs with
    | none => rw [e2] at h; cases h
    | some us => exact ⟨⟨t, e⟩, us, rfl⟩
theorem lst_tup (I : Inv X pins σ H s) {a : Addr} {xs ys : List V} (h : SqL X.K H a xs) (h' : SqT X.K H a ys) : False := by
  obtain ⟨_, _, ⟨o, _, e, c, _, _⟩, _⟩ := I.list h
  obtain ⟨_, _, ⟨o', e', c', _⟩, _⟩ := I.tuple h'
  rw [e] at e'
  cases e'
  rw [c] at c'
  exact absurd (Value.type.inj c') (by decide)
theorem lst_ins (I : Inv X pins σ H s) {a C dx : Addr} {xs : List V} {fs : List (Str × V)} (h : SqL X.K H a xs) (h' : H a = some (.ins C dx fs)) : False := by
  obtain ⟨_, _, ⟨o, _, e, c, _, _⟩, _⟩ := I.list h
  obtain ⟨mA, J, _⟩ := ins_get I.hok h'
  have e' := J.obj
  rw [e] at e'
  cases e'
  cases c
theorem tup_ins (I : Inv X pins σ H s) {a C dx : Addr} {xs : List V} {fs : List (Str × V)} (h : SqT X.K H a xs) (h' : H a = some (.ins C dx fs)) : False := by
  obtain ⟨_, _, ⟨o, e, c, _⟩, _⟩ := I.tuple h
  obtain ⟨mA, J, _⟩ := ins_get I.hok h'
  have e' := J.obj
  rw [e] at e'
  cases e'
  cases c
theorem dct_ex (I : Inv X pins σ H s) {a : Addr} {kvs : List (Key × V)} (h : H a = some (.dK kvs)) : ∃ o, s.heap.get? a = some o ∧ o.cls = .type "dict" := by
  obtain ⟨_, _, _, _, o, _, _, e, x, _⟩ := dk_of I.hok h
  exact ⟨o, e, x.1⟩
theorem lst_dct (I : Inv X pins σ H s) {a : Addr} {xs : List V} {kvs : List (Key × V)} (h : SqL X.K H a xs) (h' : H a = some (.dK kvs)) : False := by
  obtain ⟨_, _, ⟨o, _, e, c, _, _⟩, _⟩ := I.list h
  obtain ⟨o', e', c'⟩ := dct_ex I h'
  rw [e] at e'
  cases e'
  rw [c] at c'
  exact absurd (Value.type.inj c') (by decide)
theorem tup_dct (I : Inv X pins σ H s) {a : Addr} {xs : List V} {kvs : List (Key × V)} (h : SqT X.K H a xs) (h' : H a = some (.dK kvs)) : False := by
  obtain ⟨_, _, ⟨o, e, c, _⟩, _⟩ := I.tuple h
  obtain ⟨o', e', c'⟩ := dct_ex I h'
  rw [e] at e'
  cases e'
  rw [c] at c'
  exact absurd (Value.type.inj c') (by decide)
mutual
theorem deep_eq (I : Inv X pins σ H s) (eF : Ex F H) : ∀ {v : V} {d e : D}, Rep X.K F v d → Rep X.K F v e → OkT own d → OkT own e → D.deep d = D.deep e
  | _, _, _, .non, q, _, _ => by cases q; rfl
  | _, _, _, .bl b, q, _, _ => by cases q; rfl
  | _, _, _, .int i, q, _, _ => by cases q; rfl
  | _, _, _, .str x, q, _, _ => by cases q; rfl
  | _, _, _, .ty n, q, _, _ => by cases q; rfl
  | _, _, _, .obj a, q, h, _ => by obtain ⟨t, h⟩ := h; simp only [D.txt] at h; cases h
  | _, _, _, .lst h r, .obj _, _, z => by obtain ⟨t, z⟩ := z; simp only [D.txt] at z; cases z
  | _, _, _, .lst h r, .lst h' r', k, k' => by
    have e := I.list_inj (ex_l eF h) (ex_l eF h')
    subst e
    simp only [D.deep]
    rw [deeps_eq I eF r r' (okT_lst k) (okT_lst k')]
  | _, _, _, .lst h r, .tup h' r', k, k' => (lst_tup I (ex_l eF h) (ex_t eF h')).elim
  | _, _, _, .lst h r, .ins h' r', k, k' => (lst_ins I (ex_l eF h) (eF _ _ h')).elim
  | _, _, _, .lst h r, .dct h' r', k, k' => (lst_dct I (ex_l eF h) (eF _ _ h')).elim
  | _, _, _, .lst h r, .set h' r', k, k' => by obtain ⟨t, k'⟩ := k'; simp only [D.txt] at k'; cases k'
  | _, _, _, .lst h r, .exc _ _ _, k, k' => by obtain ⟨t, k'⟩ := k'; simp only [D.txt] at k'; cases k'
  | _, _, _, .tup h r, .dct h' r', k, k' => (tup_dct I (ex_t eF h) (eF _ _ h')).elim
  | _, _, _, .tup h r, .set h' r', k, k' => by obtain ⟨t, k'⟩ := k'; simp only [D.txt] at k'; cases k'
  | _, _, _, .tup h r, .exc _ _ _, k, k' => by obtain ⟨t, k'⟩ := k'; simp only [D.txt] at k'; cases k'
  | _, _, _, .ins h r, .dct h' r', k, k' => by have h := eF _ _ h; rw [eF _ _ h'] at h; cases h
  | _, _, _, .ins h r, .set h' r', k, k' => by obtain ⟨t, k'⟩ := k'; simp only [D.txt] at k'; cases k'
  | _, _, _, .ins h r, .exc _ _ _, k, k' => by obtain ⟨t, k'⟩ := k'; simp only [D.txt] at k'; cases k'
  | _, _, _, .exc _ _ _, _, k, k' => by obtain ⟨t, k⟩ := k; simp only [D.txt] at k; cases k
  | _, _, _, .set h r, _, k, k' => by obtain ⟨t, k⟩ := k; simp only [D.txt] at k; cases k
  | _, _, _, .dct h r, .obj _, _, z => by obtain ⟨t, z⟩ := z; simp only [D.txt] at z; cases z
  | _, _, _, .dct h r, .lst h' r', k, k' => (lst_dct I (ex_l eF h') (eF _ _ h)).elim
  | _, _, _, .dct h r, .tup h' r', k, k' => (tup_dct I (ex_t eF h') (eF _ _ h)).elim
  | _, _, _, .dct h r, .ins h' r', k, k' => by have h := eF _ _ h; rw [eF _ _ h'] at h; cases h
  | _, _, _, .dct h r, .set h' r', k, k' => by obtain ⟨t, k'⟩ := k'; simp only [D.txt] at k'; cases k'
  | _, _, _, .dct h r, .exc _ _ _, k, k' => by obtain ⟨t, k'⟩ := k'; simp only [D.txt] at k'; cases k'
  | _, _, _, .dct h r, .dct h' r', k, k' => by simp only [D.deep]
  | _, _, _, .tup h r, .obj _, _, z => by obtain ⟨t, z⟩ := z; simp only [D.txt] at z; cases z
  | _, _, _, .tup h r, .lst h' r', k, k' => (lst_tup I (ex_l eF h') (ex_t eF h)).elim
  | _, _, _, .tup h r, .tup h' r', k, k' => by
    have e := I.tuple_inj (ex_t eF h) (ex_t eF h')
    subst e
    simp only [D.deep]
    rw [deeps_eq I eF r r' (okT_tup k) (okT_tup k')]
  | _, _, _, .tup h r, .ins h' r', k, k' => (tup_ins I (ex_t eF h) (eF _ _ h')).elim
  | _, _, _, .ins h r, .obj _, _, z => by obtain ⟨t, z⟩ := z; simp only [D.txt] at z; cases z
  | _, _, _, .ins h r, .lst h' r', k, k' => (lst_ins I (ex_l eF h') (eF _ _ h)).elim
  | _, _, _, .ins h r, .tup h' r', k, k' => (tup_ins I (ex_t eF h') (eF _ _ h)).elim
  | _, _, _, .ins h r, .ins h' r', k, k' => by simp only [D.deep]
theorem deeps_eq (I : Inv X pins σ H s) (eF : Ex F H) : ∀ {vs : List V} {ds es : List D}, Reps X.K F vs ds → Reps X.K F vs es → (∃ ts, D.txts own ds = some ts) → (∃ ts, D.txts own es = some ts) → D.deeps ds = D.deeps es
  | _, _, _, .nil, q, _, _ => by cases q; rfl
  | _, _, _, .cons r t, .cons r' t', k, k' => by
    obtain ⟨k1, k2⟩ := okT_cons k
    obtain ⟨k3, k4⟩ := okT_cons k'
    simp only [D.deeps]
    rw [deep_eq I eF r r' k1 k3, deeps_eq I eF t t' k2 k4]
end
/-- an empty dict -/
theorem sh_dct0 {n : Nat} {bad : Addr → Prop} {a : Addr} (h : F a = some (.dK [])) (hb : bad a) : Sh X (n + 1) F bad (.ref a) "{}" := fun base A g pins σ s H u Q hz hg hf hr hc I eF rv k => by
  cases (show u = Value.ref a from rv)
  obtain ⟨_, hs, vs, kv, o, es, ep, e1, e2, e3, _, pr, _⟩ := dk_of I.hok (eF _ _ h)
  refine wpAny_pyReprUnder_ref (by omega) ?_
  cases kv
  have e0 : es.toList = [] := by revert pr; generalize es.toList = l; intro pr; cases pr; rfl
  have hu := hr.un
  exact wpAny_pyReprObjUnder_dictK (as := []) (d := 0) (ps := []) e1 e2.1 e3 hs (by simp) (by rw [e0]; exact .nil) hg (fun b hb' => by rw [List.mem_singleton.mp hb']; exact hc _ hb) (by omega) (fun _ _ z => z) (fun h' u tk hk => ⟨_, _, rfl, k _ H (I.kept hk) Up.refl⟩) hz
/-- the lists and tuples of depth m at most -/
def Bad (X : Cx) (own : Addr → List (Str × D) → Option Str) (F : Hp) (m : Nat) (b : Addr) : Prop := ∃ d, Rep X.K F (.ref b) d ∧ OkT own d ∧ 1 ≤ D.deep d ∧ D.deep d ≤ m
theorem sh_all {n : Nat} (hown : ∀ C gs t, own C gs = some t → ShowI X n C gs t) : ∀ (d : D) (t : Str) (v : V), D.txt own d = some t → Rep X.K F v d → Sh X (n + D.deep d) F (Bad X own F (D.deep d)) v t := by
  intro d
  generalize hm : D.deep d = m
  induction m using Nat.strongRecOn generalizing d with
  | ind m ih =>
    intro t v ht q
    cases q with
    | non => simp only [D.txt] at ht; cases ht; exact Sh.of_is fun u r => by cases (show u = Value.none from r); exact ReprIs.none
    | bl b => simp only [D.txt] at ht; cases ht; exact Sh.of_is fun u r => by cases (show u = Value.bool b from r); exact ReprIs.bool b
    | int i =>
      simp only [D.txt] at ht
      split at ht
      · rename_i hi
        cases ht
        exact Sh.of_is fun u r => by obtain ⟨tk, e⟩ := (show ∃ tk, u = Value.int i tk from r); subst e; exact ReprIs.int tk hi
      · cases ht
    | str x =>
      simp only [D.txt] at ht
      cases ht
      exact fun base A g pins σ s H u Q hz hg hf hr hc I e rv k => by
        obtain ⟨tk, e⟩ := (show ∃ tk, u = Value.str x tk from rv)
        subst e
        exact ReprIs.str x tk (by omega) base hz A X.xe s Q fun tk => k _ H (I.tok tk) Up.refl
    | ty n => simp only [D.txt] at ht; cases ht
    | obj a => simp only [D.txt] at ht; cases ht
    | ins h r =>
      simp only [D.txt] at ht
      exact (sh_ins (hown _ _ _ ht) (.ins h r)).mono (Nat.le_add_right _ _) fun b z => z
    | exc h l r => simp only [D.txt] at ht; cases ht
    | set h r => simp only [D.txt] at ht; cases ht
    | dct h r =>
      cases r with
      | cons f r t => simp only [D.txt] at ht; cases ht
      | nil =>
        simp only [D.txt] at ht
        cases ht
        have hm1 : m = 1 := by rw [← hm]; simp only [D.deep]
        subst hm1
        exact sh_dct0 h ⟨_, .dct h .nil, ⟨"{}", by simp only [D.txt]⟩, by simp only [D.deep]; exact Nat.le_refl _, by simp only [D.deep]; exact Nat.le_refl _⟩
    | lst h r =>
      rename_i a vs xs
      have hd : m = D.deeps xs + 1 := by rw [← hm]; simp only [D.deep]
      obtain ⟨ts, hts⟩ := okT_lst (own := own) ⟨t, ht⟩
      have et : t = listText ts := by simp only [D.txt, hts] at ht; cases ht; rfl
      subst et
      subst hd
      refine sh_list (n := n + D.deeps xs) (bad := Bad X own F (D.deeps xs)) h (by rw [txts_len hts, r.length]) (fun i v hv => ?_) (fun pins σ s H I eF ⟨d, rd, ok, _, le⟩ => ?_) (fun b ⟨d, rd, ok, g1, le⟩ => ⟨d, rd, ok, g1, Nat.le_succ_of_le le⟩) ⟨_, .lst h r, ⟨_, ht⟩, by rw [hm]; omega, by rw [hm]; omega⟩
      · obtain ⟨d, hd, rd⟩ := r.getV hv
        obtain ⟨t, h1, h2⟩ := txts_at hts hd
        have le := deep_at hd
        exact ⟨t, h1, (ih (D.deep d) (by omega) d rfl t v h2 rd).mono (by omega) fun b ⟨d', rd', ok, g1, le'⟩ => ⟨d', rd', ok, g1, Nat.le_trans le' le⟩⟩
      · have := deep_eq I eF rd (.lst h r) ok ⟨_, ht⟩
        rw [hm] at this
        omega
    | tup h r =>
      rename_i a vs xs
      have hd : m = D.deeps xs + 1 := by rw [← hm]; simp only [D.deep]
      obtain ⟨ts, hts⟩ := okT_tup (own := own) ⟨t, ht⟩
      have et : t = tupleText ts := by simp only [D.txt, hts] at ht; cases ht; rfl
      subst et
      subst hd
      refine sh_tup (n := n + D.deeps xs) (bad := Bad X own F (D.deeps xs)) h (by rw [txts_len hts, r.length]) (fun i v hv => ?_) (fun pins σ s H I eF ⟨d, rd, ok, _, le⟩ => ?_) (fun b ⟨d, rd, ok, g1, le⟩ => ⟨d, rd, ok, g1, Nat.le_succ_of_le le⟩) ⟨_, .tup h r, ⟨_, ht⟩, by rw [hm]; omega, by rw [hm]; omega⟩
      · obtain ⟨d, hd, rd⟩ := r.getV hv
        obtain ⟨t, h1, h2⟩ := txts_at hts hd
        have le := deep_at hd
        exact ⟨t, h1, (ih (D.deep d) (by omega) d rfl t v h2 rd).mono (by omega) fun b ⟨d', rd', ok, g1, le'⟩ => ⟨d', rd', ok, g1, Nat.le_trans le' le⟩⟩
      · have := deep_eq I eF rd (.tup h r) ok ⟨_, ht⟩
        rw [hm] at this
        omega
/-! ### repr(e) -/
def rRepr (X : Cx) (own : Addr → List (Str × D) → Option Str) (m : Nat) : List V → Hp → VK → Prop := fun xs H Q => ∃ F d t v, xs = [v] ∧ Ex F H ∧ Rep X.K F v d ∧ D.txt own d = some t ∧ D.deep d ≤ m ∧ (∃ p, v = .ref p) ∧ t.length ≤ sizeLine ∧ ∀ H', Up H H' → Q (.str t) H'
theorem call_repr {n m : Nat} (hown : ∀ C gs t, own C gs = some t → ShowI X n C gs t) (hg : X.A.guards = some []) (hr : RoomZ X (n + m + 2) X.A) : CallR X (.builtin "repr") (rRepr X own m) := by
  rintro pins s σ H xs us Q I rv ⟨F, d, t, v, rfl, eF, rp, ht, hm, ⟨a, ev⟩, hz, q⟩
  subst ev
  obtain ⟨u, rfl, ru⟩ := rv.one
  cases (show u = Value.ref a from ru)
  have hr1 : RoomZ X (n + m + 1) X.A.in1 := hr.in1
  have hu : X.A.units + 1 < cLine := by have := hr.un; omega
  have fin : ∀ s' H' tk, Inv X pins σ H' s' → Up H H' → EP X pins σ Q (.str t tk) s' := fun s' H' tk I' up => ⟨.str t, H', I', ⟨tk, rfl⟩, q H' up⟩
  cases rp with
  | obj a => simp only [D.txt] at ht; cases ht
  | ins h r =>
    simp only [D.txt] at ht
    obtain ⟨f, S, hs, hfn, hF, hS⟩ := hown _ _ _ ht
    obtain ⟨ox, od, J⟩ := insAt I (eF _ _ h)
    obtain ⟨mm, hFr⟩ := I.fr
    refine PySem.W.repr_K hr1.units0 hFr I.ok.mod.kin J hs hfn ?_
    refine wpAny_mono (showI_run (Q := fun x s' => ∃ H', x = t ∧ Inv X pins σ H' s' ∧ Up H H') hF hS rfl (hr1.mono (by omega)) I eF (.ins h r) fun s' H' I' up => ⟨H', rfl, I', up⟩) (fun w s' z => ?_) fun _ _ y => y
    cases w <;> first | exact (show False from z).elim | skip
    obtain ⟨x, u, e, H', ex, I', up⟩ := z
    cases e
    subst ex
    exact fin s' H' _ I' up
  | exc h l r => simp only [D.txt] at ht; cases ht
  | set h r => simp only [D.txt] at ht; cases ht
  | dct h r =>
    cases r with
    | cons f r t => simp only [D.txt] at ht; cases ht
    | nil =>
      simp only [D.txt] at ht
      cases ht
      have hm1 : 1 ≤ m := by simpa only [D.deep] using hm
      obtain ⟨_, hs, vs, kv, o, es, ep, e1, e2, e3, _, pr, _⟩ := dk_of I.hok (eF _ _ h)
      cases kv
      have e0 : es.toList = [] := by revert pr; generalize es.toList = l; intro pr; cases pr; rfl
      refine call_repr_slot hu ⟨o, e1, e2.1⟩ PySem.F.slot_dict_repr ?_
      exact call_dict_reprK (as := []) (d := 0) (ps := []) e1 e2.1 e3 hs (by simp) (by rw [e0]; exact .nil) (g := []) hg (fun b hb' => Clear.nil b) (by have := hr1.un; omega) (fun _ _ z => z) (fun h' u tk hk => ⟨_, _, rfl, fin _ H _ (I.kept hk) Up.refl⟩)
  | lst h r =>
    rename_i vs xs
    obtain ⟨ts, hts⟩ := okT_lst (own := own) ⟨t, ht⟩
    have et : t = listText ts := by simp only [D.txt, hts] at ht; cases ht; rfl
    subst et
    have hs' := ex_l eF h
    have hlen : ts.length = vs.length := by rw [txts_len hts, r.length]
    obtain ⟨its, rv', pl, _⟩ := I.list hs'
    have hTy : s.TypeIs (.ref a) "list" := pl.isList.typeIs
    have hd : D.deeps xs + 1 ≤ m := by simpa only [D.deep] using hm
    refine call_repr_slot hu hTy PySem.F.slot_list_repr.toG ?_
    by_cases hv : vs = []
    · subst hv
      have e0 : ts = [] := List.length_eq_zero_iff.mp hlen
      subst e0
      cases rv'
      obtain ⟨oa, na, ga, _, _, da⟩ := pl
      refine call_list_repr_empty hTy ga da ⟨_, _, rfl, ?_⟩
      exact listText_nil ▸ fin _ H _ (I.tok _) Up.refl
    · refine wpAny_call (codeAny_call_builtin PySem.F.slot_list_repr.plain PySem.F.entry_list_repr (PySem.F.slot_list_repr.check _ _ _ _ _ _ _ _ hTy (PySem.F.args_list_repr_1 _) ?_))
      refine sh_head (A := X.A.in1) (g := []) (n := n + D.deeps xs) (bad := Bad X own F (D.deeps xs)) (R := callEnd (fun v s' => ∃ x u, v = .str x u ∧ EP X pins σ Q v s') X.xe) hlen hv (fun i v hv => ?_) hg rfl (hr1.mono (by omega)) (fun b _ => Clear.nil b) (Clear.nil a) (fun ⟨d, rd, ok, _, le⟩ => ?_) I eF hs' (by omega) (fun _ _ z => z) fun s' H' u I' up => ⟨_, _, rfl, fin s' H' u I' up⟩
      · obtain ⟨d, hd, rd⟩ := r.getV hv
        obtain ⟨t, h1, h2⟩ := txts_at hts hd
        have le := deep_at hd
        exact ⟨t, h1, (sh_all hown d t v h2 rd).mono (by omega) fun b ⟨d', rd', ok, g1, le'⟩ => ⟨d', rd', ok, g1, Nat.le_trans le' le⟩⟩
      · have := deep_eq I eF rd (.lst h r) ok ⟨_, ht⟩
        simp only [D.deep] at this
        omega
  | tup h r =>
    rename_i vs xs
    obtain ⟨ts, hts⟩ := okT_tup (own := own) ⟨t, ht⟩
    have et : t = tupleText ts := by simp only [D.txt, hts] at ht; cases ht; rfl
    subst et
    have hs' := ex_t eF h
    have hlen : ts.length = vs.length := by rw [txts_len hts, r.length]
    obtain ⟨its, rv', pl, _⟩ := I.tuple hs'
    have hTy : s.TypeIs (.ref a) "tuple" := pl.typeIs
    have hd : D.deeps xs + 1 ≤ m := by simpa only [D.deep] using hm
    refine call_repr_slot hu hTy PySem.F.slot_tuple_repr ?_
    refine wpAny_call (codeAny_call_builtin_own (Code.quiet_builtin _ (by decide +kernel)) PySem.F.entry_tuple_repr (PySem.F.slot_tuple_repr.check _ _ _ _ _ _ _ _ hTy (PySem.F.args_tuple_repr_1 _) ?_))
    refine sh_tupAt (A := X.A.in1) (g := []) (base := 0) (n := n + D.deeps xs) (bad := Bad X own F (D.deeps xs)) (R := callEnd (fun v s' => ∃ x u, v = .str x u ∧ EP X pins σ Q v s') X.xe) (.inl rfl) hlen (fun i v hv => ?_) hg rfl (hr1.mono (by omega)) (fun b _ => Clear.nil b) (Clear.nil a) (fun ⟨d, rd, ok, _, le⟩ => ?_) I eF hs' (by omega) (fun _ _ z => z) fun s' H' u I' up => ⟨_, _, rfl, fin s' H' u I' up⟩
    · obtain ⟨d, hd, rd⟩ := r.getV hv
      obtain ⟨t, h1, h2⟩ := txts_at hts hd
      have le := deep_at hd
      exact ⟨t, h1, (sh_all hown d t v h2 rd).mono (by omega) fun b ⟨d', rd', ok, g1, le'⟩ => ⟨d', rd', ok, g1, Nat.le_trans le' le⟩⟩
    · have := deep_eq I eF rd (.tup h r) ok ⟨_, ht⟩
      simp only [D.deep] at this
      omega
end
/-- a datum that is an object: a list, a tuple, an instance -/
def D.isRef : D → Bool
  | .lst _ | .tup _ | .ins _ _ | .set _ | .dct _ => true
  | _ => false
theorem Con.frozen {K : PySem.W.Frag} {F H : Hp} {v : V} {d : D} (c : Con K F H v d) (e : Ex F H) (hr : d.isRef = true) : ∃ F2 p, Ex F2 H ∧ v = .ref p ∧ Rep K F2 v d := by
  rcases c with c | ⟨p, rfl, o⟩
  · cases c <;> first | (cases hr; done) | exact ⟨F, _, e, rfl, by first | exact .lst ‹_› ‹_› | exact .tup ‹_› ‹_› | exact .ins ‹_› ‹_› | exact .set ‹_› ‹_› | exact .dct ‹_› ‹_›⟩
  · obtain ⟨u, hu⟩ := o.ob
    by_cases hn : F p = none
    · exact ⟨_, p, ex_upd e hu, rfl, o.rep hu hn⟩
    · cases d with
      | lst xs =>
        obtain ⟨vs, h, r⟩ := o
        obtain ⟨w, hw⟩ := Option.ne_none_iff_exists'.mp hn
        have := e _ _ hw
        rw [h] at this
        cases this
        exact ⟨F, p, e, rfl, .lst (sq_of hw) r⟩
      | ins C gs =>
        obtain ⟨dx, fs, h, r⟩ := o
        obtain ⟨w, hw⟩ := Option.ne_none_iff_exists'.mp hn
        have := e _ _ hw
        rw [h] at this
        cases this
        exact ⟨F, p, e, rfl, .ins hw r⟩
      | set xs =>
        obtain ⟨S, n, h, r⟩ := o
        obtain ⟨w, hw⟩ := Option.ne_none_iff_exists'.mp hn
        have := e _ _ hw
        rw [h] at this
        cases this
        exact ⟨F, p, e, rfl, .set hw r⟩
      | dct ds =>
        obtain ⟨vs, h, r⟩ := o
        obtain ⟨w, hw⟩ := Option.ne_none_iff_exists'.mp hn
        have := e _ _ hw
        rw [h] at this
        cases this
        exact ⟨F, p, e, rfl, .dct hw r⟩
      | _ => exact (show False from o).elim
section
variable {X : Cx} {e : Expr} {p pos : Pos} {ρ ρ1 : Env} {r1 : R} {d : D} {t : Str} {n m : Nat} {own : Addr → List (Str × D) → Option Str}
theorem up_done {K : PySem.W.Frag} {F H H' : Hp} {σ : L2.St} (rel : Rel K F ρ σ H) (up : Up H H') : Rel K F ρ σ H' ∧ Stp ρ σ F H ρ σ F H' :=
  ⟨rel.keepAll (fun a o h => ⟨up a o h, rfl⟩) (up.ex rel.ex), ⟨fun a o h _ => ⟨up a o h, rfl⟩, fun a z => .inl z, fun a h => by
    cases z : H a with
    | none => exact absurd z h
    | some o => rw [up a o z]; exact fun z => by cases z⟩⟩
theorem we_repr (hown : ∀ C gs t, own C gs = some t → ShowI X n C gs t) (hgu : X.A.guards = some []) (hr : RoomZ X (n + m + 2) X.A) (hm : X.mg "repr" = none) (ha : WE X e ρ r1 ρ1) (ht : D.txt own d = some t) (hz : t.length ≤ 100000) (ca : r1.con ρ1 = some d := by rfl) (hd : D.deep d ≤ m := by first | decide | exact Nat.le_of_ble_eq_true rfl) (hi : d.isRef = true := by rfl) (hg : Gl X "repr" := by rfl)
    (he : starEach [e] X.env = (false, eval e X.env) :: starEach [] X.env := by rfl) : WE X (.Call (.Name "repr" p) [e] [] pos) ρ (.im (.str t)) ρ1 :=
  we_b1 (d := d) (call_repr hown hgu hr) (fun ρ σ F H x Q rel c k => by
    obtain ⟨F2, q, e2, ev, rp⟩ := c.frozen rel.ex hi
    refine ⟨F2, d, t, x, rfl, e2, rp, ht, hd, ⟨q, ev⟩, sz_of hz, fun H' up => ?_⟩
    obtain ⟨r2, s2⟩ := up_done rel up
    exact k _ F H' r2 s2 (.str _)) hm ha rfl ca hg (by decide) (by decide) he
end
end Z
set_option maxRecDepth 100000
set_option maxHeartbeats 1000000
/-! Z10: isinstance, f-strings, str of an own instance, classmethods, *args. -/
namespace Z
open PySem PySem.Spec PyProof.Rows L2 Evl ClX
/-! ### isinstance -/
/-- the class that isinstance sees -/
def D.tyx : D → Option Value
  | .non => some (.type "NoneType") | .bl _ => some (.type "bool") | .int _ => some (.type "int") | .str _ => some (.type "str") | .lst _ => some (.type "list") | .tup _ => some (.type "tuple") | .ins C _ => some (.ref C) | .set _ => some (.type "set") | .dct _ => some (.type "dict") | _ => none
/-- a class as a datum -/
def D.cls : D → Option Value
  | .ty n => some (.type n) | .obj C => some (.ref C) | _ => none
section
variable {X : Cx} {a b e : Expr} {es : List Expr} {x : Str} {p pos apos : Pos} {ρ ρ1 ρ2 : Env} {r r1 : R} {d c : D} {ds : List D} {t u : Value} {k : Bool} {i : Int} {m n : Nat} {y : Str} {ys : List Str}
theorem tyx_of {F H : Hp} {v : V} (q : Rep X.K F v d) (eF : Ex F H) (ht : d.tyx = some t) (hI : ∀ C gs, d = .ins C gs → C8.InsC X.K C) : TyX X.K H v t := by
  cases q with
  | non => cases ht; exact .base .non
  | bl b => cases ht; exact .base (.bl b)
  | int i => cases ht; exact .base (.int i)
  | str y => cases ht; exact .base (.str y)
  | ty n => cases ht
  | obj a => cases ht
  | lst h r =>
    cases ht
    rcases h with (h | ⟨o, h⟩) | ⟨o, its, n, h, hc, _⟩
    · exact .base (.lst (eF _ _ h))
    · exact .base (.frz (eF _ _ h))
    · exact .kList h hc
  | tup h r =>
    cases ht
    rcases h with (h | ⟨o, h⟩) | ⟨o, its, n, h, hc, _⟩
    · exact .base (.tup (eF _ _ h))
    · exact .fTuple (eF _ _ h)
    · exact .kTuple h hc
  | ins h r =>
    cases ht
    obtain ⟨c1, c2, c3, c4, c5, _⟩ := hI _ _ rfl
    exact .base (.ins (eF _ _ h) c1 c2 c3 c4 c5)
  | set h r => cases ht; exact .set (eF _ _ h)
  | exc h l r => cases ht
  | dct h r => cases ht; exact .base (.dK (eF _ _ h))
theorem we_isi (hm : X.mg "isinstance" = none) (ha : WA X [a, b] ρ [d, c] ρ1) (hk : PySem.W.kitOne X.K t u = some k) (hI : ∀ C gs, d = .ins C gs → C8.InsC X.K C) (ht : d.tyx = some t := by rfl) (hc : c.cls = some u := by rfl) (hg : Gl X "isinstance" := by rfl)
    (he : starEach [a, b] X.env = (false, eval a X.env) :: starEach [b] X.env := by rfl) (hpl : (backTo pos (starEach [b] X.env)).any (·.1) = false := by rfl) : WE X (.Call (.Name "isinstance" p) [a, b] [] pos) ρ (.im (.bl k)) ρ1 :=
  we_bn (ds := [d, c]) call_isi (fun ρ σ F H xs Q rel q kk => by
    cases q with
    | cons q1 q =>
      cases q with
      | cons q2 q =>
        cases q
        rename_i v w
        have hcl : ClsV w u := by
          cases q2 <;> first | (cases hc; done) | (cases hc; first | exact .ty _ | exact .own _)
        exact ⟨v, w, t, u, k, rfl, hcl, tyx_of q1 rel.ex ht hI, hk, kk _ F H rel Stp.refl (.bl _)⟩) hm ha rfl hg (by decide) (by decide) he hpl
/-! ### f-strings -/
theorem we_fmtI (h : WE X e ρ (.im (.int i)) ρ1) (hz : i.natAbs.log2 < 1920 := by first | rfl | decide | omega | assumption | exact ⟨by omega, by omega⟩ | exact ⟨by decide, by decide, by decide⟩ | exact .inr (by decide) | exact .inl (by omega)) : WE X (.FormattedValue e (-1) none pos) ρ (.im (.str (toString i))) ρ1 :=
  PE.imp (pe_fmt h) fun σ H Q ⟨F, rel, k⟩ => ⟨F, rel, fun v F1 H1 rel1 st1 q => by
    have q : Rep X.K F1 v (.int i) := q
    cases q
    exact .inr ⟨i, rfl, hz, k _ F1 H1 rel1 st1 (.str _)⟩⟩
theorem we_fmtS (h : WE X e ρ (.im (.str y)) ρ1) (hz : y.length ≤ 100000 := by first | rfl | decide | omega | assumption | exact ⟨by omega, by omega⟩ | exact ⟨by decide, by decide, by decide⟩ | exact .inr (by decide) | exact .inl (by omega)) : WE X (.FormattedValue e (-1) none pos) ρ (.im (.str y)) ρ1 :=
  PE.imp (pe_fmt h) fun σ H Q ⟨F, rel, k⟩ => ⟨F, rel, fun v F1 H1 rel1 st1 q => by
    have q : Rep X.K F1 v (.str y) := q
    cases q
    exact .inl ⟨y, rfl, sz_of hz, k _ F1 H1 rel1 st1 (.str _)⟩⟩
/-- the parts of an f-string -/
def WJ (X : Cx) (es : List Expr) (ρ : Env) (ys : List Str) (ρ' : Env) : Prop := ∃ ts, PJ X es ts ∧ ∀ (σ : L2.St) (H : Hp) (acc : Str) (Q : Str → Hp → Prop), acc.length + (ys.map Str.length).sum ≤ 100000 →
  (∃ F, Rel X.K F ρ σ H ∧ ∀ F' H', Rel X.K F' ρ' σ H' → Stp ρ σ F H ρ' σ F' H' → Q (ys.foldl (· ++ ·) acc) H') → tJs ts acc σ H Q
theorem wj_nil : WJ X [] ρ [] ρ := ⟨[], .nil, fun σ H acc Q _ ⟨F, rel, k⟩ => k F H rel Stp.refl⟩
theorem wj_cons (h : WE X e ρ (.im (.str y)) ρ1) (r : WJ X es ρ1 ys ρ2) : WJ X (e :: es) ρ (y :: ys) ρ2 := by
  obtain ⟨ts, pj, run⟩ := r
  refine ⟨_, .cons h pj, fun σ H acc Q hz ⟨F, rel, k⟩ => ?_⟩
  have hl : (acc ++ y).length = acc.length + y.length := strLen_append _ _
  rw [List.map_cons, List.sum_cons] at hz
  refine ⟨F, rel, fun v F1 H1 rel1 st1 q => ?_⟩
  have q : Rep X.K F1 v (.str y) := q
  cases q
  exact ⟨y, rfl, sz_of (by omega), run σ H1 (acc ++ y) Q (by omega) ⟨F1, rel1, fun F2 H2 rel2 st2 => k F2 H2 rel2 (st1.trans rel st2)⟩⟩
theorem we_joined {e1 e2 : Expr} (h : WJ X (e1 :: e2 :: es) ρ ys ρ1) (hz : (ys.map Str.length).sum ≤ 100000 := by first | rfl | decide | omega | assumption | exact ⟨by omega, by omega⟩ | exact ⟨by decide, by decide, by decide⟩ | exact .inr (by decide) | exact .inl (by omega)) : WE X (.JoinedStr (e1 :: e2 :: es) pos) ρ (.im (.str (ys.foldl (· ++ ·) Str.empty))) ρ1 := by
  obtain ⟨ts, pj, run⟩ := h
  exact PE.imp (pe_joined pj) fun σ H Q ⟨F, rel, k⟩ => run σ H Str.empty (fun out H1 => Q (.str out) H1) (by show 0 + _ ≤ _; omega) ⟨F, rel, fun F1 H1 rel1 st1 => k _ F1 H1 rel1 st1 (.str _)⟩
theorem we_joined1 (h : WE X e ρ r ρ1) : WE X (.JoinedStr [e] pos) ρ r ρ1 := pe_joined1 h
end
/-! ### str(e), e an instance with an own __str__ -/
section
variable {P : Program} {w : World} {A : Around} {E : Value → Shared → Prop} {s : Shared} {K : PySem.W.Frag} {x C f : Addr} {ox : Obj} {od : Option Obj}
/-- what the class says of str of an instance: the def is called at A -/
theorem str_own {Q : Value → Shared → Prop} (hu : A.in1.in1.units < cLine) (KI : K.In s.heap) (J : PySem.W.InstAt s.heap x ox C od) (hs : PySem.W.findIn K (.ref C) "__str__" = some (some (.ref f))) (hf : PySem.W.isFn K (.ref f) = true)
    (h : wpAny (model P w) A.in1.in1 (call (.ref f) [.ref x]) (PySem.W.StrBack Q) E s) : wpAny (model P w) A (call (.type "str") [.ref x]) Q E s := by
  have told : wpAny (model P w) A.in1.in1 (Builtin.Str.strOf (.ref x)) (fun r s₁ => ∃ y u, r = .str y u ∧ Q r s₁) E s := by
    unfold Builtin.Str.strOf
    rw [show Builtin.Str.isExactStr (.ref x) = false from rfl]
    refine wpAny_bind (m := cRoomFor _ _) (wpAny_cRoomFor hu ?_)
    refine wpAny_bind (m := callSpecial? (.ref x) (Str.ofString "__str__")) (PySem.W.special_fn KI J hs (beq_iff_eq.mp hf) (wpAny_mono h (fun r s' z => ?_) fun _ _ y => y))
    cases r <;> first | exact (show False from z).elim | exact wpAny_pure ⟨_, _, rfl, z⟩
  refine callType_codes (T := "str") (Bi := Builtin.«object.__init__») (Q₁ := fun r s₁ => ∃ y u, r = .str y u ∧ Q r s₁) PySem.F.called_str (PySem.F.typeCall_str_1 _) PySem.F.entry_object_init ?_ fun obj s₁ ⟨y, u, e, hq⟩ => ?_
  · refine codeAny_of_tree ?_
    show wpAny _ A.in1.in1 (do
      checkBuiltinCall "str.__new__" ⟨[.type "str", .ref x], []⟩
      again (.builtin "str.__new__" ⟨[.type "str", .ref x], []⟩)) _ _ s
    refine wpAny_bind (wpAny_of_eq (PySem.F.newCall_str_1 _) (wpAny_pure ⟨plainId_quiet (by decide +kernel) _, codeAny_builtin PySem.F.entry_str_new ?_⟩))
    rw [Around.under_plainId (by decide +kernel) _, str_new_tree]
    exact wpAny_bind (wpAny_pure (wpAny_bind (wpAny_of_eq isSubtype_str_str (wpAny_bind (wpAny_mono told (fun r s₁ hr => wpAny_pure hr) fun _ _ y => y)))))
  · subst e
    exact ⟨typeIs_str _ _ _, PySem.F.args_object_init_2 _ _, object_init_meets PySem.F.called_str.init.lookup PySem.F.called_str.made (by decide) P w A.in1 _ s₁ ⟨typeIs_str _ _ _, rfl, hq⟩⟩
end
/-- str(instance) is t -/
structure ShowS (X : Cx) (C f : Addr) (S : List D → R → Prop) : Prop where
  at_ : PySem.W.findIn X.K (.ref C) "__str__" = some (some (.ref f))
  fn : PySem.W.isFn X.K (.ref f) = true
section
variable {X : Cx} {e : Expr} {p pos : Pos} {ρ ρ1 : Env} {C f : Addr} {gs : List (Str × D)} {S : List D → R → Prop} {t : Str}
def rStrOwn (X : Cx) (C : Addr) (S : List D → R → Prop) (t : Str) : List V → Hp → VK → Prop := fun xs H Q => ∃ a dx fs, xs = [V.ref a] ∧ H a = some (.ins C dx fs) ∧ spP X.K S [V.ref a] H (fun v H' => v = .str t ∧ Q (.str t) H') EF
theorem MCall.in2 {pins : List (Addr × Obj)} {σ : L2.St} {H : Hp} {s : Shared} {sp : Sp} {Q : VK} {us : List Value} {vs : List V} (G : MCall X f sp) (I : Inv X pins σ H s) (r : Vals vs us) (h : sp vs H Q EF) : wpAny (model X.prog X.w) X.A.in1.in1 (call (.ref f) us) (EP X pins σ Q) X.xe s := by
  obtain ⟨k, F, hgu, hr⟩ := G.run
  refine wpAny_call (codeAny_mono (F X.A.in1.in1 X.stack s H us vs Q EF hgu ((Room.in1 (Room.in1 (hr.mono (by omega))))) I.env0.in1.in1 r h) fun res s' q => ?_)
  match res, q with
  | .error e, q => exact passF pins σ H s e s' I q
  | .ok (.ret u), q => exact I.after q
  | .ok .next, q => exact False.elim q
  | .ok .brk, q => exact False.elim q
  | .ok .cont, q => exact False.elim q
theorem call_strOwn (G : MCall X f (spP X.K S)) (h1 : PySem.W.findIn X.K (.ref C) "__str__" = some (some (.ref f))) (h2 : PySem.W.isFn X.K (.ref f) = true) : CallR X (.type "str") (rStrOwn X C S t) := by
  rintro pins s σ H xs us Q I rv ⟨a, dx, fs, rfl, ha, hsp⟩
  obtain ⟨u, rfl, ru⟩ := rv.one
  cases (show u = Value.ref a from ru)
  obtain ⟨ox, od, J⟩ := insAt I ha
  have hu : X.A.in1.in1.units < cLine := by
    obtain ⟨k, _, _, hr⟩ := G.run
    exact (Room.in1 (Room.in1 (hr.mono (by omega : 0 + 1 + 1 ≤ k + 3)))).units0
  refine str_own hu I.kIn J h1 h2 (wpAny_mono (G.in2 (us := [.ref a]) (vs := [.ref a]) I (.cons rfl .nil) hsp) (fun v s' z => ?_) fun _ _ y => y)
  obtain ⟨x, H', I', rx, ex, q⟩ := z
  subst ex
  obtain ⟨tk, e⟩ := (show ∃ tk, v = Value.str t tk from rx)
  subst e
  exact ⟨.str t, H', I', ⟨tk, rfl⟩, q⟩
theorem we_strO (G : MCall X f (spP X.K S)) (h1 : PySem.W.findIn X.K (.ref C) "__str__" = some (some (.ref f))) (h2 : PySem.W.isFn X.K (.ref f) = true) (hm : X.mg "str" = none) (ha : WE X e ρ (.im (.ins C gs)) ρ1) (hS : S [.ins C gs] (.im (.str t))) (hg : Gl X "str" := by rfl)
    (he : starEach [e] X.env = (false, eval e X.env) :: starEach [] X.env := by rfl) : WE X (.Call (.Name "str" p) [e] [] pos) ρ (.im (.str t)) ρ1 :=
  PE.imp (pe_callTy (call_strOwn (t := t) G h1 h2) hg hm rfl (wa1_cons ha wa_nil he) (by decide) (by decide) he rfl) fun σ H Q ⟨F, rel, kk⟩ => ⟨F, rel, fun v vs F1 H1 rel1 st1 q1 q2 => by
    cases q2
    obtain ⟨a, dx, fs, ev, ea, rf⟩ := (show Rep X.K F1 v (.ins C gs) from q1).insI
    subst ev
    refine ⟨a, dx, fs, rfl, rel1.ex _ _ ea, [.ins C gs], _, hS, ?_⟩
    exact backP (r := .im (.str t)) rel rel1 st1 (.cons q1 .nil) rfl fun w F2 H2 rel2 st2 q => by
      have q' : Rep X.K F2 w (.str t) := q
      cases q'
      exact ⟨rfl, kk _ F2 H2 rel2 st2 (.str _)⟩⟩
end
end Z
set_option maxRecDepth 100000
set_option maxHeartbeats 1000000
/-! Z11: a def's promise from its body; the law's own end. -/
namespace Z
open PySem PySem.Spec PyProof.Rows L2 Evl ClX
section
variable {P : Program} {w : World} {K : PySem.W.Frag} {mg : Str → Option Value} {base : Heap} {x qual : Str} {st : Stmt} {f : Addr} {fd : FuncData} {N ps : List Str} {k : Nat}
/-- the body's context -/
abbrev CxB (P : Program) (w : World) (K : PySem.W.Frag) (mg : Str → Option Value) (base : Heap) (N : List Str) (qual : Str) (st : Stmt) (f : Addr) (cdv : Value) (A : Around) (outer : List PySem.Env) (s : Shared) (H : Hp) (E : XK) : Cx :=
  (cxOf (L2.CX P w) P w K mg base N qual (defScope st) f cdv A outer s H E).nox
/-- a pure def (no defaults): its body keeps the promise S -/
theorem def_P {S : List D → R → Prop} (F : Fun K x qual st f fd) (sc : FnScope N ps (defScope st)) (bi : Binds K fd ps []) (len : ∀ ds r, S ds r → ds.length = ps.length)
    (hb : ∀ (cdv : Value) (A : Around) (outer : List PySem.Env) (s : Shared) (H : Hp) (E : XK), (CxB P w K mg base N qual st f cdv A outer s H E).A.guards = some [] → Room k (CxB P w K mg base N qual st f cdv A outer s H E).A → ∀ ds r, S ds r →
      WB (CxB P w K mg base N qual st f cdv A outer s H E) [] (defBody st) (ds.map .im ++ List.replicate (N.length - (ds.map SV.im).length) .un) { nx := fun _ => r = .im .non, rt := fun r' ρ' => Rt [] ρ' r r' }) :
    FnG P w K mg base (L2.CX P w) (k + 1) f (spP K S) := by
  obtain ⟨oc, od, kV, doc, pm, an, cdv, ct, osl, rfl, lk, hcd⟩ := F.ex
  refine (g_of (sp := spP K S) (dvs := []) lk hcd sc bi .nil (fun vs H Q E h => ?_) fun A outer s H vs Q E hg hr h => ?_).imp fun vs H Q E h => by rw [List.append_nil]; exact h
  · obtain ⟨ds, r, hS, F, rel, _⟩ := h
    have := rel.len
    rw [List.length_map, List.length_map] at this
    rw [this, len ds r hS]
  · exact body_P (fun ds r hS => hb cdv A outer s H E hg hr ds r hS) h
/-- .. whose first parameter is an object that it changes (an __init__) -/
theorem def_M {S : D → List D → R → D → Prop} (F : Fun K x qual st f fd) (sc : FnScope N ps (defScope st)) (bi : Binds K fd ps []) (len : ∀ d ds r d', S d ds r d' → ds.length + 1 = ps.length)
    (hb : ∀ (cdv : Value) (A : Around) (outer : List PySem.Env) (s : Shared) (H : Hp) (E : XK), (CxB P w K mg base N qual st f cdv A outer s H E).A.guards = some [] → Room k (CxB P w K mg base N qual st f cdv A outer s H E).A → ∀ d ds r d', S d ds r d' →
      WB (CxB P w K mg base N qual st f cdv A outer s H E) [0] (defBody st) (.own d :: ds.map .im ++ List.replicate (N.length - (SV.own d :: ds.map SV.im).length) .un) { nx := fun ρ' => r = .im .non ∧ ρ'[0]? = some (.own d'), rt := fun r' ρ' => Rt [0] ρ' r r' ∧ ρ'[0]? = some (.own d') }) :
    FnG P w K mg base (L2.CX P w) (k + 1) f (spM K S) := by
  obtain ⟨oc, od, kV, doc, pm, an, cdv, ct, osl, rfl, lk, hcd⟩ := F.ex
  refine (g_of (sp := spM K S) (dvs := []) lk hcd sc bi .nil (fun vs H Q E h => ?_) fun A outer s H vs Q E hg hr h => ?_).imp fun vs H Q E h => by rw [List.append_nil]; exact h
  · obtain ⟨d, ds, r, d', hS, F, rel, _⟩ := h
    have := rel.len
    rw [List.length_map, List.length_cons, List.length_map] at this
    rw [this, len d ds r d' hS]
  · exact body_M (fun d ds r d' hS => hb cdv A outer s H E hg hr d ds r d' hS) h
/-- .. any arguments -/
theorem def_G {S : List SV → R → List SV → Prop} (F : Fun K x qual st f fd) (sc : FnScope N ps (defScope st)) (bi : Binds K fd ps []) (len : ∀ as r as', S as r as' → as.length = ps.length)
    (hb : ∀ (cdv : Value) (A : Around) (outer : List PySem.Env) (s : Shared) (H : Hp) (E : XK), (CxB P w K mg base N qual st f cdv A outer s H E).A.guards = some [] → Room k (CxB P w K mg base N qual st f cdv A outer s H E).A → ∀ as r as', S as r as' →
      WB (CxB P w K mg base N qual st f cdv A outer s H E) (ownIx 0 as) (defBody st) (as ++ List.replicate (N.length - as.length) .un) { nx := fun ρ' => r = .im .non ∧ EndS as as' ρ', rt := fun r' ρ' => Rt (ownIx 0 as) ρ' r r' ∧ EndS as as' ρ' }) :
    FnG P w K mg base (L2.CX P w) (k + 1) f (spG K S) := by
  obtain ⟨oc, od, kV, doc, pm, an, cdv, ct, osl, rfl, lk, hcd⟩ := F.ex
  refine (g_of (sp := spG K S) (dvs := []) lk hcd sc bi .nil (fun vs H Q E h => ?_) fun A outer s H vs Q E hg hr h => ?_).imp fun vs H Q E h => by rw [List.append_nil]; exact h
  · obtain ⟨as, r, as', hS, _, _, F, rel, _⟩ := h
    have := rel.len
    rw [List.length_map] at this
    rw [this, len as r as' hS]
  · exact body_G (fun as r as' hS => hb cdv A outer s H E hg hr as r as' hS) h
/-- a pure def that shows nothing: whatever is being shown around it (an own __repr__) -/
theorem def_R {S : List D → R → Prop} (F : Fun K x qual st f fd) (sc : FnScope N ps (defScope st)) (bi : Binds K fd ps []) (len : ∀ ds r, S ds r → ds.length = ps.length)
    (hb : ∀ (cdv : Value) (A : Around) (outer : List PySem.Env) (s : Shared) (H : Hp) (E : XK), Room k (CxB P w K mg base N qual st f cdv A outer s H E).A → ∀ ds r, S ds r →
      WB (CxB P w K mg base N qual st f cdv A outer s H E) [] (defBody st) (ds.map .im ++ List.replicate (N.length - (ds.map SV.im).length) .un) { nx := fun _ => r = .im .non, rt := fun r' ρ' => Rt [] ρ' r r' }) :
    FnR P w K mg base (L2.CX P w) (k + 1) f (spP K S) := by
  obtain ⟨oc, od, kV, doc, pm, an, cdv, ct, osl, rfl, lk, hcd⟩ := F.ex
  refine (FnOk.raw (fn_of (sp := spP K S) lk hcd sc (fun vs H Q E h => ?_) fun A outer s H vs Q E hr h => ?_) bi .nil).imp fun vs H Q E h => by rw [List.append_nil]; exact h
  · obtain ⟨ds, r, hS, F, rel, _⟩ := h
    have := rel.len
    rw [List.length_map, List.length_map] at this
    rw [this, len ds r hS]
  · exact body_P (fun ds r hS => hb cdv A outer s H E hr ds r hS) h
end
/-! ### the law's end -/
section
variable {P : Program} {w : World} {K : PySem.W.Frag} {mg mb : Str → Option Value} {k : Nat} {fa a : Addr} {s₁ : Shared} {vs : List Value} {ns : List Int}
/-- the script in a heap where nothing else is tracked -/
theorem call_lawG {sp : Sp} (KI : K.In s₁.heap) (h1 : s₁.heap.Ns mainGlobals mg) (h2 : s₁.heap.Ns builtinsNs mb) (h3 : ∀ x : Str, x ≠ "__name__" → mb x = bootBuiltins x) (h4 : s₁.heap.NoLimit) (h5 : s₁.gens = #[])
    (ha : s₁.heap.get? a = some { cls := .type "list", data := .seq vs.toArray }) (hi : IntsAre vs ns) (hz : ns.length ≤ sizeLine) (hr : Room k callerA) (F : ∀ base : Heap, K.In base → base.Ns mainGlobals mg → FnG P w K mg base (L2.CX P w) k fa sp)
    (hsp : ∀ H : Hp, Only H → SqL K H a (ns.map V.int) → sp [.ref a] H (fun v _ => v = .bl true) EF) :
    codeAny (model P w) callerA (.call (.ref fa) ⟨[.ref a], []⟩) (fun r s' => r = .ok (.ret (.bool true)) ∧ OldK s₁.heap s'.heap ∧ s'.os = s₁.os ∧ AllBare s'.gens) s₁ := by
  -- the tracked heap: the script alone, where it is not the module's own object
  obtain ⟨H, hO, hS, hok, only, own⟩ : ∃ H : Hp, Only H ∧ SqL K H a (ns.map V.int) ∧ HOk P w H s₁.heap ∧ (∀ b, H b ≠ none → b = a) ∧ (H a ≠ none → K.lookup a = none) := by
    have rv := vals_ints hi
    cases hk : K.lookup a with
    | some o =>
      have e := KI a o hk
      rw [ha] at e
      cases e
      exact ⟨fun _ => none, fun _ => .inl rfl, .inr ⟨_, _, _, hk, rfl, rfl, rfl, by rw [List.size_toArray, hi.length]; exact hz, by simpa using rv⟩, fun b u z => (nomatch z), fun b z => absurd rfl z, fun z => absurd rfl z⟩
    | none =>
      refine ⟨upd (fun _ => none) a (.frz { cls := .type "list", data := .seq vs.toArray } (.lst (ns.map V.int))), fun b => ?_, .inl (.inr ⟨_, upd_same⟩), fun b u z => ?_, fun b z => ?_, fun _ => rfl⟩
      · by_cases hb : b = a
        · subst hb; exact .inr ⟨_, _, upd_same⟩
        · exact .inl (upd_ne hb)
      · by_cases hb : b = a
        · subst hb
          rw [upd_same] at z
          cases z
          exact ⟨ha, by rw [List.length_map]; exact hz, vs, _, rv, ha⟩
        · rw [upd_ne hb] at z; cases z
      · by_cases hb : b = a
        · exact hb
        · rw [upd_ne hb] at z; exact absurd rfl z
  -- all else is ground
  have gnd : ∀ {b : Addr} {o : Obj}, s₁.heap.get? b = some o → H b = none → (hidT s₁.heap H).get? b = some o := fun e n => hidT_get e n
  have dct : ∀ {b : Addr} {m : Str → Option Value}, s₁.heap.Ns b m → (hidT s₁.heap H).Ns b m := fun {b m} ⟨o, es, ep, e, d, r⟩ => by
    refine ⟨o, es, ep, gnd e ?_, d, r⟩
    cases q : H b with
    | none => rfl
    | some u =>
      have e' := only b (by rw [q]; exact fun z => nomatch z)
      subst e'
      rw [ha] at e
      cases e
      cases d
  have KG : K.In (hidT s₁.heap H) := fun b o e => gnd (KI b o e) (by
    cases q : H b with
    | none => rfl
    | some u =>
      have e' := only b (by rw [q]; exact fun z => nomatch z)
      subst e'
      rw [own (by rw [q]; exact fun z => nomatch z)] at e
      cases e)
  have md : Mod K mg (hidT s₁.heap H) := ⟨KG, dct h1, ⟨mb, dct h2, h3⟩, let ⟨mc, g1, g2⟩ := h4; ⟨mc, dct g1, g2⟩⟩
  have e0 : Env0 P w K mg (hidT s₁.heap H) callerA [] s₁ H := ⟨rfl, md, fun b o e => of_hidT e, Nat.le_of_eq (hidT_size _ _), trivial, fun b hb => (nomatch hb), hok, .of_eq h5⟩
  refine codeAny_mono (F _ KG (dct h1) callerA [] s₁ H [.ref a] [.ref a] _ EF rfl hr e0 (.cons rfl .nil) (hsp H hO hS)) fun res s' q => ?_
  match res, q with
  | .error e, q => obtain ⟨_, _, _, _, _, _, _, _, _, _, _, _, z⟩ := q; exact z.elim
  | .ok .next, q => exact q.elim
  | .ok .brk, q => exact q.elim
  | .ok .cont, q => exact q.elim
  | .ok (.ret u), q =>
    obtain ⟨v, H', os, bare, un, hok', rv, qv⟩ := q
    have ev : v = .bl true := qv
    subst ev
    cases (show u = Value.bool true from rv)
    refine ⟨rfl, OldK.of_keep fun b o e => ?_, os, bare⟩
    cases q : H b with
    | none => exact un.keep b o e q (fun z => nomatch z) (fun z => nomatch z)
    | some u =>
      rcases hO b with z | ⟨ob, xs, z⟩
      · rw [q] at z; cases z
      · obtain ⟨g1, _⟩ := hok b _ z
        obtain ⟨g2, _⟩ := hok' b _ (un.frzs b ob _ z)
        rw [e] at g1
        cases g1
        exact g2
end
theorem walk_G {l : PySem.W.OpenLaw} {n k : Nat} {q : Program} {loose : List Str} {XP : (Str → Option Value) → Heap → Prop} {YP : World → Heap → Prop} {d : DefRec} {K : Params → PySem.W.Frag} {S : List D → R → Prop} (hn : l.most = some n) (hn2 : n ≤ sizeLine) (hdf : d.params.defaults = []) (hr : Room k callerA)
    (hY : ∀ (w : World) (h : Heap), YP w h → (K w.params).In h)
    (F : ∀ (w : World) (mg : Str → Option Value) (fa : Addr) (h : Heap), (K w.params).In h → h.Ns mainGlobals mg → mg d.name = some (.ref fa) → ∀ base : Heap, (K w.params).In base → base.Ns mainGlobals mg → FnG l.prog w (K w.params) mg base (L2.CX l.prog w) k fa (spP (K w.params) S))
    (hS : ∀ ns : List Int, ns.length ≤ n → (∀ z ∈ ns, Builtin.Int.intBits z ≤ 1048576) → S [.lst (ns.map .int)] (.im (.bl true))) : PySem.W.WalkO q loose XP YP l.row.toRowW d [] (fun f vs => PySem.call f vs) := by
  refine Att.attach_callB hn hdf fun w s₀ s₁ mg mb fa o pm cd doc a vs ns G Y ho hd hcd hmg hobj hints hlen hbits hg => ?_
  have KI := hY w _ Y
  refine call_lawG KI G.T.g G.T.b G.T.builtins G.T.nolimit hg hobj hints (Nat.le_trans hlen hn2) hr (F w mg fa _ KI G.T.g hmg) fun H hO hs => ?_
  refine ⟨[.lst (ns.map .int)], .im (.bl true), hS ns hlen hbits, H, rel_args (.cons (.lst hs (Reps.ints ns)) .nil) (Ex.refl _), fun v F' H' _ _ r => ?_⟩
  have r : Rep _ F' v (.bl true) := r
  cases r
  rfl
end Z
set_option maxRecDepth 100000
set_option maxHeartbeats 1000000
/-! Z12: short forms for bodies. -/
namespace Z
open PySem PySem.Spec PyProof.Rows L2 Evl ClX
section
variable {P : Program} {w : World} {K : PySem.W.Frag} {mg : Str → Option Value} {base : Heap} {x m qual : Str} {st : Stmt} {k : Nat} {sp : Sp} {C : Addr} {A : Around}
/-- a def of the text as the top leaves it -/
structure FAt (K : PySem.W.Frag) (mg : Str → Option Value) (x : Str) (st : Stmt) : Prop where
  ex : ∃ f fd, Fun K x x st f fd ∧ mg x = some (.ref f)
/-- .. and its promise -/
structure GFn (P : Program) (w : World) (K : PySem.W.Frag) (mg : Str → Option Value) (base : Heap) (x : Str) (k : Nat) (sp : Sp) : Prop where
  ex : ∃ f, FnG P w K mg base (L2.CX P w) k f sp ∧ mg x = some (.ref f) ∧ PySem.W.keepIn K (.ref f) = true
theorem GFn.call (G : GFn P w K mg base x k sp) (hg : A.guards = some []) {j : Nat} (hr : Room j A) (h : k ≤ j := by omega) : CallC P w K mg base A x sp := by
  obtain ⟨f, F, h1, h2⟩ := G.ex
  exact ⟨f, k, F, hg, hr.mono h, h1, h2⟩
/-- a method -/
structure MAt (K : PySem.W.Frag) (C : Addr) (m qual : Str) (st : Stmt) : Prop where
  ex : ∃ f fd, Fun K m qual st f fd ∧ Meth K C m f
structure GM (P : Program) (w : World) (K : PySem.W.Frag) (mg : Str → Option Value) (base : Heap) (C : Addr) (m : Str) (k : Nat) (sp : Sp) : Prop where
  ex : ∃ f, FnG P w K mg base (L2.CX P w) k f sp ∧ Meth K C m f
theorem mcall_of {f : Addr} (F : FnG P w K mg base (L2.CX P w) k f sp) (hg : A.guards = some []) {j : Nat} (hr : Room j A) (h : k + 3 ≤ j := by omega) : CallA P w K mg base A f sp := ⟨k, F, hg, hr.mono h⟩
end
section
variable {X : Cx} {pn : List Nat} {c : Expr} {a b rest : List Stmt} {pos : Pos} {ρ ρ1 : Env} {k : Bool} {P : Post} {e : Expr} {r : R}
/-- if, and what follows it in either case -/
theorem wb_if (hc : WT X c ρ k ρ1) (ha : k = true → WB X pn a ρ1 { P with nx := fun ρ' => WB X pn rest ρ' P }) (hb : k = false → WB X pn b ρ1 { P with nx := fun ρ' => WB X pn rest ρ' P }) : WB X pn (.If c a b pos :: rest) ρ P :=
  wb_cons (M := fun ρ' => WB X pn rest ρ' P) (ws_if hc ha hb) fun _ g => g
/-- .. without else -/
theorem wb_if0 (hc : WT X c ρ k ρ1) (ha : k = true → WB X pn a ρ1 { P with nx := fun ρ' => WB X pn rest ρ' P }) (hb : k = false → WB X pn rest ρ1 P) : WB X pn (.If c a [] pos :: rest) ρ P :=
  wb_if hc ha fun h => wb_nil (hb h)
theorem wb_ret (he : WE X e ρ r ρ1) (g : P.rt r ρ1) : WB X pn [.Return (some e) pos] ρ P := wb_one (ws_ret he g)
/-- a statement that goes on, the rest -/
theorem wb_go {st : Stmt} {ρ1 : Env} (h : WN X pn st ρ ρ1) (k : WB X pn rest ρ1 P) : WB X pn (st :: rest) ρ P := wb_seq h k
theorem wb_for {tg iter : Expr} {body : List Stmt} {bs : List (Nat × D)} {ds : List D} (hp : PassesOwn (model X.prog X.w) X.A X.env X.xe) (hi : WI X tg iter ρ bs ds ρ1) (I : Nat → Env → Prop) (h0 : I 0 ρ1)
    (hs : ∀ (i : Nat) d ρi, ds[i]? = some d → I i ρi → ∃ ρt, WG X (bs.map (·.1) ++ pn) tg d ρi ρt ∧ WB X (bs.map (·.1) ++ pn) body ρt { P with nx := I (i + 1), ct := I (i + 1), bk := fun ρ' => WB X pn rest ρ' P })
    (hd : ∀ ρ', I ds.length ρ' → WB X pn rest ρ' P) (hbo : ∀ i ρ', I i ρ' → ∀ b ∈ bs, ρ'[b.1]? = some (.own b.2) := by first | (intro _ _ _ b hb; cases hb; done) | skip) (hc : X.calm = true := by rfl) (hf : ∀ x, foldedSetIterable iter X.env x = pure x := by intro _; rfl) : WB X pn (.For tg iter body [] pos :: rest) ρ P :=
  wb_cons (M := fun ρ' => WB X pn rest ρ' P) (ws_for (P := { P with nx := fun ρ' => WB X pn rest ρ' P }) hp hi I h0 hs hd hbo hc hf) fun _ g => g
theorem wb_while {body : List Stmt} (hp : PassesOwn (model X.prog X.w) X.A X.env X.xe) (I : Nat → Env → Prop) (m0 : Nat) (k : Nat → Env → Bool) (ρc : Nat → Env → Env) (h0 : I m0 ρ) (hc : ∀ m ρ', I m ρ' → WT X c ρ' (k m ρ') (ρc m ρ'))
    (hb : ∀ m ρ', I m ρ' → k m ρ' = true → WB X pn body (ρc m ρ') { P with nx := fun ρ2 => ∃ m', m' < m ∧ I m' ρ2, ct := fun ρ2 => ∃ m', m' < m ∧ I m' ρ2, bk := fun ρ' => WB X pn rest ρ' P })
    (hd : ∀ m ρ', I m ρ' → k m ρ' = false → WB X pn rest (ρc m ρ') P) : WB X pn (.While c body [] pos :: rest) ρ P :=
  wb_cons (M := fun ρ' => WB X pn rest ρ' P) (ws_while (P := { P with nx := fun ρ' => WB X pn rest ρ' P }) hp I m0 k ρc h0 hc hb hd) fun _ g => g
end
section
variable {X : Cx} {a b : Expr} {pos : Pos} {ρ ρ1 ρ2 : Env} {r1 r2 : R} {i j : Int}
/-- * of great ints -/
theorem we_mulW (ha : WE X a ρ r1 ρ1) (hb : WE X b ρ1 r2 ρ2) (ca : r1.con ρ2 = some (.int i) := by rfl) (cb : r2.con ρ2 = some (.int j) := by rfl) (hc : CMulW i j := by first | rfl | decide | omega | assumption | exact ⟨by omega, by omega⟩ | exact ⟨by decide, by decide, by decide⟩ | exact .inr (by decide) | exact .inl (by omega)) : WE X (.BinOp a .Mult b pos) ρ (.im (.int (i * j))) ρ2 := we_bin op_mulW ha hb (vop_I hc fun _ => .int _) ca cb
/-- // by any divisor but 0, below 2 ^ 9000 -/
def CDivA (_ j : Int) : Prop := j ≠ 0 ∧ j.natAbs.log2 < 9000
theorem op_fdivA : OpR X (binaryOp .FloorDiv) (rI CDivA fun i j => .int (i.fdiv j)) := opI fun _ _ _ _ _ _ _ hc q => floordiv_int hc.1 q (.inl (PyProof.noPylong_of_log2 hc.2))
theorem we_fdivA (ha : WE X a ρ r1 ρ1) (hb : WE X b ρ1 r2 ρ2) (ca : r1.con ρ2 = some (.int i) := by rfl) (cb : r2.con ρ2 = some (.int j) := by rfl) (hc : CDivA i j := by first | rfl | decide | omega | assumption | exact ⟨by omega, by omega⟩ | exact ⟨by decide, by decide, by decide⟩ | exact .inr (by decide) | exact .inl (by omega)) : WE X (.BinOp a .FloorDiv b pos) ρ (.im (.int (i.fdiv j))) ρ2 := we_bin op_fdivA ha hb (vop_I hc fun _ => .int _) ca cb
end
end Z
set_option maxRecDepth 100000
set_option maxHeartbeats 1000000
/-! Z13: defaults, *args, classmethods, classes called through a name. -/
namespace Z
open PySem PySem.Spec PyProof.Rows L2 Evl ClX
/-! ### one more frozen slot at the end -/
section
variable {K : PySem.W.Frag} {F F1 H H1 : Hp} {ρ ρ1 : Env} {σ : L2.St} {v : V} {d : D} {r : R} {Q : VK}
theorem snoc_get {α : Type} {l : List α} {x : α} {i : Nat} {s : α} (h : (l ++ [x])[i]? = some s) : l[i]? = some s ∨ (i = l.length ∧ s = x) := by
  by_cases hi : i < l.length
  · rw [List.getElem?_append_left hi] at h; exact .inl h
  · rw [List.getElem?_append_right (by omega)] at h
    have h0 : i - l.length = 0 := by
      have := (List.getElem?_eq_some_iff.mp h).1
      simp at this
      omega
    rw [h0] at h
    simp at h
    exact .inr ⟨by omega, h.symm⟩
theorem snoc_old {α : Type} {l : List α} {x : α} {i : Nat} {s : α} (h : l[i]? = some s) : (l ++ [x])[i]? = some s := by
  rw [List.getElem?_append_left (List.getElem?_eq_some_iff.mp h).1]; exact h
theorem owns_snoc (hl : σ.length = ρ.length) {a : Addr} : Owns (ρ ++ [.im d]) (σ ++ [some v]) a ↔ Owns ρ σ a := by
  constructor
  · rintro ⟨i, e, h1, h2⟩
    rcases snoc_get h1 with h1 | ⟨_, z⟩
    · rcases snoc_get h2 with h2 | ⟨z, _⟩
      · exact ⟨i, e, h1, h2⟩
      · have := (List.getElem?_eq_some_iff.mp h1).1
        omega
    · cases z
  · rintro ⟨i, e, h1, h2⟩
    exact ⟨i, e, snoc_old h1, snoc_old h2⟩
theorem rel_snoc (rel : Rel K F ρ σ H) (q : Rep K F v d) : Rel K F (ρ ++ [.im d]) (σ ++ [some v]) H := by
  have hl := rel.len
  refine ⟨rel.ex, by rw [List.length_append, List.length_append, hl]; rfl, fun i e h => ?_, fun i e h => ?_, fun i j e e' p h1 h2 h3 h4 => ?_⟩
  · rcases snoc_get h with h | ⟨hi, z⟩
    · obtain ⟨x, hx, rx⟩ := rel.im i e h
      exact ⟨x, snoc_old hx, rx⟩
    · cases z
      exact ⟨v, by rw [hi, ← hl, List.getElem?_append_right (Nat.le_refl _), Nat.sub_self]; rfl, q⟩
  · rcases snoc_get h with h | ⟨_, z⟩
    · obtain ⟨p, hp, r2⟩ := rel.own i e h
      exact ⟨p, snoc_old hp, r2⟩
    · cases z
  · rcases snoc_get h1 with h1 | ⟨_, z⟩
    · rcases snoc_get h2 with h2 | ⟨_, z⟩
      · have l1 := (List.getElem?_eq_some_iff.mp h1).1
        have l2 := (List.getElem?_eq_some_iff.mp h2).1
        rw [List.getElem?_append_left (by omega)] at h3 h4
        exact rel.inj i j e e' p h1 h2 h3 h4
      · cases z
    · cases z
theorem rel_unsnoc (rel : Rel K F (ρ ++ [.im d]) (σ ++ [some v]) H) : Rel K F ρ σ H := by
  have hl : σ.length = ρ.length := by have := rel.len; simpa using this
  have old : ∀ {i : Nat} {s : SV}, ρ[i]? = some s → (σ ++ [some v])[i]? = σ[i]? := fun {i s} h => by
    rw [List.getElem?_append_left]
    have := (List.getElem?_eq_some_iff.mp h).1
    omega
  refine ⟨rel.ex, hl, fun i e h => ?_, fun i e h => ?_, fun i j e e' p h1 h2 h3 h4 => ?_⟩
  · obtain ⟨x, hx, rx⟩ := rel.im i e (snoc_old h)
    exact ⟨x, by rw [← old h]; exact hx, rx⟩
  · obtain ⟨x, hx, rx⟩ := rel.own i e (snoc_old h)
    exact ⟨x, by rw [← old h]; exact hx, rx⟩
  · exact rel.inj i j e e' p (snoc_old h1) (snoc_old h2) (by rw [old h1]; exact h3) (by rw [old h2]; exact h4)
theorem stp_unsnoc (hl : σ.length = ρ.length) (hl1 : σ.length = ρ1.length) (st : Stp (ρ ++ [.im d]) (σ ++ [some v]) F H (ρ1 ++ [.im d]) (σ ++ [some v]) F1 H1) : Stp ρ σ F H ρ1 σ F1 H1 :=
  ⟨fun a o h n => st.keep a o h fun z => n ((owns_snoc hl).mp z), fun a z => (st.own a ((owns_snoc hl1).mpr z)).imp (owns_snoc hl).mp id, st.dom⟩
theorem tE_snoc (ho : r.ok = true) (hl : ρ1.length = ρ.length) (q : ∀ F, Rep K F v d) (h : tE K ρ r ρ1 σ H Q) : tE K (ρ ++ [.im d]) r (ρ1 ++ [.im d]) (σ ++ [some v]) H Q := by
  obtain ⟨F, rel, k⟩ := h
  refine ⟨F, rel_snoc rel (q F), fun x F' H' rel' st' q' => k x F' H' (rel_unsnoc rel') (stp_unsnoc rel.len (rel.len.trans hl.symm) st') ?_⟩
  cases r with
  | im e => exact q'
  | fr e =>
    obtain ⟨p, e1, f, h0, o, n⟩ := q'
    exact ⟨p, e1, f, h0, o, fun z => n ((owns_snoc (rel.len.trans hl.symm)).mpr z)⟩
  | sl i => cases ho
end
/-! ### a def with defaults -/
section
variable {P : Program} {w : World} {K : PySem.W.Frag} {mg : Str → Option Value} {base : Heap} {x qual : Str} {st : Stmt} {f : Addr} {fd : FuncData} {N ps : List Str} {k : Nat} {dvs : List V} {kws : List (Str × V)} {dus : List Value}
abbrev FunDS (K : PySem.W.Frag) (x qual : Str) (st : Stmt) (dvs : List V) (f : Addr) (fd : FuncData) : Prop := FunD K x qual (defArgs st) (defBody st) (defScope st) dvs [] f fd
/-- an __init__ with defaults; us: the defaults that the call leaves out -/
theorem def_MD {S : D → List D → R → D → Prop} {us : List V} (F : FunDS K x qual st dvs f fd) (sc : FnScope N ps (defScope st)) (bi : Binds K fd ps dus) (hu : Vals us dus) (len : ∀ d ds r d', S d ds r d' → ds.length + 1 = ps.length)
    (hb : ∀ (cdv : Value) (A : Around) (outer : List PySem.Env) (s : Shared) (H : Hp) (E : XK), (CxB P w K mg base N qual st f cdv A outer s H E).A.guards = some [] → Room k (CxB P w K mg base N qual st f cdv A outer s H E).A → ∀ d ds r d', S d ds r d' →
      WB (CxB P w K mg base N qual st f cdv A outer s H E) [0] (defBody st) (.own d :: ds.map .im ++ List.replicate (N.length - (SV.own d :: ds.map SV.im).length) .un) { nx := fun ρ' => r = .im .non ∧ ρ'[0]? = some (.own d'), rt := fun r' ρ' => Rt [0] ρ' r r' ∧ ρ'[0]? = some (.own d') }) :
    FnG P w K mg base (L2.CX P w) (k + 1) f (fun vs H Q E => spM K S (vs ++ us) H Q E) := by
  obtain ⟨oc, od, dV, kV, doc, pm, an, cdv, ct, osl, rfl, lk, hcd, _, _⟩ := F.ex
  refine g_of (sp := spM K S) (dvs := us) lk hcd sc bi hu (fun vs H Q E h => ?_) fun A outer s H vs Q E hg hr h => ?_
  · obtain ⟨d, ds, r, d', hS, F, rel, _⟩ := h
    have := rel.len
    rw [List.length_map, List.length_cons, List.length_map] at this
    rw [this, len d ds r d' hS]
  · exact body_M (fun d ds r d' hS => hb cdv A outer s H E hg hr d ds r d' hS) h
/-- the call that leaves one default out -/
theorem spM_one {S : D → List D → R → D → Prop} {v : V} {e : D} (q : ∀ F, Rep K F v e) {vs : List V} {H : Hp} {Q : VK} {E : XK} (h : spM K (fun d ds r d' => r.ok = true ∧ S d (ds ++ [e]) r d') vs H Q E) : spM K S (vs ++ [v]) H Q E := by
  obtain ⟨d, ds, r, d', ⟨ho, hS⟩, t⟩ := h
  refine ⟨d, ds ++ [e], r, d', hS, ?_⟩
  have := tE_snoc (d := e) ho (by simp) q t
  simpa using this
/-! ### def f(a, .., *v) -/
theorem g_star {pv : Str} {sp : Sp} (F : Fun K x qual st f fd) (sc : FnScope N (ps ++ [pv]) (defScope st))
    (hb : ∀ (kV doc pm : Value) (an : Option Addr) (cdv ct : Value) (us rest : List Value), us.length = ps.length → bindArgs (PySem.W.fnOf x qual (defArgs st) (defBody st) (defScope st) .none kV doc pm an cdv ct) ⟨us ++ rest, []⟩ = (newTuple rest >>= fun t => pure (ps.zip us ++ [(pv, t)])))
    (hbody : ∀ (cdv : Value) (A : Around) (outer : List PySem.Env) (s : Shared) (H : Hp) (vs : List V) (Q : VK) (E : XK), A.guards = some [] → Room k (A.deeper (envOfC qual (defScope st) s.heap.objs.size f cdv)) → sp vs H Q E →
      ∃ t, PSs (cxOf (L2.CX P w) P w K mg base N qual (defScope st) f cdv A outer s H E) (defBody st) t ∧ t { nx := fun _ H' => Q .non H', rt := Q } (L2.start N vs) H) :
    FnG P w K mg base (L2.CX P w) (k + 1) f (fun vs H Q E => ∃ ws rest, vs = ws ++ rest ∧ ws.length = ps.length ∧ rest.length ≤ sizeLine ∧ ∀ p, H p = none → sp (ws ++ [V.ref p]) (upd H p (.tup rest)) Q E) := by
  obtain ⟨oc, od, kV, doc, pm, an, cdv, ct, osl, rfl, lk, hcd⟩ := F.ex
  rintro A outer s H us vs Q E hg hr e0 r ⟨ws, rest, rfl, hl, hz, hq⟩
  obtain ⟨u1, u2, rfl, r1, r2⟩ := StX.vals_split r
  have hn : H s.heap.objs.size = none := e0.hok.fresh (Nat.le_refl _)
  have l1 : u1.length = ps.length := r1.length.symm.trans hl
  have l2 : u2.length ≤ sizeLine := by rw [← r2.length]; exact hz
  refine StX.run_bnd lk hcd sc hr e0 (G := fun xs H2 => ∃ p, H p = none ∧ xs = ws ++ [V.ref p] ∧ H2 = upd H p (.tup rest)) (fun A' Ex' Q' h => ?_) fun s2 H2 xs ⟨p, hp, ex, eH⟩ hr2 => ?_
  · rw [hb kV doc pm an cdv ct u1 u2 l1]
    refine wpAny_bind (wpAny_newTuple (wpAny_pure ?_) l2)
    have tup : ObjOk P w (upd H s.heap.objs.size (.tup rest)) (s.heap.push ({ cls := .type "tuple", data := .seq u2.toArray } : Obj)) s.heap.objs.size (.tup rest) := ⟨hz, u2, r2, ⟨_, Heap.get?_push_size _ rfl, rfl, _, rfl⟩⟩
    have un := StX.un_laid (fs := frs outer) (s := s) (o := ({ cls := .type "tuple", data := .seq u2.toArray } : Obj)) (u := .tup rest) hn
    have z := h _ _ (ws ++ [V.ref s.heap.objs.size]) (u1 ++ [Value.ref s.heap.objs.size]) (StX.env0_laid e0 tup) un rfl (fun e s' => StX.cxUp outer s H _ _ E e s' un (fun b o q => Heap.get?_push_of_some _ q) rfl) (r1.append (.cons rfl .nil))
      (by rw [List.length_append, List.length_append, hl] <;> rfl) ⟨_, hn, rfl, rfl⟩
    rwa [List.zip_append l1.symm] at z
  · subst ex eH
    exact hbody cdv A outer s2 _ _ Q E hg hr2 (hq p hp)
/-- .. with one parameter ahead, by data -/
theorem def_S1 {p1 pv : Str} {S : List D → R → Prop} (F : Fun K x qual st f fd) (sc : FnScope N [p1, pv] (defScope st))
    (hb : ∀ (kV doc pm : Value) (an : Option Addr) (cdv ct : Value) (us rest : List Value), us.length = [p1].length → bindArgs (PySem.W.fnOf x qual (defArgs st) (defBody st) (defScope st) .none kV doc pm an cdv ct) ⟨us ++ rest, []⟩ = (newTuple rest >>= fun t => pure ([p1].zip us ++ [(pv, t)])))
    (len : ∀ ds r, S ds r → ∃ c es, ds = [c, .tup es] ∧ es.length ≤ 1000 ∧ r.ok = true)
    (hbody : ∀ (cdv : Value) (A : Around) (outer : List PySem.Env) (s : Shared) (H : Hp) (E : XK), (CxB P w K mg base N qual st f cdv A outer s H E).A.guards = some [] → Room k (CxB P w K mg base N qual st f cdv A outer s H E).A → ∀ ds r, S ds r →
      WB (CxB P w K mg base N qual st f cdv A outer s H E) [] (defBody st) (ds.map .im ++ List.replicate (N.length - (ds.map SV.im).length) .un) { nx := fun _ => r = .im .non, rt := fun r' ρ' => Rt [] ρ' r r' }) :
    FnG P w K mg base (L2.CX P w) (k + 1) f (spP K fun ds r => ∃ c es, ds = c :: es ∧ S [c, .tup es] r) := by
  refine (g_star (ps := [p1]) (pv := pv) (sp := spP K S) F sc hb fun cdv A outer s H vs Q E hg hr h => body_P (fun ds r hS => hbody cdv A outer s H E hg hr ds r hS) h).imp fun vs H Q E h => ?_
  obtain ⟨ds, r, ⟨c, es, rfl, hS⟩, F0, rel, kk⟩ := h
  obtain ⟨c', es', e1, hz, ho⟩ := len _ _ hS
  cases e1
  have hl : vs.length = es.length + 1 := by have := rel.len; simpa using this
  obtain ⟨v, rest, rfl⟩ : ∃ v rest, vs = v :: rest := by
    cases vs with
    | nil => cases hl
    | cons a b => exact ⟨a, b, rfl⟩
  have at_ : ∀ (i : Nat) (d : D), (c :: es)[i]? = some d → ∃ u, (v :: rest)[i]? = some u ∧ Rep K F0 u d := fun i d h => by
    obtain ⟨u, hu, ru⟩ := rel.im i d (by rw [List.getElem?_map, h]; rfl)
    rw [List.getElem?_map] at hu
    cases e : (v :: rest)[i]? with
    | none => rw [e] at hu; cases hu
    | some y => rw [e] at hu; cases hu; exact ⟨_, rfl, ru⟩
  have reps : ∀ {us : List V} {ds : List D}, us.length = ds.length → (∀ (i : Nat) (d : D), ds[i]? = some d → ∃ u, us[i]? = some u ∧ Rep K F0 u d) → Reps K F0 us ds := fun {us} => by
    induction us with
    | nil => intro ds hl _; cases ds with | nil => exact .nil | cons _ _ => cases hl
    | cons u us ih =>
      intro ds hl h
      cases ds with
      | nil => cases hl
      | cons d ds =>
        obtain ⟨u', hu, ru⟩ := h 0 d rfl
        have : u = u' := by simpa using hu
        subst this
        exact .cons ru (ih (by simpa using hl) fun i d hd => by simpa using h (i + 1) d (by simpa using hd))
  have rp : Reps K F0 (v :: rest) (c :: es) := reps (by simpa using hl) at_
  cases rp with
  | cons rc re =>
    refine ⟨[v], rest, rfl, rfl, by rw [re.length]; exact sz_of (Nat.le_trans hz (by decide)), fun p hp => ⟨[c, .tup es], r, hS, upd F0 p (.tup rest), ?_, fun y F' H' rel' st' q' => ?_⟩⟩
    · have hn := rel.newF hp
      exact rel_args (.cons (rc.mono (ex_put hn)) (.cons (.tup (st_of upd_same) (re.mono (ex_put hn))) .nil)) (rel.allocF hp).ex
    · have keep : ∀ a o, H a = some o → H' a = some o ∧ F' a = F0 a := fun a o h => by
        have ne := ne_of_none h hp
        obtain ⟨k1, k2⟩ := st'.keep a o (by rw [upd_ne ne]; exact h) fun z => no_owns (ds := [c, D.tup es]) z
        exact ⟨k1, by rw [k2, upd_ne ne]⟩
      refine kk y F' H' (rel.keepAll keep rel'.ex) ⟨fun a o h _ => keep a o h, fun a z => .inl z, fun a h => ?_⟩ ?_
      · cases e : H a with
        | none => exact absurd e h
        | some o => rw [(keep a o e).1]; exact fun z => by cases z
      · cases r with
        | im d => exact q'
        | fr d =>
          obtain ⟨a, e1, f1, h0, o, _⟩ := q'
          refine ⟨a, e1, f1, ?_, o, fun z => no_owns (ds := c :: es) z⟩
          cases e : H a with
          | none => rfl
          | some u =>
            have ne := ne_of_none e hp
            rw [upd_ne ne, e] at h0
            cases h0
        | sl i => cases ho
end
end Z
set_option maxRecDepth 100000
set_option maxHeartbeats 1000000
/-! Z14: classmethods called, classes called through a name. -/
namespace Z
open PySem PySem.Spec PyProof.Rows L2 Evl ClX
section
variable {X : Cx} {CX : CXT} {k : Nat} {C p g f : Addr} {mc : Value} {sp : Sp} {E : XK} {o e : Expr} {es : List Expr} {m x : Str} {pos apos p1 : Pos} {ta : TE} {t : TA} {pl : Sem Bool} {ρ ρ1 ρ2 : Env} {ds : List D} {r : R} {d' : D} {S : List D → R → Prop} {SM : D → List D → R → D → Prop}
theorem run_cmG {pins : List (Addr × Obj)} {σ : L2.St} {H : Hp} {s : Shared} {q : Addr} {Q : VK} {us : List Value} {vs : List V} (G : MCall X g sp) (I : Inv X ((q, PySem.W.methodObj (.ref g) (.ref C)) :: pins) σ H s) (r : Vals vs us) (h : sp (.ref C :: vs) H Q EF) :
    wpAny (model X.prog X.w) X.A (call (.ref q) us) (EP X pins σ Q) X.xe s := by
  obtain ⟨k, F, hgu, hr⟩ := G.run
  have z : wpAny (model X.prog X.w) X.A (call (.ref q) us) (EP X ((q, PySem.W.methodObj (.ref g) (.ref C)) :: pins) σ Q) X.xe s := wpAny_call (PySem.W.method_call (pin_at I) (run_fnG (us := .ref C :: us) (vs := .ref C :: vs) F hgu (hr.mono (Nat.le_add_right _ _)) passF I (.cons rfl r) h))
  exact thn z fun _ _ y => unpinE y
/-- C.m(e, ..), m a classmethod -/
theorem we_cmeth (G : MCall X g (spP X.K S)) (he : WE X o ρ (.im (.obj C)) ρ1) (r0 : CRead X.K C mc) (c : CMet X.K C mc m p g) (ha : WA X (e :: es) ρ1 ds ρ2) (hS : S (.obj C :: ds) r) (ho : r.ok = true := by rfl)
    (hst : starEach (e :: es) X.env = (false, eval e X.env) :: starEach es X.env := by rfl) (hpl : (backTo pos (starEach es X.env)).any (·.1) = false := by rfl)
    (ht : eval (.Call (.Attribute o m apos) (e :: es) [] pos) X.env = (do
      let ov ← eval o X.env
      standAt apos.atName
      let (f, first) ← holding [ov] (getMethod ov m pl)
      callWith pos f first (backTo pos (starEach (e :: es) X.env)) (backToKw pos (keywordEach [] X.env))) := by rfl) : WE X (.Call (.Attribute o m apos) (e :: es) [] pos) ρ r ρ2 := by
  refine ⟨fun pins s σ H Q I ⟨F, rel, kk⟩ => ?_⟩
  refine PySem.W.methodCall_KW (pl := pl) (thn (he.run pins s σ H (fun v H1 => ∃ F1, Rel X.K F1 ρ1 σ H1 ∧ Stp ρ σ F H ρ1 σ F1 H1 ∧ v = .ref C) I ⟨F, rel, fun v F1 H1 rel1 st1 q => ⟨F1, rel1, st1, by have q : Rep X.K F1 v (.obj C) := q; cases q; rfl⟩⟩) fun u s1 ⟨v, H1, I1, rv, F1, rel1, st1, ev⟩ => ?_) ht
  subst ev
  obtain rfl : u = Value.ref C := rv
  refine getmethcm_ok I1 r0 c fun s2 I2 => ?_
  refine callwith_cm I2 (base_none I1 (Nat.le_refl _)) c.fi (thn (ha.run pos _ s2 σ H1 (fun vs H2 => ∃ F2, Rel X.K F2 ρ2 σ H2 ∧ Stp ρ1 σ F1 H1 ρ2 σ F2 H2 ∧ Reps X.K F2 vs ds) I2 ⟨F1, rel1, fun vs F2 H2 rel2 st2 q => ⟨F2, rel2, st2, q⟩⟩) fun us s3 ⟨vs, H2, I3, rvs, F2, rel2, st2, rd⟩ => ⟨⟨pin_at I3, I3.kIn⟩, ?_⟩) hst hpl
  refine run_cmG G I3 rvs ⟨.obj C :: ds, r, hS, backP rel rel2 (st1.trans rel st2) (.cons (.obj C) rd) ho kk⟩
theorem we_cmeth0 (G : MCall X g (spP X.K S)) (he : WE X o ρ (.im (.obj C)) ρ1) (r0 : CRead X.K C mc) (c : CMet X.K C mc m p g) (hS : S [.obj C] r) (ho : r.ok = true := by rfl)
    (ht : eval (.Call (.Attribute o m apos) [] [] pos) X.env = (do
      let ov ← eval o X.env
      standAt apos.atName
      let (f, first) ← holding [ov] (getMethod ov m pl)
      callWith pos f first (backTo pos (starEach [] X.env)) (backToKw pos (keywordEach [] X.env))) := by rfl) : WE X (.Call (.Attribute o m apos) [] [] pos) ρ r ρ1 := by
  refine ⟨fun pins s σ H Q I ⟨F, rel, kk⟩ => ?_⟩
  refine PySem.W.methodCall_KW (pl := pl) (thn (he.run pins s σ H (fun v H1 => ∃ F1, Rel X.K F1 ρ1 σ H1 ∧ Stp ρ σ F H ρ1 σ F1 H1 ∧ v = .ref C) I ⟨F, rel, fun v F1 H1 rel1 st1 q => ⟨F1, rel1, st1, by have q : Rep X.K F1 v (.obj C) := q; cases q; rfl⟩⟩) fun u s1 ⟨v, H1, I1, rv, F1, rel1, st1, ev⟩ => ?_) ht
  subst ev
  obtain rfl : u = Value.ref C := rv
  refine getmethcm_ok I1 r0 c fun s2 I2 => ?_
  refine PySem.W.callWith_M0 (first := []) ⟨pin_at I2, I2.kIn⟩ c.fi ?_
  exact run_cmG G I2 .nil ⟨[.obj C], r, hS, backP rel rel1 st1 (.cons (.obj C) .nil) ho kk⟩
/-- x(e, ..), x a local name that holds the class at C -/
theorem we_makeV {i : Nat} (G : MCall X f (spM X.K SM)) (M : Mk X.K C f) (ha : WA X (e :: es) ρ ds ρ1) (hS : SM (.ins C []) ds (.im .non) d') (hi : ρ[i]? = some (.im (.obj C)) := by rfl) (hN : X.N[i]? = some x := by rfl) (hv : Vis X.env.scope x := by first | exact .inl rfl | exact .inr (.inl rfl) | exact .inr (.inr rfl))
    (hd : (x == ("__debug__" : Str)) = false := by decide) (hcd : (x == ("__classdict__" : Str)) = false := by decide) (he : starEach (e :: es) X.env = (false, eval e X.env) :: starEach es X.env := by rfl) (hpl : (backTo pos (starEach es X.env)).any (·.1) = false := by rfl) :
    WE X (.Call (.Name x p1) (e :: es) [] pos) ρ (.fr d') ρ1 := by
  obtain ⟨k, F, hgu, hr⟩ := G.run
  refine ⟨fun pins s σ H Q I ⟨F0, rel, kk⟩ => ?_⟩
  obtain ⟨v0, hv0, rv0⟩ := rel.im i _ hi
  cases rv0
  refine wpAny_Call_Name_kw (thn ((pe_var (pos := p1) (i := i) hN hv hd hcd).run pins s σ H (fun v H1 => v = .ref C ∧ H1 = H) I ⟨.ref C, hv0, rfl, rfl⟩) fun u s1 ⟨v, H1, I1, r1, ev, eH⟩ => ?_)
  subst ev
  subst eH
  cases (show u = Value.ref C from r1)
  refine PySem.W.callWith_K (h₀ := X.base) I.ok.mod.kin M.kp (thn (ha.run pos pins s1 σ H1 (fun vs H2 => ∃ F2, Rel X.K F2 ρ1 σ H2 ∧ Stp ρ σ F0 H1 ρ1 σ F2 H2 ∧ Reps X.K F2 vs ds) I1 ⟨F0, rel, fun vs F2 H2 rel2 st2 q => ⟨F2, rel2, st2, q⟩⟩) fun us s2 ⟨vs, H2, I2, r, F2, rel2, st2, rd⟩ => ⟨I2.kIn, ?_⟩) he hpl
  exact run_makeG M F hgu (hr.mono (by omega)) passF I2 r fun y dx hy hdx ne => ⟨.ins C [], ds, .im .non, d', hS, backI rel rel2 st2 rd kk hy hdx ne⟩
end
/-! ### what is raised -/
section
variable {X : Cx} {W : WX} {pn : List Nat} {st : Stmt} {rest a b : List Stmt} {c e o : Expr} {es : List Expr} {pos apos : Pos} {ρ ρ1 ρ2 : Env} {C : Addr} {k : Bool} {P : Post} {ds : List D} {d : D}
/-- an instance of the class at C is raised, at slots ρ' -/
def tX (K : PySem.W.Frag) (W : WX) (pn : List Nat) (ρ : Env) (C : Addr) (ρ' : Env) : TS := fun _ σ H => ∃ F, Rel K F ρ σ H ∧ ∀ σ' F' H' d, Rel K F' ρ' σ' H' → Stp ρ σ F H ρ' σ' F' H' → Pin pn σ σ' → W (.ref C) d σ' H'
def tXE (K : PySem.W.Frag) (W : WX) (ρ : Env) (C : Addr) (ρ' : Env) : TE := fun σ H _ => ∃ F, Rel K F ρ σ H ∧ ∀ F' H' d, Rel K F' ρ' σ H' → Stp ρ σ F H ρ' σ F' H' → W (.ref C) d σ H'
def tXA (K : PySem.W.Frag) (W : WX) (ρ : Env) (C : Addr) (ρ' : Env) : TA := fun σ H _ => ∃ F, Rel K F ρ σ H ∧ ∀ F' H' d, Rel K F' ρ' σ H' → Stp ρ σ F H ρ' σ F' H' → W (.ref C) d σ H'
abbrev RB (X : Cx) (W : WX) (pn : List Nat) (sts : List Stmt) (ρ : Env) (C : Addr) (ρ' : Env) : Prop := PSs X sts (tX X.K W pn ρ C ρ')
abbrev RS (X : Cx) (W : WX) (pn : List Nat) (st : Stmt) (ρ : Env) (C : Addr) (ρ' : Env) : Prop := PS X st (tX X.K W pn ρ C ρ')
abbrev RE (X : Cx) (W : WX) (e : Expr) (ρ : Env) (C : Addr) (ρ' : Env) : Prop := PE X e (tXE X.K W ρ C ρ')
abbrev RA (X : Cx) (W : WX) (es : List Expr) (ρ : Env) (C : Addr) (ρ' : Env) : Prop := PA X es (tXA X.K W ρ C ρ')
theorem rb_go (h : WN X pn st ρ ρ1) (kk : RB X W pn rest ρ1 C ρ2) : RB X W pn (st :: rest) ρ C ρ2 := by
  refine ⟨fun pins s σ H D I ⟨F, rel, w⟩ => ?_⟩
  have hh := h { nx := fun x => x = ρ1 } rfl
  refine wpAny_execs_cons (thn (hh.run pins s σ H { D with nx := fun σ' H' => ∃ F', Rel X.K F' ρ1 σ' H' ∧ Stp ρ σ F H ρ1 σ' F' H' ∧ Pin pn σ σ' } I
    ⟨F, rel, fun ρ' σ' F' H' rel' st' p' g => by subst g; exact ⟨F', rel', st', p'⟩, fun _ _ _ _ _ _ _ _ _ _ z => z.elim, fun _ _ _ _ _ _ _ z => z.elim, fun _ _ _ _ _ _ _ z => z.elim⟩) fun f s1 q => ?_)
  cases f with
  | next =>
    obtain ⟨σ', H', I', F', rel', st', p'⟩ := q
    exact kk.run pins s1 σ' H' D I' ⟨F', rel', fun σ2 F2 H2 d rel2 st2 p2 => w σ2 F2 H2 d rel2 (st'.trans rel st2) (p'.trans p2)⟩
  | ret v => exact q
  | brk => exact q
  | cont => exact q
/-- the first statement raises -/
theorem rb_st (h : RS X W pn st ρ C ρ1) : RB X W pn (st :: rest) ρ C ρ1 := by
  refine ⟨fun pins s σ H D I z => ?_⟩
  refine wpAny_execs_cons (thn (h.run pins s σ H { nx := fun _ _ => False, rt := D.rt, bk := D.bk, ct := D.ct } I z) fun f s1 q => ?_)
  cases f with
  | next => obtain ⟨_, _, _, q⟩ := q; exact q.elim
  | ret v => exact q
  | brk => exact q
  | cont => exact q
theorem rs_if (hc : WT X c ρ k ρ1) (ha : k = true → RB X W pn a ρ1 C ρ2) (hb : k = false → RB X W pn b ρ1 C ρ2) : RS X W pn (.If c a b pos) ρ C ρ2 := by
  cases k with
  | true =>
    refine PS.imp (ps_if (u := tNever) hc (ha rfl) pss_never) fun D σ H ⟨F, rel, w⟩ => ⟨F, rel, fun F' H' rel' st' => ?_⟩
    show tX X.K W pn ρ1 C ρ2 D σ H'
    exact ⟨F', rel', fun σ2 F2 H2 d rel2 st2 p2 => w σ2 F2 H2 d rel2 (st'.trans rel st2) p2⟩
  | false =>
    refine PS.imp (ps_if (t := tNever) hc pss_never (hb rfl)) fun D σ H ⟨F, rel, w⟩ => ⟨F, rel, fun F' H' rel' st' => ?_⟩
    show tX X.K W pn ρ1 C ρ2 D σ H'
    exact ⟨F', rel', fun σ2 F2 H2 d rel2 st2 p2 => w σ2 F2 H2 d rel2 (st'.trans rel st2) p2⟩
theorem rs_expr (h : RE X W e ρ C ρ1) (hs : swapsWith e none pos.line X.env = pure false := by rfl) : RS X W pn (.Expr e pos) ρ C ρ1 :=
  PS.imp (ps_expr h hs) fun D σ H ⟨F, rel, w⟩ => ⟨F, rel, fun F' H' d rel' st' => w σ F' H' d rel' st' Pin.refl⟩
theorem ra_one (h : RE X W e ρ C ρ1) (hs : starEach [e] X.env = (false, eval e X.env) :: starEach [] X.env := by rfl) : RA X W [e] ρ C ρ1 :=
  PA.imp (pa_cons h (wa_nil (ρ := ρ)) hs) fun σ H Q z => z
/-- a frozen exception is raised: nothing is told of it but its class -/
def PMkC (X : Cx) (e : Expr) (C : Addr) : Prop := PMk X e (fun σ H Q => ∀ d H', Up H H' → Q (.ref C) d H')
theorem rs_raise (hc : X.calm = true) (tk : Takes X W) (he : PMkC X e C) : RS X W pn (.Raise (some e) none pos) ρ C ρ :=
  PS.imp (ps_raise hc tk he) fun D σ H ⟨F, rel, w⟩ d H' up => by
    obtain ⟨r2, s2⟩ := up_done rel up
    exact w σ F H' d r2 s2 Pin.refl
/-- a promise that an instance of a class is raised; nothing that stood is changed -/
def spX (K : PySem.W.Frag) (S : List D → Addr → Prop) : Sp := fun vs H _ E => ∃ ds C, S ds C ∧ ∃ F, Rel K F (ds.map .im) (vs.map some) H ∧ ∀ F' H' d, Rel K F' (ds.map .im) (vs.map some) H' → Stp (ds.map .im) (vs.map some) F H (ds.map .im) (vs.map some) F' H' → E (.ref C) d H'
end
section
variable {P : Program} {w : World} {K : PySem.W.Frag} {mg : Str → Option Value} {base : Heap} {x qual : Str} {st : Stmt} {f : Addr} {fd : FuncData} {N ps : List Str} {k : Nat}
/-- a def that raises -/
theorem def_X {S : List D → Addr → Prop} (F : Fun K x qual st f fd) (sc : FnScope N ps (defScope st)) (bi : Binds K fd ps []) (len : ∀ ds C, S ds C → ds.length = ps.length)
    (hb : ∀ (cdv : Value) (A : Around) (outer : List PySem.Env) (s : Shared) (H : Hp) (E : XK) (X : Cx) (W : WX), X = cxOf (L2.CX P w) P w K mg base N qual (defScope st) f cdv A outer s H E → Takes X W → X.A.guards = some [] → Room k X.A → ∀ ds C, S ds C → ∃ ρ', RB X W [] (defBody st) (ds.map .im ++ List.replicate (N.length - (ds.map SV.im).length) .un) C ρ') :
    FnG P w K mg base (L2.CX P w) (k + 1) f (spX K S) := by
  obtain ⟨oc, od, kV, doc, pm, an, cdv, ct, osl, rfl, lk, hcd⟩ := F.ex
  refine (g_of (sp := spX K S) (dvs := []) lk hcd sc bi .nil (fun vs H Q E h => ?_) fun A outer s H vs Q E hg hr h => ?_).imp fun vs H Q E h => by rw [List.append_nil]; exact h
  · obtain ⟨ds, C, hS, F, rel, _⟩ := h
    have := rel.len
    rw [List.length_map, List.length_map] at this
    rw [this, len ds C hS]
  · obtain ⟨ds, C, hS, F, rel, e⟩ := h
    have hl : vs.length = (ds.map SV.im).length := by have := rel.len; rwa [List.length_map] at this
    have tk : Takes (cxOf (L2.CX P w) P w K mg base N qual (defScope st) f cdv A outer s H E) (fun cls d _ H => E cls d H) := takes_of rfl rfl rfl rfl
    obtain ⟨ρ', hrb⟩ := hb cdv A outer s H E _ _ rfl tk hg hr ds C hS
    refine ⟨_, hrb, F, rel_start rel, fun σ' F' H' d rel' st' p' => ?_⟩
    have keep : ∀ a o, H a = some o → H' a = some o ∧ F' a = F a := fun a o h => st'.keep a o h fun z => no_owns (owns_start hl z)
    refine e F' H' d (rel.keepAll keep rel'.ex) ⟨fun a o h _ => keep a o h, fun a z => .inl z, fun a h => ?_⟩
    cases q : H a with
    | none => exact absurd q h
    | some o => rw [(keep a o q).1]; exact fun z => by cases z
end
end Z
set_option maxRecDepth 100000
set_option maxHeartbeats 1000000
/-! Z15: own exception classes whose __init__ calls super().__init__(..). -/
namespace Z
open PySem PySem.Spec PyProof.Rows L2 Evl ClX NdefX
/-- the __init__ of the exception class at D, with the cell of the class -/
structure SupF (P : Program) (K : PySem.W.Frag) (x qual : Str) (st : Stmt) (f c cc D : Addr) : Prop where
  ex : ∃ (oc : Value) (od : Option Addr) (kV doc pm : Value) (an : Option Addr) (ct : Value) (osl : Array (Option Value)),
    K.lookup f = some ⟨oc, od, .func (PySem.W.fnX x qual (defArgs st) (defBody st) (defScope st) [("__class__", cc)] .none kV doc pm an (.ref c) ct), osl⟩
  code : PySem.W.codeIn K (.ref c) qual = true
  file : ∃ (ccl : Value) (cdd : Option Addr) (vs : Array Value) (ccs : Array (Option Value)) (file : Str) (tf : Tok), K.lookup c = some ⟨ccl, cdd, .fields vs, ccs⟩ ∧ vs[2]? = some (.str file tf) ∧ ((P.main.file : Str) == file) = true
  cel : ∃ (cl : Value) (cld : Option Addr) (csl : Array (Option Value)), K.lookup cc = some ⟨cl, cld, .cell (some (.ref D)), csl⟩
  cD : ∃ cd, PySem.W.clsIn K D = some cd
  top : (P.main.scope.names.lookup ("super" : Str)).isSome = false
/-- what the class C of the object that is made says -/
structure SupC (K : PySem.W.Frag) (C D : Addr) (B i newId : String) (bmB : List Value) : Prop where
  FB : ExcBaseFacts B newId i bmB
  KF : PySem.W.KxsFacts B i
  q : PySem.W.excInitIn K C bmB newId = true
  sub : PySem.W.mroIn K C (.ref D) = some true
  opq : PySem.W.nsIn K cStatics "thirdparty.any" = some none
  init : PySem.W.ks_superIn K C D "__init__" = some (some (.builtin i))
  isB : PySem.W.subIn K (.ref C) (.type B) = some true
theorem clsIn_at {K : PySem.W.Frag} {h : Heap} {D : Addr} {cd : ClassData} (X : K.In h) (hD : PySem.W.clsIn K D = some cd) : ∃ oD, h.get? D = some oD ∧ oD.data = .cls cd := by
  unfold PySem.W.clsIn at hD
  split at hD
  · rename_i c d cd' sl ho
    cases hD
    exact ⟨_, X _ _ ho, rfl⟩
  · cases hD
section
variable {X : Cx} {pins : List (Addr × Obj)} {σ : L2.St} {H : Hp} {s : Shared} {a C D : Addr} {B i newId : String} {bmB : List Value}
/-- the wrapper of the built-in __init__ is called -/
theorem call_kxs {u : Addr} {us : List Value} {Q : Value → Shared → Prop} {A : Around} {E : Value → Shared → Prop} (T : SupC X.K C D B i newId bmB) (I : Inv X pins σ H s) (e : H a = some (exo a C none)) (hu : s.heap.get? u = some (PySem.W.kxs_mw i a)) (hl : us.length ≤ sizeLine) (h : ∀ s', Inv X pins σ H s' → Q .none s') :
    wpAny (model X.prog X.w) A (call (.ref u) us) Q E s := by
  obtain ⟨nm, N', qn, bs, bm, hdct, sn, sub, ab, col, dd, k0, k1, k2, k3, k5, hC, hT⟩ := PySem.W.excInit_of I.kIn T.q
  obtain ⟨t1, he⟩ := exo_at I.hok e
  obtain ⟨hh, g, d, tk, os⟩ := s
  refine wpAny_call (codeAny_of_tree ?_)
  show wpAny _ A.in1 (callAny (.ref u) ⟨us, []⟩) _ _ _
  simp only [callAny]
  refine wpAny_bind (wpAny_load hu ?_)
  simp only [PySem.W.kxs_mw, show (Value.type "method-wrapper" == Value.type "method" || Value.type "method-wrapper" == Value.type "builtin_function_or_method" || Value.type "method-wrapper" == Value.type "method-wrapper") = true by decide, if_true]
  refine PySem.W.KFB.if_so (by decide) ?_
  refine wpAny_bind (PySem.W.check_bound_init T.FB.toExcCallFacts hC he rfl ?_)
  refine wpAny_bind (wpAny_pure (wpAny_pure ?_))
  refine ⟨plainId_quiet T.FB.init.plain _, codeAny_builtin T.FB.initEntry ?_⟩
  refine PySem.W.exc_init_tree (cls := .ref C) (t0 := t1) (dv := none) (c2 := .none) (c3 := .none) (b4 := .bool false) he hl fun h' k hx _ => ?_
  have J := I.write (t' := tk) (x := a) (e := a) (o := exo a C none) (by rw [e]; exact True.intro) (.inl rfl) k ⟨_, hx⟩ (exo_ok hx)
  have eu : upd H a (exo a C none) = H := by
    funext b
    by_cases hb : b = a
    · rw [hb, upd_same, e]
    · rw [upd_ne hb]
  rw [eu] at J
  exact h _ J
end
section
variable {X : Cx} {pins : List (Addr × Obj)} {σ : L2.St} {H : Hp} {s : Shared} {a C D f c cc : Addr} {B i newId : String} {bmB : List Value} {x qual : Str} {st : Stmt} {ta : TA} {p0 p1 p2 p3 ap : Pos} {e : Expr} {es : List Expr} {ar : Arg} {body : List Stmt} {pl : Sem Bool}
theorem load_self {A : Around} {E : Value → Shared → Prop} {y : Str} {Q : Value → Shared → Prop} (I : Inv X pins σ H s) (hN : X.N[0]? = some y) (hs : σ[0]? = some (some (.ref a))) (hk : X.env.kindOf y = some .local) (h : Q (.ref a) s) : wpAny (model X.prog X.w) A (loadName X.env y) Q E s := by
  obtain ⟨m, hns, hl⟩ := I.loc
  obtain ⟨u, ru, lk⟩ := hl 0 y _ hN hs (.inl hk)
  cases (show u = Value.ref a from ru)
  rcases lk with ⟨_, hm⟩ | ⟨hz, _⟩
  · exact wpAny_loadName_local I.ok.kind hk hns hm h
  · rcases hz with hz | hz <;> rw [hk] at hz <;> cases hz
/-- super().__init__(e, ..), the first statement -/
theorem super_first {R : Hp → Prop} (T : SupC X.K C D B i newId bmB) (F : SupF X.prog X.K x qual st f c cc D) (I : Inv X pins σ H s) (ea : H a = some (exo a C none)) (hm : X.mg "super" = none) (hs : σ[0]? = some (some (.ref a))) (ha : PA X (e :: es) ta)
    (h : ta σ H fun us H1 => us.length ≤ sizeLine ∧ H1 a = some (exo a C none) ∧ R H1)
    (hN : X.N[0]? = some ar.arg) (har : ((defArgs st).posonlyargs ++ (defArgs st).args).head? = some ar) (hka : X.env.kindOf ar.arg = some .local) (hks : X.env.kindOf "super" = some .globalImplicit) (hkc : X.env.kindOf "__class__" = some .free) (hfu : X.env.func = some f) (hco : X.env.code = .ref c) (hcl : X.env.cells.lookup ("__class__" : Str) = some cc)
    (he : eval (.Call (.Attribute (.Call (.Name "super" p0) [] [] p1) "__init__" ap) (e :: es) [] p2) X.env = (do
      let ov ← attributeBase (.Call (.Name "super" p0) [] [] p1) "__init__" X.env (eval (.Call (.Name "super" p0) [] [] p1) X.env)
      standAt ap.atName
      let (f, first) ← holding [ov] (getMethod ov "__init__" pl)
      callWith p2 f first (backTo p2 (starEach (e :: es) X.env)) []))
    (hsw : swapsWith (.Call (.Attribute (.Call (.Name "super" p0) [] [] p1) "__init__" ap) (e :: es) [] p2) none p3.line X.env = pure false)
    (hse : starEach (e :: es) X.env = (false, eval e X.env) :: starEach es X.env) (hpl : (backTo p2 (starEach es X.env)).any (·.1) = false) :
    PySem.wpAt (model X.prog X.w) X.A (.func body X.env) (exec (.Expr (.Call (.Attribute (.Call (.Name "super" p0) [] [] p1) "__init__" ap) (e :: es) [] p2) p3) X.env) (fun fl s' => fl = .next ∧ ∃ H1, Inv X pins σ H1 s' ∧ H1 a = some (exo a C none) ∧ R H1) X.xe s := by
  obtain ⟨oc, od, kV, doc, pm, an, ct, osl, lk⟩ := F.ex
  obtain ⟨ccl, cdd, vs, ccs, file, tf, lc, hvs, hfile⟩ := F.file
  obtain ⟨cl, cld, csl, lcc⟩ := F.cel
  obtain ⟨cd, hD⟩ := F.cD
  obtain ⟨oD, hD1, hD2⟩ := clsIn_at I.kIn hD
  obtain ⟨t1, hx⟩ := exo_at I.hok ea
  refine ks_wpAt_Expr_any ?_ I.quiet hsw
  refine ks_wpAt_MethodCall (pl := pl) ?_ he
  refine ks_wpAt_super_base hks hkc (by decide) hfu (I.kIn _ _ lk) rfl har hco (I.kIn _ _ lc) rfl hvs hfile F.top ?_
  obtain ⟨mb, h1, h2⟩ := I.mod.blt
  refine PySem.W.ks_loadName_global I.ok.kind hks (Calls.loadGlobal_builtin (v := .type "super") (by rw [I.ok.glob]; exact I.mod.glob.keeps I.bk) hm (by rw [I.ok.blt]; exact h1.keeps I.bk) ((h2 _ (by decide)).trans rfl) ⟨rfl, ?_⟩)
  refine wpAny_loadName_free I.ok.kind hkc hcl ⟨_, I.kIn _ _ lcc, rfl⟩ ?_
  refine load_self I hN hs hka ?_
  refine ks_wpAny_isType_cls hD1 hD2 ⟨rfl, ?_⟩
  have hIn := PySem.W.InstAt
  obtain ⟨hh, g, d, t, os⟩ := s
  refine ks_wpAny_call_super hD1 hD2 hx rfl (fun c e => by cases e) (PySem.W.looks_mroIn I.kIn T.sub) fun h' eq k => ?_
  have I1 := pin_new (t' := t) I k (Nat.le_refl _) eq (fun v => by simp)
  have hB : PySem.W.Looks (model X.prog X.w) h' (isInstance (.ref a) (.type B)) true := by
    have II : PySem.W.InstAt h' a { cls := .ref C, dict := none, data := .fields #[.ref t1, .none, .none, .none, .bool false, .none] } C none := ⟨k _ _ hx, rfl, rfl, trivial⟩
    exact II.type.andThen (PySem.W.looks_subIn I1.kIn T.isB)
  have hini := T.init
  unfold PySem.W.ks_superIn at hini
  cases hc : PySem.W.clsIn X.K C with
  | none => rw [hc] at hini; cases hini
  | some cdC =>
    rw [hc] at hini
    have hne : a ≠ C := PySem.W.ks_ne I.kIn (ox := { cls := .ref C, dict := none, data := .fields #[.ref t1, .none, .none, .none, .bool false, .none] }) (odx := none) (C := C) ⟨hx, rfl, rfl, trivial⟩ hc
    refine PySem.W.kxs_getMethod T.KF eq (PySem.W.looks_opaque I1.kIn T.opq) (l₀ := cdC.mro) (fun A Q E s k q => wpAny_bind ((PySem.W.looks_clsIn I1.kIn hc) A _ E s k (wpAny_pure q))) rfl I1.kIn hini hB hne (by decide) ?_
    have I2 := pin_new (o := PySem.W.kxs_mw i a) (h' := h'.push (PySem.W.kxs_mw i a)) (t' := t + 1) I1 (fun b o e => Heap.get?_push_of_some _ e) (Nat.le_refl _) (Heap.get?_push_at rfl rfl) (fun v => by simp)
    have go : wpAny (model X.prog X.w) X.A (spliced (backTo p2 (starEach (e :: es) X.env))) (fun us s1 => PySem.W.KxsAt i h'.objs.size a s1.heap ∧ wpAny (model X.prog X.w) X.A (call (.ref h'.objs.size) ([] ++ us)) (fun _ s' => ∃ H1, Inv X pins σ H1 s' ∧ H1 a = some (exo a C none) ∧ R H1) X.xe s1) X.xe _ :=
      thn (ha.run p2 _ _ σ H _ I2 h) fun us s1 ⟨vs, H1, I3, rv, hl, e1, r⟩ => ⟨pin_at I3, call_kxs T I3 e1 (pin_at I3) (by show us.length ≤ _; rw [← rv.length]; exact hl) fun s' J => ⟨H1, unpin (unpin J), e1, r⟩⟩
    rw [hse] at go ⊢
    refine wpAny_mono (PySem.W.kxs_callWith (i := i) (x := a) (by show (false || (backTo p2 (starEach es X.env)).any (·.1)) = false; rw [hpl]; rfl) (PySem.Calls.evalArgs_plain go)) (fun _ _ z => ⟨rfl, z⟩) fun _ _ z => z
end
section
variable {P : Program} {w : World} {K : PySem.W.Frag} {mg : Str → Option Value} {base : Heap} {outer : List PySem.Env} {A : Around} {s : Shared} {H : Hp} {a C D f c cc : Addr} {B i newId : String} {bmB : List Value} {x qual : Str} {st : Stmt} {p0 p1 p2 p3 ap : Pos} {e : Expr} {es : List Expr} {rest : List Stmt} {ar : Arg} {N ps : List Str} {k : Nat} {us : List Value} {vs : List V} {Q : VK} {E : XK}
abbrev nfS (x qual : Str) (st : Stmt) (c cc : Addr) : NF := ⟨x, qual, defArgs st, defBody st, defScope st, [("__class__", cc)], c⟩
theorem sup_cells (F : SupF P K x qual st f c cc D) (e0 : Env0 P w K mg base A outer s H) : CellsAt (nfS x qual st c cc).cl ["__class__"] [some (.ref D)] s.heap H := by
  obtain ⟨cl, cld, csl, lcc⟩ := F.cel
  have z := e0.bs _ _ (e0.mod.kin _ _ lcc)
  have key : ∀ (y : Str) (b : Addr), (nfS x qual st c cc).cl.lookup y = some b → y = "__class__" ∧ b = cc := fun y b h => by
    have h : List.lookup y [(("__class__" : Str), cc)] = some b := h
    simp only [List.lookup] at h
    split at h
    · rename_i q
      exact ⟨eq_of_beq q, (Option.some.inj h).symm⟩
    · cases h
  have hc : s.heap.IsCell cc (some (.ref D)) := ⟨_, z.1, rfl⟩
  refine ⟨rfl, fun y b h => ?_, fun y z b h1 h2 => ?_, fun j y h => ?_⟩
  · obtain ⟨_, rfl⟩ := key y b h
    exact ⟨z.2, _, hc⟩
  · rw [(key _ _ h1).1, (key _ _ h2).1]
  · match j, h with
    | 0, h =>
      have h : some ("__class__" : Str) = some y := h
      cases h
      refine ⟨cc, ?_, fun v hv => ?_⟩
      · show List.lookup ("__class__" : Str) [(("__class__" : Str), cc)] = some cc
        simp [List.lookup]
      · have hv : some (some (V.ref D)) = some (some v) := hv
        cases hv
        exact ⟨.ref D, rfl, hc⟩
    | j + 1, h => simp at h
/-- such an __init__ runs -/
theorem run_sup (F : SupF P K x qual st f c cc D) (T : SupC K C D B i newId bmB) (S : NScope N ps ["__class__"] (defScope st))
    (hbi : ∀ (kV doc pm : Value) (an : Option Addr) (ct : Value) (us : List Value), us.length = ps.length → bindArgs (PySem.W.fnX x qual (defArgs st) (defBody st) (defScope st) [("__class__", cc)] .none kV doc pm an (.ref c) ct) ⟨us, []⟩ = pure (ps.zip us))
    (hst : defBody st = .Expr (.Call (.Attribute (.Call (.Name "super" p0) [] [] p1) "__init__" ap) (e :: es) [] p2) p3 :: rest)
    (hr : Room (k + 1) A) (e0 : Env0 P w K mg base A outer s H) (ea : H a = some (exo a C none)) (hm : mg "super" = none) (r : Vals vs us) (hl : vs.length + 1 = ps.length)
    (hb : ∀ X : Cx, X = ncx (L2.CX P w) P w K mg base N (nfS x qual st c cc) f A outer s H E → Room k X.A → ∃ ta t, PA X (e :: es) ta ∧ PSs X rest t ∧ ta (startF N (.ref a :: vs) [some (.ref D)]) H fun us H1 => us.length ≤ sizeLine ∧ H1 a = some (exo a C none) ∧ t { nx := fun _ H' => Q .non H', rt := Q } (startF N (.ref a :: vs) [some (.ref D)]) H1)
    (hN : N[0]? = some ar.arg) (har : ((defArgs st).posonlyargs ++ (defArgs st).args).head? = some ar) (hka : (defScope st).names.lookup ar.arg = some .local) (hks : (defScope st).names.lookup ("super" : Str) = some .globalImplicit) (hkc : (defScope st).names.lookup ("__class__" : Str) = some .free)
    {pl : PySem.Env → Sem Bool} (he : ∀ env : PySem.Env, eval (.Call (.Attribute (.Call (.Name "super" p0) [] [] p1) "__init__" ap) (e :: es) [] p2) env = (do
      let ov ← attributeBase (.Call (.Name "super" p0) [] [] p1) "__init__" env (eval (.Call (.Name "super" p0) [] [] p1) env)
      standAt ap.atName
      let (f, first) ← holding [ov] (getMethod ov "__init__" (pl env))
      callWith p2 f first (backTo p2 (starEach (e :: es) env)) []) := by intro env; rfl)
    (hsw : ∀ env : PySem.Env, swapsWith (.Call (.Attribute (.Call (.Name "super" p0) [] [] p1) "__init__" ap) (e :: es) [] p2) none p3.line env = pure false := by intro env; rfl)
    (hse : ∀ env : PySem.Env, starEach (e :: es) env = (false, eval e env) :: starEach es env := by intro env; rfl) (hpl : ∀ env : PySem.Env, (backTo p2 (starEach es env)).any (·.1) = false := by intro env; rfl) :
    codeAny (model P w) A (.call (.ref f) ⟨.ref a :: us, []⟩) (CR (L2.CX P w) outer P w H s Q E) s := by
  obtain ⟨oc, od, kV, doc, pm, an, ct, osl, lk⟩ := F.ex
  have KX : K.In s.heap := e0.mod.kin.keeps fun b o e => (e0.bs b o e).1
  have lim : s.heap.NoLimit := e0.mod.nolimit.keeps fun b o e => (e0.bs b o e).1
  have r2 : Vals (V.ref a :: vs) (Value.ref a :: us) := .cons rfl r
  have hl2 : (V.ref a :: vs).length = ps.length := by rw [List.length_cons, hl]
  refine ks_codeAny_call_defAt (fd := PySem.W.fnX x qual (defArgs st) (defBody st) (defScope st) [("__class__", cc)] .none kV doc pm an (.ref c) ct) (body := defBody st) (binds := ps.zip (.ref a :: us)) hr.depth (KX _ _ lk) rfl lim (PySem.W.codeRec_of KX F.code) rfl
    (.of_eq (hbi _ _ _ _ _ _ (by rw [← r2.length]; exact hl2))) S.nocell (fun ⟨n, _⟩ hy => S.par n (List.of_mem_zip hy).1) (fun h₁ hns kp => ?_) S.co S.gen S.kind
  have I : Inv (ncx (L2.CX P w) P w K mg base N (nfS x qual st c cc) f A outer s H E) [] (startF N (.ref a :: vs) [some (.ref D)]) H { s with heap := h₁, toks := s.toks + (ps.zip (.ref a :: us)).length } := inv_startN S hr.hd e0 hl2 r2 (sup_cells F e0) hns kp
  obtain ⟨ta, t, ha, ht, q⟩ := hb _ rfl (hr.deeper _)
  rw [hst]
  show PySem.wpAt (model P w) (A.deeper (envF (nfS x qual st c cc) f s.heap.objs.size)) _ (execs _ (envF (nfS x qual st c cc) f s.heap.objs.size)) _ _ _
  refine ks_wpAt_execs_cons (ks_wpAt_mono (super_first (X := ncx (L2.CX P w) P w K mg base N (nfS x qual st c cc) f A outer s H E) (pl := _) (st := st) (ar := ar) T F I ea hm ?_ ha q hN har hka hks hkc rfl rfl ?_ (he _) (hsw _) (hse _) (hpl _)) (fun fl s' hs => ?_) fun _ _ z => z)
  · unfold startF; rfl
  · show List.lookup ("__class__" : Str) [(("__class__" : Str), cc)] = some cc
    simp [List.lookup]
  obtain ⟨rfl, H1, I1, e1, q1⟩ := hs
  refine wpAt_of_wpAny (wpAny_mono (ht.run [] s' _ H1 _ I1 q1) (fun fl s' hs => ?_) fun e s' hs => hs)
  have fin : ∀ {σ' : L2.St} {H' : Hp} {v : V} {u : Value}, Inv (ncx (L2.CX P w) P w K mg base N (nfS x qual st c cc) f A outer s H E) [] σ' H' s' → L2.RelV v u → Q v H' → CE outer P w H s Q u s' :=
    fun {σ' H' v u} J rv q => ⟨v, H', J.os, J.bare, J.base, J.hok, rv, q⟩
  cases fl with
  | ret u =>
    obtain ⟨v, σ', H', J, rv, q⟩ := hs
    exact fin J rv q
  | next =>
    obtain ⟨σ', H', J, q⟩ := hs
    exact fin (v := V.non) (u := Value.none) J rfl q
  | brk =>
    obtain ⟨_, _, _, q⟩ := hs
    exact False.elim q
  | cont =>
    obtain ⟨_, _, _, q⟩ := hs
    exact False.elim q
end
section
variable {X : Cx} {pins : List (Addr × Obj)} {σ : L2.St} {a C D f fI c cc : Addr} {B i newId x qual : Str}
/-- the made object, without a dict, is taken out of the state -/
theorem mk_endN {H1 H2 : Hp} {hp hp2 h2 : Heap} {g1 g2 : Array GenState} {d1 d2 : Drawn} {t1 t2 : Nat} {os1 os2 : OsState} (I1 : Inv X pins σ H1 ⟨hp, g1, d1, t1, os1⟩)
    (ha : hp.objs.size ≤ a) (k : ∀ b o, hp.get? b = some o → hp2.get? b = some o) (un : Un (frs X.stack) [] (upd H1 a (exo a C none)) H2 hp2 h2) (hok : HOk X.prog X.w H2 h2) (ho : os2 = os1) (hb : AllBare g2)
    (ea : H2 a = some (exo a C none)) :
    ∃ (t0 : Addr) (G : Heap), Inv X pins σ (del H2 a) ⟨G, g2, d2, t2, os2⟩ ∧ (∀ b o, G.get? b = some o → h2.get? b = some o) ∧ G.get? a = none ∧
      h2.get? a = some ({ cls := .ref C, dict := none, data := .fields #[.ref t0, .none, .none, .none, .bool false, .none] } : Obj) ∧ (del H2 a) a = none := by
  obtain ⟨t0, hoe⟩ := exo_at hok ea
  have hn : H1 a = none := I1.hok.fresh ha
  obtain ⟨G, g1', g2'⟩ := restrict h2 fun b => decide (b ≠ a)
  have gk : ∀ b, b ≠ a → G.get? b = h2.get? b := fun b hb => g1' b (decide_eq_true hb)
  have ge : G.get? a = none := g2' a (by simp)
  have nha : ∀ {b : Addr} {o : Obj}, hp.get? b = some o → b ≠ a := fun {b o} z => Nat.ne_of_lt (Nat.lt_of_lt_of_le (Heap.lt_size z) ha)
  have up : ∀ {b : Addr}, b ≠ a → H1 b = none → upd H1 a (exo a C none) b = none := fun {b} hb n => by rw [upd_ne hb]; exact n
  have U : Un (frs X.stack) [] H1 (del H2 a) hp G := {
    keep := fun b o z n hf hx => by
      rw [gk b (nha z)]
      exact un.keep b o (k b o z) (up (nha z) n) hf hx
    slot := fun b o z n hf hx => by
      rw [gk b (nha z)]
      exact un.slot b o (k b o z) (up (nha z) n) hf hx
    free := fun b o z n hx => by
      rw [del_ne (nha z)]
      exact un.free b o (k b o z) (up (nha z) n) hx
    there := fun b o z hx => by
      rw [gk b (nha z)]
      exact un.there b o (k b o z) hx
    tups := fun b xs z => by
      rw [del_ne (ne_of_none z hn)]
      exact un.tups b xs (by rw [upd_ne (ne_of_none z hn)]; exact z)
    frzs := fun b o v z => by
      rw [del_ne (ne_of_none z hn)]
      exact un.frzs b o v (by rw [upd_ne (ne_of_none z hn)]; exact z)
    tbls := fun b ps z => by
      rw [del_ne (ne_of_none z hn)]
      exact un.tbls b ps (by rw [upd_ne (ne_of_none z hn)]; exact z) }
  have hok3 : HOk X.prog X.w (del H2 a) G := fun b o z => by
    have hba : b ≠ a := fun e => by
      rw [e, del_same] at z
      cases z
    rw [del_ne hba] at z
    have noa : ∀ {c : Addr}, H2 c = some (.own b) → c ≠ a := fun {c} hc => at_ne ea hc exo_own
    exact (hok b o z).stay (fun c v hc y => by
        have hca : c ≠ a := by
          rcases hc with hc | hc
          · rw [hc]
            exact hba
          · exact noa hc
        rw [gk c hca]
        exact y)
      (fun c hc => by rw [del_ne (noa hc)]; exact hc) (fun c xs hc => by rw [del_ne (at_ne ea hc exo_tup)]; exact hc)
  have J : Inv X pins σ (del H2 a) ⟨G, g2, d2, t2, os2⟩ := I1.call' (ch := []) ho U hok3 hb (fun b z => absurd z (by simp))
  refine ⟨t0, G, J, fun b o z => ?_, ge, hoe, del_same⟩
  by_cases hba : b = a
  · rw [hba, ge] at z
    cases z
  · exact (gk b hba).symm.trans z
end
section
variable {X : Cx} {pins : List (Addr × Obj)} {σ : L2.St} {a C D f fI c cc : Addr} {B i newId : String} {bmB : List Value} {x : Str} {p pos : Pos} {e : Expr} {es : List Expr} {k : Nat} {sp : Sp} {ta : TA}
/-- what the class of the instance that is made says -/
structure ExC (K : PySem.W.Frag) (C fI : Addr) (B i newId : String) (bmB : List Value) : Prop where
  FB : ExcBaseFacts B newId i bmB
  q : PySem.W.excInitIn K C bmB newId = true
  init : PySem.W.findIn K (.ref C) "__init__" = some (some (.ref fI))
  tI : PySem.W.typeIn K (.ref fI) = some (.type "function")
  kp : PySem.W.keepIn K (.ref C) = true
  exC : PySem.W.subIn K (.ref C) (.type "BaseException") = some true
  tyC : PySem.W.typeIn K (.ref C) = some (.type "type")
/-- the end of __init__: what is told of the state behind -/
def MkQ (a C : Addr) (H1 : Hp) (Q : XK) : VK := fun v H2 => v = .non ∧ ((H2 a = some (exo a C none) ∧ Q (.ref C) none (del H2 a)) ∨ ∃ d fs, H2 a = some (exo a C (some d)) ∧ H2 d = some (exd d fs) ∧ H1 d = none ∧ Q (.ref C) (some d) (upd (del H2 a) d (.xd fs)))
theorem run_mkx {s1 : Shared} {H1 : Hp} {us : List Value} {vs : List V} {Q : XK} (T : ExC X.K C fI B i newId bmB) (F1 : FnG X.prog X.w X.K X.mg X.base (L2.CX X.prog X.w) k fI sp) (hgu : X.A.guards = some []) (hr : Room (k + 1) X.A) (I1 : Inv X pins σ H1 s1) (r1 : Vals vs us) (hz : vs.length ≤ 1000)
    (q1 : ∀ a, H1 a = none → sp (.ref a :: vs) (upd H1 a (exo a C none)) (MkQ a C H1 Q) EF) : wpAny (model X.prog X.w) X.A (call (.ref C) us) (MkP X pins σ Q) X.xe s1 := by
  obtain ⟨nm, N', qn, bs, bm, hdct, sn, sub, ab, col, dd, k0, k1, k2, k3, k5, hC, hT⟩ := PySem.W.excInit_of I1.kIn T.q
  obtain ⟨hp, g, dr, tk, os⟩ := s1
  have hsz : hp.objs.size ≤ hp.objs.size + 1 := Nat.le_succ _
  have hn : H1 (hp.objs.size + 1) = none := I1.hok.fresh hsz
  have hq := q1 (hp.objs.size + 1) hn
  have kk : ∀ b o, hp.get? b = some o → ((hp.push (PySem.W.kdv_tup us)).push (PySem.HandSPX.excO C hp.objs.size)).get? b = some o := fun b o e => Heap.get?_push_of_some _ (Heap.get?_push_of_some _ e)
  have hget : ((hp.push (PySem.W.kdv_tup us)).push (PySem.HandSPX.excO C hp.objs.size)).get? (hp.objs.size + 1) = some (PySem.HandSPX.excO C hp.objs.size) := by heap_get
  have I2 : Inv X pins σ (upd H1 (hp.objs.size + 1) (exo (hp.objs.size + 1) C none)) ⟨(hp.push (PySem.W.kdv_tup us)).push (PySem.HandSPX.excO C hp.objs.size), g, dr, tk, os⟩ :=
    I1.laid (t' := tk) (a := hp.objs.size + 1) (o := exo (hp.objs.size + 1) C none) (h' := (hp.push (PySem.W.kdv_tup us)).push (PySem.HandSPX.excO C hp.objs.size)) kk hsz (exo_ok hget)
  have r2 : Vals (V.ref (hp.objs.size + 1) :: vs) (Value.ref (hp.objs.size + 1) :: us) := .cons rfl r1
  have hus : us.length ≤ sizeLine := by
    rw [← Paired.length r1, sizeLine_eq]
    omega
  refine wpAny_call (PySem.PX.call_own T.FB hT hC (PySem.W.looks_findIn I1.kIn T.init) (fun self => PySem.W.bind_fn I1.kIn self T.tI) hus
    (codeAny_mono (F1 _ X.stack _ _ (Value.ref (hp.objs.size + 1) :: us) _ _ EF hgu (hr.make C us []) (I2.env0.make C us []) r2 hq) fun r s' hq' => ?_))
  cases r with
  | error er => exact passF pins σ _ _ er s' I2 hq'
  | ok fl =>
    cases fl with
    | ret u =>
      obtain ⟨v, H2, os2, bare2, un2, hok2, rv, ev, hh⟩ := hq'
      subst ev
      obtain ⟨h2, g2, d2, t2, os'⟩ := s'
      refine ⟨rv, ?_⟩
      rcases hh with ⟨ea, q2⟩ | ⟨d, fs, ea, ed, hd1, q2⟩
      · obtain ⟨t0, G, J, kG, ge, hoe, na⟩ := mk_endN (d2 := d2) (t2 := t2) I1 hsz kk un2 hok2 os2 bare2 ea
        exact ⟨_, _, _, ⟨G, g2, d2, t2, os'⟩, _, .ref C, none, rfl, J, kG, ge, hoe, ⟨rfl, rfl⟩, rfl, rfl, na, rfl, bare2, raises_own T.exC T.tyC, q2⟩
      · exact mk_end (raises_own T.exC T.tyC) I1 hsz kk un2 hok2 os2 bare2 ea ed hd1 q2
    | next => exact False.elim hq'
    | brk => exact False.elim hq'
    | cont => exact False.elim hq'
theorem pmk_x (T : ExC X.K C fI B i newId bmB) (F1 : FnG X.prog X.w X.K X.mg X.base (L2.CX X.prog X.w) k fI sp) (hgu : X.A.guards = some []) (hr : Room (k + 1) X.A) (hm : X.mg x = some (.ref C)) (ha : PA X (e :: es) ta) (hg : Gl X x := by rfl)
    (hdb : (x == ("__debug__" : Str)) = false := by decide) (he : starEach (e :: es) X.env = (false, eval e X.env) :: starEach es X.env := by rfl) (hpl : (backTo pos (starEach es X.env)).any (·.1) = false := by rfl) :
    PMk X (.Call (.Name x p) (e :: es) [] pos) (fun σ H Q => ta σ H fun vs H1 => vs.length ≤ 1000 ∧ ∀ a, H1 a = none → sp (.ref a :: vs) (upd H1 a (exo a C none)) (MkQ a C H1 Q) EF) := by
  intro pins s σ H Q I h
  refine wpAny_Call_Name_kw (ld_glob I hg hm ?_ hdb)
  refine PySem.W.callWith_K (h₀ := X.base) I.ok.mod.kin T.kp (thn (ha.run pos pins s σ H _ I h) fun us s1 ⟨vs, H1, I1, r1, hz, q1⟩ => ⟨I1.kIn, ?_⟩) he hpl
  exact run_mkx T F1 hgu hr I1 r1 hz q1
theorem pmk_x0 (T : ExC X.K C fI B i newId bmB) (F1 : FnG X.prog X.w X.K X.mg X.base (L2.CX X.prog X.w) k fI sp) (hgu : X.A.guards = some []) (hr : Room (k + 1) X.A) (hm : X.mg x = some (.ref C)) (hg : Gl X x := by rfl)
    (hdb : (x == ("__debug__" : Str)) = false := by decide) :
    PMk X (.Call (.Name x p) [] [] pos) (fun σ H Q => ∀ a, H a = none → sp [.ref a] (upd H a (exo a C none)) (MkQ a C H Q) EF) := by
  intro pins s σ H Q I h
  refine wpAny_Call_Name_kw (ld_glob I hg hm ?_ hdb)
  exact PySem.W.callWith_K0 I.kIn T.kp (run_mkx (us := []) (vs := []) T F1 hgu hr I .nil (Nat.zero_le _) h)
end
/-! ### try -/
section
variable {X : Cx} {pn : List Nat} {body suite rest : List Stmt} {h₀ : ExceptHandler} {hs : List ExceptHandler} {b₀ : Stmt} {np pos pos' : Pos} {ρ ρ1 : Env} {P : Post} {x : Str} {c : Value} {D : Addr}
/-- a try whose body raises nothing -/
theorem wb_try_thru (hb : WB X.nox pn body ρ { P with nx := fun ρ' => WB X pn rest ρ' P }) : WB X pn (.Try body (h₀ :: hs) [] [] pos :: rest) ρ P :=
  wb_cons (M := fun ρ' => WB X pn rest ρ' P) (ps_try_thru0 hb) fun _ g => g
/-- .. whose body raises what its one clause catches -/
theorem wb_try_only (hb : ∀ (W : WX) (pnp : List (Addr × Obj)) (xe : Value → Shared → Prop), Takes (X.tr pnp xe) W → RB (X.tr pnp xe) W pn body ρ D ρ1) (hx : PySem.W.exmOne X.K (.ref D) c = some true)
    (hsu : ∀ (a : Addr) (pnp : List (Addr × Obj)), WB (X.suite a pnp) pn (b₀ :: suite) ρ1 { P with nx := fun ρ' => WB X pn rest ρ' P }) (hc : Names X x c) (hst : X.stack = X.env :: X.outer := by rfl) (hf : X.env.frame = some X.env.locals := by rfl) :
    WB X pn (.Try body [.ExceptHandler (some (.Name x np)) none (b₀ :: suite) pos'] [] [] pos :: rest) ρ P := by
  refine wb_cons (M := fun ρ' => WB X pn rest ρ' P) ?_ fun _ g => g
  have tk : Takes X (fun _ _ _ _ => False) := fun u s' ⟨_, _, _, _, _, _, _, _, _, _, _, _, _, _, _, _, w⟩ => w.elim
  refine PS.imp (ps_try_only (tb := fun W => tX X.K W pn ρ D ρ1) (ts := fun _ _ _ => tS X.K pn ρ1 { P with nx := fun ρ' => WB X pn rest ρ' P }) hst hf hc tk (fun W pnp xe t _ => hb W pnp xe t) fun a oe cls d pnp _ _ => hsu a _) fun Dn σ H ⟨F, rel, a, b, c, d⟩ => ?_
  exact ⟨F, rel, fun σ' F' H' dd rel' st' p' => ⟨true, hx, fun _ _ _ => tS.go rel' rel st' p' a b c d, fun z => by cases z⟩⟩
end
/-! ### expressions that raise -/
section
variable {X : Cx} {W : WX} {CX : CXT} {k : Nat} {E : XK} {m : Str} {apos pos : Pos} {o e : Expr} {es : List Expr} {ρ ρ1 ρ2 : Env} {r r0 : R} {d d' : D} {ds : List D} {C D f : Addr} {gs : List (Str × Z.D)} {S : List Z.D → Addr → Prop} {ta : TE} {t : TA} {sp : Sp}
theorem run_fnGS {pins : List (Addr × Obj)} {σ : L2.St} {H : Hp} {s : Shared} {Q : VK} {us : List Value} {vs : List V} (F : FnG X.prog X.w X.K X.mg X.base CX k f sp) (hg : X.A.guards = some []) (hr : Room k X.A) (hx : L2.PassesAt CX X σ E)
    (I : Inv X pins σ H s) (r : Vals vs us) (h : sp vs H Q E) : codeAny (model X.prog X.w) X.A (.call (.ref f) ⟨us, []⟩) (fun r s' => match r with | .ok (.ret v) => EP X pins σ Q v s' | .ok _ => False | .error e => X.xe e s') s := by
  refine codeAny_mono (F X.A X.stack s H us vs Q E hg hr I.env0 r h) fun r s' hq => ?_
  cases r with
  | error e => exact hx pins H s e s' I hq
  | ok fl =>
    cases fl with
    | ret u => exact I.after hq
    | next => exact False.elim hq
    | brk => exact False.elim hq
    | cont => exact False.elim hq
theorem pe_methX {pl : Sem Bool} (tk : Takes X W) (he : PE X o ta) (c : Cls X.K C) (hm : Meth X.K C m f) (F : FnG X.prog X.w X.K X.mg X.base (L2.CX X.prog X.w) k f sp) (hgu : X.A.guards = some []) (hr : Room k X.A) (ha : PA X (e :: es) t)
    (hst : starEach (e :: es) X.env = (false, eval e X.env) :: starEach es X.env := by rfl) (hpl : (backTo pos (starEach es X.env)).any (·.1) = false := by rfl)
    (ht : eval (.Call (.Attribute o m apos) (e :: es) [] pos) X.env = (do
      let ov ← eval o X.env
      standAt apos.atName
      let (f, first) ← holding [ov] (getMethod ov m pl)
      callWith pos f first (backTo pos (starEach (e :: es) X.env)) (backToKw pos (keywordEach [] X.env))) := by rfl) :
    PE X (.Call (.Attribute o m apos) (e :: es) [] pos) (fun σ H Q => ta σ H fun x H1 => ∃ a dx fs, x = .ref a ∧ H1 a = some (.ins C dx fs) ∧ fs.lookup m = none ∧ t σ H1 fun vs H2 => sp (x :: vs) H2 Q (L2.WE W σ)) := by
  refine ⟨fun pins s σ H Q I h => ?_⟩
  refine PySem.W.methodCall_KW (pl := pl) (thn (he.run pins s σ H _ I h) fun u s1 ⟨x, H1, I1, rx, a, dx, fs, ex, ea, l, q⟩ => ?_) ht
  subst ex
  obtain rfl : u = Value.ref a := rx
  refine getmeth_ok I1 ea c hm l ?_
  refine PySem.W.callWith_K (first := [.ref a]) (h₀ := X.base) I.ok.mod.kin hm.kp (thn (ha.run pos pins s1 σ H1 _ I1 q) fun us s2 ⟨vs, H2, I2, r, q2⟩ => ⟨I2.kIn, ?_⟩) hst hpl
  exact wpAny_call (run_fnGS (us := .ref a :: us) (vs := .ref a :: vs) F hgu hr (L2.passAt tk σ) I2 (.cons rfl r) q2)
/-- the callee raises: what the caller sees -/
theorem backX {K : PySem.W.Frag} {F F1 H H1 : Hp} {σ : L2.St} {Q : VK} {vs : List V} (rel : Rel K F ρ σ H) (rel1 : Rel K F1 ρ1 σ H1) (st1 : Stp ρ σ F H ρ1 σ F1 H1) (rd : Reps K F1 vs ds) (hS : S ds D)
    (kk : ∀ F' H' d, Rel K F' ρ1 σ H' → Stp ρ σ F H ρ1 σ F' H' → W (.ref D) d σ H') : spX K S vs H1 Q (L2.WE W σ) := by
  refine ⟨ds, D, hS, F1, ?_, fun F' H' d rel' st' => ?_⟩
  · exact rel_args rd rel1.ex
  · have keep : ∀ a o, H1 a = some o → H' a = some o ∧ F' a = F1 a := fun a o h => st'.keep a o h no_owns
    have dm : ∀ a, H1 a ≠ none → H' a ≠ none := st'.dom
    exact kk F' H' d (rel1.keepAll keep rel'.ex) (st1.trans rel ⟨fun a o h _ => keep a o h, fun a z => .inl z, dm⟩)
theorem re_meth (tk : Takes X W) (G : MCall X f (spX X.K S)) (he : WE X o ρ (.im (.ins C gs)) ρ1) (c : Cls X.K C) (hm : Meth X.K C m f) (ha : WA X (e :: es) ρ1 ds ρ2) (hS : S (.ins C gs :: ds) D) (hl : gs.lookup m = none := by rfl)
    (hst : starEach (e :: es) X.env = (false, eval e X.env) :: starEach es X.env := by rfl) (hpl : (backTo pos (starEach es X.env)).any (·.1) = false := by rfl) {pl : Sem Bool}
    (ht : eval (.Call (.Attribute o m apos) (e :: es) [] pos) X.env = (do
      let ov ← eval o X.env
      standAt apos.atName
      let (f, first) ← holding [ov] (getMethod ov m pl)
      callWith pos f first (backTo pos (starEach (e :: es) X.env)) (backToKw pos (keywordEach [] X.env))) := by rfl) : RE X W (.Call (.Attribute o m apos) (e :: es) [] pos) ρ D ρ2 := by
  obtain ⟨k, F, hgu, hr⟩ := G.run
  exact PE.imp (pe_methX tk he c hm F hgu (hr.mono (Nat.le_add_right _ _)) ha hst hpl ht) fun σ H Q ⟨F, rel, kk⟩ => ⟨F, rel, fun v F1 H1 rel1 st1 q1 => by
    obtain ⟨a, dx, fs, ev, ea, rf⟩ := q1.insI
    refine ⟨a, dx, fs, ev, rel1.ex _ _ ea, rf.look_none hl, F1, rel1, fun vs F2 H2 rel2 st2 rd => ?_⟩
    exact backX rel rel2 (st1.trans rel st2) (.cons (Rep.mono (st2.ex rel1) q1) rd) hS kk⟩
/-- name.append(e), e raises -/
theorem re_append {n : Nat} {xs : List Z.D} (ho : WE X o ρ (.sl n) ρ1) (ha : RE X W e ρ1 C ρ2) (hn : ρ1[n]? = some (.own (.lst xs)) := by rfl)
    (hbase : attributeBase o "append" X.env (eval o X.env) = eval o X.env := by rfl)
    (hfew : ((backTo pos (starEach [e] X.env)).all (fun x => !x.1) && (backToKw pos (keywordEach [] X.env)).all (fun x => x.1.isSome) && decide ([e].length + ([] : List Keyword).length + (if ([] : List Keyword).isEmpty then 0 else 1) < 30)) = true := by rfl)
    (hline : (apos.endLine == pos.line) = true := by rfl) (hs : starEach [e] X.env = (false, eval e X.env) :: starEach [] X.env := by rfl) (hpl : (backTo pos (starEach [] X.env)).any (·.1) = false := by rfl) :
    RE X W (.Call (.Attribute o "append" apos) [e] [] pos) ρ C ρ2 :=
  PE.imp (pe_bm PySem.F.plainAttrs_list PySem.F.slot_list_append PySem.F.type_list_append mt_append ho (ra_one ha hs) hbase hfew hline hs hpl) fun σ H Q ⟨F, rel, k⟩ => ⟨F, rel, fun v F1 H1 rel1 st1 q1 => by
    have q1 : σ[n]? = some (some v) := q1
    obtain ⟨l1, vs1, ev1, _, h1, _⟩ := own_lst rel1 hn q1
    subst ev1
    exact ⟨.inl ⟨rfl, vs1, sq_of h1⟩, F1, rel1, fun F2 H2 d rel2 st2 => k F2 H2 d rel2 (st1.trans rel st2)⟩⟩
end
/-! ### a class whose __init__ passes one text on -/
section
variable {P : Program} {w : World} {K : PySem.W.Frag} {mg : Str → Option Value} {base : Heap} {C D f c cc : Addr} {B i newId : String} {bmB : List Value} {x qual : Str} {st : Stmt} {p0 p1 p2 p3 p4 ap : Pos} {m : Str} {j : Nat} {ar : Arg} {N ps : List Str} {k : Nat}
def spI0 (C : Addr) : Sp := fun vs H Q _ => ∃ a, vs = [.ref a] ∧ H a = some (exo a C none) ∧ Q .non H
theorem sup_plain (F : SupF P K x qual st f c cc D) (T : SupC K C D B i newId bmB) (hm : mg "super" = none) (S : NScope N ps ["__class__"] (defScope st)) (hp : ps.length = 1)
    (hbi : ∀ (kV doc pm : Value) (an : Option Addr) (ct : Value) (us : List Value), us.length = ps.length → bindArgs (PySem.W.fnX x qual (defArgs st) (defBody st) (defScope st) [("__class__", cc)] .none kV doc pm an (.ref c) ct) ⟨us, []⟩ = pure (ps.zip us))
    (hst : defBody st = [.Expr (.Call (.Attribute (.Call (.Name "super" p0) [] [] p1) "__init__" ap) [.Constant (.str m) j p4] [] p2) p3])
    (hN : N[0]? = some ar.arg) (har : ((defArgs st).posonlyargs ++ (defArgs st).args).head? = some ar) (hka : (defScope st).names.lookup ar.arg = some .local) (hks : (defScope st).names.lookup ("super" : Str) = some .globalImplicit) (hkc : (defScope st).names.lookup ("__class__" : Str) = some .free)
    {pl : PySem.Env → Sem Bool} (he : ∀ env : PySem.Env, eval (.Call (.Attribute (.Call (.Name "super" p0) [] [] p1) "__init__" ap) [.Constant (.str m) j p4] [] p2) env = (do
      let ov ← attributeBase (.Call (.Name "super" p0) [] [] p1) "__init__" env (eval (.Call (.Name "super" p0) [] [] p1) env)
      standAt ap.atName
      let (f, first) ← holding [ov] (getMethod ov "__init__" (pl env))
      callWith p2 f first (backTo p2 (starEach [.Constant (.str m) j p4] env)) []) := by intro env; rfl) :
    FnG P w K mg base (L2.CX P w) (k + 1) f (spI0 C) := by
  intro A outer s H us vs Q E _ hr e0 r h
  obtain ⟨a, rfl, ea, q⟩ := h
  cases r with
  | cons ru rn =>
    cases rn
    rename_i u
    cases (show u = Value.ref a from ru)
    refine run_sup F T S hbi hst hr e0 ea hm .nil (by rw [hp]; rfl) (fun X hX _ => ?_) hN har hka hks hkc he
    refine ⟨_, _, pa_cons pe_str pa_nil, pss_nil, ?_⟩
    show 1 ≤ sizeLine ∧ _
    refine ⟨by rw [sizeLine_eq]; omega, ea, ?_⟩
    exact q
end
section
variable {X : Cx} {C fI : Addr} {B i newId : String} {bmB : List Value} {x : Str} {p pos : Pos} {k : Nat}
theorem mkc_plain (T : ExC X.K C fI B i newId bmB) (F1 : FnG X.prog X.w X.K X.mg X.base (L2.CX X.prog X.w) k fI (spI0 C)) (hgu : X.A.guards = some []) (hr : Room (k + 1) X.A) (hm : X.mg x = some (.ref C)) (hg : Gl X x := by rfl)
    (hdb : (x == ("__debug__" : Str)) = false := by decide) : PMkC X (.Call (.Name x p) [] [] pos) C := fun pins s σ H Q I h =>
  pmk_x0 T F1 hgu hr hm hg hdb pins s σ H Q I fun a ha => ⟨a, rfl, upd_same, rfl, .inl ⟨upd_same, h none _ fun b o e => by
    rw [del_ne (ne_of_none e ha), upd_ne (ne_of_none e ha)]; exact e⟩⟩
end
end Z
set_option maxRecDepth 100000
set_option maxHeartbeats 1000000
/-! Z16: types as values, deep ==, is with bools, repr of what is no object. -/
namespace Z
open PySem PySem.Spec PyProof.Rows L2 Evl ClX
mutual
/-- a datum as plain data -/
def D.py : D → Option PyData
  | .non => some .none | .bl b => some (.bool b) | .int i => some (.int i) | .str s => some (.str s)
  | .lst xs => (D.pys xs).map .list
  | .tup xs => (D.pys xs).map .tuple
  | _ => none
def D.pys : List D → Option (List PyData)
  | [] => some []
  | d :: r => match D.py d, D.pys r with
    | some x, some xs => some (x :: xs)
    | _, _ => none
end
section
variable {K : PySem.W.Frag} {F H : Hp}
mutual
theorem rep_dp (e : Ex F H) : ∀ (d : D) (v : V) (p : PyData), D.py d = some p → Rep K F v d → Dp K H v p
  | .non, _, _, h, r => by cases r; cases h; exact .non
  | .bl b, _, _, h, r => by cases r; cases h; exact .bl b
  | .int i, _, _, h, r => by cases r; cases h; exact .int i
  | .str s, _, _, h, r => by cases r; cases h; exact .str s
  | .lst xs, _, p, h, r => by
    cases r with
    | lst hs rp =>
      unfold D.py at h
      obtain ⟨ps, h1, rfl⟩ := Option.map_eq_some_iff.mp h
      exact .lst (ex_l e hs) (reps_dp e xs _ ps h1 rp)
  | .tup xs, _, p, h, r => by
    cases r with
    | tup hs rp =>
      unfold D.py at h
      obtain ⟨ps, h1, rfl⟩ := Option.map_eq_some_iff.mp h
      exact .tup (ex_t e hs) (reps_dp e xs _ ps h1 rp)
  | .ty _, _, _, h, _ => by unfold D.py at h; cases h
  | .obj _, _, _, h, _ => by unfold D.py at h; cases h
  | .set _, _, _, h, _ => by unfold D.py at h; cases h
  | .exc _ _ _, _, _, h, _ => by unfold D.py at h; cases h
  | .dct _, _, _, h, _ => by unfold D.py at h; cases h
  | .ins _ _, _, _, h, _ => by unfold D.py at h; cases h
theorem reps_dp (e : Ex F H) : ∀ (ds : List D) (vs : List V) (ps : List PyData), D.pys ds = some ps → Reps K F vs ds → DpAll K H vs ps
  | [], _, _, h, r => by cases r; cases h; exact .nil
  | d :: ds, _, ps, h, r => by
    cases r with
    | cons r1 r2 =>
      unfold D.pys at h
      split at h
      · rename_i x xs h1 h2
        cases h
        exact .cons (rep_dp e d _ _ h1 r1) (reps_dp e ds _ _ h2 r2)
      · cases h
end
theorem con_dp {d : D} {v : V} {p : PyData} (e : Ex F H) (h : D.py d = some p) (c : Con K F H v d) : Dp K H v p := by
  rcases c with c | ⟨q, rfl, o⟩
  · exact rep_dp e d v p h c
  · cases d with
    | lst xs =>
      obtain ⟨vs, h1, r⟩ := o
      unfold D.py at h
      obtain ⟨ps, h2, rfl⟩ := Option.map_eq_some_iff.mp h
      exact .lst (.inl (.inl h1)) (reps_dp e xs _ ps h2 r)
    | ins C gs => unfold D.py at h; cases h
    | set xs => unfold D.py at h; cases h
    | dct kvs => unfold D.py at h; cases h
    | _ => exact (show False from o).elim
end
section
variable {X : Cx} {a b : Expr} {pos : Pos} {ρ ρ1 ρ2 : Env} {r1 r2 : R} {d1 d2 : D} {p1 p2 : PyData} {n : Nat} {k k' : Bool} {x : Str} {nm : String}
theorem hu64 {A : Around} (h : Room n A) : A.units + 64 < cLine := Nat.lt_of_le_of_lt (by omega) h.units
theorem vop_eqD (e1 : d1.py = some p1) (e2 : d2.py = some p2) (s1 : SeqAt.shaped p1 = true) (s2 : SeqAt.shaped p2 = true) : VOp2 X (rEqD X.K) d1 d2 ρ (.im (.bl (PyData.eqv p1 p2))) ρ := fun σ F H x y Q rel c1 c2 kk =>
  ⟨p1, p2, con_dp rel.ex e1 c1, con_dp rel.ex e2 c2, s1, s2, kk _ F H rel Stp.refl (.bl _)⟩
theorem vop_neD (e1 : d1.py = some p1) (e2 : d2.py = some p2) (s1 : SeqAt.shaped p1 = true) (s2 : SeqAt.shaped p2 = true) : VOp2 X (rNeD X.K) d1 d2 ρ (.im (.bl (!PyData.eqv p1 p2))) ρ := fun σ F H x y Q rel c1 c2 kk =>
  ⟨p1, p2, con_dp rel.ex e1 c1, con_dp rel.ex e2 c2, s1, s2, kk _ F H rel Stp.refl (.bl _)⟩
theorem we_eqD (hr : Room n X.A) (ha : WE X a ρ r1 ρ1) (hb : WE X b ρ1 r2 ρ2) (e1 : d1.py = some p1) (e2 : d2.py = some p2) (s1 : SeqAt.shaped p1 = true) (s2 : SeqAt.shaped p2 = true) (ca : r1.con ρ2 = some d1 := by rfl) (cb : r2.con ρ2 = some d2 := by rfl) :
    WE X (.Compare a [.Eq] [b] pos) ρ (.im (.bl (PyData.eqv p1 p2))) ρ2 := we_cmp (op_eqD (hu64 hr)) ha hb (vop_eqD e1 e2 s1 s2) (nomark _) ca cb
theorem we_neD (hr : Room n X.A) (ha : WE X a ρ r1 ρ1) (hb : WE X b ρ1 r2 ρ2) (e1 : d1.py = some p1) (e2 : d2.py = some p2) (s1 : SeqAt.shaped p1 = true) (s2 : SeqAt.shaped p2 = true) (ca : r1.con ρ2 = some d1 := by rfl) (cb : r2.con ρ2 = some d2 := by rfl) :
    WE X (.Compare a [.NotEq] [b] pos) ρ (.im (.bl (!PyData.eqv p1 p2))) ρ2 := we_cmp (op_neD (hu64 hr)) ha hb (vop_neD e1 e2 s1 s2) (nomark _) ca cb
theorem wt_eqD (hr : Room n X.A) (ha : WE X a ρ r1 ρ1) (hb : WE X b ρ1 r2 ρ2) (e1 : d1.py = some p1) (e2 : d2.py = some p2) (s1 : SeqAt.shaped p1 = true) (s2 : SeqAt.shaped p2 = true) (ca : r1.con ρ2 = some d1 := by rfl) (cb : r2.con ρ2 = some d2 := by rfl) :
    WT X (.Compare a [.Eq] [b] pos) ρ (PyData.eqv p1 p2) ρ2 := wt_cmp (op_eqD (hu64 hr)) ha hb (vop_eqD e1 e2 s1 s2) (nomark _) ca cb
theorem wt_neD (hr : Room n X.A) (ha : WE X a ρ r1 ρ1) (hb : WE X b ρ1 r2 ρ2) (e1 : d1.py = some p1) (e2 : d2.py = some p2) (s1 : SeqAt.shaped p1 = true) (s2 : SeqAt.shaped p2 = true) (ca : r1.con ρ2 = some d1 := by rfl) (cb : r2.con ρ2 = some d2 := by rfl) :
    WT X (.Compare a [.NotEq] [b] pos) ρ (!PyData.eqv p1 p2) ρ2 := wt_cmp (op_neD (hu64 hr)) ha hb (vop_neD e1 e2 s1 s2) (nomark _) ca cb
/-- a is b of bools -/
theorem vop_isB : VOp2 X (fun x y H Q => ∃ a b, x = .bl a ∧ y = .bl b ∧ Q (.bl (decide (a = b))) H) (.bl k) (.bl k') ρ (.im (.bl (decide (k = k')))) ρ := fun σ F H x y Q rel c1 c2 kk =>
  ⟨k, k', c1.bl, c2.bl, kk _ F H rel Stp.refl (.bl _)⟩
theorem vop_notB : VOp2 X (fun x y H Q => ∃ a b, x = .bl a ∧ y = .bl b ∧ Q (.bl (!decide (a = b))) H) (.bl k) (.bl k') ρ (.im (.bl (!decide (k = k')))) ρ := fun σ F H x y Q rel c1 c2 kk =>
  ⟨k, k', c1.bl, c2.bl, kk _ F H rel Stp.refl (.bl _)⟩
theorem we_isB (ha : WE X a ρ (.im (.bl k)) ρ1) (hb : WE X b ρ1 (.im (.bl k')) ρ2) : WE X (.Compare a [.Is] [b] pos) ρ (.im (.bl (decide (k = k')))) ρ2 := we_cmp op_is_bl ha hb vop_isB (nomark _) rfl rfl
theorem we_notB (ha : WE X a ρ (.im (.bl k)) ρ1) (hb : WE X b ρ1 (.im (.bl k')) ρ2) : WE X (.Compare a [.IsNot] [b] pos) ρ (.im (.bl (!decide (k = k')))) ρ2 := we_cmp op_isnot_bl ha hb vop_notB (nomark _) rfl rfl
theorem wt_isB (ha : WE X a ρ (.im (.bl k)) ρ1) (hb : WE X b ρ1 (.im (.bl k')) ρ2) : WT X (.Compare a [.Is] [b] pos) ρ (decide (k = k')) ρ2 := wt_cmp op_is_bl ha hb vop_isB (nomark _) rfl rfl
theorem wt_notB (ha : WE X a ρ (.im (.bl k)) ρ1) (hb : WE X b ρ1 (.im (.bl k')) ρ2) : WT X (.Compare a [.IsNot] [b] pos) ρ (!decide (k = k')) ρ2 := wt_cmp op_isnot_bl ha hb vop_notB (nomark _) rfl rfl
theorem wt_isN (ha : WE X a ρ r1 ρ1) (hb : WE X b ρ1 (.im .non) ρ2) (ca : r1.con ρ2 = some d1 := by rfl) : WT X (.Compare a [.Is] [b] pos) ρ d1.isNon ρ2 := wt_cmp op_isN ha hb vop_isN (nomark _) ca rfl
theorem wt_notN (ha : WE X a ρ r1 ρ1) (hb : WE X b ρ1 (.im .non) ρ2) (ca : r1.con ρ2 = some d1 := by rfl) : WT X (.Compare a [.IsNot] [b] pos) ρ (!d1.isNon) ρ2 := wt_cmp op_notN ha hb vop_notN (nomark _) ca rfl
/-- a built-in type as a value -/
theorem we_ty (hm : X.mg x = none) (hv : bootBuiltins x = some (.type nm) := by rfl) (hg : Gl X x := by rfl) (hn : x ≠ "__name__" := by decide) (hd : (x == ("__debug__" : Str)) = false := by decide) : WE X (.Name x pos) ρ (.im (.ty nm)) ρ :=
  we_bltn (v := .ty nm) (d := .ty nm) hg hm hv rfl (fun _ => .ty _) hn hd
/-- a class, a def of the text as a value -/
theorem we_cls {C : Addr} (hm : X.mg x = some (.ref C)) (hg : Gl X x := by rfl) (hd : (x == ("__debug__" : Str)) = false := by decide) : WE X (.Name x pos) ρ (.im (.obj C)) ρ :=
  we_val (pe_glob hg hm (v := .ref C) rfl hd) fun _ => .obj _
end
/-! ### repr of what is no object -/
def reprV : V → Option Str
  | .non => some "None" | .bl b => some (if b then "True" else "False") | .int i => if i.natAbs.log2 < 1920 then some (toString i) else none
  | .str x => if (reprText x).length ≤ sizeLine then some (reprText x) else none
  | _ => none
def D.rp : D → Option Str
  | .non => some "None" | .bl b => some (if b then "True" else "False") | .int i => if i.natAbs.log2 < 1920 then some (toString i) else none
  | .str x => if (reprText x).length ≤ sizeLine then some (reprText x) else none
  | _ => none
section
variable {X : Cx} {e : Expr} {pos p : Pos} {ρ ρ1 : Env} {r1 : R} {d : D} {t : Str}
theorem call_reprS : CallR X (.builtin "repr") (fun vs H Q => ∃ v t, vs = [v] ∧ reprV v = some t ∧ Q (.str t) H) := by
  intro pins s σ H vs us Q I r h
  obtain ⟨v, t, rfl, ht, q⟩ := h
  cases r with
  | cons ru rn =>
    cases rn
    rename_i u
    cases v with
    | non => cases ht; cases (show u = Value.none from ru); exact PySem.P.repr_of_none ⟨.str _, H, I.tok _, ⟨_, rfl⟩, q⟩
    | bl b => cases ht; cases (show u = Value.bool b from ru); exact PySem.P.repr_of_bool ⟨.str _, H, I.tok _, ⟨_, rfl⟩, q⟩
    | int i =>
      obtain ⟨k, rfl⟩ := (show ∃ k, u = Value.int i k from ru)
      have ht : (if i.natAbs.log2 < 1920 then some (toString i : Str) else none) = some t := ht
      split at ht
      · rename_i hz
        cases ht
        exact PySem.P.repr_of_int hz ⟨.str _, H, I.tok _, ⟨_, rfl⟩, q⟩
      · cases ht
    | str x =>
      obtain ⟨k, rfl⟩ := (show ∃ k, u = Value.str x k from ru)
      have ht : (if (reprText x).length ≤ sizeLine then some (reprText x) else none) = some t := ht
      split at ht
      · rename_i hz
        cases ht
        exact PySem.P.repr_of_str (hsz := hz) ⟨.str _, H, I.tok _, ⟨_, rfl⟩, q⟩
      · cases ht
    | _ => cases ht
theorem we_reprS (hm : X.mg "repr" = none) (ha : WE X e ρ r1 ρ1) (ht : d.rp = some t) (ca : r1.con ρ1 = some d := by rfl) (hg : Gl X "repr" := by rfl) (he : starEach [e] X.env = (false, eval e X.env) :: starEach [] X.env := by rfl) : WE X (.Call (.Name "repr" p) [e] [] pos) ρ (.im (.str t)) ρ1 :=
  we_b1 (d := d) call_reprS (fun ρ σ F H x Q rel c k => by
    refine ⟨x, t, rfl, ?_, k _ F H rel Stp.refl (.str _)⟩
    cases d with
    | non => cases c.non; exact ht
    | bl b => cases c.bl; exact ht
    | int i => cases c.int; exact ht
    | str y => cases c.str; exact ht
    | _ => cases ht) hm ha rfl ca hg (by decide) (by decide) he
end
/-! ### [elt for tg in iter], the state as it was -/
section
variable {X : Cx} {scope : Scope} {tg iter elt : Expr} {pos : Pos} {ρ ρ1 ρw : Env} {bs : List (Nat × D)} {ds out : List D}
theorem we_lcM (own : List (Str × Nat)) (hi : WI X tg iter ρ bs ds ρ1) (hol : out.length = ds.length)
    (hs : ∀ (i : Nat) d, ds[i]? = some d → ∃ e ρt ρe, out[i]? = some e ∧ BG X scope (cmpl ρw.length (own.map (·.2))) tg d ρw ρt ∧ BE X scope elt ρt (.im e) ρe ∧ wipeE ρe (own.map (·.2)) = ρw ∧ ρt.length = ρw.length ∧ ρe.length = ρw.length)
    (ok : BlkOk X.N X.env.scope scope own) (hz : ds.length ≤ 100000 := by omega) (hw : wipeE ρ1 (own.map (·.2)) = ρw := by rfl) (hc : X.calm = true := by rfl) (hN : X.N.Nodup := by first | assumption | decide +kernel) (hf : ∀ x, foldedSetIterable iter X.env x = pure x := by intro _; rfl)
    (hbo : ∀ b ∈ bs, b.1 ∉ own.map (·.2) ∧ ρw[b.1]? = some (.own b.2) := by first | (intro b hb; cases hb; done) | skip) :
    WE X (.ListComp elt [⟨tg, iter, [], 0⟩] scope pos) ρ (.fr (.lst out)) ρw := by
  refine we_lc own hi (fun i ρ' acc => ρ' = ρw ∧ acc = out.take i ∧ i ≤ ds.length) ⟨hw, by rw [List.take_zero], Nat.zero_le _⟩ (fun i ρ' acc ⟨e1, e2, h⟩ => ⟨?_, ?_⟩) (fun i d ρi acc hd ⟨e1, e2, h⟩ => ?_) (fun ρ' acc ⟨e1, e2, h⟩ => ⟨?_, e1⟩) hz ok hc hN hf (fun i ρ' acc ⟨e1, _, _⟩ b hb => ?_)
  · rw [e1, ← hw, wipeE_len]
  · rw [e2, List.length_take]; omega
  · subst e1 e2
    obtain ⟨e, ρt, ρe, ho, h1, h2, h3, h4, h5⟩ := hs i d hd
    have hlt : i < ds.length := (List.getElem?_eq_some_iff.mp hd).1
    refine ⟨ρt, true, ρt, h1, h4, bt_nil, h4, fun _ => ⟨e, ρe, h2, h5, h3, ?_, hlt⟩, fun z => by cases z⟩
    rw [List.take_add_one, ho]; rfl
  · rw [e2]; exact List.take_of_length_le (by omega)
  · subst e1; exact hbo b hb
end
end Z
set_option maxRecDepth 100000
set_option maxHeartbeats 1000000
/-! Z17: what the top has written, each as one fact. -/
namespace Z
theorem kit_self {K : PySem.W.Frag} {t : PySem.Value} : PySem.W.kitOne K t t = some true := by unfold PySem.W.kitOne; simp
open PySem PySem.Spec PyProof.Rows L2 Evl ClX
section
variable {K : PySem.W.Frag} {h : Heap} {mg : Str → Option Value} {x m qual : Str} {st : Stmt} {f C : Addr} {oc : Value} {od an : Option Addr} {osl : Array (Option Value)} {kV doc pm cdv ct : Value}
theorem fat_mk (X : K.In h) (G : h.Ns mainGlobals mg) (a : PySem.W.nsIn K mainGlobals x = some (some (.ref f))) (l : K.lookup f = some ⟨oc, od, .func (PySem.W.fnOf x x (defArgs st) (defBody st) (defScope st) .none kV doc pm an cdv ct), osl⟩)
    (c : PySem.W.codeIn K cdv x = true) (k : PySem.W.keepIn K (.ref f) = true) : FAt K mg x st := ⟨f, _, fun_mk l c k, PySem.W.mg_of X G a⟩
theorem mat_mk (a : PySem.W.findIn K (.ref C) m = some (some (.ref f))) (i : PySem.W.isFn K (.ref f) = true) (l : K.lookup f = some ⟨oc, od, .func (PySem.W.fnOf m qual (defArgs st) (defBody st) (defScope st) .none kV doc pm an cdv ct), osl⟩)
    (c : PySem.W.codeIn K cdv qual = true) (k : PySem.W.keepIn K (.ref f) = true) : MAt K C m qual st := ⟨f, _, fun_mk l c k, ⟨a, i, k⟩⟩
/-- a property's getter -/
structure PAt (K : PySem.W.Frag) (C : Addr) (m qual : Str) (st : Stmt) : Prop where
  ex : ∃ p f fd, Fun K m qual st f fd ∧ PropOf K C m p f
theorem pat_mk {p : Addr} {rest : List Value} (a : PySem.W.findIn K (.ref C) m = some (some (.ref p))) (g : PySem.W.specialIn K (.ref p) "__get__" = some (some (.builtin "property.__get__"))) (t : PySem.W.takesIn K (.ref p) = some true) (rc : PySem.W.recIn K p "property" = some (.ref f :: rest))
    (l : K.lookup f = some ⟨oc, od, .func (PySem.W.fnOf m qual (defArgs st) (defBody st) (defScope st) .none kV doc pm an cdv ct), osl⟩) (c : PySem.W.codeIn K cdv qual = true) (k : PySem.W.keepIn K (.ref f) = true) : PAt K C m qual st :=
  ⟨p, f, _, fun_mk l c k, ⟨a, g, t, _, rc⟩⟩
/-- a classmethod -/
structure CAt (K : PySem.W.Frag) (C : Addr) (m qual : Str) (st : Stmt) : Prop where
  ex : ∃ mc p f fd, Fun K m qual st f fd ∧ CRead K C mc ∧ CMet K C mc m p f
theorem cat_mk {p : Addr} {mc : Value} {rest : List Value} (rd : PySem.W.readsIn K C mc = true) (ga : PySem.W.specialIn K (.ref C) "__getattribute__" = some (some (.builtin "type.__getattribute__"))) (a : PySem.W.findCls K (.ref C) mc m = some (.get (.builtin "classmethod.__get__") (.ref p) .none (.ref C))) (rc : PySem.W.recIn K p "classmethod" = some (.ref f :: rest)) (fi : PySem.W.fnIn K f = true)
    (l : K.lookup f = some ⟨oc, od, .func (PySem.W.fnOf m qual (defArgs st) (defBody st) (defScope st) .none kV doc pm an cdv ct), osl⟩) (c : PySem.W.codeIn K cdv qual = true) (k : PySem.W.keepIn K (.ref f) = true) : CAt K C m qual st :=
  ⟨mc, p, f, _, fun_mk l c k, ⟨rd, ga⟩, ⟨a, ⟨_, rc⟩, fi⟩⟩
end
section
variable {P : Program} {K : PySem.W.Frag} {x qual : Str} {st : Stmt} {f C D c cc T fI : Addr} {oc : Value} {od an : Option Addr} {osl : Array (Option Value)} {kV doc pm cdv ct : Value} {B i newId : String} {bmB : List Value}
/-- an __init__ with one default, an int -/
theorem ids_mk {n : Int} {tk : Tok} {tc : Value} {td : Option Addr} {tn : Nat} {tsl : Array (Option Value)} (a : PySem.W.findIn K (.ref C) "__init__" = some (some (.ref f))) (i : PySem.W.isFn K (.ref f) = true)
    (l : K.lookup f = some ⟨oc, od, .func (PySem.W.fnOf "__init__" qual (defArgs st) (defBody st) (defScope st) (.ref T) kV doc pm an cdv ct), osl⟩) (c : PySem.W.codeIn K cdv qual = true) (k : PySem.W.keepIn K (.ref f) = true)
    (t : K.lookup T = some ⟨tc, td, .seq #[.int n tk] tn, tsl⟩) (mk : PySem.W.makesIn K C = true) (kc : PySem.W.keepIn K (.ref C) = true) : ∃ f fd, FunDS K "__init__" qual st [.int n] f fd ∧ Mk K C f :=
  ⟨f, _, ⟨⟨oc, od, .ref T, kV, doc, pm, an, cdv, ct, osl, rfl, l, c, .inr ⟨by simp, T, _, [.int n tk], tn, rfl, t, rfl, .cons ⟨tk, rfl⟩ .nil⟩, .inl rfl⟩, k⟩, ⟨mk, a, i, kc⟩⟩
theorem imk_mk (a : PySem.W.findIn K (.ref C) "__init__" = some (some (.ref f))) (i : PySem.W.isFn K (.ref f) = true)
    (l : K.lookup f = some ⟨oc, od, .func (PySem.W.fnOf "__init__" qual (defArgs st) (defBody st) (defScope st) .none kV doc pm an cdv ct), osl⟩) (c : PySem.W.codeIn K cdv qual = true) (k : PySem.W.keepIn K (.ref f) = true)
    (mk : PySem.W.makesIn K C = true) (kc : PySem.W.keepIn K (.ref C) = true) : ∃ f fd, Fun K "__init__" qual st f fd ∧ Mk K C f :=
  ⟨f, _, fun_mk l c k, ⟨mk, a, i, kc⟩⟩
/-- the __init__ of an exception class, with its class's cell -/
theorem sup_mk {ccl cl : Value} {cdd cld : Option Addr} {vs : Array Value} {ccs csl : Array (Option Value)} {file : Str} {tf : Tok} {cd : ClassData}
    (l : K.lookup f = some ⟨oc, od, .func (PySem.W.fnX x qual (defArgs st) (defBody st) (defScope st) [("__class__", cc)] .none kV doc pm an (.ref c) ct), osl⟩) (co : PySem.W.codeIn K (.ref c) qual = true) (fl : K.lookup c = some ⟨ccl, cdd, .fields vs, ccs⟩) (hv : vs[2]? = some (.str file tf)) (hf : ((P.main.file : Str) == file) = true)
    (ce : K.lookup cc = some ⟨cl, cld, .cell (some (.ref D)), csl⟩) (cD : PySem.W.clsIn K D = some cd) (top : (P.main.scope.names.lookup ("super" : Str)).isSome = false) : SupF P K x qual st f c cc D :=
  ⟨⟨oc, od, kV, doc, pm, an, ct, osl, l⟩, co, ⟨_, _, _, _, _, _, fl, hv, hf⟩, ⟨_, _, _, ce⟩, ⟨_, cD⟩, top⟩
end
end Z
set_option maxRecDepth 100000
set_option maxHeartbeats 1000000
/-! Z18: slices turned round, repetition, list(), tuple(), sum, pop, extend. -/
namespace Z
open PySem PySem.Spec PyProof.Rows L2 Evl ClX
section
variable {prog : Program} {w : World} {A : Around} {E : Value → Shared → Prop} {s : Shared}
theorem getItem_tuple_rev {t sl : Addr} {items : Array Value} {vk : Value} {Q : Value → Shared → Prop} (ht : IsTup s.heap t items) (hs : s.heap.IsSliceOf sl .none .none vk) (pk : IsPart vk (some (-1)))
    (h : Q (.ref s.heap.objs.size) { s with heap := s.heap.push { cls := .type "tuple", data := .seq items.toList.reverse.toArray } })
    (hsz : items.size ≤ sizeLine) : wpAny (model prog w) A (getItem (.ref t) (.ref sl)) Q E s := by
  have htake : sizeOk (.seq items.toList.reverse.toArray) := by
    show items.toList.reverse.toArray.size ≤ sizeLine
    rw [List.size_toArray, List.length_reverse, Array.length_toList]
    omega
  obtain ⟨os, hos, hcs, hds⟩ := id hs
  have hTs : s.TypeIs (.ref sl) "slice" := ⟨os, hos, hcs⟩
  unfold getItem
  try with_reducible refine wpAny_holding ?_
  first | refine wpAny_bind (wpAny_pure ?_) | skip
  refine wpAny_bind (wpAny_sequenceKey ht.typeIs (by decide) ?_)
  refine wpAny_bind (wpAny_callSpecial?_slot (name := Str.ofString "__getitem__") ht.typeIs PyProof.Rows.slot_tuple_getitem
    (wpAny_call_entry PyProof.Rows.slot_tuple_getitem ht.typeIs entry_tuple_getitem ?_ (args_tuple_getitem _ _)))
  show wpAny _ _ (Builtin.Tuple.tupleItemsOf (.ref t) >>= _) _ _ s
  refine wpAny_bind (tupleItemsOf_ ht ?_)
  refine wpAny_bind (wpAny_typeOf hTs ?_)
  rw [if_pos (by decide)]
  have hap : ∀ {A' : Around} {Q' : Int × Int × Nat → Shared → Prop}, Q' ((items.size : Int) - 1, -1, items.size) s → wpAny (model prog w) A' (Builtin.Slice.sliceApplied (.ref sl) (pure (items.size : Int))) Q' E s := fun {A' Q'} q => by
    unfold Builtin.Slice.sliceApplied Builtin.Slice.sliceFields
    refine wpAny_bind (wpAny_bind (wpAny_field hos hds (x := .none) rfl (wpAny_bind (wpAny_field hos hds (x := .none) rfl (wpAny_bind (wpAny_field hos hds (x := vk) rfl (wpAny_pure ?_)))))))
    refine wpAny_bind (HT.slicePart_ pk ?_)
    show wpAny _ _ (if ((-1 : Int) == 0) = true then _ else _) _ _ s
    rw [if_neg (by decide)]
    refine wpAny_bind (HT.slicePart_ .none (wpAny_bind (HT.slicePart_ .none (wpAny_bind (wpAny_pure ?_)))))
    have e : Builtin.Slice.sliceAdjust none none (-1) (items.size : Int) = ((items.size : Int) - 1, -1) := by
      simp [Builtin.Slice.sliceAdjust]
    show wpAny _ _ (match Builtin.Slice.sliceAdjust none none (-1) (items.size : Int) with | (lo, hi) => pure (lo, (-1 : Int), Builtin.Slice.slicePlaces lo hi (-1))) _ _ s
    rw [e]
    have e2 : Builtin.Slice.slicePlaces ((items.size : Int) - 1) (-1) (-1) = items.size := by
      unfold Builtin.Slice.slicePlaces
      first
        | (simp; omega)
        | (split <;> simp <;> omega)
        | (simp)
    show wpAny _ _ (pure ((items.size : Int) - 1, (-1 : Int), Builtin.Slice.slicePlaces ((items.size : Int) - 1) (-1) (-1))) _ _ s
    rw [e2]
    exact wpAny_pure q
  refine wpAny_bind (hap ?_)
  have hno : ¬ ((((items.size : Int) - 1) == 0 && (-1 : Int) == 1 && items.size == items.size) = true) := by
    intro q
    rw [Bool.and_eq_true, Bool.and_eq_true] at q
    exact absurd (eq_of_beq q.1.2) (by decide)
  have e : ((List.range items.size).filterMap fun (m : Nat) => items[((items.size : Int) - 1 + (m : Int) * -1).toNat]?).toArray = items.toList.reverse.toArray := by
    have e1 : (List.range items.size).filterMap (fun (m : Nat) => items[((items.size : Int) - 1 + (m : Int) * -1).toNat]?) = ((List.range items.size).map fun k => items.size - 1 - k).filterMap (items[·]?) := by
      rw [List.filterMap_map]
      have fc : ∀ {l : List Nat} {f g : Nat → Option Value}, (∀ m ∈ l, f m = g m) → l.filterMap f = l.filterMap g := fun {l f g} h => by
        induction l with
        | nil => rfl
        | cons a r ih => rw [List.filterMap_cons, List.filterMap_cons, h a (by simp), ih fun m hm => h m (List.mem_cons_of_mem _ hm)]
      refine fc fun m hm => ?_
      have := List.mem_range.mp hm
      show items[((items.size : Int) - 1 + (m : Int) * -1).toNat]? = items[items.size - 1 - m]?
      have : ((items.size : Int) - 1 + (m : Int) * -1).toNat = items.size - 1 - m := by omega
      rw [this]
    rw [e1, PySem.W.krv_range, List.filterMap_reverse, PySem.W.krv_all]
  show wpAny _ _ (if (((items.size : Int) - 1) == 0 && (-1 : Int) == 1 && items.size == items.size) = true then _ else _) _ _ s
  rw [if_neg hno, e]
  first
    | exact wpAny_bind (m := Builtin.Tuple.tupleExact _) (wpAny_newObj_type (wpAny_pure ⟨_, rfl, wpAny_pure h⟩) htake)
    | exact wpAny_bind (m := Builtin.Tuple.tupleExact _) (wpAny_newObj_type (wpAny_bind (wpAny_pure (wpAny_pure ⟨_, rfl, wpAny_pure h⟩))) htake)
end
/-! ### a[::-1], a[-2::-1] -/
section
variable {X : Cx} {a b e o : Expr} {es : List Expr} {pos apos p p1 p2 p3 p4 p5 p6 : Pos} {x : Str} {ρ ρ1 ρ2 ρ3 : Env} {r r1 r2 : R} {d d1 d2 d' : D} {ds xs ys : List D} {i j : Int}
theorem pe_revT {e : Expr} {te : TE} {k : Nat} (he : PE X e te) : PE X (.Subscript e (.Slice none none (some (.UnaryOp .USub (.Constant (.int 1) k p1) p2)) p3) pos) (fun σ H Q => te σ H fun x H1 => ∃ a xs, x = .ref a ∧ SqT X.K H1 a xs ∧ ∀ p, H1 p = none → Q (.ref p) (upd H1 p (.tup xs.reverse))) := by
  refine ⟨fun pins s σ H Q I h => ?_⟩
  refine Subscript_ (thn (he.run pins s σ H _ I h) fun v s1 ⟨x, H1, I1, r1, q1⟩ => ?_)
  obtain ⟨a, xs, ex, hx, q⟩ := q1
  subst ex
  cases r1
  have hst : PO X (some (.UnaryOp .USub (.Constant (.int 1) k p1) p2)) (tPart (tUn (rU fun i => .int (-i)) (tC (.int 1)))) := po_some (pe_un un_neg pe_int)
  refine wpAny_Slice (thn (po_none.run pins s1 σ H1 (fun o H2 => o = none ∧ H2 = H1) I1 ⟨rfl, rfl⟩) fun vl s2 ⟨l, H2, I2, pl, el, e2⟩ => ?_)
  subst el e2
  refine thn (po_none.run pins s2 σ H2 (fun o H3 => o = none ∧ H3 = H2) I2 ⟨rfl, rfl⟩) fun vu s3 ⟨u, H3, I3, pu, eu, e3⟩ => ?_
  subst eu e3
  refine thn (hst.run pins s3 σ H3 (fun o H4 => o = some (-1) ∧ H4 = H3) I3 ⟨1, rfl, -1, rfl, rfl, rfl⟩) fun vs s4 ⟨o, H4, I4, ps, eo, e4⟩ => ?_
  subst eo e4
  cases pl
  cases pu
  have I5 : Inv X pins σ H4 { s4 with heap := s4.heap.push { cls := .type "slice", data := .fields #[.none, .none, vs] } } := I4.kept (t' := s4.toks) fun b ob q => Heap.get?_push_of_some _ q
  obtain ⟨its, r, ht, hz⟩ := I5.tuple hx
  show wpAny (model X.prog X.w) X.A (subscriptTail e (.Slice none none (some (.UnaryOp .USub (.Constant (.int 1) k p1) p2)) p3) (.ref a) (.ref s4.heap.objs.size)) (EP X pins σ Q) X.xe { s4 with heap := s4.heap.push { cls := .type "slice", data := .fields #[.none, .none, vs] } }
  refine tail_any (ops := [.ref a, .ref s4.heap.objs.size]) ht.typeIs (PyProof.Rows.slot_tuple_getitem.lookup) ?_ (by with_unfolding_all rfl)
  refine getItem_tuple_rev ht (Heap.IsSliceOf.new _ .none .none vs) ps ?_ (by rw [List.size_toArray, ← r.length]; exact hz)
  refine ⟨.ref _, _, I5.laid (t' := s4.toks) (o := .tup xs.reverse) (fun b ob q => Heap.get?_push_of_some _ q) (Nat.le_refl _) ?_, rfl, q _ (I5.hok.fresh (Nat.le_refl _))⟩
  exact ⟨by rw [List.length_reverse]; exact hz, _, r.reverse, IsTup.new _ _⟩
theorem pick_dl (items : Array Value) : slicePick items (some (-2)) none (some (-1)) = items.toList.dropLast.reverse.toArray := by
  unfold slicePick
  have e : sliceRange (sliceBounds (some (-2)) none (some (-1)) items.size).1 (sliceBounds (some (-2)) none (some (-1)) items.size).2.1 (sliceBounds (some (-2)) none (some (-1)) items.size).2.2 = (List.range (items.size - 1)).map fun k => items.size - 2 - k := by
    unfold sliceRange
    have h1 : ¬ ((-1 : Int) > 0) := by decide
    have eb : sliceBounds (some (-2)) none (some (-1)) items.size = (max (-1) ((items.size : Int) - 2), -1, -1) := by
      simp only [sliceBounds]
      first
        | rfl
        | (simp; omega)
        | (simp <;> split <;> omega)
    rw [eb]
    dsimp only
    simp only [h1, if_false]
    by_cases h : max (-1) ((items.size : Int) - 2) > -1
    · have e : (max (-1) ((items.size : Int) - 2) - -1 - -1 - 1) / (- -1) = ((items.size - 1 : Nat) : Int) := by
        rw [show (- -1 : Int) = 1 by decide, Int.ediv_one]
        omega
      simp only [h, if_true, e, Int.toNat_natCast]
      apply List.map_congr_left
      intro k hk
      have := List.mem_range.mp hk
      omega
    · have e : items.size - 1 = 0 := by omega
      rw [e]
      simp [h]
  rw [e]
  have e2 : (List.range (items.size - 1)).map (fun k => items.size - 2 - k) = (List.range (items.size - 1)).reverse := by
    rw [← PySem.W.krv_range]
    apply List.map_congr_left
    intro k hk
    omega
  rw [e2, List.filterMap_reverse]
  have e3 : (List.range (items.size - 1)).filterMap (items[·]?) = items.toList.dropLast := by
    have h := pick_run items 0 (items.size - 1)
    have e : (List.range (items.size - 1)).map (0 + ·) = List.range (items.size - 1) := by
      rw [show ((0 + ·) : Nat → Nat) = id from funext fun k => Nat.zero_add k, List.map_id]
    rw [e, List.drop_zero] at h
    rw [h, List.dropLast_eq_take, Array.length_toList]
  rw [e3]
theorem pe_dlL {e : Expr} {te : TE} {k k2 : Nat} (he : PE X e te) : PE X (.Subscript e (.Slice (some (.UnaryOp .USub (.Constant (.int 2) k2 p4) p5)) none (some (.UnaryOp .USub (.Constant (.int 1) k p1) p2)) p3) pos) (fun σ H Q => te σ H fun x H1 => ∃ a xs, x = .ref a ∧ SqL X.K H1 a xs ∧ ∀ p, H1 p = none → Q (.ref p) (upd H1 p (.lst xs.dropLast.reverse))) := by
  refine ⟨fun pins s σ H Q I h => ?_⟩
  refine Subscript_ (thn (he.run pins s σ H _ I h) fun v s1 ⟨x, H1, I1, r1, q1⟩ => ?_)
  obtain ⟨a, xs, ex, hx, q⟩ := q1
  subst ex
  cases r1
  have hst : PO X (some (.UnaryOp .USub (.Constant (.int 1) k p1) p2)) (tPart (tUn (rU fun i => .int (-i)) (tC (.int 1)))) := po_some (pe_un un_neg pe_int)
  have hlo : PO X (some (.UnaryOp .USub (.Constant (.int 2) k2 p4) p5)) (tPart (tUn (rU fun i => .int (-i)) (tC (.int 2)))) := po_some (pe_un un_neg pe_int)
  refine wpAny_Slice (thn (hlo.run pins s1 σ H1 (fun o H2 => o = some (-2) ∧ H2 = H1) I1 ⟨2, rfl, -2, rfl, rfl, rfl⟩) fun vl s2 ⟨l, H2, I2, pl, el, e2⟩ => ?_)
  subst el e2
  refine thn (po_none.run pins s2 σ H2 (fun o H3 => o = none ∧ H3 = H2) I2 ⟨rfl, rfl⟩) fun vu s3 ⟨u, H3, I3, pu, eu, e3⟩ => ?_
  subst eu e3
  refine thn (hst.run pins s3 σ H3 (fun o H4 => o = some (-1) ∧ H4 = H3) I3 ⟨1, rfl, -1, rfl, rfl, rfl⟩) fun vs s4 ⟨o, H4, I4, ps, eo, e4⟩ => ?_
  subst eo e4
  have I5 : Inv X pins σ H4 { s4 with heap := s4.heap.push { cls := .type "slice", data := .fields #[vl, vu, vs] } } := I4.kept (t' := s4.toks) fun b ob q => Heap.get?_push_of_some _ q
  obtain ⟨its, r, ht, hz⟩ := I5.list hx
  have hlen := r.length
  show wpAny (model X.prog X.w) X.A (subscriptTail e (.Slice (some (.UnaryOp .USub (.Constant (.int 2) k2 p4) p5)) none (some (.UnaryOp .USub (.Constant (.int 1) k p1) p2)) p3) (.ref a) (.ref s4.heap.objs.size)) (EP X pins σ Q) X.xe { s4 with heap := s4.heap.push { cls := .type "slice", data := .fields #[vl, vu, vs] } }
  refine tail_any (ops := [.ref a, .ref s4.heap.objs.size]) ht.isList.typeIs (PySem.slot_list_getitem.lookup) ?_ (by with_unfolding_all rfl)
  refine wpAny_getItem_list_slice ht.isList (Heap.IsSliceOf.new _ vl vu vs) pl pu ps (by decide) ?_ (by rw [List.size_toArray]; omega)
  rw [pick_dl]
  have hd : Vals xs.dropLast its.dropLast := by
    rw [List.dropLast_eq_take, List.dropLast_eq_take, hlen]
    exact r.take _
  refine ⟨.ref _, _, I5.laid (t' := s4.toks) (o := .lst xs.dropLast.reverse) (fun b ob q => Heap.get?_push_of_some _ q) (Nat.le_refl _) ?_, rfl, q _ (I5.hok.fresh (Nat.le_refl _))⟩
  exact ⟨by rw [List.length_reverse, List.length_dropLast]; omega, _, 0, hd.reverse, Heap.get?_push_size _ rfl⟩
theorem fresh_old {K : PySem.W.Frag} {F F' H H' : Hp} {σ σ' : L2.St} (st : Stp ρ σ F H ρ1 σ' F' H') {q : Addr} (hp : H' q = none) : H q = none := by
  cases e : H q with
  | none => rfl
  | some o => exact absurd hp (st.dom q (by rw [e]; exact fun z => by cases z))
theorem we_revL {k : Nat} (ha : WE X a ρ r1 ρ1) (ca : r1.con ρ1 = some (.lst xs) := by rfl) : WE X (.Subscript a (.Slice none none (some (.UnaryOp .USub (.Constant (.int 1) k p1) p2)) p3) pos) ρ (.fr (.lst xs.reverse)) ρ1 :=
  PE.imp (pe_revL ha) fun σ H Q ⟨F, rel, k⟩ => ⟨F, rel, fun v F1 H1 rel1 st1 q1 => by
    obtain ⟨l', vs, ev, hs, rp⟩ := (q1.con rel1 ca).lst rel1.ex
    exact ⟨l', vs, ev, hs, fun p hp => k _ F1 _ (rel1.alloc hp) (st1.trans rel (Stp.alloc hp)) ⟨p, rfl, rel1.newF hp, fresh_old (K := X.K) st1 hp, ⟨_, upd_same, rp.reverse⟩, rel1.new hp⟩⟩⟩
theorem we_dlL {k k2 : Nat} (ha : WE X a ρ r1 ρ1) (ca : r1.con ρ1 = some (.lst xs) := by rfl) : WE X (.Subscript a (.Slice (some (.UnaryOp .USub (.Constant (.int 2) k2 p4) p5)) none (some (.UnaryOp .USub (.Constant (.int 1) k p1) p2)) p3) pos) ρ (.fr (.lst xs.dropLast.reverse)) ρ1 :=
  PE.imp (pe_dlL ha) fun σ H Q ⟨F, rel, k⟩ => ⟨F, rel, fun v F1 H1 rel1 st1 q1 => by
    obtain ⟨l', vs, ev, hs, rp⟩ := (q1.con rel1 ca).lst rel1.ex
    exact ⟨l', vs, ev, hs, fun p hp => k _ F1 _ (rel1.alloc hp) (st1.trans rel (Stp.alloc hp)) ⟨p, rfl, rel1.newF hp, fresh_old (K := X.K) st1 hp, ⟨_, upd_same, rp.dropLast.reverse⟩, rel1.new hp⟩⟩⟩
theorem we_revT {k : Nat} (ha : WE X a ρ r1 ρ1) (ca : r1.con ρ1 = some (.tup xs) := by rfl) : WE X (.Subscript a (.Slice none none (some (.UnaryOp .USub (.Constant (.int 1) k p1) p2)) p3) pos) ρ (.im (.tup xs.reverse)) ρ1 :=
  PE.imp (pe_revT ha) fun σ H Q ⟨F, rel, k⟩ => ⟨F, rel, fun v F1 H1 rel1 st1 q1 => by
    obtain ⟨l', vs, ev, hs, rp⟩ := (q1.con rel1 ca).tup rel1.ex
    exact ⟨l', vs, ev, hs, fun p hp => k _ (upd F1 p (.tup _)) _ (rel1.allocF hp) (st1.trans rel (Stp.allocF hp)) (.tup (st_of upd_same) (rp.reverse.mono (ex_put (rel1.newF hp))))⟩⟩
/-! ### xs * n -/
/-- [..] * n, the list new -/
theorem we_rep (ha : WE X a ρ (.fr (.lst xs)) ρ1) (hb : WE X b ρ1 (.im (.int i)) ρ2) (hz : xs.length * i.toNat ≤ 100000 := by first | (simp; done) | (simp; omega) | omega) (hl : -(2 ^ 63) ≤ i ∧ i < 2 ^ 63 := by omega) : WE X (.BinOp a .Mult b pos) ρ (.fr (.lst (List.replicate i.toNat xs).flatten)) ρ2 :=
  PE.imp (pe_op op_rep ha hb) fun σ H Q ⟨F, rel, k⟩ => ⟨F, rel, fun v F1 H1 rel1 st1 q1 => ⟨F1, rel1, fun y F2 H2 rel2 st2 q2 => by
    have q2 : Rep X.K F2 y (.int i) := q2
    cases q2
    obtain ⟨l, ev, f2, h0, ⟨vs, hv, rp⟩, n2⟩ := RepR.step q1 rel1 st2
    refine ⟨l, i, vs, ev, rfl, hv, hl.1, hl.2, by rw [rp.length]; exact sz_of (Nat.le_trans hz (by decide)), fun p hp => ?_⟩
    have st := st1.trans rel st2
    have rr : Reps X.K F2 (List.replicate i.toNat vs).flatten (List.replicate i.toNat xs).flatten := by
      generalize i.toNat = m
      induction m with
      | zero => exact .nil
      | succ m ih => rw [List.replicate_succ, List.replicate_succ, List.flatten_cons, List.flatten_cons]; exact rp.append ih
    exact k _ F2 _ (rel2.alloc hp) (st.trans rel (Stp.alloc hp)) ⟨p, rfl, rel2.newF hp, fresh_old (K := X.K) st hp, ⟨_, upd_same, rr⟩, rel2.new hp⟩⟩⟩
/-! ### list(x), tuple(x), sum(x) -/
theorem vb_list : VB1 X (fun xs H Q => ∃ p ys, xs = [.ref p] ∧ (SqL X.K H p ys ∨ SqT X.K H p ys) ∧ ∀ l, H l = none → Q (.ref l) (upd H l (.lst ys))) (.lst xs) (.fr (.lst xs)) := fun ρ σ F H x Q rel c k => by
  obtain ⟨l, vs, ev, hs, rp⟩ := c.lst rel.ex
  subst ev
  exact ⟨l, vs, rfl, .inl hs, fun p hp => k _ F _ (rel.alloc hp) (Stp.alloc hp) ⟨p, rfl, rel.newF hp, hp, ⟨_, upd_same, rp⟩, rel.new hp⟩⟩
theorem vb_listT : VB1 X (fun xs H Q => ∃ p ys, xs = [.ref p] ∧ (SqL X.K H p ys ∨ SqT X.K H p ys) ∧ ∀ l, H l = none → Q (.ref l) (upd H l (.lst ys))) (.tup xs) (.fr (.lst xs)) := fun ρ σ F H x Q rel c k => by
  obtain ⟨l, vs, ev, hs, rp⟩ := c.tup rel.ex
  subst ev
  exact ⟨l, vs, rfl, .inr hs, fun p hp => k _ F _ (rel.alloc hp) (Stp.alloc hp) ⟨p, rfl, rel.newF hp, hp, ⟨_, upd_same, rp⟩, rel.new hp⟩⟩
theorem we_listL (hm : X.mg "list" = none) (ha : WE X e ρ r1 ρ1) (ca : r1.con ρ1 = some (.lst xs) := by rfl) (hg : Gl X "list" := by rfl) (he : starEach [e] X.env = (false, eval e X.env) :: starEach [] X.env := by rfl) : WE X (.Call (.Name "list" p) [e] [] pos) ρ (.fr (.lst xs)) ρ1 :=
  we_t1 call_list_of vb_list hm ha rfl ca hg (by decide) (by decide) he
theorem we_listT (hm : X.mg "list" = none) (ha : WE X e ρ r1 ρ1) (ca : r1.con ρ1 = some (.tup xs) := by rfl) (hg : Gl X "list" := by rfl) (he : starEach [e] X.env = (false, eval e X.env) :: starEach [] X.env := by rfl) : WE X (.Call (.Name "list" p) [e] [] pos) ρ (.fr (.lst xs)) ρ1 :=
  we_t1 call_list_of vb_listT hm ha rfl ca hg (by decide) (by decide) he
theorem we_tupL (hm : X.mg "tuple" = none) (ha : WE X e ρ r1 ρ1) (ca : r1.con ρ1 = some (.lst xs) := by rfl) (hg : Gl X "tuple" := by rfl) (he : starEach [e] X.env = (false, eval e X.env) :: starEach [] X.env := by rfl) : WE X (.Call (.Name "tuple" p) [e] [] pos) ρ (.im (.tup xs)) ρ1 :=
  we_t1 (d := .lst xs) call_tuple_of (fun ρ σ F H x Q rel c k => by
    obtain ⟨l, vs, ev, hs, rp⟩ := c.lst rel.ex
    subst ev
    exact ⟨l, vs, rfl, .inl ⟨hs, fun p hp => k _ (upd F p (.tup _)) _ (rel.allocF hp) (Stp.allocF hp) (.tup (st_of upd_same) (rp.mono (ex_put (rel.newF hp))))⟩⟩) hm ha rfl ca hg (by decide) (by decide) he
theorem we_sumI {ns : List Int} (hm : X.mg "sum" = none) (ha : WE X e ρ r1 ρ1) (ca : r1.con ρ1 = some (.lst (ns.map .int)) := by rfl) (hc : X.calm = true := by rfl) (hg : Gl X "sum" := by rfl) (he : starEach [e] X.env = (false, eval e X.env) :: starEach [] X.env := by rfl) : WE X (.Call (.Name "sum" p) [e] [] pos) ρ (.im (.int ns.sum)) ρ1 :=
  we_b1 (d := .lst (ns.map .int)) (cr_sum hc) (fun ρ σ F H x Q rel c k => by
    obtain ⟨l, vs, ev, hs, rp⟩ := c.lst rel.ex
    subst ev
    rw [Reps.ints_of rp] at hs
    exact ⟨l, ns, rfl, hs, k _ F H rel Stp.refl (.int _)⟩) hm ha rfl ca hg (by decide) (by decide) he
/-! ### name.pop(), name.extend(e) -/
theorem we_pop {n : Nat} {o : Expr} (ho : WE X o ρ (.sl n) ρ1) (hn : ρ1[n]? = some (.own (.lst xs)) := by rfl) (hx : xs[xs.length - 1]? = some d)
    (hbase : attributeBase o "pop" X.env (eval o X.env) = eval o X.env := by rfl)
    (hline : (apos.endLine == pos.line) = true := by rfl) :
    WE X (.Call (.Attribute o "pop" apos) [] [] pos) ρ (.im d) (ρ1.set n (.own (.lst xs.dropLast))) :=
  PE.imp (pe_bm0 PySem.F.plainAttrs_list PySem.F.slot_list_pop PySem.F.type_list_pop mt_pop ho hbase hline) fun σ H Q ⟨F, rel, k⟩ => ⟨F, rel, fun v F1 H1 rel1 st1 q1 => by
    have q1 : σ[n]? = some (some v) := q1
    obtain ⟨l, vs, ev, hf, hv, rp⟩ := own_lst rel1 hn q1
    subst ev
    refine ⟨.inl ⟨rfl, vs, sq_of hv⟩, ?_⟩
    obtain ⟨y, hy, ry⟩ := Reps.get rp hx
    rw [← rp.length] at hy
    obtain ⟨rel3, st3⟩ := lst_done rel rel1 st1 hn q1 hf rp.dropLast
    exact ⟨l, vs, y, rfl, rfl, hv, hy, k _ F1 _ rel3 st3 ry⟩⟩
theorem we_extend {n : Nat} {o : Expr} (ho : WE X o ρ (.sl n) ρ1) (ha : WE X e ρ1 (.fr (.lst ys)) ρ2) (hn : ρ2[n]? = some (.own (.lst xs)) := by rfl) (hz : xs.length + ys.length ≤ 100000 := by first | decide | omega | assumption) (hn1 : ∃ zs, ρ1[n]? = some (.own (.lst zs)) := by exact ⟨_, rfl⟩)
    (hbase : attributeBase o "extend" X.env (eval o X.env) = eval o X.env := by rfl)
    (hfew : ((backTo pos (starEach [e] X.env)).all (fun x => !x.1) && (backToKw pos (keywordEach [] X.env)).all (fun x => x.1.isSome) && decide ([e].length + ([] : List Keyword).length + (if ([] : List Keyword).isEmpty then 0 else 1) < 30)) = true := by rfl)
    (hline : (apos.endLine == pos.line) = true := by rfl) (hs : starEach [e] X.env = (false, eval e X.env) :: starEach [] X.env := by rfl) (hpl : (backTo pos (starEach [] X.env)).any (·.1) = false := by rfl) :
    WE X (.Call (.Attribute o "extend" apos) [e] [] pos) ρ (.im .non) (ρ2.set n (.own (.lst (xs ++ ys)))) :=
  PE.imp (pe_bm PySem.F.plainAttrs_list PySem.F.slot_list_extend PySem.F.type_list_extend mt_extend ho (wa1_cons ha wa_nil hs) hbase hfew hline hs hpl) fun σ H Q ⟨F, rel, k⟩ => ⟨F, rel, fun v F1 H1 rel1 st1 q1 => by
    have q1 : σ[n]? = some (some v) := q1
    obtain ⟨zs, hz1⟩ := hn1
    obtain ⟨l1, vs1, ev1, _, h1, _⟩ := own_lst rel1 hz1 q1
    subst ev1
    refine ⟨.inl ⟨rfl, vs1, sq_of h1⟩, F1, rel1, fun u us F2 H2 rel2 st2 q2 q3 => ?_⟩
    cases q3
    obtain ⟨b, eb, fb, hb0, ⟨ws, hw, rw_⟩, nb⟩ := q2
    obtain ⟨l, vs, ev, hf, hv, rp⟩ := own_lst rel2 hn q1
    cases ev
    obtain ⟨rel3, st3⟩ := lst_done rel rel2 (st1.trans rel st2) hn q1 hf (rp.append rw_)
    exact ⟨l1, b, vs, ws, rfl, by rw [eb], hv, hw, by rw [rp.length, rw_.length]; exact sz_of (Nat.le_trans hz (by decide)), k _ F2 _ rel3 st3 .non⟩⟩
end
end Z
set_option maxRecDepth 100000
set_option maxHeartbeats 1000000
/-! Z19: def __init__(self, *v), C(*e). -/
namespace Z
open PySem PySem.Spec PyProof.Rows L2 Evl ClX
section
variable {P : Program} {w : World} {K : PySem.W.Frag} {mg : Str → Option Value} {base : Heap} {x qual : Str} {st : Stmt} {f : Addr} {fd : FuncData} {N : List Str} {k : Nat}
theorem reps_of {K : PySem.W.Frag} {F0 : Hp} : ∀ {us : List V} {ds : List D}, us.length = ds.length → (∀ (i : Nat) (d : D), ds[i]? = some d → ∃ u, us[i]? = some u ∧ Rep K F0 u d) → Reps K F0 us ds
  | [], [], _, _ => .nil
  | [], _ :: _, hl, _ => by cases hl
  | _ :: _, [], hl, _ => by cases hl
  | u :: us, d :: ds, hl, h => by
    obtain ⟨u', hu, ru⟩ := h 0 d rfl
    have : u = u' := by simpa using hu
    subst this
    exact .cons ru (reps_of (by simpa using hl) fun i d hd => by simpa using h (i + 1) d (by simpa using hd))
theorem def_MS {p1 pv : Str} {S : D → List D → R → D → Prop} (F : Fun K x qual st f fd) (sc : FnScope N [p1, pv] (defScope st))
    (hb : ∀ (kV doc pm : Value) (an : Option Addr) (cdv ct : Value) (us rest : List Value), us.length = [p1].length → bindArgs (PySem.W.fnOf x qual (defArgs st) (defBody st) (defScope st) .none kV doc pm an cdv ct) ⟨us ++ rest, []⟩ = (newTuple rest >>= fun t => pure ([p1].zip us ++ [(pv, t)])))
    (hz : ∀ d es r d', S d [.tup es] r d' → es.length ≤ 1000) (ho : ∀ d es r d', S d es r d' → r = .im .non)
    (hbody : ∀ (cdv : Value) (A : Around) (outer : List PySem.Env) (s : Shared) (H : Hp) (E : XK), (CxB P w K mg base N qual st f cdv A outer s H E).A.guards = some [] → Room k (CxB P w K mg base N qual st f cdv A outer s H E).A → ∀ d ds r d', S d ds r d' →
      WB (CxB P w K mg base N qual st f cdv A outer s H E) [0] (defBody st) (.own d :: ds.map .im ++ List.replicate (N.length - (SV.own d :: ds.map SV.im).length) .un) { nx := fun ρ' => r = .im .non ∧ ρ'[0]? = some (.own d'), rt := fun r' ρ' => Rt [0] ρ' r r' ∧ ρ'[0]? = some (.own d') }) :
    FnG P w K mg base (L2.CX P w) (k + 1) f (spM K fun d es r d' => S d [.tup es] r d') := by
  refine (g_star (ps := [p1]) (pv := pv) (sp := spM K S) F sc hb fun cdv A outer s H vs Q E hg hr h => body_M (fun d ds r d' hS => hbody cdv A outer s H E hg hr d ds r d' hS) h).imp fun vs H Q E h => ?_
  obtain ⟨d, es, r, d', hS, F0, rel, kk⟩ := h
  obtain rfl := ho _ _ _ _ hS
  have hl : vs.length = es.length + 1 := by have := rel.len; simpa using this
  obtain ⟨v, rest, rfl⟩ : ∃ v rest, vs = v :: rest := by
    cases vs with
    | nil => cases hl
    | cons a b => exact ⟨a, b, rfl⟩
  obtain ⟨q, hq, hqn, hqo⟩ := rel.own 0 d rfl
  have ev : v = .ref q := Option.some.inj (Option.some.inj hq)
  subst ev
  have re : Reps K F0 rest es := reps_of (by simpa using hl) fun i e h => by
    obtain ⟨u, hu, ru⟩ := rel.im (i + 1) e (by show (es.map SV.im)[i]? = _; rw [List.getElem?_map, h]; rfl)
    have hu : (rest.map some)[i]? = some (some u) := hu
    rw [List.getElem?_map] at hu
    cases e' : rest[i]? with
    | none => rw [e'] at hu; cases hu
    | some y => rw [e'] at hu; cases hu; exact ⟨_, rfl, ru⟩
  refine ⟨[.ref q], rest, rfl, rfl, by rw [re.length]; exact sz_of (Nat.le_trans (hz _ _ _ _ hS) (by decide)), fun p hp => ⟨d, [.tup es], .im .non, d', hS, upd F0 p (.tup rest), ?_, fun y F' H' rel' st' q' => ?_⟩⟩
  · have hn := rel.newF hp
    obtain ⟨o, ho'⟩ := hqo.ob
    have hqp : q ≠ p := ne_of_none ho' hp
    exact rel_args1 (by rw [upd_ne hqp]; exact hqn) (hqo.at (ex_put hn) (upd_ne hqp)) (.cons (.tup (st_of upd_same) (re.mono (ex_put hn))) .nil) (rel.allocF hp).ex
  · have keep : ∀ a o, a ≠ q → H a = some o → H' a = some o ∧ F' a = F0 a := fun a o hne h => by
      have ne := ne_of_none h hp
      obtain ⟨k1, k2⟩ := st'.keep a o (by rw [upd_ne ne]; exact h) fun z => hne (owns1 (ds := [D.tup es]) z)
      exact ⟨k1, by rw [k2, upd_ne ne]⟩
    obtain ⟨q2, hq2, hn2, ho2⟩ := rel'.own 0 d' rfl
    have eq2 : q2 = q := V.ref.inj (Option.some.inj (Option.some.inj hq2)).symm
    subst eq2
    have r := rel.keepBut (i := 0) (d := d) (d' := d') (p := q2) rfl rfl keep rel'.ex hn2 ho2
    refine kk y F' H' r ⟨fun a o h n => keep a o (fun z => n (by rw [z]; exact owns1')) h, fun a z => .inl (by rw [owns1 z]; exact owns1'), fun a h => ?_⟩ q'
    cases e : H a with
    | none => exact absurd e h
    | some o => exact st'.dom a (by rw [upd_ne (ne_of_none e hp), e]; exact fun z => by cases z)
end
section
variable {X : Cx} {CX : CXT} {k : Nat} {C f : Addr} {sp : Sp} {E : XK} {x : Str} {e : Expr} {p sp_ pos : Pos} {te : TE} {ρ ρ1 : Env} {r1 : R} {ds : List D} {d' : D} {SM : D → List D → R → D → Prop}
/-- C(*e) -/
theorem pe_makeGS (M : Mk X.K C f) (F : FnG X.prog X.w X.K X.mg X.base CX k f sp) (hgu : X.A.guards = some []) (hr : Room (k + 1) X.A) (hm : X.mg x = some (.ref C)) (hx : Passes CX X E) (he : PE X e te) (hg : Gl X x := by rfl) (hdb : (x == ("__debug__" : Str)) = false := by decide)
    (hst : starEach [.Starred e sp_] X.env = [(true, eval e X.env)] := by rfl) :
    PE X (.Call (.Name x p) [.Starred e sp_] [] pos) (fun σ H Q => te σ H fun y H1 => ∃ a vs, y = V.ref a ∧ (SqT X.K H1 a vs ∨ SqL X.K H1 a vs) ∧ ∀ y dx, H1 y = none → H1 dx = none → dx ≠ y → sp (.ref y :: vs) (upd (upd H1 dx (.own y)) y (.ins C dx [])) (fun v H2 => v = .non ∧ Q (.ref y) H2) E) := by
  refine ⟨fun pins s σ H Q I h => ?_⟩
  refine wpAny_Call_Name_kw (ld_glob I hg hm ?_ hdb)
  refine PySem.W.callWith_S (h₀ := X.base) I.ok.mod.kin M.kp (thn (he.run pins s σ H _ I h) fun v s1 ⟨y, H1, I1, ry, a, xs, ey, hxs, q⟩ => ?_) hst
  subst ey
  obtain rfl : v = Value.ref a := ry
  exact StX.star_any I1 hxs fun us s2 I2 rv => ⟨I2.kIn, run_makeG M F hgu hr hx I2 rv q⟩
theorem we_makeS (G : MCall X f (spM X.K SM)) (M : Mk X.K C f) (hm : X.mg x = some (.ref C)) (ha : WE X e ρ r1 ρ1) (ca : r1.con ρ1 = some (.tup ds) ∨ r1.con ρ1 = some (.lst ds)) (hS : SM (.ins C []) ds (.im .non) d') (hg : Gl X x := by rfl) (hdb : (x == ("__debug__" : Str)) = false := by decide)
    (hst : starEach [.Starred e sp_] X.env = [(true, eval e X.env)] := by rfl) : WE X (.Call (.Name x p) [.Starred e sp_] [] pos) ρ (.fr d') ρ1 := by
  obtain ⟨k, F, hgu, hr⟩ := G.run
  exact PE.imp (pe_makeGS M F hgu (hr.mono (by omega)) hm passF ha hg hdb hst) fun σ H Q ⟨F, rel, kk⟩ => ⟨F, rel, fun v F1 H1 rel1 st1 q1 => by
    rcases ca with ca | ca
    · obtain ⟨a, vs, ev, hs, rd⟩ := (q1.con rel1 ca).tup rel1.ex
      exact ⟨a, vs, ev, .inl hs, fun y dx hy hdx ne => ⟨.ins C [], ds, .im .non, d', hS, backI rel rel1 st1 rd kk hy hdx ne⟩⟩
    · obtain ⟨a, vs, ev, hs, rd⟩ := (q1.con rel1 ca).lst rel1.ex
      exact ⟨a, vs, ev, .inr hs, fun y dx hy hdx ne => ⟨.ins C [], ds, .im .non, d', hS, backI rel rel1 st1 rd kk hy hdx ne⟩⟩⟩
end
end Z
set_option maxRecDepth 100000
set_option maxHeartbeats 1000000
/-! Z20: rules that ask the data which operation it is. -/
namespace Z
open PySem PySem.Spec PyProof.Rows L2 Evl ClX
/-! ### names -/
def findN : List Str → Str → Option Nat
  | [], _ => none
  | y :: r, x => if x = y then some 0 else (findN r x).map (· + 1)
theorem findN_at : ∀ {N : List Str} {x : Str} {i : Nat}, findN N x = some i → N[i]? = some x
  | [], _, _, h => by cases h
  | y :: r, x, i, h => by
    unfold findN at h
    split at h
    · rename_i e; cases h; rw [e]; rfl
    · cases hr : findN r x with
      | none => rw [hr] at h; cases h
      | some j => rw [hr] at h; cases h; simpa using findN_at hr
def SV.rd (i : Nat) : SV → Option R
  | .im d => some (.im d)
  | .own _ => some (.sl i)
  | .un => none
/-- what is frozen, new or owned is frozen -/
inductive Frz : Env → R → D → Env → Prop where
  | im (ρ : Env) (d : D) : Frz ρ (.im d) d ρ
  | fr (ρ : Env) (d : D) : Frz ρ (.fr d) d ρ
  | sl (ρ : Env) {i : Nat} {d : D} (h : ρ[i]? = some (.own d)) : Frz ρ (.sl i) d (ρ.set i (.im d))
/-- what a slot holds when a result is stored -/
inductive StoZ : Env → R → SV → Env → Prop where
  | im (ρ : Env) (d : D) : StoZ ρ (.im d) (.im d) ρ
  | fr (ρ : Env) (d : D) : StoZ ρ (.fr d) (.own d) ρ
  | sl (ρ : Env) {i : Nat} {d : D} (h : ρ[i]? = some (.own d)) : StoZ ρ (.sl i) (.im d) (ρ.set i (.im d))
/-- the built-in names that the text leaves alone -/
def bltnNames : List Str := ["isinstance", "int", "bool", "abs", "str", "repr", "divmod", "len", "max", "min", "zip", "all", "any", "range", "sum", "list", "tuple", "enumerate", "sorted", "set", "dict", "super"]
structure Bi (mg : Str → Option Value) : Prop where
  h : ∀ x : Str, x ∈ bltnNames → mg x = none
/-- a class of the text and the fields of its instances -/
structure ClsF (K : PySem.W.Frag) (C : Addr) (fs : List Str) : Prop where
  cl : Cls K C
  na : ∀ f ∈ fs, NoAttr K C f
  isc : C8.InsC K C
/-- a def that is called with some arguments lent -/
structure CallL (X : Cx) (x : Str) (m : List Bool) (S : List SV → R → List SV → Prop) : Prop where
  g : Call X x (spG X.K S)
/-- a method, a property, a class -/
structure MC (X : Cx) (C : Addr) (m : Str) (S : List D → R → Prop) : Prop where
  ex : ∃ f, MCall X f (spP X.K S) ∧ Meth X.K C m f
structure PC (X : Cx) (C : Addr) (m : Str) (S : List D → R → Prop) : Prop where
  ex : ∃ p g, MCall X g (spP X.K S) ∧ PropOf X.K C m p g
structure KC (X : Cx) (x : Str) (C : Addr) (SM : D → List D → R → D → Prop) : Prop where
  ex : ∃ f, MCall X f (spM X.K SM) ∧ Mk X.K C f
  mg : X.mg x = some (.ref C)
structure OC (X : Cx) (C : Addr) (n : String) (S : List D → R → Prop) : Prop where
  ex : ∃ f, MCall X f (spP X.K S) ∧ OwnOp X.K C f (PySem.dunder n)
structure NC (X : Cx) (C : Addr) (S : List D → R → Prop) : Prop where
  ex : ∃ f, MCall X f (spP X.K S) ∧ PySem.W.findIn X.K (.ref C) "__neg__" = some (some (.ref f)) ∧ PySem.W.isFn X.K (.ref f) = true
section
variable {X : Cx} {a b c e o : Expr} {es : List Expr} {pos p apos : Pos} {x y : Str} {ρ ρ1 ρ2 ρ3 ρ4 : Env} {r r1 r2 r3 : R} {d d1 d2 d' : D} {ds xs ys : List D} {rs : List R} {i j : Int} {k : Bool} {C : Addr} {gs : List (Str × D)}
theorem we_nm {i : Nat} {s : SV} (hN : findN X.N x = some i := by rfl) (hv : Vis X.env.scope x := by first | exact .inl rfl | exact .inr (.inl rfl) | exact .inr (.inr rfl)) (hi : ρ[i]? = some s := by rfl) (hr : s.rd i = some r := by rfl) (hd : (x == ("__debug__" : Str)) = false := by decide) (hcd : (x == ("__classdict__" : Str)) = false := by decide) : WE X (.Name x pos) ρ r ρ := by
  cases s with
  | un => cases hr
  | im d => cases hr; exact we_name (findN_at hN) hv hi hd hcd
  | own d => cases hr; exact we_nameO (findN_at hN) hv hi hd hcd
theorem we_z (h : WE X e ρ r ρ1) (z : Frz ρ1 r d ρ2) : WE X e ρ (.im d) ρ2 := by
  cases z with
  | im => exact h
  | fr => exact we_im h
  | sl hi => exact we_frz h hi
theorem wa_c (h : WE X e ρ r ρ1) (z : Frz ρ1 r d ρ2) (hr : WA X es ρ2 ds ρ3) (hs : starEach (e :: es) X.env = (false, eval e X.env) :: starEach es X.env := by rfl) : WA X (e :: es) ρ (d :: ds) ρ3 := wa_cons (we_z h z) hr hs
/-! ### two operands -/
def BinV (X : Cx) (op : Operator) (d1 d2 : D) (r : R) : Prop := ∃ f, OpR X (binaryOp op) f ∧ ∀ ρ, VOp2 X f d1 d2 ρ r ρ
theorem we_bx {op : Operator} (ha : WE X a ρ r1 ρ1) (hb : WE X b ρ1 r2 ρ2) (ca : r1.con ρ2 = some d1) (cb : r2.con ρ2 = some d2) (hv : BinV X op d1 d2 r) : WE X (.BinOp a op b pos) ρ r ρ2 :=
  let ⟨_, ho, h⟩ := hv
  we_bin ho ha hb (h ρ2) ca cb
theorem bv_add : BinV X .Add (.int i) (.int j) (.im (.int (i + j))) := ⟨_, op_add, fun _ => vop_I0 fun _ => .int _⟩
theorem bv_sub : BinV X .Sub (.int i) (.int j) (.im (.int (i - j))) := ⟨_, op_sub, fun _ => vop_I0 fun _ => .int _⟩
theorem bv_mul (hc : CMulW i j) : BinV X .Mult (.int i) (.int j) (.im (.int (i * j))) := ⟨_, op_mulW, fun _ => vop_I hc fun _ => .int _⟩
theorem bv_mod (hc : 0 < j) : BinV X .Mod (.int i) (.int j) (.im (.int (i % j))) := ⟨_, op_mod, fun _ => vop_I hc fun _ => .int _⟩
theorem bv_fdiv (hc : CDiv i j) : BinV X .FloorDiv (.int i) (.int j) (.im (.int (i / j))) := ⟨_, op_fdiv, fun _ => vop_I hc fun _ => .int _⟩
theorem bv_fdivA (hc : CDivA i j) : BinV X .FloorDiv (.int i) (.int j) (.im (.int (i.fdiv j))) := ⟨_, op_fdivA, fun _ => vop_I hc fun _ => .int _⟩
theorem bv_pow (hc : CPow i j) : BinV X .Pow (.int i) (.int j) (.im (.int (i ^ j.toNat))) := ⟨_, op_pow, fun _ => vop_I hc fun _ => .int _⟩
theorem bv_cat (hz : xs.length + ys.length ≤ 100000) : BinV X .Add (.lst xs) (.lst ys) (.fr (.lst (xs ++ ys))) := ⟨_, op_catS, fun ρ σ F H x y Q rel c1 c2 k => by
  obtain ⟨l, vs, ev, hs, rp⟩ := c1.lst rel.ex
  obtain ⟨l', vs', ev', hs', rp'⟩ := c2.lst rel.ex
  refine ⟨l, l', vs, vs', ev, ev', hs, hs', by rw [rp.length, rp'.length]; exact sz_of (Nat.le_trans hz (by decide)), fun p hp => ?_⟩
  exact k _ F _ (rel.alloc hp) (Stp.alloc hp) ⟨p, rfl, rel.newF hp, hp, ⟨_, upd_same, rp.append rp'⟩, rel.new hp⟩⟩
theorem bv_catS {x y : Str} (hz : x.length + y.length ≤ 100000) : BinV X .Add (.str x) (.str y) (.im (.str (x ++ y))) := ⟨_, op_add_str, fun ρ σ F H u v Q rel c1 c2 k => by
  cases c1.str
  cases c2.str
  exact ⟨x, y, rfl, rfl, sz_of hz, k _ F H rel Stp.refl (.str _)⟩⟩
theorem bv_catT (h0 : xs ≠ []) (hz : xs.length + ys.length ≤ 100000) : BinV X .Add (.tup xs) (.tup ys) (.im (.tup (xs ++ ys))) := ⟨_, op_catT, fun ρ σ F H u v Q rel c1 c2 k => by
  obtain ⟨l, vs, ev, hs, rp⟩ := c1.tup rel.ex
  obtain ⟨l', vs', ev', hs', rp'⟩ := c2.tup rel.ex
  refine ⟨l, l', vs, vs', ev, ev', hs, hs', ?_, by rw [rp.length, rp'.length]; exact sz_of (Nat.le_trans hz (by decide)), fun z => ?_, fun z p hp => ?_⟩
  · intro z; rw [z] at rp; cases rp; exact h0 rfl
  · subst z
    cases rp'
    rw [List.append_nil] at k
    refine k _ F H rel Stp.refl ?_
    rcases c1 with c1 | ⟨p, _, h⟩
    · rw [← ev]; exact c1
    · exact (show False from h).elim
  · exact k _ (upd F p (.tup _)) _ (rel.allocF hp) (Stp.allocF hp) (.tup (st_of upd_same) ((rp.append rp').mono (ex_put (rel.newF hp))))⟩
def CmpV (X : Cx) (op : CmpOp) (d1 d2 : D) (k : Bool) : Prop := ∃ f, OpR X (compareOp op) f ∧ ∀ ρ, VOp2 X f d1 d2 ρ (.im (.bl k)) ρ
theorem we_cx {op : CmpOp} (ha : WE X a ρ r1 ρ1) (hb : WE X b ρ1 r2 ρ2) (ca : r1.con ρ2 = some d1) (cb : r2.con ρ2 = some d2) (hv : CmpV X op d1 d2 k) (hm : behindInMarks op b = false := by rfl) : WE X (.Compare a [op] [b] pos) ρ (.im (.bl k)) ρ2 :=
  let ⟨_, ho, h⟩ := hv
  we_cmp ho ha hb (h ρ2) hm ca cb
theorem wt_cx {op : CmpOp} (ha : WE X a ρ r1 ρ1) (hb : WE X b ρ1 r2 ρ2) (ca : r1.con ρ2 = some d1) (cb : r2.con ρ2 = some d2) (hv : CmpV X op d1 d2 k) (hm : behindInMarks op b = false := by rfl) : WT X (.Compare a [op] [b] pos) ρ k ρ2 :=
  let ⟨_, ho, h⟩ := hv
  wt_cmp ho ha hb (h ρ2) hm ca cb
theorem cv_lt : CmpV X .Lt (.int i) (.int j) (decide (i < j)) := ⟨_, op_lt, fun _ => vop_I0 fun _ => .bl _⟩
theorem cv_le : CmpV X .LtE (.int i) (.int j) (decide (i ≤ j)) := ⟨_, op_le, fun _ => vop_I0 fun _ => .bl _⟩
theorem cv_gt : CmpV X .Gt (.int i) (.int j) (decide (j < i)) := ⟨_, op_gt, fun _ => vop_I0 fun _ => .bl _⟩
theorem cv_ge : CmpV X .GtE (.int i) (.int j) (decide (j ≤ i)) := ⟨_, op_ge, fun _ => vop_I0 fun _ => .bl _⟩
theorem cv_eqI : CmpV X .Eq (.int i) (.int j) (decide (i = j)) := ⟨_, op_eq, fun _ => by
  have := vop_eq (X := X) (ρ := ‹Env›) (d1 := .int i) (d2 := .int j) rfl rfl rfl
  simpa using this⟩
theorem cv_neI : CmpV X .NotEq (.int i) (.int j) (!decide (i = j)) := ⟨_, op_ne, fun _ => by
  have := vop_ne (X := X) (ρ := ‹Env›) (d1 := .int i) (d2 := .int j) rfl rfl rfl
  simpa using this⟩
theorem cv_eq {x y : V} (h1 : d1.sc = some x) (h2 : d2.sc = some y) (hs : scal x y = true) : CmpV X .Eq d1 d2 (decide (x = y)) := ⟨_, op_eq, fun _ => vop_eq h1 h2 hs⟩
theorem cv_ne {x y : V} (h1 : d1.sc = some x) (h2 : d2.sc = some y) (hs : scal x y = true) : CmpV X .NotEq d1 d2 (!decide (x = y)) := ⟨_, op_ne, fun _ => vop_ne h1 h2 hs⟩
theorem cv_eqS {x y : Str} : CmpV X .Eq (.str x) (.str y) (decide (x = y)) := ⟨_, op_eq, fun _ => by
  have := vop_eq (X := X) (ρ := ‹Env›) (d1 := .str x) (d2 := .str y) rfl rfl rfl
  simpa using this⟩
theorem cv_neS {x y : Str} : CmpV X .NotEq (.str x) (.str y) (!decide (x = y)) := ⟨_, op_ne, fun _ => by
  have := vop_ne (X := X) (ρ := ‹Env›) (d1 := .str x) (d2 := .str y) rfl rfl rfl
  simpa using this⟩
theorem cv_isN : CmpV X .Is d1 .non d1.isNon := ⟨_, op_isN, fun _ => vop_isN⟩
theorem cv_notN : CmpV X .IsNot d1 .non (!d1.isNon) := ⟨_, op_notN, fun _ => vop_notN⟩
theorem cv_isB {k k' : Bool} : CmpV X .Is (.bl k) (.bl k') (decide (k = k')) := ⟨_, op_is_bl, fun _ => vop_isB⟩
theorem cv_notB {k k' : Bool} : CmpV X .IsNot (.bl k) (.bl k') (!decide (k = k')) := ⟨_, op_isnot_bl, fun _ => vop_notB⟩
end
/-! ### plain data: == is = -/
mutual
/-- None, ints, texts, lists and tuples of such -/
def D.pl : D → Option PyData
  | .non => some .none | .int i => some (.int i) | .str s => some (.str s)
  | .lst xs => (D.pls xs).map .list
  | .tup xs => (D.pls xs).map .tuple
  | _ => none
def D.pls : List D → Option (List PyData)
  | [] => some []
  | x :: r => (D.pl x).bind fun p => (D.pls r).map (p :: ·)
end
mutual
theorem pl_py : ∀ (d : D) (p : PyData), D.pl d = some p → D.py d = some p
  | .non, p, h => h
  | .int i, p, h => h
  | .str s, p, h => h
  | .lst xs, p, h => by
    simp only [D.pl, Option.map_eq_some_iff] at h
    obtain ⟨ps, h1, rfl⟩ := h
    simp only [D.py, pls_pys xs ps h1, Option.map_some]
  | .tup xs, p, h => by
    simp only [D.pl, Option.map_eq_some_iff] at h
    obtain ⟨ps, h1, rfl⟩ := h
    simp only [D.py, pls_pys xs ps h1, Option.map_some]
  | .bl _, p, h => by simp [D.pl] at h
  | .ty _, p, h => by simp [D.pl] at h
  | .obj _, p, h => by simp [D.pl] at h
  | .set _, p, h => by simp [D.pl] at h
  | .exc _ _ _, p, h => by simp [D.pl] at h
  | .dct _, p, h => by simp [D.pl] at h
  | .ins _ _, p, h => by simp [D.pl] at h
theorem pls_pys : ∀ (ds : List D) (ps : List PyData), D.pls ds = some ps → D.pys ds = some ps
  | [], ps, h => h
  | d :: ds, ps, h => by
    simp only [D.pls, Option.bind_eq_some_iff, Option.map_eq_some_iff] at h
    obtain ⟨p, h1, qs, h2, rfl⟩ := h
    simp only [D.pys, pl_py d p h1, pls_pys ds qs h2]
end
mutual
theorem pl_eqv : ∀ (d e : D) (p q : PyData), D.pl d = some p → D.pl e = some q → (PyData.eqv p q = true ↔ d = e)
  | .non, e, p, q, h, h' => by cases h; cases e <;> simp [D.pl] at h' <;> first | (subst h'; simp [PyData.eqv]; done) | (obtain ⟨_, _, rfl⟩ := h'; simp [PyData.eqv])
  | .int i, e, p, q, h, h' => by cases h; cases e <;> simp [D.pl] at h' <;> first | (subst h'; simp [PyData.eqv]; done) | (obtain ⟨_, _, rfl⟩ := h'; simp [PyData.eqv])
  | .str s, e, p, q, h, h' => by cases h; cases e <;> simp [D.pl] at h' <;> first | (subst h'; simp [PyData.eqv]; done) | (obtain ⟨_, _, rfl⟩ := h'; simp [PyData.eqv])
  | .lst xs, e, p, q, h, h' => by
    simp only [D.pl, Option.map_eq_some_iff] at h
    obtain ⟨ps, h1, rfl⟩ := h
    cases e with
    | lst ys =>
      simp only [D.pl, Option.map_eq_some_iff] at h'
      obtain ⟨qs, h2, rfl⟩ := h'
      rw [PyData.eqv, pls_eqv xs ys ps qs h1 h2, D.lst.injEq]
    | tup ys =>
      simp only [D.pl, Option.map_eq_some_iff] at h'
      obtain ⟨qs, h2, rfl⟩ := h'
      simp [PyData.eqv]
    | _ => simp [D.pl] at h' <;> (subst h'; simp [PyData.eqv])
  | .tup xs, e, p, q, h, h' => by
    simp only [D.pl, Option.map_eq_some_iff] at h
    obtain ⟨ps, h1, rfl⟩ := h
    cases e with
    | tup ys =>
      simp only [D.pl, Option.map_eq_some_iff] at h'
      obtain ⟨qs, h2, rfl⟩ := h'
      rw [PyData.eqv, pls_eqv xs ys ps qs h1 h2, D.tup.injEq]
    | lst ys =>
      simp only [D.pl, Option.map_eq_some_iff] at h'
      obtain ⟨qs, h2, rfl⟩ := h'
      simp [PyData.eqv]
    | _ => simp [D.pl] at h' <;> (subst h'; simp [PyData.eqv])
  | .bl _, e, p, q, h, h' => by simp [D.pl] at h
  | .ty _, e, p, q, h, h' => by simp [D.pl] at h
  | .obj _, e, p, q, h, h' => by simp [D.pl] at h
  | .set _, e, p, q, h, h' => by simp [D.pl] at h
  | .exc _ _ _, e, p, q, h, h' => by simp [D.pl] at h
  | .dct _, e, p, q, h, h' => by simp [D.pl] at h
  | .ins _ _, e, p, q, h, h' => by simp [D.pl] at h
theorem pls_eqv : ∀ (ds es : List D) (ps qs : List PyData), D.pls ds = some ps → D.pls es = some qs → (PyData.eqvAll ps qs = true ↔ ds = es)
  | [], es, ps, qs, h, h' => by
    cases h
    cases es with
    | nil => cases h'; simp [PyData.eqvAll]
    | cons e es =>
      simp only [D.pls, Option.bind_eq_some_iff, Option.map_eq_some_iff] at h'
      obtain ⟨p, h1, qs, h2, rfl⟩ := h'
      simp [PyData.eqvAll]
  | d :: ds, es, ps, qs, h, h' => by
    simp only [D.pls, Option.bind_eq_some_iff, Option.map_eq_some_iff] at h
    obtain ⟨p, h1, ps, h2, rfl⟩ := h
    cases es with
    | nil => cases h'; simp [PyData.eqvAll]
    | cons e es =>
      simp only [D.pls, Option.bind_eq_some_iff, Option.map_eq_some_iff] at h'
      obtain ⟨q, h3, qs, h4, rfl⟩ := h'
      rw [PyData.eqvAll, Bool.and_eq_true, pl_eqv d e p q h1 h3, pls_eqv ds es ps qs h2 h4, List.cons.injEq]
end
/-- plain data of a depth -/
def Pln (n : Nat) (d : D) : Prop := ∃ p, d.pl = some p ∧ p.canLay0 = true ∧ p.depth ≤ n
theorem Pln.mono {n m : Nat} {d : D} (h : Pln n d) (hm : n ≤ m) : Pln m d := let ⟨p, a, b, c⟩ := h; ⟨p, a, b, Nat.le_trans c hm⟩
theorem Pln.int {n : Nat} (i : Int) : Pln (n + 1) (.int i) := ⟨_, rfl, rfl, by simp [PyData.depth]⟩
theorem Pln.non {n : Nat} : Pln (n + 1) .non := ⟨_, rfl, rfl, by simp [PyData.depth]⟩
theorem Pln.str {n : Nat} {s : Str} (h : PyData.canLay0 (.str s) = true) : Pln (n + 1) (.str s) := ⟨_, rfl, h, by simp [PyData.depth]⟩
theorem plns_of {n : Nat} : ∀ {xs : List D}, (∀ d ∈ xs, Pln n d) → ∃ ps, D.pls xs = some ps ∧ PyData.canLayAll0 ps = true ∧ ∀ p ∈ ps, p.depth ≤ n
  | [], _ => ⟨[], rfl, rfl, by simp⟩
  | d :: xs, h => by
    obtain ⟨p, a, b, c⟩ := h d (by simp)
    obtain ⟨ps, a', b', c'⟩ := plns_of fun d hd => h d (List.mem_cons_of_mem _ hd)
    refine ⟨p :: ps, by simp [D.pls, a, a'], by simp [PyData.canLayAll0, b, b'], fun q hq => ?_⟩
    rcases List.mem_cons.mp hq with rfl | hq
    · exact c
    · exact c' q hq
theorem depthAll_le {n : Nat} : ∀ {ps : List PyData}, (∀ p ∈ ps, p.depth ≤ n) → PyData.depthAll ps ≤ n
  | [], _ => by simp [PyData.depthAll]
  | p :: ps, h => by
    have h1 := h p (by simp)
    have h2 := depthAll_le fun q hq => h q (List.mem_cons_of_mem _ hq)
    simp only [PyData.depthAll]
    omega
theorem Pln.lst {n : Nat} {xs : List D} (h : ∀ d ∈ xs, Pln n d) : Pln (n + 1) (.lst xs) := by
  obtain ⟨ps, a, b, c⟩ := plns_of h
  exact ⟨.list ps, by simp [D.pl, a], by simpa [PyData.canLay0] using b, by have := depthAll_le c; simp only [PyData.depth]; omega⟩
theorem Pln.tup {n : Nat} {xs : List D} (h : ∀ d ∈ xs, Pln n d) : Pln (n + 1) (.tup xs) := by
  obtain ⟨ps, a, b, c⟩ := plns_of h
  exact ⟨.tuple ps, by simp [D.pl, a], by simpa [PyData.canLay0] using b, by have := depthAll_le c; simp only [PyData.depth]; omega⟩
theorem shaped_of {p : PyData} (h : p.canLay0 = true) (h2 : p.depth ≤ 60) : SeqAt.shaped p = true := Bool.and_eq_true_iff.mpr ⟨h, decide_eq_true (by omega)⟩
section
variable {X : Cx} {a b c e o : Expr} {es : List Expr} {pos p apos p1 : Pos} {x y m f : Str} {ρ ρ1 ρ2 ρ3 ρ4 : Env} {r r1 r2 r3 : R} {d d1 d2 d' : D} {ds xs ys : List D} {rs : List R} {i j : Int} {k : Bool} {n : Nat} {C : Addr} {gs : List (Str × D)} {S : List D → R → Prop} {SG : List SV → R → List SV → Prop} {SM : D → List D → R → D → Prop}
theorem cv_eqP (hr : Room n X.A) (h1 : Pln 60 d1) (h2 : Pln 60 d2) (hk : k = true ↔ d1 = d2) : CmpV X .Eq d1 d2 k := by
  obtain ⟨p1, a1, b1, c1⟩ := h1
  obtain ⟨p2, a2, b2, c2⟩ := h2
  have e : PyData.eqv p1 p2 = k := by rw [Bool.eq_iff_iff, pl_eqv d1 d2 p1 p2 a1 a2, hk]
  exact ⟨_, op_eqD (hu64 hr), fun ρ => e ▸ vop_eqD (pl_py _ _ a1) (pl_py _ _ a2) (shaped_of b1 c1) (shaped_of b2 c2)⟩
theorem cv_neP (hr : Room n X.A) (h1 : Pln 60 d1) (h2 : Pln 60 d2) (hk : k = true ↔ d1 ≠ d2) : CmpV X .NotEq d1 d2 k := by
  obtain ⟨p1, a1, b1, c1⟩ := h1
  obtain ⟨p2, a2, b2, c2⟩ := h2
  have e : (!PyData.eqv p1 p2) = k := by
    rw [Bool.eq_iff_iff, hk]
    have := pl_eqv d1 d2 p1 p2 a1 a2
    cases q : PyData.eqv p1 p2 with
    | true => simp [this.mp q]
    | false => simp; intro z; rw [this.mpr z] at q; cases q
  exact ⟨_, op_neD (hu64 hr), fun ρ => e ▸ vop_neD (pl_py _ _ a1) (pl_py _ _ a2) (shaped_of b1 c1) (shaped_of b2 c2)⟩
/-! ### items, attributes -/
inductive IxV : D → Int → D → Prop where
  | lst {xs : List D} {i : Int} {d : D} (h : atI xs i = some d) : IxV (.lst xs) i d
  | tup {xs : List D} {i : Int} {d : D} (h : atI xs i = some d) : IxV (.tup xs) i d
theorem we_ix2 (ha : WE X a ρ r1 ρ1) (hb : WE X b ρ1 r2 ρ2) (ca : r1.con ρ2 = some d1) (cb : r2.con ρ2 = some (.int i)) (hi : IxV d1 i d) (hs : PlainIx b := by intro _ _; rfl) : WE X (.Subscript a b pos) ρ (.im d) ρ2 := by
  cases hi with
  | lst h => exact we_ixL ha hb ca cb hs h
  | tup h => exact we_ixT ha hb ca cb hs h
/-- a[lo:hi] -/
inductive SlV : D → Option Int → Option Int → R → Prop where
  | lst (xs : List D) (l h : Option Int) : SlV (.lst xs) l h (.fr (.lst (cut xs l h)))
  | tup (xs : List D) (l h : Option Int) (hw : ¬ (HT.sIx xs.length 0 l = 0 ∧ HT.sIx xs.length xs.length h = xs.length)) : SlV (.tup xs) l h (.im (.tup (cut xs l h)))
theorem we_sl {lo hi : Option Expr} {l h : Option Int} {p2 : Pos} (ha : WE X a ρ r1 ρ1) (hl : WO X lo ρ1 l ρ2) (hh : WO X hi ρ2 h ρ3) (ca : r1.con ρ3 = some d) (hv : SlV d l h r) : WE X (.Subscript a (.Slice lo hi none p2) pos) ρ r ρ3 := by
  cases hv with
  | lst => exact we_slL ha hl hh ca
  | tup _ _ _ hw => exact we_slT ha hl hh ca hw
inductive RvV : D → R → Prop where
  | lst (xs : List D) : RvV (.lst xs) (.fr (.lst xs.reverse))
  | tup (xs : List D) : RvV (.tup xs) (.im (.tup xs.reverse))
theorem we_rv {k : Nat} {p2 p3 : Pos} (ha : WE X a ρ r1 ρ1) (ca : r1.con ρ1 = some d) (hv : RvV d r) : WE X (.Subscript a (.Slice none none (some (.UnaryOp .USub (.Constant (.int 1) k p1) p2)) p3) pos) ρ r ρ1 := by
  cases hv with
  | lst => exact we_revL ha ca
  | tup => exact we_revT ha ca
theorem we_at {fl : List Str} (he : WE X e ρ r ρ1) (ca : r.con ρ1 = some (.ins C gs)) (c : ClsF X.K C fl) (hf : f ∈ fl) (hl : gs.lookup f = some d := by rfl) (hb : attributeBase e f X.env (eval e X.env) = eval e X.env := by rfl) : WE X (.Attribute e f pos) ρ (.im d) ρ1 :=
  we_fld he c.cl (c.na f hf) ca hl hb
theorem we_pr {fl : List Str} (h : PC X C f S) (he : WE X e ρ r1 ρ1) (z : Frz ρ1 r1 (.ins C gs) ρ2) (c : ClsF X.K C fl) (hS : S [.ins C gs] r) (ho : r.ok = true := by rfl) (hb : attributeBase e f X.env (eval e X.env) = eval e X.env := by rfl) : WE X (.Attribute e f pos) ρ r ρ2 := by
  obtain ⟨p, g, G, hp⟩ := h.ex
  exact we_prop G (we_z he z) c.cl hp hS ho hb
/-! ### calls -/
theorem wcX (G : Call X x (spP X.K S)) (ha : WA X (e :: es) ρ ds ρ1) (hS : S ds r) (ho : r.ok = true := by rfl) (hg : Gl X x := by rfl) (hd : (x == ("__debug__" : Str)) = false := by decide)
    (he : starEach (e :: es) X.env = (false, eval e X.env) :: starEach es X.env := by rfl) (hpl : (backTo pos (starEach es X.env)).any (·.1) = false := by rfl) : WE X (.Call (.Name x p) (e :: es) [] pos) ρ r ρ1 := wc G ha hS ho hg hd he hpl
/-- arguments, some lent -/
inductive Lnd : Bool → Env → R → R → Env → Prop where
  | yes (ρ : Env) (r : R) : Lnd true ρ r r ρ
  | no {ρ : Env} {r : R} {d : D} {ρ' : Env} (z : Frz ρ r d ρ') : Lnd false ρ r (.im d) ρ'
theorem we_l {bl : Bool} (h : WE X e ρ r ρ1) (l : Lnd bl ρ1 r r1 ρ2) : WE X e ρ r1 ρ2 := by
  cases l with
  | yes => exact h
  | no z => exact we_z h z
def WRm (X : Cx) (m : List Bool) (es : List Expr) (ρ : Env) (rs : List R) (ρ' : Env) : Prop := WR X es ρ rs ρ'
theorem wrm_nil {m : List Bool} : WRm X m [] ρ [] ρ := wr_nil
theorem wrm_cons {bl : Bool} {m : List Bool} (h : WE X e ρ r ρ1) (l : Lnd bl ρ1 r r1 ρ2) (hr : WRm X m es ρ2 rs ρ3) (hs : starEach (e :: es) X.env = (false, eval e X.env) :: starEach es X.env := by rfl) : WRm X (bl :: m) (e :: es) ρ (r1 :: rs) ρ3 := wr_cons (we_l h l) hr hs
theorem wgX {m : List Bool} (G : CallL X x m SG) (ha : WRm X m (e :: es) ρ rs ρ1) {as as' : List SV} (hs : rs.map (asSV ρ1) = as) (hS : SG as r as') {ρ2 : Env} (hp : puts ρ1 rs as' = ρ2) (hk : Keeps as as' := by first | exact .nil | repeat constructor) (nd : (lent rs).Nodup := by first | decide | exact List.nodup_nil | (show List.Nodup [_]; decide) | (show List.Nodup [_, _]; decide) | (show List.Nodup [_, _, _]; decide)) (ok : lentOk ρ1 rs = true := by rfl) (ho : r.ok = true := by rfl) (hg : Gl X x := by rfl)
    (hd : (x == ("__debug__" : Str)) = false := by decide) (he : starEach (e :: es) X.env = (false, eval e X.env) :: starEach es X.env := by rfl) (hpl : (backTo pos (starEach es X.env)).any (·.1) = false := by rfl) : WE X (.Call (.Name x p) (e :: es) [] pos) ρ r ρ2 := by
  subst hs hp
  exact wg G.g ha hS hk nd ok ho hg hd he hpl
theorem we_mk (h : KC X x C SM) (ha : WA X (e :: es) ρ ds ρ1) (hS : SM (.ins C []) ds (.im .non) d') (hg : Gl X x := by rfl) (hdb : (x == ("__debug__" : Str)) = false := by decide)
    (he : starEach (e :: es) X.env = (false, eval e X.env) :: starEach es X.env := by rfl) (hpl : (backTo pos (starEach es X.env)).any (·.1) = false := by rfl) : WE X (.Call (.Name x p) (e :: es) [] pos) ρ (.fr d') ρ1 := by
  obtain ⟨f, G, M⟩ := h.ex
  exact we_make G M h.mg ha hS hg hdb he hpl
theorem we_mk0 (h : KC X x C SM) (hS : SM (.ins C []) [] (.im .non) d') (hg : Gl X x := by rfl) (hdb : (x == ("__debug__" : Str)) = false := by decide) : WE X (.Call (.Name x p) [] [] pos) ρ (.fr d') ρ := by
  obtain ⟨f, G, M⟩ := h.ex
  exact we_make0 G M h.mg hS hg hdb
theorem we_mkS {sp_ : Pos} (h : KC X x C SM) (ha : WE X e ρ r1 ρ1) (ca : r1.con ρ1 = some (.tup ds) ∨ r1.con ρ1 = some (.lst ds)) (hS : SM (.ins C []) ds (.im .non) d') (hg : Gl X x := by rfl) (hdb : (x == ("__debug__" : Str)) = false := by decide)
    (hst : starEach [.Starred e sp_] X.env = [(true, eval e X.env)] := by rfl) : WE X (.Call (.Name x p) [.Starred e sp_] [] pos) ρ (.fr d') ρ1 := by
  obtain ⟨f, G, M⟩ := h.ex
  exact we_makeS G M h.mg ha ca hS hg hdb hst
theorem we_mt {fl : List Str} (h : MC X C m S) (he : WE X o ρ r1 ρ1) (z : Frz ρ1 r1 (.ins C gs) ρ2) (c : ClsF X.K C fl) (ha : WA X (e :: es) ρ2 ds ρ3) (hS : S (.ins C gs :: ds) r) (hl : gs.lookup m = none := by rfl) (ho : r.ok = true := by rfl) {pl : Sem Bool}
    (hst : starEach (e :: es) X.env = (false, eval e X.env) :: starEach es X.env := by rfl) (hpl : (backTo pos (starEach es X.env)).any (·.1) = false := by rfl)
    (ht : eval (.Call (.Attribute o m apos) (e :: es) [] pos) X.env = (do
      let ov ← eval o X.env
      standAt apos.atName
      let (f, first) ← holding [ov] (getMethod ov m pl)
      callWith pos f first (backTo pos (starEach (e :: es) X.env)) (backToKw pos (keywordEach [] X.env))) := by rfl) : WE X (.Call (.Attribute o m apos) (e :: es) [] pos) ρ r ρ3 := by
  obtain ⟨f, G, M⟩ := h.ex
  exact we_meth G (we_z he z) c.cl M ha hS hl ho hst hpl ht
theorem we_mt0 {fl : List Str} (h : MC X C m S) (he : WE X o ρ r1 ρ1) (z : Frz ρ1 r1 (.ins C gs) ρ2) (c : ClsF X.K C fl) (hS : S [.ins C gs] r) (hl : gs.lookup m = none := by rfl) (ho : r.ok = true := by rfl) {pl : Sem Bool}
    (ht : eval (.Call (.Attribute o m apos) [] [] pos) X.env = (do
      let ov ← eval o X.env
      standAt apos.atName
      let (f, first) ← holding [ov] (getMethod ov m pl)
      callWith pos f first (backTo pos (starEach [] X.env)) (backToKw pos (keywordEach [] X.env))) := by rfl) : WE X (.Call (.Attribute o m apos) [] [] pos) ρ r ρ2 := by
  obtain ⟨f, G, M⟩ := h.ex
  exact we_meth0 G (we_z he z) c.cl M hS hl ho ht
end
end Z
set_option maxRecDepth 100000
set_option maxHeartbeats 1000000
/-! Z21: stores, loops, comprehensions, built-ins by what they meet. -/
namespace Z
open PySem PySem.Spec PyProof.Rows L2 Evl ClX
theorem Bi.get {mg : Str → Option Value} (b : Bi mg) (x : Str) (h : x ∈ bltnNames) : mg x = none := b.h x h
/-- new ones are frozen -/
inductive Nfr : R → R → Prop where
  | im (d : D) : Nfr (.im d) (.im d)
  | fr (d : D) : Nfr (.fr d) (.im d)
  | sl (i : Nat) : Nfr (.sl i) (.sl i)
/-- owned ones are frozen, new ones stay new -/
inductive Sfr : Env → R → R → Env → Prop where
  | im (ρ : Env) (d : D) : Sfr ρ (.im d) (.im d) ρ
  | fr (ρ : Env) (d : D) : Sfr ρ (.fr d) (.fr d) ρ
  | sl (ρ : Env) {i : Nat} {d : D} (h : ρ[i]? = some (.own d)) : Sfr ρ (.sl i) (.im d) (ρ.set i (.im d))
section
variable {X : Cx} {pn : List Nat} {a b c e o l tg iter elt : Expr} {es : List Expr} {rest body : List Stmt} {pos p apos p1 : Pos} {x y m f : Str} {ρ ρ1 ρ2 ρ3 ρ4 ρw : Env} {r r1 r2 r1' r2' : R} {d d1 d2 d' : D} {ds xs ys : List D} {i j : Int} {k : Bool} {n : Nat} {C : Addr} {gs hs : List (Str × D)} {S : List D → R → Prop} {bs cs : List (Nat × D)} {P : Post}
theorem we_nfr (h : WE X e ρ r ρ1) (z : Nfr r r1) : WE X e ρ r1 ρ1 := by
  cases z with
  | im => exact h
  | fr => exact we_im h
  | sl => exact h
theorem we_sfr (h : WE X e ρ r ρ1) (z : Sfr ρ1 r r1 ρ2) : WE X e ρ r1 ρ2 := by
  cases z with
  | im => exact h
  | fr => exact h
  | sl hi => exact we_frz h hi
/-! ### stores -/
theorem ws_st {i : Nat} {pos' : Pos} {s : SV} (he : WE X e ρ r ρ1) (z : StoZ ρ1 r s ρ2) (hi : findN X.N x = some i := by rfl) (hl : i < ρ2.length := by first | exact Nat.le_of_ble_eq_true rfl | (simp; done)) (hp : i ∉ pn := by first | decide | exact of_decide_eq_true rfl) (hN : X.N.Nodup := by first | assumption | decide +kernel) (hx : Loc X.env.scope x := by first | exact .inl rfl | exact .inr rfl)
    (hs : swapsWith e (some (.Name x pos')) pos.line X.env = pure false := by rfl) (hf : X.fn x = true ∨ X.env.scope.names.lookup x = some .local := by first | exact .inl rfl | exact .inr rfl) :
    WN X pn (.Assign [.Name x pos'] e pos) ρ (ρ2.set i s) := by
  cases z with
  | im d => exact ws_set (so := .im d) he (hp := hp) (hN := hN) (hi := findN_at hi) (hx := hx) (hl := hl) (hs := hs) (hf := hf)
  | fr d => exact ws_set (so := .fr d) he (hp := hp) (hN := hN) (hi := findN_at hi) (hx := hx) (hl := hl) (hs := hs) (hf := hf)
  | sl h => exact ws_set (so := .im _) (we_frz he h) (hp := hp) (hN := hN) (hi := findN_at hi) (hx := hx) (hl := hl) (hs := hs) (hf := hf)
theorem set_stpG {K : PySem.W.Frag} {F0 F H0 H : Hp} {σ0 σ : L2.St} {v : V} {i : Nat} {s : SV} (st : Stp ρ σ0 F0 H0 ρ1 σ F H) (q : RepR K F H0 H ρ1 σ v r) (so : Sto r s) : Stp ρ σ0 F0 H0 (ρ1.set i s) (σ.set i (some v)) F H := by
  refine ⟨st.keep, fun a h => ?_, st.dom⟩
  obtain ⟨j, e, h1, h2⟩ := h
  by_cases hj : j = i
  · subst hj
    by_cases hl : j < ρ1.length
    · rw [List.getElem?_set_self hl] at h1
      cases so with
      | im d => cases h1
      | fr d =>
        obtain ⟨p, e1, _, h0, _, _⟩ := q
        by_cases hs : j < σ.length
        · rw [List.getElem?_set_self hs] at h2
          have e2 : v = .ref a := Option.some.inj (Option.some.inj h2)
          rw [e1] at e2
          cases e2
          exact .inr h0
        · rw [List.getElem?_eq_none (by rw [List.length_set]; omega)] at h2
          cases h2
    · rw [List.getElem?_eq_none (by rw [List.length_set]; omega)] at h1
      cases h1
  · rw [List.getElem?_set_ne (Ne.symm hj)] at h1 h2
    exact st.own a ⟨j, e, h1, h2⟩
/-- a, b = e1, e2 with plain local names -/
theorem ws_pr {i j : Nat} {px py pt : Pos} {kt k2 pt2} {s1 s2 : SV} (ha : WE X a ρ r1 ρ1) (z1 : Sfr ρ1 r1 r1' ρ2) (hb : WE X b ρ2 r2 ρ3) (z2 : Sfr ρ3 r2 r2' ρ4) (so1 : Sto r1' s1) (so2 : Sto r2' s2) (hi : findN X.N x = some i := by rfl) (hj : findN X.N y = some j := by rfl)
    (hli : i < ρ4.length := by first | exact Nat.le_of_ble_eq_true rfl | (simp; done)) (hlj : j < ρ4.length := by first | exact Nat.le_of_ble_eq_true rfl | (simp; done))
    (hpi : i ∉ pn := by first | decide | exact of_decide_eq_true rfl) (hpj : j ∉ pn := by first | decide | exact of_decide_eq_true rfl) (hij : i ≠ j := by decide) (hc : X.calm = true := by rfl) (hN : X.N.Nodup := by first | assumption | decide +kernel)
    (hx : X.env.scope.names.lookup x = some .local := by rfl) (hy : X.env.scope.names.lookup y = some .local := by rfl) 
    (hw : swappedStores [.Tuple [.Name x px, .Name y py] kt pt] (.Tuple [a, b] k2 pt2) X.env = pure (some [x, y]) := by rfl)
    (hs : swapsWithSole [.Tuple [.Name x px, .Name y py] kt pt] (.Tuple [a, b] k2 pt2) pos.line X.env = pure false := by rfl) (he1 : starEach [a, b] X.env = (false, eval a X.env) :: starEach [b] X.env := by rfl) (he2 : starEach [b] X.env = (false, eval b X.env) :: starEach [] X.env := by rfl) :
    WN X pn (.Assign [.Tuple [.Name x px, .Name y py] kt pt] (.Tuple [a, b] k2 pt2) pos) ρ ((ρ4.set i s1).set j s2) := fun P g =>
  PS.imp (ps_par hc hN (findN_at hi) (findN_at hj) hij hx hy (wr_cons (we_sfr ha z1) (wr_cons (we_sfr hb z2) wr_nil he2) he1) hw hs) fun D σ H ⟨F, rel, p, _⟩ => ⟨F, rel, fun vs F1 H1 rel1 st1 q => by
    have ap : ∀ {d e : Z.D} {p : Addr}, [r1', r2'][0]? = some (.fr d) → [r1', r2'][1]? = some (.fr e) → vs[0]? = some (.ref p) → vs[1]? = some (.ref p) → (0 : Nat) = 1 := fun h1 h2 h3 h4 => q.apart h1 h2 h3 h4
    obtain ⟨v1, v2, ev, q1, q2⟩ : ∃ v1 v2, vs = [v1, v2] ∧ RepR X.K F1 H H1 ρ4 σ v1 r1' ∧ RepR X.K F1 H H1 ρ4 σ v2 r2' := by
      cases q with
      | cons q1 t1 =>
        cases t1 with
        | cons q2 t2 =>
          cases t2
          exact ⟨_, _, rfl, q1, q2⟩
    subst ev
    refine ⟨v1, v2, rfl, ?_⟩
    have rl1 := set_rel rel1 q1 so1 hli
    have st2 := set_stpG (i := i) st1 q1 so1
    have q2' : RepR X.K F1 H H1 (ρ4.set i s1) (σ.set i (some v1)) v2 r2' := by
      cases so2 with
      | im d => exact q2
      | fr d =>
        obtain ⟨p, e1, f, h0, ob, n⟩ := q2
        refine ⟨p, e1, f, h0, ob, fun z => ?_⟩
        obtain ⟨l, e, h1, h2⟩ := z
        by_cases hl : l = i
        · subst hl
          rw [List.getElem?_set_self hli] at h1
          have hs : l < σ.length := by rw [rel1.len]; exact hli
          rw [List.getElem?_set_self hs] at h2
          cases so1 with
          | im d' => cases h1
          | fr d' =>
            have := ap (d := d') (e := d) (p := p) rfl rfl (by show some v1 = _; rw [Option.some.inj h2]) (by show some v2 = _; rw [e1])
            cases this
        · rw [List.getElem?_set_ne (Ne.symm hl)] at h1 h2
          exact n ⟨l, e, h1, h2⟩
    have rl2 := set_rel rl1 q2' so2 (i := j) (by rw [List.length_set]; exact hlj)
    have st3 := set_stpG (i := j) st2 q2' so2
    exact p _ _ F1 H1 rl2 st3 ((pin_set hpi).trans (pin_set hpj)) g⟩
/-! ### what is walked -/
inductive IterZ : Env → R → List (Nat × D) → List D → Prop where
  | im (ρ : Env) (xs : List D) : IterZ ρ (.im (.lst xs)) [] xs
  | fr (ρ : Env) (xs : List D) : IterZ ρ (.fr (.lst xs)) [] xs
  | tup (ρ : Env) (xs : List D) : IterZ ρ (.im (.tup xs)) [] xs
  | sl (ρ : Env) {n : Nat} {xs : List D} (h : ρ[n]? = some (.own (.lst xs))) : IterZ ρ (.sl n) [(n, .lst xs)] xs
theorem wi_x (hl : WE X l ρ r ρ1) (z : IterZ ρ1 r bs ds) : WI X tg l ρ bs ds ρ1 := by
  cases z with
  | im => exact wi_list hl
  | fr => exact wi_list (we_im hl)
  | tup => exact wi_tup hl
  | sl h => exact wi_listO hl h
theorem wi_zp {tp : Pos} {elts : List Expr} {kk : Nat} (bi : Bi X.mg) (ha : WE X a ρ r1 ρ1) (z1 : Nfr r1 r1') (hb : WE X b ρ1 r2 ρ2) (z2 : Nfr r2 r2') (h1 : Src ρ2 r1' xs bs) (h2 : Src ρ2 r2' ys cs) (hg : Gl X "zip" := by rfl)
    (hs : starEach [a, b] X.env = (false, eval a X.env) :: starEach [b] X.env := by rfl) (hs2 : starEach [b] X.env = (false, eval b X.env) :: starEach [] X.env := by rfl) (hpl : (backTo pos (starEach [b] X.env)).any (·.1) = false := by rfl) :
    WI X (.Tuple elts kk tp) (.Call (.Name "zip" p) [a, b] [] pos) ρ (bs ++ cs) (zipD xs ys) ρ2 := wi_zip (bi.get _ (by decide +kernel)) (we_nfr ha z1) (we_nfr hb z2) h1 h2 hg hs hs2 hpl
theorem wi_en {tp : Pos} {elts : List Expr} {kk : Nat} (bi : Bi X.mg) (ha : WE X a ρ r1 ρ1) (z1 : Nfr r1 r1') (h1 : Src ρ1 r1' xs bs) (hg : Gl X "enumerate" := by rfl) (hs : starEach [a] X.env = (false, eval a X.env) :: starEach [] X.env := by rfl) (hs1 : starEach [a] X.env = [(false, eval a X.env)] := by rfl) :
    WI X (.Tuple elts kk tp) (.Call (.Name "enumerate" p) [a] [] pos) ρ bs (enumD xs) ρ1 := wi_enum (bi.get _ (by decide +kernel)) (we_nfr ha z1) h1 hg hs hs1
theorem wi_r1 (bi : Bi X.mg) (ha : WE X a ρ (.im (.int j)) ρ1) (h1 : -(2 ^ 62) ≤ j ∧ j < 2 ^ 62) (hg : Gl X "range" := by rfl) (hs : starEach [a] X.env = [(false, eval a X.env)] := by rfl) (hs2 : starEach [a] X.env = (false, eval a X.env) :: starEach [] X.env := by rfl) :
    WI X tg (.Call (.Name "range" p) [a] [] pos) ρ [] (rng 0 j.toNat) ρ1 := wi_range1 (bi.get _ (by decide +kernel)) (wa_cons ha wa_nil hs2) h1 hg hs
theorem wi_r2 (bi : Bi X.mg) (ha : WE X a ρ (.im (.int i)) ρ1) (hb : WE X b ρ1 (.im (.int j)) ρ2) (h1 : -(2 ^ 62) ≤ i ∧ i < 2 ^ 62 ∧ -(2 ^ 62) ≤ j ∧ j < 2 ^ 62) (hg : Gl X "range" := by rfl)
    (hs : starEach [a, b] X.env = [(false, eval a X.env), (false, eval b X.env)] := by rfl) (hs2 : starEach [b] X.env = [(false, eval b X.env)] := by rfl) (he1 : starEach [a, b] X.env = (false, eval a X.env) :: starEach [b] X.env := by rfl) (he2 : starEach [b] X.env = (false, eval b X.env) :: starEach [] X.env := by rfl) :
    WI X tg (.Call (.Name "range" p) [a, b] [] pos) ρ [] (rng i (j - i).toNat) ρ2 := wi_range2 (bi.get _ (by decide +kernel)) (wa_cons ha (wa_cons hb wa_nil he2) he1) h1 hg hs hs2
/-- a for over what stands for xs -/
theorem wb_forT {α : Type} {as : List α} {cd : α → D} (hi : WI X tg iter ρ bs ds ρ1) (hds : ds = as.map cd) (I : Nat → Env → Prop) (h0 : I 0 ρ1)
    (hs : ∀ (i : Nat) a ρi, as[i]? = some a → I i ρi → ∃ ρt, WG X (bs.map (·.1) ++ pn) tg (cd a) ρi ρt ∧ WB X (bs.map (·.1) ++ pn) body ρt { P with nx := I (i + 1), ct := I (i + 1), bk := fun ρ' => WB X pn rest ρ' P })
    (hd : ∀ ρ', I as.length ρ' → WB X pn rest ρ' P) (hbo : ∀ i ρ', I i ρ' → ∀ b ∈ bs, ρ'[b.1]? = some (.own b.2) := by first | (intro _ _ _ b hb; cases hb; done) | skip) (hp : PassesOwn (model X.prog X.w) X.A X.env X.xe := by exact PassesOwn.never) (hc : X.calm = true := by rfl) (hf : ∀ x, foldedSetIterable iter X.env x = pure x := by intro _; rfl) : WB X pn (.For tg iter body [] pos :: rest) ρ P := by
  subst hds
  refine wb_for hp hi I h0 (fun i d ρi hd hI => ?_) (fun ρ' h => hd ρ' (by rw [List.length_map] at h; exact h)) hbo hc hf
  rw [List.getElem?_map] at hd
  obtain ⟨a, ha, rfl⟩ := Option.map_eq_some_iff.mp hd
  exact hs i a ρi ha hI
/-- the comprehension's own names and their slots -/
def ownOf (sc : Scope) (N : List Str) : List (Str × Nat) := sc.names.filterMap fun q => if q.2 == .local then (findN N q.1).map fun i => (q.1, i) else none
theorem we_lcT {α : Type} {as : List α} {cd g : α → D} {scope : Scope} (own : List (Str × Nat)) (hi : WI X tg iter ρ bs ds ρ1) (hds : ds = as.map cd)
    (hs : ∀ (i : Nat) a, as[i]? = some a → ∃ ρt ρe, BG X scope (cmpl ρw.length (own.map (·.2))) tg (cd a) ρw ρt ∧ BE X scope elt ρt (.im (g a)) ρe ∧ wipeE ρe (own.map (·.2)) = ρw ∧ ρt.length = ρw.length ∧ ρe.length = ρw.length)
    (ok : BlkOk X.N X.env.scope scope own) (hz : as.length ≤ 100000) (hw : wipeE ρ1 (own.map (·.2)) = ρw := by rfl) (hc : X.calm = true := by rfl) (hN : X.N.Nodup := by first | assumption | decide +kernel) (hf : ∀ x, foldedSetIterable iter X.env x = pure x := by intro _; rfl)
    (hbo : ∀ b ∈ bs, b.1 ∉ own.map (·.2) ∧ ρw[b.1]? = some (.own b.2) := by first | (intro b hb; cases hb; done) | (intro b hb; cases hb with | head => exact ⟨of_decide_eq_true rfl, rfl⟩ | tail _ hb => cases hb)) :
    WE X (.ListComp elt [⟨tg, iter, [], 0⟩] scope pos) ρ (.fr (.lst (as.map g))) ρw := by
  subst hds
  refine we_lcM own hi (by rw [List.length_map, List.length_map]) (fun i d hd => ?_) ok (by rw [List.length_map]; exact hz) hw hc hN hf hbo
  rw [List.getElem?_map] at hd
  obtain ⟨a, ha, rfl⟩ := Option.map_eq_some_iff.mp hd
  obtain ⟨ρt, ρe, h⟩ := hs i a ha
  exact ⟨g a, ρt, ρe, by rw [List.getElem?_map, ha]; rfl, h⟩
/-! ### a if t else b -/
theorem we_ifT (hc : WT X c ρ true ρ1) (ha : WE X a ρ1 r ρ2) : WE X (.IfExp c a b pos) ρ r ρ2 := we_if hc (fun _ => ha) fun h => by cases h
theorem we_ifF (hc : WT X c ρ false ρ1) (hb : WE X b ρ1 r ρ2) : WE X (.IfExp c a b pos) ρ r ρ2 := we_if hc (fun h => by cases h) fun _ => hb
theorem we_ifC (hc : WT X c ρ k ρ1) (ha : k = true → WE X a ρ1 (.im d1) ρ2) (hb : k = false → WE X b ρ1 (.im d2) ρ2) : WE X (.IfExp c a b pos) ρ (.im (bif k then d1 else d2)) ρ2 := by
  cases k with
  | true => exact we_ifT hc (ha rfl)
  | false => exact we_ifF hc (hb rfl)
theorem wb_ifT {a b : List Stmt} (hc : WT X c ρ true ρ1) (ha : WB X pn a ρ1 { P with nx := fun ρ' => WB X pn rest ρ' P }) : WB X pn (.If c a b pos :: rest) ρ P := wb_if hc (fun _ => ha) fun h => by cases h
theorem wb_ifF {a b : List Stmt} (hc : WT X c ρ false ρ1) (hb : WB X pn b ρ1 { P with nx := fun ρ' => WB X pn rest ρ' P }) : WB X pn (.If c a b pos :: rest) ρ P := wb_if hc (fun h => by cases h) fun _ => hb
theorem wb_nilW (h : WB X pn rest ρ P) : WB X pn [] ρ { P with nx := fun ρ' => WB X pn rest ρ' P } := wb_nil h
/-! ### built-ins -/
inductive LenV : D → Nat → Prop where
  | lst (xs : List D) : LenV (.lst xs) xs.length
  | tup (xs : List D) : LenV (.tup xs) xs.length
theorem we_len (bi : Bi X.mg) (ha : WE X e ρ r1 ρ1) (ca : r1.con ρ1 = some d) (v : LenV d n) (hg : Gl X "len" := by rfl) (he : starEach [e] X.env = (false, eval e X.env) :: starEach [] X.env := by rfl) : WE X (.Call (.Name "len" p) [e] [] pos) ρ (.im (.int (n : Nat))) ρ1 := by
  cases v with
  | lst => exact we_lenL (bi.get _ (by decide +kernel)) ha ca hg he
  | tup => exact we_lenT (bi.get _ (by decide +kernel)) ha ca hg he
inductive IntV : D → Int → Prop where
  | int (i : Int) : IntV (.int i) i
  | bl (k : Bool) : IntV (.bl k) (if k then 1 else 0)
theorem we_int_ (bi : Bi X.mg) (ha : WE X e ρ (.im d) ρ1) (v : IntV d i) (hg : Gl X "int" := by rfl) (he : starEach [e] X.env = (false, eval e X.env) :: starEach [] X.env := by rfl) : WE X (.Call (.Name "int" p) [e] [] pos) ρ (.im (.int i)) ρ1 := by
  cases v with
  | int => exact we_intI (bi.get _ (by decide +kernel)) ha hg he
  | bl => exact we_intB (bi.get _ (by decide +kernel)) ha hg he
theorem we_abs_ (bi : Bi X.mg) (ha : WE X e ρ (.im (.int i)) ρ1) (hg : Gl X "abs" := by rfl) (he : starEach [e] X.env = (false, eval e X.env) :: starEach [] X.env := by rfl) : WE X (.Call (.Name "abs" p) [e] [] pos) ρ (.im (.int (i.natAbs : Int))) ρ1 := we_abs (bi.get _ (by decide +kernel)) ha hg he
theorem we_mx (bi : Bi X.mg) (ha : WA X [a, b] ρ [.int i, .int j] ρ1) (hc : X.calm = true := by rfl) (hg : Gl X "max" := by rfl) (he : starEach [a, b] X.env = (false, eval a X.env) :: starEach [b] X.env := by rfl) (hpl : (backTo pos (starEach [b] X.env)).any (·.1) = false := by rfl) : WE X (.Call (.Name "max" p) [a, b] [] pos) ρ (.im (.int (max i j))) ρ1 := we_max2 (bi.get _ (by decide +kernel)) ha hc hg he hpl
theorem we_mn (bi : Bi X.mg) (ha : WA X [a, b] ρ [.int i, .int j] ρ1) (hc : X.calm = true := by rfl) (hg : Gl X "min" := by rfl) (he : starEach [a, b] X.env = (false, eval a X.env) :: starEach [b] X.env := by rfl) (hpl : (backTo pos (starEach [b] X.env)).any (·.1) = false := by rfl) : WE X (.Call (.Name "min" p) [a, b] [] pos) ρ (.im (.int (min i j))) ρ1 := we_min2 (bi.get _ (by decide +kernel)) ha hc hg he hpl
theorem we_dm (bi : Bi X.mg) (ha : WA X [a, b] ρ [.int i, .int j] ρ1) (hj : CDiv i j) (hg : Gl X "divmod" := by rfl) (he : starEach [a, b] X.env = (false, eval a X.env) :: starEach [b] X.env := by rfl) (hpl : (backTo pos (starEach [b] X.env)).any (·.1) = false := by rfl) : WE X (.Call (.Name "divmod" p) [a, b] [] pos) ρ (.im (.tup [.int (i / j), .int (i % j)])) ρ1 := we_divmod (bi.get _ (by decide +kernel)) ha hg he hpl hj
inductive ListV : D → List D → Prop where
  | lst (xs : List D) : ListV (.lst xs) xs
  | tup (xs : List D) : ListV (.tup xs) xs
theorem we_list_ (bi : Bi X.mg) (ha : WE X e ρ r1 ρ1) (ca : r1.con ρ1 = some d) (v : ListV d xs) (hg : Gl X "list" := by rfl) (he : starEach [e] X.env = (false, eval e X.env) :: starEach [] X.env := by rfl) : WE X (.Call (.Name "list" p) [e] [] pos) ρ (.fr (.lst xs)) ρ1 := by
  cases v with
  | lst => exact we_listL (bi.get _ (by decide +kernel)) ha ca hg he
  | tup => exact we_listT (bi.get _ (by decide +kernel)) ha ca hg he
theorem we_tuple_ (bi : Bi X.mg) (ha : WE X e ρ r1 ρ1) (ca : r1.con ρ1 = some (.lst xs)) (hg : Gl X "tuple" := by rfl) (he : starEach [e] X.env = (false, eval e X.env) :: starEach [] X.env := by rfl) : WE X (.Call (.Name "tuple" p) [e] [] pos) ρ (.im (.tup xs)) ρ1 := we_tupL (bi.get _ (by decide +kernel)) ha ca hg he
theorem we_sum_ {ns : List Int} (bi : Bi X.mg) (ha : WE X e ρ r1 ρ1) (ca : r1.con ρ1 = some (.lst xs)) (hx : xs = ns.map .int) (hc : X.calm = true := by rfl) (hg : Gl X "sum" := by rfl) (he : starEach [e] X.env = (false, eval e X.env) :: starEach [] X.env := by rfl) : WE X (.Call (.Name "sum" p) [e] [] pos) ρ (.im (.int ns.sum)) ρ1 := by
  subst hx
  exact we_sumI (bi.get _ (by decide +kernel)) ha ca hc hg he
theorem we_all_ {ks : List Bool} (bi : Bi X.mg) (ha : WE X e ρ r1 ρ1) (ca : r1.con ρ1 = some (.lst xs)) (hx : xs = ks.map .bl) (hc : X.calm = true := by rfl) (hg : Gl X "all" := by rfl) (he : starEach [e] X.env = (false, eval e X.env) :: starEach [] X.env := by rfl) : WE X (.Call (.Name "all" p) [e] [] pos) ρ (.im (.bl (ks.all id))) ρ1 := by
  subst hx
  exact we_allB (bi.get _ (by decide +kernel)) ha ca hc hg he
theorem we_any_ {ks : List Bool} (bi : Bi X.mg) (ha : WE X e ρ r1 ρ1) (ca : r1.con ρ1 = some (.lst xs)) (hx : xs = ks.map .bl) (hc : X.calm = true := by rfl) (hg : Gl X "any" := by rfl) (he : starEach [e] X.env = (false, eval e X.env) :: starEach [] X.env := by rfl) : WE X (.Call (.Name "any" p) [e] [] pos) ρ (.im (.bl (ks.any id))) ρ1 := by
  subst hx
  exact we_anyB (bi.get _ (by decide +kernel)) ha ca hc hg he
theorem we_ty_ {nm : String} (bi : Bi X.mg) (hx : x ∈ bltnNames := by decide +kernel) (hv : bootBuiltins x = some (.type nm) := by rfl) (hg : Gl X x := by rfl) (hn : x ≠ "__name__" := by decide) (hd : (x == ("__debug__" : Str)) = false := by decide) : WE X (.Name x pos) ρ (.im (.ty nm)) ρ := we_ty (bi.get x hx) hv hg hn hd
/-! ### own operators -/
theorem we_oc {op : Operator} {fl : List Str} (h : OC X C op.info.2 S) (ha : WE X a ρ r1 ρ1) (z1 : Frz ρ1 r1 (.ins C gs) ρ2) (hb : WE X b ρ2 r2 ρ3) (z2 : Frz ρ3 r2 (.ins C hs) ρ4) (hS : S [.ins C gs, .ins C hs] r) (ho : r.ok = true := by rfl) : WE X (.BinOp a op b pos) ρ r ρ4 := by
  obtain ⟨f, G, O⟩ := h.ex
  exact we_binO G O (we_z ha z1) (we_z hb z2) hS ho
theorem we_nc (h : NC X C S) (ha : WE X a ρ r1 ρ1) (z1 : Frz ρ1 r1 (.ins C gs) ρ2) (hS : S [.ins C gs] r) (ho : r.ok = true := by rfl) : WE X (.UnaryOp .USub a pos) ρ r ρ2 := by
  obtain ⟨f, G, h1, h2⟩ := h.ex
  exact we_negO G h1 h2 (we_z ha z1) hS ho
theorem rt_im {r' : R} (h : r = r') : Rt pn ρ r r' → Rt pn ρ r r' := id
end
end Z
set_option maxRecDepth 100000
set_option maxHeartbeats 1000000
/-! Z22: promises of defs, methods, classes as they are handed on. -/
namespace Z
open PySem PySem.Spec PyProof.Rows L2 Evl ClX
section
variable {P : Program} {w : World} {K : PySem.W.Frag} {mg : Str → Option Value} {base : Heap} {C : Addr} {k j : Nat} {x m : Str} {sp : Sp} {st : Stmt} {S : List D → R → Prop} {SG : List SV → R → List SV → Prop} {SM : D → List D → R → D → Prop} {X : Cx}
theorem gof {st : Stmt} (F : FAt K mg x st) (h : ∀ f fd, Fun K x x st f fd → FnG P w K mg base (L2.CX P w) k f sp) : GFn P w K mg base x k sp := by
  obtain ⟨f, fd, F, m⟩ := F.ex
  exact ⟨f, h f fd F, m, F.kp⟩
/-- an __init__, a method, a property, an operator with their promises -/
structure GI (P : Program) (w : World) (K : PySem.W.Frag) (mg : Str → Option Value) (base : Heap) (C : Addr) (k : Nat) (SM : D → List D → R → D → Prop) : Prop where
  ex : ∃ f, FnG P w K mg base (L2.CX P w) k f (spM K SM) ∧ Mk K C f
structure GMt (P : Program) (w : World) (K : PySem.W.Frag) (mg : Str → Option Value) (base : Heap) (C : Addr) (m : Str) (k : Nat) (S : List D → R → Prop) : Prop where
  ex : ∃ f, FnG P w K mg base (L2.CX P w) k f (spP K S) ∧ Meth K C m f
structure GPr (P : Program) (w : World) (K : PySem.W.Frag) (mg : Str → Option Value) (base : Heap) (C : Addr) (m : Str) (k : Nat) (S : List D → R → Prop) : Prop where
  ex : ∃ p f, FnG P w K mg base (L2.CX P w) k f (spP K S) ∧ PropOf K C m p f
theorem gmt {qual : Str} (F : MAt K C m qual st) (h : ∀ f fd, Fun K m qual st f fd → FnG P w K mg base (L2.CX P w) k f (spP K S)) : GMt P w K mg base C m k S := by
  obtain ⟨f, fd, F, m⟩ := F.ex
  exact ⟨f, h f fd F, m⟩
theorem gpr {qual : Str} (F : PAt K C m qual st) (h : ∀ f fd, Fun K m qual st f fd → FnG P w K mg base (L2.CX P w) k f (spP K S)) : GPr P w K mg base C m k S := by
  obtain ⟨p, f, fd, F, m⟩ := F.ex
  exact ⟨p, f, h f fd F, m⟩
/-- an __init__ of the text -/
structure IAt (K : PySem.W.Frag) (C : Addr) (qual : Str) (st : Stmt) : Prop where
  ex : ∃ f fd, Fun K "__init__" qual st f fd ∧ Mk K C f
theorem gin {qual : Str} (F : IAt K C qual st) (h : ∀ f fd, Fun K "__init__" qual st f fd → FnG P w K mg base (L2.CX P w) k f (spM K SM)) : GI P w K mg base C k SM := by
  obtain ⟨f, fd, F, m⟩ := F.ex
  exact ⟨f, h f fd F, m⟩
theorem GI.kc {A : Around} (G : GI P w K mg base C k SM) (hm : mg x = some (.ref C)) (hg : A.guards = some []) (hr : Room j A) (X : Cx) (e1 : X.prog = P := by rfl) (e2 : X.w = w := by rfl) (e3 : X.K = K := by rfl) (e4 : X.mg = mg := by rfl) (e5 : X.base = base := by rfl) (e6 : X.A = A := by rfl) (h : k + 3 ≤ j := by omega) : KC X x C SM := by
  obtain ⟨f, F, M⟩ := G.ex
  subst e1 e2 e3 e4 e5 e6
  exact ⟨⟨f, mcall_of F hg hr h, M⟩, hm⟩
theorem GMt.mc {A : Around} (G : GMt P w K mg base C m k S) (hg : A.guards = some []) (hr : Room j A) (X : Cx) (e1 : X.prog = P := by rfl) (e2 : X.w = w := by rfl) (e3 : X.K = K := by rfl) (e4 : X.mg = mg := by rfl) (e5 : X.base = base := by rfl) (e6 : X.A = A := by rfl) (h : k + 3 ≤ j := by omega) : MC X C m S := by
  obtain ⟨f, F, M⟩ := G.ex
  subst e1 e2 e3 e4 e5 e6
  exact ⟨⟨f, mcall_of F hg hr h, M⟩⟩
theorem GPr.pc {A : Around} (G : GPr P w K mg base C m k S) (hg : A.guards = some []) (hr : Room j A) (X : Cx) (e1 : X.prog = P := by rfl) (e2 : X.w = w := by rfl) (e3 : X.K = K := by rfl) (e4 : X.mg = mg := by rfl) (e5 : X.base = base := by rfl) (e6 : X.A = A := by rfl) (h : k + 3 ≤ j := by omega) : PC X C m S := by
  obtain ⟨p, f, F, M⟩ := G.ex
  subst e1 e2 e3 e4 e5 e6
  exact ⟨⟨p, f, mcall_of F hg hr h, M⟩⟩
theorem GMt.oc {A : Around} {n : String} (G : GMt P w K mg base C (PySem.dunder n) k S) (sf : PySem.W.selfFirst K C = true) (hg : A.guards = some []) (hr : Room j A) (X : Cx) (e1 : X.prog = P := by rfl) (e2 : X.w = w := by rfl) (e3 : X.K = K := by rfl) (e4 : X.mg = mg := by rfl) (e5 : X.base = base := by rfl) (e6 : X.A = A := by rfl) (h : k + 3 ≤ j := by omega) : OC X C n S := by
  obtain ⟨f, F, M⟩ := G.ex
  subst e1 e2 e3 e4 e5 e6
  exact ⟨⟨f, mcall_of F hg hr h, M.at_, M.fn, sf⟩⟩
theorem GMt.nc {A : Around} (G : GMt P w K mg base C "__neg__" k S) (hg : A.guards = some []) (hr : Room j A) (X : Cx) (e1 : X.prog = P := by rfl) (e2 : X.w = w := by rfl) (e3 : X.K = K := by rfl) (e4 : X.mg = mg := by rfl) (e5 : X.base = base := by rfl) (e6 : X.A = A := by rfl) (h : k + 3 ≤ j := by omega) : NC X C S := by
  obtain ⟨f, F, M⟩ := G.ex
  subst e1 e2 e3 e4 e5 e6
  exact ⟨⟨f, mcall_of F hg hr h, M.at_, M.fn⟩⟩
theorem we_is_ {a b : Expr} {pos p : Pos} {ρ ρ1 : Env} {d c : D} {t u : Value} {kk : Bool} (bi : Bi X.mg) (ha : WA X [a, b] ρ [d, c] ρ1) (ht : d.tyx = some t) (hc : c.cls = some u) (hk : PySem.W.kitOne X.K t u = some kk) (hI : ∀ C gs, d = .ins C gs → C8.InsC X.K C) (hg : Gl X "isinstance" := by rfl)
    (he : starEach [a, b] X.env = (false, eval a X.env) :: starEach [b] X.env := by rfl) (hpl : (backTo pos (starEach [b] X.env)).any (·.1) = false := by rfl) : WE X (.Call (.Name "isinstance" p) [a, b] [] pos) ρ (.im (.bl kk)) ρ1 :=
  we_isi (bi.get _ (by decide +kernel)) ha hk hI ht hc hg he hpl
theorem GFn.fn {f : Addr} (G : GFn P w K mg base x k sp) (h : mg x = some (.ref f)) : FnG P w K mg base (L2.CX P w) k f sp := by
  obtain ⟨g, F, e, _⟩ := G.ex
  rw [h] at e
  cases e
  exact F
theorem iat_mk {f : Addr} {oc : Value} {od an : Option Addr} {osl : Array (Option Value)} {kV doc pm cdv ct : Value} {qual : Str} (a : PySem.W.findIn K (.ref C) "__init__" = some (some (.ref f))) (i : PySem.W.isFn K (.ref f) = true)
    (l : K.lookup f = some ⟨oc, od, .func (PySem.W.fnOf "__init__" qual (defArgs st) (defBody st) (defScope st) .none kV doc pm an cdv ct), osl⟩) (c : PySem.W.codeIn K cdv qual = true) (k : PySem.W.keepIn K (.ref f) = true)
    (mk : PySem.W.makesIn K C = true) (kc : PySem.W.keepIn K (.ref C) = true) : IAt K C qual st := ⟨imk_mk a i l c k mk kc⟩
/-- a class of the text as a value -/
theorem we_cl (hm : X.mg x = some (.ref C)) {pos : Pos} {ρ : Env} (hg : Gl X x := by rfl) (hd : (x == ("__debug__" : Str)) = false := by decide) : WE X (.Name x pos) ρ (.im (.obj C)) ρ := we_cls hm hg hd
/-- one element of a comprehension -/
structure LcS (X : Cx) (scope : Scope) (own : List (Str × Nat)) (ρw : Env) (tg elt : Expr) (d e : D) : Prop where
  ex : ∃ ρt ρe, BG X scope (cmpl ρw.length (own.map (·.2))) tg d ρw ρt ∧ BE X scope elt ρt (.im e) ρe ∧ wipeE ρe (own.map (·.2)) = ρw ∧ ρt.length = ρw.length ∧ ρe.length = ρw.length
theorem lc_step {scope : Scope} {own : List (Str × Nat)} {ρw ρt ρe ρf : Env} {tg elt : Expr} {d e : D} {r : R} (h1 : BG X scope (cmpl ρw.length (own.map (·.2))) tg d ρw ρt) (h2 : BE X scope elt ρt r ρe) (z : Frz ρe r e ρf) (h3 : wipeE ρf (own.map (·.2)) = ρw) (h4 : ρt.length = ρw.length) (h5 : ρf.length = ρw.length) : LcS X scope own ρw tg elt d e :=
  ⟨ρt, ρf, h1, fun s H C cl fp => we_z (h2 s H C cl fp) z, h3, h4, h5⟩
theorem we_lcL {α : Type} (as : List α) (cd g : α → D) {scope : Scope} {tg iter elt : Expr} {pos : Pos} {ρ ρ1 ρw : Env} {bs : List (Nat × D)} {ds : List D} (own : List (Str × Nat)) (hi : WI X tg iter ρ bs ds ρ1) (hds : ds = as.map cd)
    (hw : wipeE ρ1 (own.map (·.2)) = ρw) (hs : ∀ (i : Nat) a, as[i]? = some a → LcS X scope own ρw tg elt (cd a) (g a))
    (ok : BlkOk X.N X.env.scope scope own) (hz : as.length ≤ 100000) (hbo : ∀ b ∈ bs, b.1 ∉ own.map (·.2) ∧ ρw[b.1]? = some (.own b.2)) (hc : X.calm = true := by rfl) (hN : X.N.Nodup := by first | assumption | decide +kernel) (hf : ∀ x, foldedSetIterable iter X.env x = pure x := by intro _; rfl) :
    WE X (.ListComp elt [⟨tg, iter, [], 0⟩] scope pos) ρ (.fr (.lst (as.map g))) ρw := we_lcT own hi hds (fun i a h => (hs i a h).ex) ok hz hw hc hN hf hbo
theorem wg_nm {pn : List Nat} {i : Nat} {pos : Pos} {d : D} {ρ : Env} (hi : findN X.N x = some i := by rfl) (hp : i ∉ pn := by first | decide | exact of_decide_eq_true rfl) (hl : i < ρ.length := by first | exact Nat.le_of_ble_eq_true rfl | (simp; done)) (hN : X.N.Nodup := by first | assumption | decide +kernel) (hx : Loc X.env.scope x := by first | exact .inl rfl | exact .inr rfl)
    (hf : X.fn x = true ∨ X.env.scope.names.lookup x = some .local := by first | exact .inl rfl | exact .inr rfl) : WG X pn (.Name x pos) d ρ (ρ.set i (.im d)) := wg_name (hp := hp) (hN := hN) (hi := findN_at hi) (hx := hx) (hl := hl) (hf := hf)
theorem ListV.len {d : D} {xs : List D} (h : ListV d xs) : LenV d xs.length := by
  cases h with
  | lst => exact .lst _
  | tup => exact .tup _
/-- a while by its states -/
theorem wb_whileS {St : Type} {pn : List Nat} {c : Expr} {body rest : List Stmt} {pos : Pos} {ρ : Env} {Q : Post} (E : St → Env → Prop) (cond : St → Bool) (meas : St → Nat) (st0 : St) (h0 : E st0 ρ) (hc : ∀ st ρ', E st ρ' → WT X c ρ' (cond st) ρ')
    (hb : ∀ st ρ', E st ρ' → cond st = true → WB X pn body ρ' { Q with nx := fun ρ2 => ∃ st', meas st' < meas st ∧ E st' ρ2, ct := fun ρ2 => ∃ st', meas st' < meas st ∧ E st' ρ2, bk := fun ρ' => WB X pn rest ρ' Q })
    (hd : ∀ st ρ', E st ρ' → cond st = false → WB X pn rest ρ' Q) (hp : PassesOwn (model X.prog X.w) X.A X.env X.xe := by exact PassesOwn.never) : WB X pn (.While c body [] pos :: rest) ρ Q := by
  classical
  let kk : Nat → Env → Bool := fun m ρ' => if h : ∃ st, meas st = m ∧ E st ρ' then cond (Classical.choose h) else false
  have key : ∀ m ρ', (∃ st, meas st = m ∧ E st ρ') → ∃ st, meas st = m ∧ E st ρ' ∧ kk m ρ' = cond st := fun m ρ' h => by
    obtain ⟨a, b⟩ := Classical.choose_spec h
    exact ⟨Classical.choose h, a, b, dif_pos h⟩
  refine wb_while hp (fun m ρ' => ∃ st, meas st = m ∧ E st ρ') (meas st0) kk (fun _ ρ => ρ) ⟨st0, rfl, h0⟩ (fun m ρ' h => ?_) (fun m ρ' h hk => ?_) (fun m ρ' h hk => ?_)
  · obtain ⟨st, e, hE, hk⟩ := key m ρ' h
    rw [hk]
    exact hc st ρ' hE
  · obtain ⟨st, e, hE, hk2⟩ := key m ρ' h
    subst e
    exact (hb st ρ' hE (by rw [← hk2]; exact hk)).mono (fun ρ2 ⟨st', h1, h2⟩ => ⟨meas st', h1, st', rfl, h2⟩) (fun _ _ h => h) (fun _ h => h) (fun ρ2 ⟨st', h1, h2⟩ => ⟨meas st', h1, st', rfl, h2⟩)
  · obtain ⟨st, e, hE, hk2⟩ := key m ρ' h
    exact hd st ρ' hE (by rw [← hk2]; exact hk)
/-- operands: instances are frozen -/
inductive OpZ : Env → R → R → Env → Prop where
  | insF (ρ : Env) (C : Addr) (gs : List (Str × D)) : OpZ ρ (.fr (.ins C gs)) (.im (.ins C gs)) ρ
  | insS (ρ : Env) {i : Nat} {C : Addr} {gs : List (Str × D)} (h : ρ[i]? = some (.own (.ins C gs))) : OpZ ρ (.sl i) (.im (.ins C gs)) (ρ.set i (.im (.ins C gs)))
  | id (ρ : Env) (r : R) : OpZ ρ r r ρ
theorem we_oz {e : Expr} {ρ ρ1 ρ2 : Env} {r r1 : R} (h : WE X e ρ r ρ1) (z : OpZ ρ1 r r1 ρ2) : WE X e ρ r1 ρ2 := by
  cases z with
  | insF => exact we_im h
  | insS hi => exact we_frz h hi
  | id => exact h
inductive BinS (X : Cx) (op : Operator) (ρ : Env) : R → R → R → Prop where
  | dat {r1 r2 r : R} {d1 d2 : D} (ca : r1.con ρ = some d1) (cb : r2.con ρ = some d2) (hv : BinV X op d1 d2 r) : BinS X op ρ r1 r2 r
  | own {C : Addr} {gs hs : List (Str × D)} {S : List D → R → Prop} {r : R} (h : OC X C op.info.2 S) (hS : S [.ins C gs, .ins C hs] r) (ho : r.ok = true) : BinS X op ρ (.im (.ins C gs)) (.im (.ins C hs)) r
theorem we_b2 {op : Operator} {a b : Expr} {pos : Pos} {ρ ρ1 ρ2 ρ3 ρ4 : Env} {r r1 r2 r1' r2' : R} (ha : WE X a ρ r1 ρ1) (z1 : OpZ ρ1 r1 r1' ρ2) (hb : WE X b ρ2 r2 ρ3) (z2 : OpZ ρ3 r2 r2' ρ4) (sel : BinS X op ρ4 r1' r2' r) : WE X (.BinOp a op b pos) ρ r ρ4 := by
  cases sel with
  | dat ca cb hv => exact we_bx (we_oz ha z1) (we_oz hb z2) ca cb hv
  | own h hS ho =>
    obtain ⟨f, G, O⟩ := h.ex
    exact we_binO G O (we_oz ha z1) (we_oz hb z2) hS ho
inductive NegS (X : Cx) (ρ : Env) : R → R → Prop where
  | dat {r1 : R} {i : Int} (ca : r1.con ρ = some (.int i)) : NegS X ρ r1 (.im (.int (-i)))
  | own {C : Addr} {gs : List (Str × D)} {S : List D → R → Prop} {r : R} (h : NC X C S) (hS : S [.ins C gs] r) (ho : r.ok = true) : NegS X ρ (.im (.ins C gs)) r
theorem we_n2 {a : Expr} {pos : Pos} {ρ ρ1 ρ2 : Env} {r r1 r1' : R} (ha : WE X a ρ r1 ρ1) (z1 : OpZ ρ1 r1 r1' ρ2) (sel : NegS X ρ2 r1' r) : WE X (.UnaryOp .USub a pos) ρ r ρ2 := by
  cases sel with
  | dat ca => exact we_neg (we_oz ha z1) ca
  | own h hS ho =>
    obtain ⟨f, G, h1, h2⟩ := h.ex
    exact we_negO G h1 h2 (we_oz ha z1) hS ho
theorem we_rpD {es : List Expr} {p1 pos : Pos} {b : Expr} {ρ ρ1 ρ2 : Env} {ds : List D} {i : Int} (ha : WA X es ρ ds ρ1) (hb : WE X b ρ1 (.im (.int i)) ρ2) (hz0 : ds.length ≤ 1000) (hz : ds.length * i.toNat ≤ 100000) (hl : -(2 ^ 63) ≤ i ∧ i < 2 ^ 63) : WE X (.BinOp (.List es p1) .Mult b pos) ρ (.fr (.lst (List.replicate i.toNat ds).flatten)) ρ2 :=
  we_rep (we_lst ha hz0) hb hz hl
/-- what == tells of plain data -/
structure EqK (d1 d2 : D) (k : Bool) : Prop where
  h1 : Pln 60 d1
  h2 : Pln 60 d2
  hk : k = true ↔ d1 = d2
theorem cv_eqK {n : Nat} {d1 d2 : D} {kk : Bool} (hr : Room n X.A) (h : EqK d1 d2 kk) : CmpV X .Eq d1 d2 kk := cv_eqP hr h.h1 h.h2 h.hk
theorem cv_neK {n : Nat} {d1 d2 : D} {kk : Bool} (hr : Room n X.A) (h : EqK d1 d2 kk) : CmpV X .NotEq d1 d2 (!kk) := cv_neP hr h.h1 h.h2 (by have := h.hk; cases kk <;> simp_all)
theorem EqK.nilL {xs : List D} (h : ∀ d ∈ xs, Pln 59 d) : EqK (.lst xs) (.lst []) (decide (xs = [])) := ⟨Pln.lst h, Pln.lst (by simp), by simp⟩
theorem EqK.nilT {xs : List D} (h : ∀ d ∈ xs, Pln 59 d) : EqK (.tup xs) (.tup []) (decide (xs = [])) := ⟨Pln.tup h, Pln.tup (by simp), by simp⟩
theorem ws_fa {pn : List Nat} {value o : Expr} {f : Str} {pos pos' : Pos} {i : Nat} {ρ ρ1 ρ2 ρ3 : Env} {r : R} {d : D} {gs : List (Str × D)} {fl : List Str} (hv : WE X value ρ r ρ1) (z : Frz ρ1 r d ρ2) (ho : WE X o ρ2 (.sl i) ρ3) (hi : ρ3[i]? = some (.own (.ins C gs))) (c : ClsF X.K C fl) (hf : f ∈ fl) (hl : gs.length < 1000)
    (hs : swapsWith value (some (.Attribute o f pos')) pos.line X.env = pure false := by rfl) : WN X pn (.Assign [.Attribute o f pos'] value pos) ρ (ρ3.set i (.own (.ins C (putG f d gs)))) := ws_fld (we_z hv z) ho c.cl (c.na f hf) hi hl hs
/-- if, both ways meet -/
theorem wb_ifJ {pn : List Nat} {c : Expr} {a b rest : List Stmt} {pos : Pos} {ρ ρ1 : Env} {kk : Bool} {Q : Post} (J : Env → Prop) (hc : WT X c ρ kk ρ1) (ha : kk = true → WB X pn a ρ1 { Q with nx := J }) (hb : kk = false → WB X pn b ρ1 { Q with nx := J }) (hj : ∀ ρ', J ρ' → WB X pn rest ρ' Q) : WB X pn (.If c a b pos :: rest) ρ Q := wb_cons (M := J) (ws_if hc ha hb) hj
/-- None or an int -/
def optD : Option Int → D
  | none => .non
  | some i => .int i
theorem wb_ifTe {pn : List Nat} {c : Expr} {a b rest : List Stmt} {pos : Pos} {ρ ρ1 : Env} {kk : Bool} {Q : Post} (hc : WT X c ρ kk ρ1) (e : kk = true) (ha : WB X pn a ρ1 { Q with nx := fun ρ' => WB X pn rest ρ' Q }) : WB X pn (.If c a b pos :: rest) ρ Q := by subst e; exact wb_ifT hc ha
theorem wb_ifFe {pn : List Nat} {c : Expr} {a b rest : List Stmt} {pos : Pos} {ρ ρ1 : Env} {kk : Bool} {Q : Post} (hc : WT X c ρ kk ρ1) (e : kk = false) (hb : WB X pn b ρ1 { Q with nx := fun ρ' => WB X pn rest ρ' Q }) : WB X pn (.If c a b pos :: rest) ρ Q := by subst e; exact wb_ifF hc hb
theorem we_ifTe {c a b : Expr} {pos : Pos} {ρ ρ1 ρ2 : Env} {kk : Bool} {r : R} (hc : WT X c ρ kk ρ1) (e : kk = true) (ha : WE X a ρ1 r ρ2) : WE X (.IfExp c a b pos) ρ r ρ2 := by subst e; exact we_ifT hc ha
theorem we_ifFe {c a b : Expr} {pos : Pos} {ρ ρ1 ρ2 : Env} {kk : Bool} {r : R} (hc : WT X c ρ kk ρ1) (e : kk = false) (hb : WE X b ρ1 r ρ2) : WE X (.IfExp c a b pos) ρ r ρ2 := by subst e; exact we_ifF hc hb
end
end Z
set_option maxRecDepth 100000
set_option maxHeartbeats 2000000
namespace Z
open PySem PySem.Spec PyProof.Rows L2 Evl ClX
section
variable {X : Cx}
/-- one element of a comprehension that changes its own slots -/
theorem tn_step {scope : Scope} {vs : List Nat} {ρ ρt ρe ρf : Env} {tg elt : Expr} {d e : D} {r : R} {G : List D → Env → Prop} (h1 : BG X scope (cmpl ρ.length vs) tg d ρ ρt) (h2 : BE X scope elt ρt r ρe) (z : Frz ρe r e ρf) (h4 : ρt.length = ρ.length) (h5 : ρf.length = ρ.length) (hG : G [e] (wipeE ρf vs)) : Turned X scope tg elt [] vs d ρ G :=
  ⟨ρt, true, ρt, h1, h4, bt_nil, h4, fun _ => ⟨e, ρf, fun s H C cl fp => we_z (h2 s H C cl fp) z, h5, hG⟩, fun z => by cases z⟩
/-! ### inside a block -/
variable {s : Shared} {H : Hp} {sc : Scope} {e : PySem.Env} {fp : List Addr}
theorem CallL.blk {x : Str} {m : List Bool} {S : List SV → R → List SV → Prop} (h : CallL X x m S) : CallL (X.blk s H sc e fp) x m S := ⟨h.g⟩
theorem MC.blk {C : Addr} {m : Str} {S : List D → R → Prop} (h : MC X C m S) : MC (X.blk s H sc e fp) C m S := ⟨h.ex⟩
theorem PC.blk {C : Addr} {m : Str} {S : List D → R → Prop} (h : PC X C m S) : PC (X.blk s H sc e fp) C m S := ⟨h.ex⟩
theorem KC.blk {x : Str} {C : Addr} {SM : D → List D → R → D → Prop} (h : KC X x C SM) : KC (X.blk s H sc e fp) x C SM := ⟨h.ex, h.mg⟩
theorem OC.blk {C : Addr} {n : String} {S : List D → R → Prop} (h : OC X C n S) : OC (X.blk s H sc e fp) C n S := ⟨h.ex⟩
theorem NC.blk {C : Addr} {S : List D → R → Prop} (h : NC X C S) : NC (X.blk s H sc e fp) C S := ⟨h.ex⟩
end
end Z
set_option maxRecDepth 100000
set_option maxHeartbeats 2000000
/-! Z24: the text of any datum in an f-string; exceptions with attributes. -/
namespace Z
open PySem PySem.Spec PyProof.Rows L2 Evl ClX NdefX
section
variable {X : Cx} {pins : List (Addr × Obj)} {σ : L2.St} {F H : Hp} {s : Shared} {own : Addr → List (Str × D) → Option Str}
theorem reprObj_run {n m : Nat} {u : Value} {v : V} {d : D} {t : Str} {Q : Value → Shared → Prop} (hown : ∀ C gs t, own C gs = some t → ShowI X n C gs t) (hg : X.A.guards = some []) (hr : RoomZ X (n + m + 2) X.A) (I : Inv X pins σ H s) (rv : L2.RelV v u) (eF : Ex F H) (rp : Rep X.K F v d)
    (ht : D.txt own d = some t) (hm : D.deep d ≤ m) (hz : t.length ≤ sizeLine) (q : ∀ s' H' tk, Inv X pins σ H' s' → Up H H' → Q (.str t tk) s') : wpAny (model X.prog X.w) X.A (pyReprObj u) Q X.xe s := by
  have hr1 : RoomZ X (n + m + 1) X.A := hr.mono (by omega)
  have hu : X.A.units < cLine := hr.units0
  have fin : ∀ s' H' tk, Inv X pins σ H' s' → Up H H' → ∃ x t', Value.str t tk = .str x t' ∧ Q (.str t tk) s' := fun s' H' tk I' up => ⟨_, _, rfl, q s' H' tk I' up⟩
  cases rp with
  | non => simp only [D.txt] at ht; cases ht; cases (show u = Value.none from rv); exact pyReprObj_none (q _ H _ (I.tok _) Up.refl)
  | bl b => simp only [D.txt] at ht; cases ht; cases (show u = Value.bool b from rv); exact pyReprObj_bool (q _ H _ (I.tok _) Up.refl)
  | int i =>
    simp only [D.txt] at ht
    split at ht
    · rename_i hi
      cases ht
      obtain ⟨tk, e⟩ := (show ∃ tk, u = Value.int i tk from rv)
      subst e
      exact pyReprObj_int hi (q _ H _ (I.tok _) Up.refl)
    · cases ht
  | str x =>
    simp only [D.txt] at ht
    cases ht
    obtain ⟨tk, e⟩ := (show ∃ tk, u = Value.str x tk from rv)
    subst e
    exact pyReprObj_str (q _ H _ (I.tok _) Up.refl) hz
  | ty n => simp only [D.txt] at ht; cases ht
  | obj a => simp only [D.txt] at ht; cases ht
  | exc h l r => simp only [D.txt] at ht; cases ht
  | set h r => simp only [D.txt] at ht; cases ht
  | ins h r =>
    rename_i a C dx fs gs
    cases (show u = Value.ref a from rv)
    simp only [D.txt] at ht
    obtain ⟨f, S, hs, hfn, hF, hS⟩ := hown _ _ _ ht
    obtain ⟨ox, od, J⟩ := insAt I (eF _ _ h)
    have KI := I.kIn
    have run := showI_run (Q := fun x s' => ∀ u, x = t → Q (.str x u) s') hF hS rfl (hr1.mono (by omega)) I eF (.ins h r) fun s' H' I' up u e => q s' H' u I' up
    unfold pyReprObj
    refine wpAny_bind (wpAny_cRoomFor hu ?_)
    refine wpAny_bind (wpAny_bind (J.type.here ((PySem.W.looks_findIn KI hs).here ?_)))
    show wpAny _ _ (if (some (Value.ref f)).isNone = true then _ else _) _ _ _
    rw [if_neg (by simp)]
    refine wpAny_bind (m := callSpecialIfBound? (.ref a) (Str.ofString "__repr__") _) (PySem.W.ifBound_K KI J hs hfn (wpAny_mono (showI_run (Q := fun x s' => x = t ∧ ∀ u, Q (.str x u) s') hF hS rfl (hr1.mono (by omega)) I eF (.ins h r) fun s' H' I' up => ⟨rfl, fun u => q s' H' u I' up⟩) (fun w s' z => ?_) fun _ _ y => y))
    cases w <;> first | exact (show False from z).elim | skip
    obtain ⟨x, u, e, ex, qq⟩ := z
    cases e
    exact wpAny_bind (wpAny_isInstance (T := "str") (b := true) rfl isSubtype_str_str (wpAny_pure (qq _)))
  | dct h r =>
    rename_i a vs ds
    cases (show u = Value.ref a from rv)
    cases r with
    | cons f r t => simp only [D.txt] at ht; cases ht
    | nil =>
      simp only [D.txt] at ht
      cases ht
      have hm1 : 1 ≤ m := by simpa only [D.deep] using hm
      obtain ⟨_, hs, vs, kv, o, es, ep, e1, e2, e3, _, pr, _⟩ := dk_of I.hok (eF _ _ h)
      cases kv
      have e0 : es.toList = [] := by revert pr; generalize es.toList = l; intro pr; cases pr; rfl
      refine wpAny_pyReprObj_slot hu ⟨o, e1, e2.1⟩ PySem.F.slot_dict_repr ?_
      exact call_dict_reprK (as := []) (d := 0) (ps := []) e1 e2.1 e3 hs (by simp) (by rw [e0]; exact .nil) (g := []) hg (fun b hb' => Clear.nil b) (by have := hr1.un; omega) (fun _ _ z => z) (fun h' u tk hk => fin _ H _ (I.kept hk) Up.refl)
  | lst h r =>
    rename_i a vs xs
    cases (show u = Value.ref a from rv)
    obtain ⟨ts, hts⟩ := okT_lst (own := own) ⟨t, ht⟩
    have et : t = listText ts := by simp only [D.txt, hts] at ht; cases ht; rfl
    subst et
    have hs' := ex_l eF h
    have hlen : ts.length = vs.length := by rw [txts_len hts, r.length]
    obtain ⟨its, rv', pl, _⟩ := I.list hs'
    have hTy : s.TypeIs (.ref a) "list" := pl.isList.typeIs
    have hd : D.deeps xs + 1 ≤ m := by simpa only [D.deep] using hm
    refine wpAny_pyReprObj_slot hu hTy PySem.F.slot_list_repr.toG ?_
    by_cases hv : vs = []
    · subst hv
      have e0 : ts = [] := List.length_eq_zero_iff.mp hlen
      subst e0
      cases rv'
      obtain ⟨oa, na, ga, _, _, da⟩ := pl
      refine call_list_repr_empty hTy ga da ⟨_, _, rfl, ?_⟩
      exact listText_nil ▸ q _ H _ (I.tok _) Up.refl
    · refine wpAny_call (codeAny_call_builtin PySem.F.slot_list_repr.plain PySem.F.entry_list_repr (PySem.F.slot_list_repr.check _ _ _ _ _ _ _ _ hTy (PySem.F.args_list_repr_1 _) ?_))
      refine sh_head (A := X.A) (g := []) (n := n + D.deeps xs) (bad := Bad X own F (D.deeps xs)) (R := callEnd (fun v s' => ∃ x u, v = .str x u ∧ Q v s') X.xe) hlen hv (fun i v hv => ?_) hg rfl (hr1.mono (by omega)) (fun b _ => Clear.nil b) (Clear.nil a) (fun ⟨d, rd, ok, _, le⟩ => ?_) I eF hs' (by omega) (fun _ _ z => z) fun s' H' u I' up => fin s' H' u I' up
      · obtain ⟨d, hd, rd⟩ := r.getV hv
        obtain ⟨t, h1, h2⟩ := txts_at hts hd
        have le := deep_at hd
        exact ⟨t, h1, (sh_all hown d t v h2 rd).mono (by omega) fun b ⟨d', rd', ok, g1, le'⟩ => ⟨d', rd', ok, g1, Nat.le_trans le' le⟩⟩
      · have := deep_eq I eF rd (.lst h r) ok ⟨_, ht⟩
        simp only [D.deep] at this
        omega
  | tup h r =>
    rename_i a vs xs
    cases (show u = Value.ref a from rv)
    obtain ⟨ts, hts⟩ := okT_tup (own := own) ⟨t, ht⟩
    have et : t = tupleText ts := by simp only [D.txt, hts] at ht; cases ht; rfl
    subst et
    have hs' := ex_t eF h
    have hlen : ts.length = vs.length := by rw [txts_len hts, r.length]
    obtain ⟨its, rv', pl, _⟩ := I.tuple hs'
    have hTy : s.TypeIs (.ref a) "tuple" := pl.typeIs
    have hd : D.deeps xs + 1 ≤ m := by simpa only [D.deep] using hm
    refine wpAny_pyReprObj_slot hu hTy PySem.F.slot_tuple_repr ?_
    refine wpAny_call (codeAny_call_builtin_own (Code.quiet_builtin _ (by decide +kernel)) PySem.F.entry_tuple_repr (PySem.F.slot_tuple_repr.check _ _ _ _ _ _ _ _ hTy (PySem.F.args_tuple_repr_1 _) ?_))
    refine sh_tupAt (A := X.A) (g := []) (base := 0) (n := n + D.deeps xs) (bad := Bad X own F (D.deeps xs)) (R := callEnd (fun v s' => ∃ x u, v = .str x u ∧ Q v s') X.xe) (.inl rfl) hlen (fun i v hv => ?_) hg rfl (hr1.mono (by omega)) (fun b _ => Clear.nil b) (Clear.nil a) (fun ⟨d, rd, ok, _, le⟩ => ?_) I eF hs' (by omega) (fun _ _ z => z) fun s' H' u I' up => fin s' H' u I' up
    · obtain ⟨d, hd, rd⟩ := r.getV hv
      obtain ⟨t, h1, h2⟩ := txts_at hts hd
      have le := deep_at hd
      exact ⟨t, h1, (sh_all hown d t v h2 rd).mono (by omega) fun b ⟨d', rd', ok, g1, le'⟩ => ⟨d', rd', ok, g1, Nat.le_trans le' le⟩⟩
    · have := deep_eq I eF rd (.tup h r) ok ⟨_, ht⟩
      simp only [D.deep] at this
      omega
end
/-! ### {e!r} -/
section
variable {X : Cx} {e : Expr} {pos : Pos} {ρ ρ1 : Env} {d : D} {t : Str} {n m : Nat} {own : Addr → List (Str × D) → Option Str}
def tFmtD (K : PySem.W.Frag) (own : Addr → List (Str × D) → Option Str) (m : Nat) (te : TE) : TE := fun σ H Q => te σ H fun x H1 => ∃ F d t, Ex F H1 ∧ Rep K F x d ∧ D.txt own d = some t ∧ D.deep d ≤ m ∧ t.length ≤ sizeLine ∧ ∀ H', Up H1 H' → Q (.str t) H'
theorem pe_fmtD {te : TE} (hown : ∀ C gs t, own C gs = some t → ShowI X n C gs t) (hg : X.A.guards = some []) (hr : RoomZ X (n + m + 2) X.A) (he : PE X e te) : PE X (.FormattedValue e 114 none pos) (tFmtD X.K own m te) := by
  refine ⟨fun pins s σ H Q I h => ?_⟩
  refine wpAny_FormattedValue_repr (thn (he.run pins s σ H _ I h) fun u s1 ⟨x, H1, I1, r1, F, d, t, eF, rp, ht, hm, hz, q⟩ => ?_)
  refine reprObj_run hown hg hr I1 r1 eF rp ht hm hz fun s' H' tk I' up => ?_
  exact wpAny_formatField_str ⟨.str t, H', I', ⟨_, rfl⟩, q H' up⟩ ⟨.str t, H', I'.tok _, ⟨_, rfl⟩, q H' up⟩ hz
theorem we_fmtD (hown : ∀ C gs t, own C gs = some t → ShowI X n C gs t) (hg : X.A.guards = some []) (hr : RoomZ X (n + m + 2) X.A) (h : WE X e ρ (.im d) ρ1) (ht : D.txt own d = some t) (hm : D.deep d ≤ m) (hz : t.length ≤ 100000) : WE X (.FormattedValue e 114 none pos) ρ (.im (.str t)) ρ1 :=
  PE.imp (pe_fmtD hown hg hr h) fun σ H Q ⟨F, rel, k⟩ => ⟨F, rel, fun v F1 H1 rel1 st1 q => ⟨F1, d, t, rel1.ex, q, ht, hm, sz_of hz, fun H' up => by
    obtain ⟨r2, s2⟩ := up_done rel1 up
    exact k _ F1 H' r2 (st1.trans rel s2) (.str t)⟩⟩
end
/-! ### an __init__ that stores attributes of an exception -/
def InMk (H0 : Hp) (a C : Addr) (fs : List (Str × V)) (H : Hp) : Prop := (fs = [] ∧ H = H0 ∧ H0 a = some (exo a C none)) ∨ ∃ dx, H0 a = some (exo a C none) ∧ H0 dx = none ∧ dx ≠ a ∧ H = upd (upd H0 dx (exd dx fs)) a (exo a C (some dx))
def valS (σ : L2.St) (i : Nat) : V := match σ[i]? with | some (some v) => v | _ => .non
inductive StoL (X : Cx) : List Stmt → List (Str × Nat) → Prop where
  | nil : StoL X [] []
  | cons {f sf y : Str} {i : Nat} {po px pa pos : Pos} {rest : List Stmt} {fl : List (Str × Nat)} (hs : X.N[0]? = some sf) (hv0 : Vis X.env.scope sf) (hi : X.N[i]? = some y) (hv : Vis X.env.scope y)
      (d0 : (sf == ("__debug__" : Str)) = false) (c0 : (sf == ("__classdict__" : Str)) = false) (d1 : (y == ("__debug__" : Str)) = false) (c1 : (y == ("__classdict__" : Str)) = false)
      (hsw : swapsWith (.Name y px) (some (.Attribute (.Name sf po) f pa)) pos.line X.env = pure false) (r : StoL X rest fl) : StoL X (.Assign [.Attribute (.Name sf po) f pa] (.Name y px) pos :: rest) ((f, i) :: fl)
def tSto (K : PySem.W.Frag) (fl : List (Str × Nat)) : TS := fun D σ H => ∃ a C H0 fs, σ[0]? = some (some (.ref a)) ∧ OexC K C ∧ InMk H0 a C fs H ∧ fs.length + fl.length ≤ 900 ∧ (∀ p ∈ fl, PySem.W.findIn K (.ref C) p.1 = some none ∧ ∃ v, σ[p.2]? = some (some v)) ∧
  ∀ H', InMk H0 a C ((fl.map fun p => (p.1, valS σ p.2)).reverse ++ fs) H' → D.nx σ H'
theorem pss_sto {X : Cx} : ∀ {rest : List Stmt} {fl : List (Str × Nat)}, StoL X rest fl → PSs X rest (tSto X.K fl)
  | _, _, .nil => PSs.imp pss_nil fun D σ H ⟨a, C, H0, fs, _, _, im, _, _, k⟩ => k H im
  | _, _, .cons (f := f) (i := i) (fl := fl) hs hv0 hi hv d0 c0 d1 c1 hsw r => by
    refine PSs.imp (pss_cons (ps_ost (pe_var hs hv0 d0 c0) (pe_var hi hv d1 c1) hsw) (pss_sto r)) fun D σ H ⟨a, C, H0, fs, h0, O, im, hl, hf, k⟩ => ?_
    obtain ⟨hno, y, hy⟩ := hf (f, i) (by simp)
    have ev : valS σ i = y := by unfold valS; rw [hy]
    have nxt : ∀ H1, InMk H0 a C ((f, y) :: fs) H1 → tSto X.K fl D σ H1 := fun H1 im1 => ⟨a, C, H0, (f, y) :: fs, h0, O, im1, by simp only [List.length_cons] at hl ⊢; omega, fun p hp => hf p (by simp [hp]), fun H' im' => k H' (by rw [List.map_cons, List.reverse_cons, List.append_assoc, ev]; exact im')⟩
    refine ⟨y, hy, .ref a, h0, a, C, rfl, O, hno, ?_⟩
    rcases im with ⟨rfl, rfl, ea⟩ | ⟨dx, ea, hn, hne, rfl⟩
    · exact .inl ⟨ea, fun dx hn hne => nxt _ (.inr ⟨dx, ea, hn, hne, rfl⟩)⟩
    · refine .inr ⟨dx, fs, upd_same, by rw [upd_ne hne, upd_same], by simp only [List.length_cons] at hl; omega, nxt _ (.inr ⟨dx, ea, hn, hne, ?_⟩)⟩
      funext b
      by_cases hb : b = dx
      · subst hb; rw [upd_same, upd_ne hne, upd_same]
      · rw [upd_ne hb]
        by_cases hc : b = a
        · subst hc; rw [upd_same, upd_same]
        · rw [upd_ne hc, upd_ne hc, upd_ne hb, upd_ne hb]
/-- the promise of such an __init__ -/
def spIv (K : PySem.W.Frag) (C : Addr) (S : List D → List (Str × D) → Prop) : Sp := fun vs H Q _ => ∃ a ws ds gs F, vs = .ref a :: ws ∧ H a = some (exo a C none) ∧ F a = none ∧ Ex F H ∧ Reps K F ws ds ∧ S ds gs ∧
  ∀ H1 fs H', Up H H1 → InMk H1 a C fs H' → (∀ f g, gs.lookup f = some g → ∃ v, fs.lookup f = some v ∧ Rep K F v g) → Q .non H'
theorem look_app {β : Type} (k : Str) : ∀ (l r : List (Str × β)), (l ++ r).lookup k = (l.lookup k).or (r.lookup k)
  | [], r => by simp
  | (a, b) :: l, r => by
    by_cases h : k = a
    · have hb : (k == a) = true := beq_iff_eq.mpr h
      simp only [List.cons_append, List.lookup, hb, Option.some_or]
    · have hb : (k == a) = false := beq_eq_false_iff_ne.mpr h
      simp only [List.cons_append, List.lookup, hb]
      exact look_app k l r
theorem look_none {β : Type} {k : Str} : ∀ {l : List (Str × β)}, k ∉ l.map (·.1) → l.lookup k = none
  | [], _ => rfl
  | (a, b) :: l, h => by
    have hb : (k == a) = false := beq_eq_false_iff_ne.mpr fun z => h (by simp [z])
    simp only [List.lookup, hb]
    exact look_none fun z => h (by simp only [List.map_cons, List.mem_cons]; exact .inr z)
theorem look_rev {β : Type} (k : Str) : ∀ {l : List (Str × β)}, (l.map (·.1)).Nodup → l.reverse.lookup k = l.lookup k
  | [], _ => rfl
  | (a, b) :: l, nd => by
    rw [List.map_cons, List.nodup_cons] at nd
    rw [List.reverse_cons, look_app, look_rev k nd.2]
    by_cases h : k = a
    · have hb : (k == a) = true := beq_iff_eq.mpr h
      subst h
      rw [look_none nd.1]
      simp only [List.lookup, hb, Option.none_or]
    · have hb : (k == a) = false := beq_eq_false_iff_ne.mpr h
      simp only [List.lookup, hb, Option.or_none]
section
variable {P : Program} {w : World} {K : PySem.W.Frag} {mg : Str → Option Value} {base : Heap} {C D f c cc : Addr} {B i newId : String} {bmB : List Value} {x qual : Str} {st : Stmt} {p0 p1 p2 p3 p4 ap : Pos} {ar : Arg} {N ps : List Str} {k : Nat} {e : Expr} {rest : List Stmt}
theorem sup_fields {S : List Z.D → List (Str × Z.D) → Prop} (F : SupF P K x qual st f c cc D) (T : SupC K C D B i newId bmB) (O : OexC K C) (hm : mg "super" = none) (S0 : NScope N ps ["__class__"] (defScope st)) (hNl : N.length = ps.length + 1)
    (hbi : ∀ (kV doc pm : Value) (an : Option Addr) (ct : Value) (us : List Value), us.length = ps.length → bindArgs (PySem.W.fnX x qual (defArgs st) (defBody st) (defScope st) [("__class__", cc)] .none kV doc pm an (.ref c) ct) ⟨us, []⟩ = pure (ps.zip us))
    (hst : defBody st = .Expr (.Call (.Attribute (.Call (.Name "super" p0) [] [] p1) "__init__" ap) [e] [] p2) p3 :: rest)
    (fl : List (Str × Nat)) (hno : ∀ p ∈ fl, PySem.W.findIn K (.ref C) p.1 = some none ∧ 1 ≤ p.2 ∧ p.2 < ps.length) (hfl : fl.length ≤ 100) (nd : (fl.map (·.1)).Nodup)
    (hS : ∀ ds gs, S ds gs → ds.length + 1 = ps.length ∧ gs = fl.map fun p => (p.1, ds.getD (p.2 - 1) .non))
    (hX : ∀ (A : Around) (outer : List PySem.Env) (s : Shared) (H : Hp) (E : XK) (X : Cx), X = ncx (L2.CX P w) P w K mg base N (nfS x qual st c cc) f A outer s H E → X.A.guards = some [] → Room k X.A → StoL X rest fl ∧ ∀ ds gs, S ds gs → ∃ m, WE X e (.un :: (ds.map .im ++ [.un])) (.im m) (.un :: (ds.map .im ++ [.un])))
    (hN : N[0]? = some ar.arg) (har : ((defArgs st).posonlyargs ++ (defArgs st).args).head? = some ar) (hka : (defScope st).names.lookup ar.arg = some .local) (hks : (defScope st).names.lookup ("super" : Str) = some .globalImplicit) (hkc : (defScope st).names.lookup ("__class__" : Str) = some .free)
    (hse : ∀ env : PySem.Env, starEach [e] env = (false, eval e env) :: starEach [] env)
    {pl : PySem.Env → Sem Bool} (he : ∀ env : PySem.Env, eval (.Call (.Attribute (.Call (.Name "super" p0) [] [] p1) "__init__" ap) [e] [] p2) env = (do
      let ov ← attributeBase (.Call (.Name "super" p0) [] [] p1) "__init__" env (eval (.Call (.Name "super" p0) [] [] p1) env)
      standAt ap.atName
      let (f, first) ← holding [ov] (getMethod ov "__init__" (pl env))
      callWith p2 f first (backTo p2 (starEach [e] env)) []))
    (hsw : ∀ env : PySem.Env, swapsWith (.Call (.Attribute (.Call (.Name "super" p0) [] [] p1) "__init__" ap) [e] [] p2) none p3.line env = pure false) :
    FnG P w K mg base (L2.CX P w) (k + 1) f (spIv K C S) := by
  intro A outer s H us vs Q E hg hr e0 r h
  obtain ⟨a, ws, ds, gs, F0, rfl, ea, hfa, eF, rp, hs, q⟩ := h
  obtain ⟨hl, hgs⟩ := hS ds gs hs
  have hwl : ws.length = ds.length := rp.length
  cases r with
  | cons ru rn =>
    rename_i u us
    cases (show u = Value.ref a from ru)
    refine run_sup F T S0 hbi hst hr e0 ea hm rn (by omega) (fun X hXe hrX => ?_) hN har hka hks hkc he hsw hse (fun env => rfl)
    obtain ⟨sto, ev⟩ := hX A outer s H E X hXe (by rw [hXe]; exact hg) hrX
    obtain ⟨m, we⟩ := ev ds gs hs
    have hK : X.K = K := by rw [hXe]; rfl
    refine ⟨_, _, wa_cons we wa_nil (by rw [hse]), pss_sto sto, ?_⟩
    have hσ : startF N (.ref a :: ws) [some (.ref D)] = some (.ref a) :: (ws.map some ++ [some (.ref D)]) := by
      unfold startF
      have : N.length - (V.ref a :: ws).length - [some (V.ref D)].length = 0 := by simp; omega
      rw [this]
      simp
    rw [hσ]
    have at_w : ∀ i, i < ws.length → (some (V.ref a) :: (ws.map some ++ [some (.ref D)]))[i + 1]? = some (some (ws.getD i .non)) := fun i hi => by
      rw [List.getElem?_cons_succ, List.getElem?_append_left (by simp; exact hi), List.getElem?_map, List.getElem?_eq_getElem hi]
      simp [List.getD_eq_getElem?_getD, List.getElem?_eq_getElem hi]
    have at_ρ : ∀ j s, (SV.un :: (ds.map SV.im ++ [SV.un]))[j]? = some s → s = .un ∨ ∃ d, s = .im d ∧ 1 ≤ j ∧ ds[j - 1]? = some d := fun j s h => by
      cases j with
      | zero => simp at h; exact .inl h.symm
      | succ j =>
        rw [List.getElem?_cons_succ] at h
        by_cases hj : j < ds.length
        · rw [List.getElem?_append_left (by simp; exact hj), List.getElem?_map, List.getElem?_eq_getElem hj] at h
          simp at h
          exact .inr ⟨ds[j], h.symm, by omega, by simp [hj]⟩
        · rw [List.getElem?_append_right (by simp; omega)] at h
          have := (List.mem_of_getElem? h)
          simp at this
          exact .inl this
    have rel : Rel X.K F0 (.un :: (ds.map .im ++ [.un])) (some (.ref a) :: (ws.map some ++ [some (.ref D)])) H := by
      rw [hK]
      refine ⟨eF, by simp [hwl], fun j d h => ?_, fun j d h => ?_, fun j l d e p h => ?_⟩
      · rcases at_ρ j _ h with z | ⟨d', z, h1, h2⟩
        · cases z
        · cases z
          obtain ⟨v, h3, h4⟩ := rp.get h2
          have hj : j - 1 < ws.length := (List.getElem?_eq_some_iff.mp h3).1
          refine ⟨v, ?_, h4⟩
          have := at_w (j - 1) hj
          rw [show j - 1 + 1 = j by omega] at this
          rw [this, List.getD_eq_getElem?_getD, h3]
          rfl
      · rcases at_ρ j _ h with z | ⟨d', z, _⟩ <;> cases z
      · rcases at_ρ j _ h with z | ⟨d', z, _⟩ <;> cases z
    refine ⟨F0, rel, fun vs F1 H1 rel1 st1 rd1 => ?_⟩
    have no : ∀ b, ¬ Owns (.un :: (ds.map .im ++ [.un])) (some (V.ref a) :: (ws.map some ++ [some (.ref D)])) b := fun b ⟨j, d, h, _⟩ => by
      rcases at_ρ j _ h with z | ⟨d', z, _⟩ <;> cases z
    have up : Up H H1 := fun b o hb => (st1.keep b o hb (no b)).1
    have ea1 := up a _ ea
    have exF : Ex F0 F1 := st1.ex rel
    have hfa1 : F1 a = none := (st1.keep a _ ea (no a)).2.trans hfa
    refine ⟨by rw [rd1.length, sizeLine_eq]; simp, ea1, a, C, H1, [], rfl, by rw [hK]; exact O, .inl ⟨rfl, rfl, ea1⟩, by simp; omega, fun p hp => ?_, fun H' im => ?_⟩
    · obtain ⟨h1, h2, h3⟩ := hno p hp
      refine ⟨by rw [hK]; exact h1, ?_⟩
      have := at_w (p.2 - 1) (by omega)
      rw [show p.2 - 1 + 1 = p.2 by omega] at this
      exact ⟨_, this⟩
    · rw [List.append_nil] at im
      have ex1 := rel1.ex
      refine q H1 _ H' up im fun f g hfg => ?_
      have hk : ((fl.map fun p => (p.1, valS (some (V.ref a) :: (ws.map some ++ [some (.ref D)])) p.2)).map (·.1)) = fl.map (·.1) := by rw [List.map_map]; rfl
      rw [look_rev f (by rw [hk]; exact nd)]
      subst hgs
      rw [hK] at rel1
      have aux : ∀ l : List (Str × Nat), (∀ p ∈ l, 1 ≤ p.2 ∧ p.2 < ps.length) → (l.map fun p => (p.1, ds.getD (p.2 - 1) .non)).lookup f = some g → ∃ v, (l.map fun p => (p.1, valS (some (V.ref a) :: (ws.map some ++ [some (.ref D)])) p.2)).lookup f = some v ∧ Rep K F0 v g := fun l => by
        induction l with
        | nil => intro _ h; cases h
        | cons p l ih =>
          intro hp hfg
          obtain ⟨h2, h3⟩ := hp p (by simp)
          rw [List.map_cons] at hfg ⊢
          by_cases hb : f = p.1
          · have hb' : (f == p.1) = true := beq_iff_eq.mpr hb
            simp only [List.lookup, hb'] at hfg ⊢
            cases hfg
            refine ⟨_, rfl, ?_⟩
            have hi : p.2 - 1 < ds.length := by omega
            obtain ⟨v, h4, h5⟩ := rp.get (i := p.2 - 1) (List.getElem?_eq_getElem hi)
            have := at_w (p.2 - 1) (by omega)
            rw [show p.2 - 1 + 1 = p.2 by omega] at this
            have ev : valS (some (V.ref a) :: (ws.map some ++ [some (.ref D)])) p.2 = v := by
              unfold valS
              rw [this]
              simp only [List.getD_eq_getElem?_getD, h4, Option.getD_some]
            rw [ev, List.getD_eq_getElem?_getD, List.getElem?_eq_getElem hi]
            exact h5
          · have hb' : (f == p.1) = false := beq_eq_false_iff_ne.mpr hb
            simp only [List.lookup, hb'] at hfg ⊢
            exact ih (fun p h => hp p (by simp [h])) hfg
      exact aux fl (fun p hp => (hno p hp).2) hfg
end
/-! ### what is raised, and its attributes -/
def XFs (K : PySem.W.Frag) (F : Hp) (d : Option Addr) (gs : List (Str × D)) : Prop := ∀ f g, gs.lookup f = some g → ∃ dd fs v, d = some dd ∧ F dd = some (.xd fs) ∧ fs.lookup f = some v ∧ Rep K F v g
theorem XFs.mono {K : PySem.W.Frag} {F F' : Hp} {d : Option Addr} {gs : List (Str × D)} (h : XFs K F d gs) (e : Ex F F') : XFs K F' d gs := fun f g hg => by
  obtain ⟨dd, fs, v, h1, h2, h3, h4⟩ := h f g hg
  exact ⟨dd, fs, v, h1, e _ _ h2, h3, h4.mono e⟩
def tPV (K : PySem.W.Frag) (ρ : Env) (C : Addr) (gs : List (Str × D)) (ρ1 : Env) : L2.St → Hp → XK → Prop := fun σ H Q => ∃ F, Rel K F ρ σ H ∧ ∀ F' H' d, Rel K F' ρ1 σ H' → Stp ρ σ F H ρ1 σ F' H' → XFs K F' d gs → Q (.ref C) d H'
section
variable {X : Cx} {C fI : Addr} {B i newId : String} {bmB : List Value} {x : Str} {p pos : Pos} {k : Nat} {e : Expr} {es : List Expr} {ρ ρ1 : Env} {ds : List D} {gs : List (Str × D)} {S : List D → List (Str × D) → Prop}
theorem pmk_v (T : ExC X.K C fI B i newId bmB) (F1 : FnG X.prog X.w X.K X.mg X.base (L2.CX X.prog X.w) k fI (spIv X.K C S)) (hgu : X.A.guards = some []) (hr : Room (k + 1) X.A) (hm : X.mg x = some (.ref C)) (ha : WA X (e :: es) ρ ds ρ1) (hS : S ds gs) (hz : ds.length ≤ 1000) (hg : Gl X x := by rfl)
    (hdb : (x == ("__debug__" : Str)) = false := by decide) (he : starEach (e :: es) X.env = (false, eval e X.env) :: starEach es X.env := by rfl) (hpl : (backTo pos (starEach es X.env)).any (·.1) = false := by rfl) :
    PMk X (.Call (.Name x p) (e :: es) [] pos) (tPV X.K ρ C gs ρ1) := fun pins s σ H Q I ⟨F, rel, q⟩ =>
  pmk_x T F1 hgu hr hm ha hg hdb he hpl pins s σ H Q I ⟨F, rel, fun vs F1 H1 rel1 st1 rd => ⟨by rw [rd.length]; exact hz, fun a ha => by
    have nA : ∀ {b : Addr} {o : HO}, H1 b = some o → b ≠ a := fun {b o} h => ne_of_none h ha
    refine ⟨a, vs, ds, gs, F1, rfl, upd_same, rel1.newF ha, fun b o h => ?_, rd, hS, fun H2 fs H' up im hl => ⟨rfl, ?_⟩⟩
    · have := rel1.ex b o h
      rw [upd_ne (nA this)]
      exact this
    have up1 : ∀ b o, H1 b = some o → H2 b = some o := fun b o h => up b o (by rw [upd_ne (nA h)]; exact h)
    have done : ∀ F' H3 d, (∀ b o, H1 b = some o → H3 b = some o ∧ F' b = F1 b) → Ex F' H3 → XFs X.K F' d gs → Q (.ref C) d H3 := fun F' H3 d keep ex xf =>
      q F' H3 d (rel1.keepAll keep ex) (st1.trans rel ⟨fun b o h _ => keep b o h, fun b z => .inl z, fun b h => by
        cases z : H1 b with
        | none => exact absurd z h
        | some o => rw [(keep b o z).1]; exact fun z => by cases z⟩) xf
    rcases im with ⟨rfl, rfl, ea⟩ | ⟨dx, ea, hn, hne, rfl⟩
    · refine .inl ⟨ea, done F1 _ none (fun b o h => ⟨by rw [del_ne (nA h)]; exact up1 b o h, rfl⟩) (fun b o h => ?_) fun f g hfg => ?_⟩
      · have := rel1.ex b o h
        rw [del_ne (nA this)]
        exact up1 b o this
      · obtain ⟨v, h, _⟩ := hl f g hfg
        cases h
    · have hn1 : H1 dx = none := by
        cases z : H1 dx with
        | none => rfl
        | some o => rw [up1 dx o z] at hn; cases hn
      have nD : ∀ {b : Addr} {o : HO}, H1 b = some o → b ≠ dx := fun {b o} h => ne_of_none h hn1
      have fin : ∀ b o, H1 b = some o → upd (del (upd (upd H2 dx (exd dx fs)) a (exo a C (some dx))) a) dx (.xd fs) b = some o := fun b o h => by
        rw [upd_ne (nD h), del_ne (nA h), upd_ne (nA h), upd_ne (nD h)]
        exact up1 b o h
      refine .inr ⟨dx, fs, upd_same, by rw [upd_ne hne, upd_same], hn1, done (upd F1 dx (.xd fs)) _ _ (fun b o h => ⟨fin b o h, upd_ne (nD h)⟩) (fun b o h => ?_) fun f g hfg => ?_⟩
      · by_cases hb : b = dx
        · subst hb
          rw [upd_same] at h ⊢
          exact h
        · rw [upd_ne hb] at h
          exact fin b o (rel1.ex b o h)
      · obtain ⟨v, h, r⟩ := hl f g hfg
        exact ⟨dx, fs, v, rfl, upd_same, h, r.mono (ex_put (rel1.newF hn1))⟩⟩⟩
end
section
variable {X : Cx} {W : WX} {pn : List Nat} {st : Stmt} {rest a b : List Stmt} {c e o : Expr} {es : List Expr} {pos apos : Pos} {ρ ρ1 ρ2 : Env} {C : Addr} {gs : List (Str × D)} {k : Bool} {P : Post} {ds : List D} {d : D}
def tXv (K : PySem.W.Frag) (W : WX) (pn : List Nat) (ρ : Env) (C : Addr) (gs : List (Str × D)) (ρ' : Env) : TS := fun _ σ H => ∃ F, Rel K F ρ σ H ∧ ∀ σ' F' H' d, Rel K F' ρ' σ' H' → Stp ρ σ F H ρ' σ' F' H' → Pin pn σ σ' → XFs K F' d gs → W (.ref C) d σ' H'
def tXEv (K : PySem.W.Frag) (W : WX) (ρ : Env) (C : Addr) (gs : List (Str × D)) (ρ' : Env) : TE := fun σ H _ => ∃ F, Rel K F ρ σ H ∧ ∀ F' H' d, Rel K F' ρ' σ H' → Stp ρ σ F H ρ' σ F' H' → XFs K F' d gs → W (.ref C) d σ H'
def tXAv (K : PySem.W.Frag) (W : WX) (ρ : Env) (C : Addr) (gs : List (Str × D)) (ρ' : Env) : TA := fun σ H _ => ∃ F, Rel K F ρ σ H ∧ ∀ F' H' d, Rel K F' ρ' σ H' → Stp ρ σ F H ρ' σ F' H' → XFs K F' d gs → W (.ref C) d σ H'
/-- an instance of C with these attributes is raised -/
abbrev RBv (X : Cx) (W : WX) (pn : List Nat) (sts : List Stmt) (ρ : Env) (C : Addr) (gs : List (Str × D)) (ρ' : Env) : Prop := PSs X sts (tXv X.K W pn ρ C gs ρ')
abbrev RSv (X : Cx) (W : WX) (pn : List Nat) (st : Stmt) (ρ : Env) (C : Addr) (gs : List (Str × D)) (ρ' : Env) : Prop := PS X st (tXv X.K W pn ρ C gs ρ')
abbrev REv (X : Cx) (W : WX) (e : Expr) (ρ : Env) (C : Addr) (gs : List (Str × D)) (ρ' : Env) : Prop := PE X e (tXEv X.K W ρ C gs ρ')
abbrev RAv (X : Cx) (W : WX) (es : List Expr) (ρ : Env) (C : Addr) (gs : List (Str × D)) (ρ' : Env) : Prop := PA X es (tXAv X.K W ρ C gs ρ')
theorem rv_go (h : WN X pn st ρ ρ1) (kk : RBv X W pn rest ρ1 C gs ρ2) : RBv X W pn (st :: rest) ρ C gs ρ2 := by
  refine ⟨fun pins s σ H D I ⟨F, rel, w⟩ => ?_⟩
  have hh := h { nx := fun x => x = ρ1 } rfl
  refine wpAny_execs_cons (thn (hh.run pins s σ H { D with nx := fun σ' H' => ∃ F', Rel X.K F' ρ1 σ' H' ∧ Stp ρ σ F H ρ1 σ' F' H' ∧ Pin pn σ σ' } I
    ⟨F, rel, fun ρ' σ' F' H' rel' st' p' g => by subst g; exact ⟨F', rel', st', p'⟩, fun _ _ _ _ _ _ _ _ _ _ z => z.elim, fun _ _ _ _ _ _ _ z => z.elim, fun _ _ _ _ _ _ _ z => z.elim⟩) fun f s1 q => ?_)
  cases f with
  | next =>
    obtain ⟨σ', H', I', F', rel', st', p'⟩ := q
    exact kk.run pins s1 σ' H' D I' ⟨F', rel', fun σ2 F2 H2 d rel2 st2 p2 xf => w σ2 F2 H2 d rel2 (st'.trans rel st2) (p'.trans p2) xf⟩
  | ret v => exact q
  | brk => exact q
  | cont => exact q
theorem rv_st (h : RSv X W pn st ρ C gs ρ1) : RBv X W pn (st :: rest) ρ C gs ρ1 := by
  refine ⟨fun pins s σ H D I z => ?_⟩
  refine wpAny_execs_cons (thn (h.run pins s σ H { nx := fun _ _ => False, rt := D.rt, bk := D.bk, ct := D.ct } I z) fun f s1 q => ?_)
  cases f with
  | next => obtain ⟨_, _, _, q⟩ := q; exact q.elim
  | ret v => exact q
  | brk => exact q
  | cont => exact q
theorem rv_if (hc : WT X c ρ k ρ1) (ha : k = true → RBv X W pn a ρ1 C gs ρ2) (hb : k = false → RBv X W pn b ρ1 C gs ρ2) : RSv X W pn (.If c a b pos) ρ C gs ρ2 := by
  cases k with
  | true =>
    refine PS.imp (ps_if (u := tNever) hc (ha rfl) pss_never) fun D σ H ⟨F, rel, w⟩ => ⟨F, rel, fun F' H' rel' st' => ?_⟩
    show tXv X.K W pn ρ1 C gs ρ2 D σ H'
    exact ⟨F', rel', fun σ2 F2 H2 d rel2 st2 p2 xf => w σ2 F2 H2 d rel2 (st'.trans rel st2) p2 xf⟩
  | false =>
    refine PS.imp (ps_if (t := tNever) hc pss_never (hb rfl)) fun D σ H ⟨F, rel, w⟩ => ⟨F, rel, fun F' H' rel' st' => ?_⟩
    show tXv X.K W pn ρ1 C gs ρ2 D σ H'
    exact ⟨F', rel', fun σ2 F2 H2 d rel2 st2 p2 xf => w σ2 F2 H2 d rel2 (st'.trans rel st2) p2 xf⟩
theorem rv_expr (h : REv X W e ρ C gs ρ1) (hs : swapsWith e none pos.line X.env = pure false := by rfl) : RSv X W pn (.Expr e pos) ρ C gs ρ1 :=
  PS.imp (ps_expr h hs) fun D σ H ⟨F, rel, w⟩ => ⟨F, rel, fun F' H' d rel' st' xf => w σ F' H' d rel' st' Pin.refl xf⟩
theorem rv_one (h : REv X W e ρ C gs ρ1) (hs : starEach [e] X.env = (false, eval e X.env) :: starEach [] X.env := by rfl) : RAv X W [e] ρ C gs ρ1 :=
  PA.imp (pa_cons h (wa_nil (ρ := ρ)) hs) fun σ H Q z => z
theorem rv_raise (hc : X.calm = true) (tk : Takes X W) (he : PMk X e (tPV X.K ρ C gs ρ1)) : RSv X W pn (.Raise (some e) none pos) ρ C gs ρ1 :=
  PS.imp (ps_raise hc tk he) fun D σ H ⟨F, rel, w⟩ => ⟨F, rel, fun F' H' d rel' st' xf => w σ F' H' d rel' st' Pin.refl xf⟩
/-- a promise that an instance of a class is raised, with these attributes -/
def spXv (K : PySem.W.Frag) (S : List D → Addr → List (Str × D) → Prop) : Sp := fun vs H _ E => ∃ ds C gs, S ds C gs ∧ ∃ F, Rel K F (ds.map .im) (vs.map some) H ∧ ∀ F' H' d, Rel K F' (ds.map .im) (vs.map some) H' → Stp (ds.map .im) (vs.map some) F H (ds.map .im) (vs.map some) F' H' → XFs K F' d gs → E (.ref C) d H'
end
section
variable {P : Program} {w : World} {K : PySem.W.Frag} {mg : Str → Option Value} {base : Heap} {x qual : Str} {st : Stmt} {f : Addr} {fd : FuncData} {N ps : List Str} {k : Nat}
theorem def_Xv {S : List D → Addr → List (Str × D) → Prop} (F : Fun K x qual st f fd) (sc : FnScope N ps (defScope st)) (bi : Binds K fd ps []) (len : ∀ ds C gs, S ds C gs → ds.length = ps.length)
    (hb : ∀ (cdv : Value) (A : Around) (outer : List PySem.Env) (s : Shared) (H : Hp) (E : XK) (W : WX), Takes (cxOf (L2.CX P w) P w K mg base N qual (defScope st) f cdv A outer s H E) W → (cxOf (L2.CX P w) P w K mg base N qual (defScope st) f cdv A outer s H E).A.guards = some [] → Room k (cxOf (L2.CX P w) P w K mg base N qual (defScope st) f cdv A outer s H E).A → ∀ ds C gs, S ds C gs → ∃ ρ', RBv (cxOf (L2.CX P w) P w K mg base N qual (defScope st) f cdv A outer s H E) W [] (defBody st) (ds.map .im ++ List.replicate (N.length - (ds.map SV.im).length) .un) C gs ρ') :
    FnG P w K mg base (L2.CX P w) (k + 1) f (spXv K S) := by
  obtain ⟨oc, od, kV, doc, pm, an, cdv, ct, osl, rfl, lk, hcd⟩ := F.ex
  refine (g_of (sp := spXv K S) (dvs := []) lk hcd sc bi .nil (fun vs H Q E h => ?_) fun A outer s H vs Q E hg hr h => ?_).imp fun vs H Q E h => by rw [List.append_nil]; exact h
  · obtain ⟨ds, C, gs, hS, F, rel, _⟩ := h
    have := rel.len
    rw [List.length_map, List.length_map] at this
    rw [this, len ds C gs hS]
  · obtain ⟨ds, C, gs, hS, F, rel, e⟩ := h
    have hl : vs.length = (ds.map SV.im).length := by have := rel.len; rwa [List.length_map] at this
    have tk : Takes (cxOf (L2.CX P w) P w K mg base N qual (defScope st) f cdv A outer s H E) (fun cls d _ H => E cls d H) := takes_of rfl rfl rfl rfl
    obtain ⟨ρ', hrb⟩ := hb cdv A outer s H E _ tk hg hr ds C gs hS
    refine ⟨_, hrb, F, rel_start rel, fun σ' F' H' d rel' st' p' xf => ?_⟩
    have keep : ∀ a o, H a = some o → H' a = some o ∧ F' a = F a := fun a o h => st'.keep a o h fun z => no_owns (owns_start hl z)
    refine e F' H' d (rel.keepAll keep rel'.ex) ⟨fun a o h _ => keep a o h, fun a z => .inl z, fun a h => ?_⟩ xf
    cases q : H a with
    | none => exact absurd q h
    | some o => rw [(keep a o q).1]; exact fun z => by cases z
end
end Z
set_option maxRecDepth 100000
set_option maxHeartbeats 2000000
/-! Z25: calls that raise, try .. except .. as e, e.field. -/
namespace Z
open PySem PySem.Spec PyProof.Rows L2 Evl ClX NdefX
section
variable {X : Cx} {W : WX} {pn : List Nat} {st : Stmt} {rest : List Stmt} {e tg : Expr} {es : List Expr} {pos p : Pos} {x : Str} {ρ ρ1 ρ2 : Env} {C : Addr} {gs : List (Str × D)} {ds : List D} {d : D} {S : List D → Addr → List (Str × D) → Prop} {t : TA} {sp : Sp} {k : Nat} {f : Addr} {m : List Bool}
theorem rv_ret (h : REv X W e ρ C gs ρ1) : RSv X W pn (.Return (some e) pos) ρ C gs ρ1 :=
  PS.imp (ps_ret h) fun D σ H ⟨F, rel, w⟩ => ⟨F, rel, fun F' H' d rel' st' xf => w σ F' H' d rel' st' Pin.refl xf⟩
theorem rv_set {i : Nat} {y : Str} {pos' : Pos} (h : REv X W e ρ C gs ρ1) (hi : X.N[i]? = some y) (hN : X.N.Nodup := by first | assumption | decide +kernel) (hx : Loc X.env.scope y := by first | exact .inl rfl | exact .inr rfl)
    (hs : swapsWith e (some (.Name y pos')) pos.line X.env = pure false := by rfl) (hf : X.fn y = true ∨ X.env.scope.names.lookup y = some .local := by first | exact .inl rfl | exact .inr rfl) : RSv X W pn (.Assign [.Name y pos'] e pos) ρ C gs ρ1 :=
  PS.imp (ps_set hN hi hx h hs hf) fun D σ H ⟨F, rel, w⟩ => ⟨F, rel, fun F' H' d rel' st' xf => w σ F' H' d rel' st' Pin.refl xf⟩
/-- a def that raises is called -/
theorem pe_callX (tk : Takes X W) (F : FnG X.prog X.w X.K X.mg X.base (L2.CX X.prog X.w) k f sp) (hgu : X.A.guards = some []) (hr : Room k X.A) (hm : X.mg x = some (.ref f)) (hk : PySem.W.keepIn X.K (.ref f) = true) (ha : PA X (e :: es) t) (hg : Gl X x := by rfl)
    (hdb : (x == ("__debug__" : Str)) = false := by decide) (he : starEach (e :: es) X.env = (false, eval e X.env) :: starEach es X.env := by rfl) (hpl : (backTo pos (starEach es X.env)).any (·.1) = false := by rfl) :
    PE X (.Call (.Name x p) (e :: es) [] pos) (fun σ H Q => t σ H fun vs H1 => sp vs H1 Q (L2.WE W σ)) := by
  refine ⟨fun pins s σ H Q I h => ?_⟩
  refine wpAny_Call_Name_kw (ld_glob I hg hm ?_ hdb)
  refine PySem.W.callWith_K (h₀ := X.base) I.ok.mod.kin hk (thn (ha.run pos pins s σ H _ I h) fun us s1 ⟨vs, H1, I1, r1, q1⟩ => ⟨I1.kIn, ?_⟩) he hpl
  exact wpAny_call (run_fnGS F hgu hr (L2.passAt tk σ) I1 r1 q1)
theorem backXv {K : PySem.W.Frag} {F F1 H H1 : Hp} {σ : L2.St} {Q : VK} {vs : List V} (rel : Rel K F ρ σ H) (rel1 : Rel K F1 ρ1 σ H1) (st1 : Stp ρ σ F H ρ1 σ F1 H1) (rd : Reps K F1 vs ds) (hS : S ds C gs)
    (kk : ∀ F' H' d, Rel K F' ρ1 σ H' → Stp ρ σ F H ρ1 σ F' H' → XFs K F' d gs → W (.ref C) d σ H') : spXv K S vs H1 Q (L2.WE W σ) := by
  refine ⟨ds, C, gs, hS, F1, ?_, fun F' H' d rel' st' xf => ?_⟩
  · exact rel_args rd rel1.ex
  · have keep : ∀ a o, H1 a = some o → H' a = some o ∧ F' a = F1 a := fun a o h => st'.keep a o h no_owns
    exact kk F' H' d (rel1.keepAll keep rel'.ex) (st1.trans rel ⟨fun a o h _ => keep a o h, fun a z => .inl z, st'.dom⟩) xf
theorem rv_call (tk : Takes X W) (G : Call X x (spXv X.K S)) (ha : WA X (e :: es) ρ ds ρ1) (hS : S ds C gs) (hg : Gl X x := by rfl)
    (hdb : (x == ("__debug__" : Str)) = false := by decide) (he : starEach (e :: es) X.env = (false, eval e X.env) :: starEach es X.env := by rfl) (hpl : (backTo pos (starEach es X.env)).any (·.1) = false := by rfl) : REv X W (.Call (.Name x p) (e :: es) [] pos) ρ C gs ρ1 := by
  obtain ⟨f, k, F, hgu, hr, hm, hk⟩ := G.run
  exact PE.imp (pe_callX tk F hgu hr hm hk ha hg hdb he hpl) fun σ H Q ⟨F, rel, kk⟩ => ⟨F, rel, fun vs F1 H1 rel1 st1 rd => backXv rel rel1 st1 rd hS kk⟩
end
/-! ### try .. except x as n -/
section
variable {K : PySem.W.Frag} {F H : Hp} {ρ : Env} {σ : L2.St} {i : Nat}
theorem un_rel (r : Rel K F ρ σ H) : Rel K F (ρ.set i .un) (σ.set i none) H := by
  have nj : ∀ {j : Nat} {s : SV}, s ≠ .un → (ρ.set i .un)[j]? = some s → j ≠ i ∧ ρ[j]? = some s := fun {j s} hs h => by
    by_cases hj : j = i
    · subst hj
      by_cases hl : j < ρ.length
      · rw [List.getElem?_set_self hl] at h
        exact absurd (Option.some.inj h).symm hs
      · rw [List.getElem?_eq_none (by rw [List.length_set]; omega)] at h
        cases h
    · rw [List.getElem?_set_ne (Ne.symm hj)] at h
      exact ⟨hj, h⟩
  refine ⟨r.ex, by rw [List.length_set, List.length_set]; exact r.len, fun j d h => ?_, fun j d h => ?_, fun j k d e p h1 h2 h3 h4 => ?_⟩
  · obtain ⟨hj, h⟩ := nj (by simp) h
    rw [List.getElem?_set_ne (Ne.symm hj)]
    exact r.im j d h
  · obtain ⟨hj, h⟩ := nj (by simp) h
    rw [List.getElem?_set_ne (Ne.symm hj)]
    exact r.own j d h
  · obtain ⟨hj, h1⟩ := nj (by simp) h1
    obtain ⟨hk, h2⟩ := nj (by simp) h2
    rw [List.getElem?_set_ne (Ne.symm hj)] at h3
    rw [List.getElem?_set_ne (Ne.symm hk)] at h4
    exact r.inj j k d e p h1 h2 h3 h4
theorem un_stp : Stp ρ σ F H (ρ.set i .un) (σ.set i none) F H := ⟨fun a o h _ => ⟨h, rfl⟩, fun a ⟨j, d, h1, h2⟩ => by
  refine .inl ⟨j, d, ?_, ?_⟩
  · by_cases hj : j = i
    · subst hj
      by_cases hl : j < ρ.length
      · rw [List.getElem?_set_self hl] at h1; cases h1
      · rw [List.getElem?_eq_none (by rw [List.length_set]; omega)] at h1; cases h1
    · rwa [List.getElem?_set_ne (Ne.symm hj)] at h1
  · by_cases hj : j = i
    · subst hj
      by_cases hl : j < σ.length
      · rw [List.getElem?_set_self hl] at h2; cases h2
      · rw [List.getElem?_eq_none (by rw [List.length_set]; omega)] at h2; cases h2
    · rwa [List.getElem?_set_ne (Ne.symm hj)] at h2, fun a h => h⟩
end
section
variable {X : Cx} {pn : List Nat} {body suite rest : List Stmt} {h₀ : ExceptHandler} {hs : List ExceptHandler} {b₀ : Stmt} {np pos pos' : Pos} {ρ ρ1 : Env} {P : Post} {x n : Str} {c : Value} {C : Addr} {gs : List (Str × D)} {i : Nat}
/-- the attributes as data, where the exception has any -/
theorem XFs.exc {K : PySem.W.Frag} {F : Hp} {d : Option Addr} {gs : List (Str × D)} (h : XFs K F d gs) (nd : (gs.map (·.1)).Nodup) (hn : gs ≠ []) (a : Addr) : ∃ dd, d = some dd ∧ Rep K F (.ref a) (.exc a dd gs) := by
  have key : ∀ f g, (f, g) ∈ gs → gs.lookup f = some g := fun f g hm => by
    clear h hn
    induction gs with
    | nil => cases hm
    | cons p l ih =>
      obtain ⟨q, y⟩ := p
      rw [List.map_cons, List.nodup_cons] at nd
      rcases List.mem_cons.mp hm with e | e
      · cases e; simp [List.lookup]
      · have hb : (f == q) = false := beq_eq_false_iff_ne.mpr fun z => nd.1 (by rw [← z]; exact List.mem_map.mpr ⟨_, e, rfl⟩)
        simp only [List.lookup, hb]
        exact ih nd.2 e
  have one : ∃ dd fs, d = some dd ∧ F dd = some (.xd fs) := by
    cases gs with
    | nil => exact absurd rfl hn
    | cons p l =>
      obtain ⟨dd, fs, v, h1, h2, _⟩ := h p.1 p.2 (key _ _ (by simp))
      exact ⟨dd, fs, h1, h2⟩
  obtain ⟨dd, fs, rfl, hf⟩ := one
  have build : ∀ l : List (Str × D), (∀ p ∈ l, p ∈ gs) → ∃ vs : List (Str × V), RepF K F vs l ∧ ∀ f v, vs.lookup f = some v → fs.lookup f = some v := fun l => by
    induction l with
    | nil => intro _; exact ⟨[], .nil, fun f v h => by cases h⟩
    | cons p l ih =>
      intro hp
      obtain ⟨vs, r, hl⟩ := ih fun q hq => hp q (by simp [hq])
      obtain ⟨dd', fs', v, h1, h2, h3, h4⟩ := h p.1 p.2 (key _ _ (hp p (by simp)))
      cases h1
      rw [hf] at h2
      cases h2
      refine ⟨(p.1, v) :: vs, .cons p.1 h4 r, fun f w hw => ?_⟩
      by_cases hb : f = p.1
      · have hb' : (f == p.1) = true := beq_iff_eq.mpr hb
        simp only [List.lookup, hb'] at hw
        cases hw
        rw [hb]; exact h3
      · have hb' : (f == p.1) = false := beq_eq_false_iff_ne.mpr hb
        simp only [List.lookup, hb'] at hw
        exact hl f w hw
  obtain ⟨vs, r, hl⟩ := build gs fun p hp => hp
  exact ⟨dd, rfl, .exc hf hl r⟩
end
/-- what a suite knows of the exception it caught -/
structure Caught (X : Cx) (a dd C : Addr) : Prop where
  ex : ∃ (X0 : Cx) (oe : Obj) (pl : List (Addr × Obj)), X = X0.suite a ((a, oe) :: pl) ∧ Zc (.ref C) (some dd) oe ∧ ∃ vs, oe.data = .fields vs
section
variable {X : Cx} {pn : List Nat} {body suite rest : List Stmt} {b₀ : Stmt} {np pos pos' : Pos} {ρ ρ1 : Env} {P : Post} {x n : Str} {c : Value} {C : Addr} {gs : List (Str × D)} {i : Nat}
theorem wb_try_as (hb : ∀ (W : WX) (pnp : List (Addr × Obj)) (xe : Value → Shared → Prop), Takes (X.tr pnp xe) W → RBv (X.tr pnp xe) W pn body ρ C gs ρ1) (hx : PySem.W.exmOne X.K (.ref C) c = some true) (nd : (gs.map (·.1)).Nodup) (hn : gs ≠ [])
    (hsu : ∀ (a dd : Addr) (oe : Obj) (pl : List (Addr × Obj)), Caught (X.suite a ((a, oe) :: pl)) a dd C → WB (X.suite a ((a, oe) :: pl)) pn (b₀ :: suite) (ρ1.set i (.im (.exc a dd gs))) { nx := fun ρ' => WB X pn rest (ρ'.set i .un) P, rt := P.rt, bk := fun ρ' => P.bk (ρ'.set i .un), ct := fun ρ' => P.ct (ρ'.set i .un) })
    (hc : Names X x c) (hi : X.N[i]? = some n) (hp : i ∉ pn) (hl : i < ρ1.length) (hun : ρ1[i]? = some .un) (hN : X.N.Nodup := by first | assumption | decide +kernel) (hln : X.env.kindOf n = some .local := by rfl) (hst : X.stack = X.env :: X.outer := by rfl) (hf : X.env.frame = some X.env.locals := by rfl) :
    WB X pn (.Try body [.ExceptHandler (some (.Name x np)) (some n) (b₀ :: suite) pos'] [] [] pos :: rest) ρ P := by
  refine wb_cons (M := fun ρ' => WB X pn rest ρ' P) ?_ fun _ g => g
  have tk : Takes X (fun _ _ _ _ => False) := fun u s' ⟨_, _, _, _, _, _, _, _, _, _, _, _, _, _, _, _, w⟩ => w.elim
  refine PS.imp (ps_try_as hst hf hN hi hln hc tk (tb := fun W => tXv X.K W pn ρ C gs ρ1) (ts := fun a cls d Dn σ H => ∃ dd, cls = .ref C ∧ d = some dd ∧ tS X.K pn (ρ1.set i (.im (.exc a dd gs))) { nx := fun ρ' => WB X pn rest (ρ'.set i .un) P, rt := P.rt, bk := fun ρ' => P.bk (ρ'.set i .un), ct := fun ρ' => P.ct (ρ'.set i .un) } Dn σ H)
    (fun W pnp xe t _ => hb W pnp xe t) fun a oe cls d pl hz hfl => ⟨fun pins s σ H D I ⟨dd, e1, e2, h⟩ => by subst e1; subst e2; exact (hsu a dd oe pl ⟨X, oe, pl, rfl, hz, hfl⟩).run pins s σ H D I h⟩) fun Dn σ H ⟨F, rel, ka, kb, kc, kd⟩ => ?_
  refine ⟨F, rel, fun σ' F' H' d rel' st' p' xf => ⟨true, hx, fun _ a ha => ?_, fun z => by cases z⟩⟩
  obtain ⟨dd, hd, rx⟩ := xf.exc nd hn a
  have q : RepR X.K F' H H' ρ1 σ' (.ref a) (.im (.exc a dd gs)) := rx
  have r2 := set_rel rel' q (.im _) hl
  have s2 : Stp ρ σ F H (ρ1.set i (.im (.exc a dd gs))) (σ'.set i (some (.ref a))) F' H' := st'.trans rel (set_stp (H0 := H') Stp.refl (r := .im (.exc a dd gs)) (v := .ref a) rx (.im _))
  have p2 : Pin pn σ (σ'.set i (some (.ref a))) := p'.trans (pin_set hp)
  have clr : ∀ {G : Env → Prop} {N : L2.St → Hp → Prop}, To X.K pn ρ σ F H G N → To X.K pn (ρ1.set i (.im (.exc a dd gs))) (σ'.set i (some (.ref a))) F' H' (fun ρ' => G (ρ'.set i .un)) (fun σ'' H'' => N (σ''.set i none) H'') := fun {G N} t ρ3 σ3 F3 H3 rel3 st3 p3 g => by
    refine t _ _ F3 H3 (un_rel rel3) ((s2.trans rel st3).trans rel un_stp) ((p2.trans p3).trans (pin_set hp)) g
  exact ⟨dd, rfl, hd, F', r2, clr ka, kb.from rel s2 p2, clr kc, clr kd⟩
end
/-! ### e.field, isinstance(e, c) -/
section
variable {X : Cx} {e e2 : Expr} {pos p : Pos} {ρ ρ1 : Env} {C a dd : Addr} {gs : List (Str × D)} {g c : D} {n : Str} {u : Value} {k : Bool}
theorem we_xv (T : XfC X.K C) (ca : Caught X a dd C) (he : WE X e ρ (.im (.exc a dd gs)) ρ1) (hg : gs.lookup n = some g) (hno : PySem.W.findIn X.K (.ref C) n = some none) (hb : attributeBase e n X.env (eval e X.env) = eval e X.env := by rfl) : WE X (.Attribute e n pos) ρ (.im g) ρ1 := by
  obtain ⟨X0, oe, pl, rfl, hz, hf⟩ := ca.ex
  refine PE.imp (pe_xf (X := X0) (C := C) T hno hz hf he hb) fun σ H Q ⟨F, rel, k⟩ => ⟨F, rel, fun v F1 H1 rel1 st1 q => ?_⟩
  have q : Rep _ F1 v (.exc a dd gs) := q
  cases q with
  | exc h l r =>
    obtain ⟨w, h1, h2⟩ := r.look hg
    exact ⟨rfl, rfl, dd, _, w, rfl, rel1.ex _ _ h, l _ _ h1, k w F1 H1 rel1 st1 h2⟩
end
end Z
set_option maxRecDepth 100000
set_option maxHeartbeats 4000000
/-! Z26: sets of ints made of lists, sorted(set(..)). -/
namespace Z
open PySem PySem.Spec PyProof.Rows L2 Evl ClX
/-- an empty set as it is made -/
abbrev set0 (w : World) : Obj := { cls := .type "set", dict := none, data := .set #[] 0 (.fresh 0 0 (!w.params.followText "set-order")) }
section
variable {P : Program} {w : World} {A : Around} {E : Value → Shared → Prop} {s : Shared}
theorem call_set_listR {l : Addr} {xs : Array Value} (ns : List Int) {Q : Value → Shared → Prop} (hh : A.handled = none) (hl : s.heap.IsList l xs) (hi : IntsAre xs.toList ns) (hb : ns.length + 1 < scanBound)
    (q : ∀ (h2 : Heap) (tk c : Nat), SetR w h2 s.heap.objs.size (fun j => decide (j ∈ ns)) c → c ≤ ns.length → (∀ b o, s.heap.get? b = some o → h2.get? b = some o) → Q (.ref s.heap.objs.size) { s with heap := h2, toks := tk }) :
    wpAny (model P w) A (call (.type "set") [.ref l]) Q E s := by
  have xn : xs.size = ns.length := by have e := IntsAre.length hi; rwa [Array.length_toList] at e
  let z0 : Addr := s.heap.objs.size
  let s1 : Shared := { s with heap := s.heap.push (set0 w) }
  obtain ⟨c, tl, hmro⟩ := F.called_set.mro
  have f1 := F.called_set.made
  have f2 := F.called_set.sub
  have f3 := F.called_set.notType
  have f4 := F.called_set.canCreate
  have f5 := F.typeCall_set_1 (.ref l)
  refine wpAny_call (codeAny_of_tree ?_)
  show wpAny _ _ (callAny (.type "set") _) _ _ _
  refine wpAny_pure ⟨Code.quiet_builtin _ (by decide +kernel), codeAny_builtin F.entry_type_call ?_⟩
  rw [Around.under_plain (weight_type_call_type "set" [.ref l] []) rfl]
  repeat (any_goals (first | assumption | wp_step))
  refine codeAny_mono (code_set_led1 (.ref l) (E := E) (Q₁ := fun v t => v = .ref z0 ∧ t = s1) ⟨rfl, rfl⟩) fun r t hr => ?_
  match r, hr with
  | .error e, hr => exact hr
  | .ok .next, hr => exact hr.elim
  | .ok .brk, hr => exact hr.elim
  | .ok .cont, hr => exact hr.elim
  | .ok (.ret v), hr =>
    obtain ⟨rfl, rfl⟩ := hr
    have gZ : s1.heap.get? z0 = some (set0 w) := Heap.get?_push_size _ rfl
    have tZ : s1.TypeIs (.ref z0) "set" := ⟨_, gZ, rfl⟩
    have f6 := F.called_set.init.lookup
    have f7 := F.called_set.init.bind (.ref z0)
    repeat (any_goals (first | assumption | wp_step))
    let G : Value → Shared → Prop := fun v t => v = .none ∧ ∃ h2 tk c, t = { s with heap := h2, toks := tk } ∧ SetR w h2 z0 (fun j => decide (j ∈ ns)) c ∧ c ≤ ns.length ∧ ∀ b o, s.heap.get? b = some o → h2.get? b = some o
    refine codeAny_mono (codeAny_call_builtin (R := wants G E) F.called_set.init.plain F.entry_set_init (check_set_init_1 tZ ?_)) fun r2 t2 hr2 => ?_
    · obtain ⟨⟨k1, k2, k3, k4⟩, gL, e1, nl, e2⟩ := hl
      dsimp only at e1 e2
      subst e1 e2
      have gL1 : s1.heap.get? l = some { cls := .type "list", dict := k2, data := .seq xs nl, slots := k4 } := Heap.get?_push_of_some _ gL
      have iL : s1.heap.IsList l xs := ⟨_, gL1, rfl, nl, rfl⟩
      have n1 := F.sub_list_set
      have n2 := F.sub_list_frozenset
      have n3 : (Value.type "list" == Value.type "dict") = false := by decide
      have lz : l < z0 := Heap.lt_size gL
      unfold Builtin.«set.__init__» noKeywords Builtin.Frozenset.updateFrom
      generalize hIter : pyIter = IT
      wp_walk
      subst hIter
      refine wpAny_pyIter_list iL ?_
      refine wpAny_bind (wpAny_runValue ?_)
      have sz1 : s1.heap.objs.size = z0 + 1 := Heap.size_push ..
      have hd3 : A.in1.in1.in1.handled = none := by simp [hh]
      have pv : ∀ (i : Nat) (v : Value), xs[i]? = some v → ∃ k t, ns[i]? = some k ∧ v = .int k t := fun i v hv => by
        have hlt : i < ns.length := by rw [← xn]; exact (Array.getElem?_eq_some_iff.mp hv).1
        obtain ⟨t, e⟩ := IntsAre.int_at hi i v (by rw [Array.getElem?_toList]; exact hv)
        exact ⟨ns[i], t, List.getElem?_eq_getElem hlt, by rw [e, List.getD_eq_getElem?_getD, List.getElem?_eq_getElem hlt]; rfl⟩
      refine set_update_ints ((Walks.list hd3 _ l (by rw [sz1]; exact Nat.ne_of_lt (Nat.lt_succ_of_lt lz)) xs).toS) z0 (by rw [sz1]; exact fun h => (List.mem_cons.mp h).elim (Nat.ne_of_lt (Nat.lt_succ_self _)) fun h => Nat.ne_of_gt lz (List.mem_singleton.mp h)) ns xn hb pv (xs.size - 0) 0 _ (by omega) (Nat.zero_le _) ⟨⟨_, Heap.get?_push_size _ rfl, rfl, rfl⟩, iL.push _⟩ ⟨0, Nat.le_refl 0, setR_new_at (Heap.get?_push_of_some _ gZ)⟩ fun t3 c3 mv hc3 hS => ?_
      obtain ⟨h3, g3, d3, tk3, o3⟩ := t3
      have e3 : g3 = s.gens := mv.gens
      have e4 : d3 = s.drawn := mv.drawn
      have e5 : o3 = s.os := mv.os
      subst e3 e4 e5
      show wpAny _ _ _ _ _ _
      refine wpAny_pure ?_
      show wpAny _ _ (ret Value.none) _ _ _
      refine wpAny_pure ⟨rfl, h3, tk3, c3, rfl, hS, by omega, fun b o e => ?_⟩
      have bz : b < z0 := Heap.lt_size e
      exact mv.heap b o (by rw [sz1]; exact fun h => (List.mem_cons.mp h).elim (Nat.ne_of_lt bz) fun h => Nat.ne_of_lt (Nat.lt_succ_of_lt bz) (List.mem_singleton.mp h)) (Heap.get?_push_of_some _ (Heap.get?_push_of_some _ e))
    · match r2, hr2 with
      | .error e, hr2 => exact hr2
      | .ok .next, hr2 => exact hr2.elim
      | .ok .brk, hr2 => exact hr2.elim
      | .ok .cont, hr2 => exact hr2.elim
      | .ok (.ret v), hr2 =>
        obtain ⟨rfl, h2, tk, c2, rfl, hS, hc, keep⟩ := hr2
        repeat (any_goals (first | assumption | wp_step))
        exact q _ _ _ hS hc keep
end
end Z
set_option maxRecDepth 100000
set_option maxHeartbeats 2000000
/-! Z27: sorted(set(..)). -/
namespace Z
open PySem PySem.Spec PyProof.Rows L2 Evl ClX
/-! ### sorted(set(e)) of a list of ints -/
theorem sortedUnique {ns ms : List Int} (h1 : ms.Pairwise (· < ·)) (h2 : ∀ k, k ∈ ms ↔ k ∈ ns) {rs : List Int} (h3 : rs.Pairwise (· < ·)) (h4 : ∀ k, k ∈ rs ↔ k ∈ ns) : ms = rs := by
  induction ms generalizing ns rs with
  | nil =>
    cases rs with
    | nil => rfl
    | cons r rs => exact absurd ((h2 r).mpr ((h4 r).mp (by simp))) (by simp)
  | cons m ms ih =>
    cases rs with
    | nil => exact absurd ((h4 m).mpr ((h2 m).mp (by simp))) (by simp)
    | cons r rs =>
      obtain ⟨a1, a2⟩ := List.pairwise_cons.mp h1
      obtain ⟨b1, b2⟩ := List.pairwise_cons.mp h3
      have e : m = r := by
        have c1 : m ∈ r :: rs := (h4 m).mpr ((h2 m).mp (by simp))
        have c2 : r ∈ m :: ms := (h2 r).mpr ((h4 r).mp (by simp))
        rcases List.mem_cons.mp c1 with c1 | c1
        · exact c1
        · rcases List.mem_cons.mp c2 with c2 | c2
          · exact c2.symm
          · have := b1 m c1; have := a1 r c2; omega
      subst e
      refine congrArg (List.cons m) (ih (ns := ms) a2 (fun k => Iff.rfl) b2 fun k => ?_)
      constructor
      · intro hk
        have c := (h2 k).mpr ((h4 k).mp (List.mem_cons_of_mem _ hk))
        rcases List.mem_cons.mp c with c | c
        · have := b1 k hk; omega
        · exact c
      · intro hk
        have c := (h4 k).mpr ((h2 k).mp (List.mem_cons_of_mem _ hk))
        rcases List.mem_cons.mp c with c | c
        · have := a1 k hk; omega
        · exact c
def rSetList (K : PySem.W.Frag) (w : World) : List V → Hp → VK → Prop := fun vs H Q => ∃ (l : Addr) (ns : List Int), vs = [.ref l] ∧ SqL K H l (ns.map .int) ∧ ns.length + 1 < scanBound ∧
  ∀ p c, H p = none → c ≤ ns.length → Q (.ref p) (upd H p (SetO w p (fun j => decide (j ∈ ns)) c))
theorem cr_setList {X : Cx} (hc : X.calm = true) : CallR X (.type "set") (rSetList X.K X.w) := by
  intro pins s σ H vs us Q I r h
  obtain ⟨l, ns, rfl, hl, hb, q⟩ := h
  rw [Vals.ref1 r]
  obtain ⟨its, rv, pl, _⟩ := I.list hl
  refine call_set_listR ns (I.ok.hd hc) pl.isList (by simpa using ints_of_vals rv) hb fun h2 tk c R hcl keep => ?_
  exact ⟨.ref _, _, I.laid (t' := tk) keep (Nat.le_refl _) (setO_new R), rfl, q _ c (I.hok.fresh (Nat.le_refl _)) hcl⟩
section
variable {X : Cx} {e : Expr} {p p2 pos pos2 : Pos} {ρ ρ1 : Env} {r1 : R} {ns ms : List Int}
theorem we_sortedSet (bi : Bi X.mg) (hs : X.mg "set" = none) (h2 : X.mg "sorted" = none) (ha : WE X e ρ r1 ρ1) (ca : r1.con ρ1 = some (.lst (ns.map .int))) (hz : ns.length < 60) (hm1 : ms.Pairwise (· < ·)) (hm2 : ∀ k, k ∈ ms ↔ k ∈ ns) (hc : X.calm = true := by rfl) (hg : Gl X "set" := by rfl) (hg2 : Gl X "sorted" := by rfl)
    (he : starEach [e] X.env = (false, eval e X.env) :: starEach [] X.env := by rfl) (he2 : starEach [.Call (.Name "set" p2) [e] [] pos2] X.env = (false, eval (.Call (.Name "set" p2) [e] [] pos2) X.env) :: starEach [] X.env := by rfl) :
    WE X (.Call (.Name "sorted" p) [.Call (.Name "set" p2) [e] [] pos2] [] pos) ρ (.fr (.lst (ms.map .int))) ρ1 := by
  refine PE.imp (pe_callB (cr_sortedSet hc) hg2 h2 rfl (pa_cons (pe_callTy (cr_setList hc) hg hs rfl (wa1_cons ha wa_nil he) (by decide) (by decide) he rfl) pa_nil he2) (by decide) (by decide) he2 rfl) fun σ H Q ⟨F, rel, k⟩ => ⟨F, rel, fun v vs F1 H1 rel1 st1 q1 rd => ?_⟩
  cases rd
  obtain ⟨a, ws, rfl, hl, rw⟩ := (q1.con rel1 ca).lst rel1.ex
  have ew := Reps.ints_of rw
  subst ew
  refine ⟨a, ns, rfl, hl, by unfold scanBound; omega, fun p c hp hcl => ⟨p, fun j => decide (j ∈ ns), c, rfl, upd_same, by omega, fun ms' p2 hp1 hp2 hl2 hn2 => ?_⟩⟩
  have e : ms' = ms := sortedUnique hp1 (fun k => by simpa using hp2 k) hm1 hm2
  subst e
  have r1 := rel1.alloc (o := SetO X.w p (fun j => decide (j ∈ ns)) c) hp
  have s1 := st1.trans rel (Stp.alloc (o := SetO X.w p (fun j => decide (j ∈ ns)) c) hp)
  have h0 : H p2 = none := by
    cases z : H p2 with
    | none => rfl
    | some o => exact absurd hn2 (s1.dom p2 (by rw [z]; exact fun z => by cases z))
  exact k (.ref p2) F1 _ (r1.alloc hn2) (s1.trans rel (Stp.alloc hn2)) ⟨p2, rfl, r1.newF hn2, h0, ⟨_, upd_same, Reps.ints ms'⟩, r1.new hn2⟩
end
end Z
set_option maxRecDepth 100000
set_option maxHeartbeats 2000000
/-! Z28: comprehensions with one if. -/
namespace Z
open PySem PySem.Spec PyProof.Rows L2 Evl ClX
section
variable {X : Cx}
/-- one element of a comprehension with a test -/
structure LcI (X : Cx) (scope : Scope) (own : List (Str × Nat)) (ρw : Env) (tg elt c : Expr) (d e : D) (b : Bool) : Prop where
  ex : ∃ ρt ρc, BG X scope (cmpl ρw.length (own.map (·.2))) tg d ρw ρt ∧ BT X scope [c] ρt b ρc ∧ ρt.length = ρw.length ∧ ρc.length = ρw.length ∧ wipeE ρc (own.map (·.2)) = ρw ∧
    (b = true → ∃ ρe, BE X scope elt ρc (.im e) ρe ∧ wipeE ρe (own.map (·.2)) = ρw ∧ ρe.length = ρw.length)
theorem lc_if {scope : Scope} {own : List (Str × Nat)} {ρw ρt ρc : Env} {tg elt c : Expr} {d e : D} {b : Bool} (h1 : BG X scope (cmpl ρw.length (own.map (·.2))) tg d ρw ρt) (ht : ∀ (s : Shared) (H : Hp) (C : Addr) (cl : List (Str × Addr)) (fp : List Addr), WT (X.blk s H scope (compEnvC scope cl C X.env) fp) c ρt b ρc)
    (h2 : b = true → ∃ r ρe ρf, BE X scope elt ρc r ρe ∧ Frz ρe r e ρf ∧ wipeE ρf (own.map (·.2)) = ρw ∧ ρf.length = ρw.length) (h3 : wipeE ρc (own.map (·.2)) = ρw) (h4 : ρt.length = ρw.length) (h5 : ρc.length = ρw.length) : LcI X scope own ρw tg elt c d e b :=
  ⟨ρt, ρc, h1, bt_one ht, h4, h5, h3, fun hb => by
    obtain ⟨r, ρe, ρf, a1, a2, a3, a4⟩ := h2 hb
    exact ⟨ρf, fun s H C cl fp => we_z (a1 s H C cl fp) a2, a3, a4⟩⟩
theorem we_lcI {α : Type} (as : List α) (cd g : α → D) (q : α → Bool) {scope : Scope} {tg iter elt c : Expr} {pos : Pos} {ρ ρ1 ρw : Env} {bs : List (Nat × D)} {ds : List D} (own : List (Str × Nat)) (hi : WI X tg iter ρ bs ds ρ1) (hds : ds = as.map cd)
    (hw : wipeE ρ1 (own.map (·.2)) = ρw) (hs : ∀ (i : Nat) a, as[i]? = some a → LcI X scope own ρw tg elt c (cd a) (g a) (q a))
    (ok : BlkOk X.N X.env.scope scope own) (hz : as.length ≤ 100000) (hbo : ∀ b ∈ bs, b.1 ∉ own.map (·.2) ∧ ρw[b.1]? = some (.own b.2)) (hc : X.calm = true := by rfl) (hN : X.N.Nodup := by first | assumption | decide +kernel) (hf : ∀ x, foldedSetIterable iter X.env x = pure x := by intro _; rfl) :
    WE X (.ListComp elt [⟨tg, iter, [c], 0⟩] scope pos) ρ (.fr (.lst ((as.filter q).map g))) ρw := by
  subst hds
  refine we_lc own hi (fun i ρ' acc => ρ' = ρw ∧ acc = ((as.take i).filter q).map g ∧ i ≤ as.length) ⟨hw, by simp, Nat.zero_le _⟩ (fun i ρ' acc ⟨e1, e2, h⟩ => ⟨by rw [e1, ← hw, wipeE_len], ?_⟩) (fun i d ρi acc hd ⟨e1, e2, h⟩ => ?_) (fun ρ' acc ⟨e1, e2, h⟩ => ⟨?_, e1⟩) (by rw [List.length_map]; exact hz) ok hc hN hf (fun i ρ' acc ⟨e1, _, _⟩ b hb => by subst e1; exact hbo b hb)
  · rw [e2, List.length_map]
    exact Nat.le_trans (List.length_filter_le _ _) (by rw [List.length_take]; omega)
  · rw [List.getElem?_map] at hd
    obtain ⟨a, ha, rfl⟩ := Option.map_eq_some_iff.mp hd
    have hlt : i < as.length := (List.getElem?_eq_some_iff.mp ha).1
    subst e1 e2
    obtain ⟨ρt, ρc, h1, h2, h3, h4, h5, h6⟩ := (hs i a ha).ex
    have et : (as.take (i + 1)).filter q = (as.take i).filter q ++ (if q a then [a] else []) := by
      rw [List.take_add_one, ha, List.filter_append]
      show _ ++ List.filter q [a] = _
      by_cases hq : q a = true
      · simp [hq]
      · simp [hq]
    refine ⟨ρt, q a, ρc, h1, h3, h2, h4, fun hb => ?_, fun hb => ⟨h5, ?_, hlt⟩⟩
    · obtain ⟨ρe, a1, a2, a3⟩ := h6 hb
      refine ⟨g a, ρe, a1, a3, a2, ?_, hlt⟩
      rw [et, if_pos hb, List.map_append]
      rfl
    · rw [et, if_neg (by rw [hb]; simp), List.append_nil, List.append_nil]
  · rw [e2, List.length_map, List.take_length]
end
end Z
set_option maxRecDepth 100000
set_option maxHeartbeats 2000000
/-! Z29: texts of data: bounds, one rule for repr. -/
namespace Z
open PySem PySem.Spec PyProof.Rows L2 Evl ClX
/-- d has a text of at most n signs, m deep -/
def TxB (own : Addr → List (Str × D) → Option Str) (m n : Nat) (d : D) : Prop := ∃ t, D.txt own d = some t ∧ t.length ≤ n ∧ D.deep d ≤ m
section
variable {own : Addr → List (Str × D) → Option Str} {m n k : Nat}
theorem TxB.mono {m' n' : Nat} {d : D} (h : TxB own m n d) (h1 : m ≤ m') (h2 : n ≤ n') : TxB own m' n' d := by
  obtain ⟨t, a, b, c⟩ := h
  exact ⟨t, a, Nat.le_trans b h2, Nat.le_trans c h1⟩
theorem TxB.int {i : Int} (h : i.natAbs.log2 < 1920) : TxB own 0 1921 (.int i) := ⟨_, by simp only [D.txt]; exact if_pos h, int_text_len_1921 h, Nat.le_refl _⟩
theorem TxB.non : TxB own 0 4 .non := ⟨_, rfl, Nat.le_of_ble_eq_true rfl, Nat.le_refl _⟩
theorem TxB.bl (b : Bool) : TxB own 0 5 (.bl b) := ⟨_, rfl, by cases b <;> exact Nat.le_of_ble_eq_true rfl, Nat.le_refl _⟩
theorem txts_all {xs : List D} (h : ∀ x ∈ xs, TxB own m n x) : ∃ ts, D.txts own xs = some ts ∧ (ts.map (·.length)).sum ≤ xs.length * n ∧ D.deeps xs ≤ m ∧ ts.length = xs.length := by
  induction xs with
  | nil => exact ⟨[], rfl, by simp, by simp [D.deeps], rfl⟩
  | cons x xs ih =>
    obtain ⟨t, a, b, c⟩ := h x (by simp)
    obtain ⟨ts, a2, b2, c2, d2⟩ := ih fun y hy => h y (by simp [hy])
    refine ⟨t :: ts, by simp only [D.txts, a, a2, Option.map_some], ?_, by simp only [D.deeps]; exact Nat.max_le.mpr ⟨c, c2⟩, by simp [d2]⟩
    rw [List.map_cons, List.sum_cons, List.length_cons, Nat.add_mul, Nat.one_mul]
    omega
theorem TxB.lst {xs : List D} (h : ∀ x ∈ xs, TxB own m n x) : TxB own (m + 1) (xs.length * (n + 2) + 3) (.lst xs) := by
  obtain ⟨ts, a, b, c, d⟩ := txts_all h
  refine ⟨listText ts, by simp only [D.txt, a, Option.map_some], ?_, by simp only [D.deep]; omega⟩
  have := listText_len_le ts
  rw [Nat.mul_add]
  omega
theorem TxB.tup {xs : List D} (h : ∀ x ∈ xs, TxB own m n x) : TxB own (m + 1) (xs.length * (n + 2) + 3) (.tup xs) := by
  obtain ⟨ts, a, b, c, d⟩ := txts_all h
  refine ⟨tupleText ts, by simp only [D.txt, a, Option.map_some], ?_, by simp only [D.deep]; omega⟩
  have := tupleText_len_le ts
  rw [Nat.mul_add]
  omega
theorem TxB.dct0 : TxB own 1 2 (.dct []) := ⟨"{}", by simp only [D.txt], Nat.le_of_ble_eq_true rfl, by simp only [D.deep]; exact Nat.le_refl _⟩
end
/-- repr of an instance by its own __repr__, nothing being handled -/
def ShowR (X : Cx) (n : Nat) (C : Addr) (gs : List (Str × D)) (t : Str) : Prop :=
  ∃ (f : Addr) (S : List D → R → Prop), PySem.W.findIn X.K (.ref C) "__repr__" = some (some (.ref f)) ∧ PySem.W.isFn X.K (.ref f) = true ∧ FnR X.prog X.w X.K X.mg X.base (L2.CX X.prog X.w) n f (spP X.K S) ∧ S [.ins C gs] (.im (.str t))
theorem ShowR.sh {X : Cx} {n : Nat} {C : Addr} {gs : List (Str × D)} {t : Str} (h : ShowR X n C gs t) (h0 : X.A.handled = none) : ShowI X n C gs t :=
  let ⟨f, S, h1, h2, F, h3⟩ := h
  ⟨f, S, h1, h2, FnX.ofR F h0, h3⟩
/-- the own __repr__s that a text may call -/
structure RpX (X : Cx) (own : Addr → List (Str × D) → Option Str) (m : Nat) : Prop where
  ex : ∃ n, (∀ C gs t, own C gs = some t → ShowR X n C gs t) ∧ X.A.guards = some [] ∧ Room (n + m + 2) X.A
theorem RpX.sh {X : Cx} {own : Addr → List (Str × D) → Option Str} {m : Nat} (h : RpX X own m) : ∃ n, (∀ C gs t, own C gs = some t → ShowI X n C gs t) ∧ X.A.guards = some [] ∧ RoomZ X (n + m + 2) X.A :=
  let ⟨n, h1, h2, h3⟩ := h.ex
  ⟨n, fun C gs t e => (h1 C gs t e).sh h3.hd, h2, RoomZ.of h3⟩
section
variable {X : Cx} {e : Expr} {p pos : Pos} {ρ ρ1 : Env} {r1 : R} {d : D} {t : Str} {m : Nat} {own : Addr → List (Str × D) → Option Str}
/-- repr of any datum that has a text -/
theorem we_rprI {n : Nat} (bi : Bi X.mg) (h1 : ∀ C gs t, own C gs = some t → ShowI X n C gs t) (h2 : X.A.guards = some []) (h3 : RoomZ X (n + m + 2) X.A) (ha : WE X e ρ r1 ρ1) (ca : r1.con ρ1 = some d) (ht : D.txt own d = some t) (hz : t.length ≤ 100000) (hd : D.deep d ≤ m) (hm : X.mg "repr" = none) (hg : Gl X "repr" := by rfl) (he : starEach [e] X.env = (false, eval e X.env) :: starEach [] X.env := by rfl) : WE X (.Call (.Name "repr" p) [e] [] pos) ρ (.im (.str t)) ρ1 := by
  by_cases hr : d.isRef = true
  · exact we_repr h1 h2 h3 hm ha ht hz ca hd hr hg he
  · refine we_reprS (d := d) hm ha ?_ ca hg he
    cases d with
    | non => simp only [D.txt] at ht; cases ht; rfl
    | bl b => simp only [D.txt] at ht; cases ht; rfl
    | int i => simp only [D.txt] at ht; exact ht
    | str y => simp only [D.txt] at ht; cases ht; exact if_pos (sz_of hz)
    | ty n => simp only [D.txt] at ht; cases ht
    | obj a => simp only [D.txt] at ht; cases ht
    | exc a b c => simp only [D.txt] at ht; cases ht
    | lst xs => exact absurd rfl hr
    | tup xs => exact absurd rfl hr
    | ins C gs => exact absurd rfl hr
    | set xs => exact absurd rfl hr
    | dct kvs => exact absurd rfl hr
theorem we_rpr (bi : Bi X.mg) (rp : RpX X own m) (ha : WE X e ρ r1 ρ1) (ca : r1.con ρ1 = some d) (ht : D.txt own d = some t) (hz : t.length ≤ 100000) (hd : D.deep d ≤ m) (hm : X.mg "repr" = none) (hg : Gl X "repr" := by rfl) (he : starEach [e] X.env = (false, eval e X.env) :: starEach [] X.env := by rfl) : WE X (.Call (.Name "repr" p) [e] [] pos) ρ (.im (.str t)) ρ1 := by
  obtain ⟨n, h1, h2, h3⟩ := rp.sh
  exact we_rprI bi h1 h2 h3 ha ca ht hz hd hm hg he
end
end Z
set_option maxRecDepth 100000
set_option maxHeartbeats 2000000
/-! Z30: defs called by keywords alone. -/
namespace Z
open PySem PySem.Spec PyProof.Rows L2 Evl ClX
/-- the promise of a def whose arguments all come by their names, in order -/
def FnK0 (P : Program) (w : World) (K : PySem.W.Frag) (mg : Str → Option Value) (base : Heap) (CX : CXT) (k : Nat) (f : Addr) (ps : List Str) (sp : Sp) : Prop :=
  ∀ (A : Around) (outer : List PySem.Env) (s : Shared) (H : Hp) (us : List Value) (vs : List V) (Q : VK) (E : XK), A.guards = some [] → Room k A → Env0 P w K mg base A outer s H → Vals vs us → sp vs H Q E →
    codeAny (model P w) A (.call (.ref f) ⟨[], ps.zip us⟩) (CR CX outer P w H s Q E) s
section
variable {P : Program} {w : World} {K : PySem.W.Frag} {mg : Str → Option Value} {base : Heap} {CX : CXT} {x qual name : Str} {st : Stmt} {f : Addr} {fd : FuncData} {N ps : List Str} {k : Nat}
theorem g_ofK0 {params : Arguments} {body : List Stmt} {scope : Scope} {oc dV kV doc pm cdv ct : Value} {od an : Option Addr} {osl : Array (Option Value)} {sp : Sp} (lk : K.lookup f = some ⟨oc, od, .func (PySem.W.fnOf name qual params body scope dV kV doc pm an cdv ct), osl⟩) (hcd : PySem.W.codeIn K cdv qual = true) (sc : FnScope N ps scope)
    (hbi : ∀ us : List Value, us.length = ps.length → bindArgs (PySem.W.fnOf name qual params body scope dV kV doc pm an cdv ct) ⟨[], ps.zip us⟩ = pure (ps.zip us)) (len : ∀ vs H Q E, sp vs H Q E → vs.length = ps.length)
    (hb : ∀ (A : Around) (outer : List PySem.Env) (s : Shared) (H : Hp) (vs : List V) (Q : VK) (E : XK), A.guards = some [] → Room k (A.deeper (envOfC qual scope s.heap.objs.size f cdv)) → sp vs H Q E →
      ∃ t, PSs (cxOf CX P w K mg base N qual scope f cdv A outer s H E) body t ∧ t { nx := fun _ H' => Q .non H', rt := Q } (L2.start N vs) H) :
    FnK0 P w K mg base CX (k + 1) f ps sp := by
  intro A outer s H us vs Q E hg hr e0 r hsp
  have l1 : us.length = ps.length := r.length.symm.trans (len _ _ _ _ hsp)
  refine StX.run_bnd (s := s) lk hcd sc hr e0 (G := fun xs H2 => xs = vs ∧ H2 = H) (fun A' Ex' Q' h => ?_) ?_
  · exact wpAny_of_eq (hbi us l1) (h s H vs us e0 Un.refl rfl (fun _ _ z => z) r (len _ _ _ _ hsp) ⟨rfl, rfl⟩)
  · intro s2 H2 xs ⟨e1, e2⟩ hr2
    subst e1 e2
    exact hb A outer s2 _ _ Q E hg hr2 hsp
theorem def_PK {S : List D → R → Prop} (F : Fun K x qual st f fd) (sc : FnScope N ps (defScope st)) (hbi : ∀ (kV doc pm : Value) (an : Option Addr) (cdv ct : Value) (us : List Value), us.length = ps.length → bindArgs (PySem.W.fnOf x qual (defArgs st) (defBody st) (defScope st) .none kV doc pm an cdv ct) ⟨[], ps.zip us⟩ = pure (ps.zip us)) (len : ∀ ds r, S ds r → ds.length = ps.length)
    (hb : ∀ (cdv : Value) (A : Around) (outer : List PySem.Env) (s : Shared) (H : Hp) (E : XK), (CxB P w K mg base N qual st f cdv A outer s H E).A.guards = some [] → Room k (CxB P w K mg base N qual st f cdv A outer s H E).A → ∀ ds r, S ds r →
      WB (CxB P w K mg base N qual st f cdv A outer s H E) [] (defBody st) (ds.map .im ++ List.replicate (N.length - (ds.map SV.im).length) .un) { nx := fun _ => r = .im .non, rt := fun r' ρ' => Rt [] ρ' r r' }) :
    FnK0 P w K mg base (L2.CX P w) (k + 1) f ps (spP K S) := by
  obtain ⟨oc, od, kV, doc, pm, an, cdv, ct, osl, rfl, lk, hcd⟩ := F.ex
  refine g_ofK0 (sp := spP K S) lk hcd sc (fun us h => hbi _ _ _ _ _ _ us h) (fun vs H Q E h => ?_) fun A outer s H vs Q E hg hr h => body_P (fun ds r hS => hb cdv A outer s H E hg hr ds r hS) h
  obtain ⟨ds, r, hS, F, rel, _⟩ := h
  have := rel.len
  rw [List.length_map, List.length_map] at this
  rw [this, len ds r hS]
structure GK0 (P : Program) (w : World) (K : PySem.W.Frag) (mg : Str → Option Value) (base : Heap) (x : Str) (k : Nat) (ps : List Str) (sp : Sp) : Prop where
  ex : ∃ f, FnK0 P w K mg base (L2.CX P w) k f ps sp ∧ mg x = some (.ref f) ∧ PySem.W.keepIn K (.ref f) = true
theorem gkw {sp : Sp} (F : FAt K mg x st) (h : ∀ f fd, Fun K x x st f fd → FnK0 P w K mg base (L2.CX P w) k f ps sp) : GK0 P w K mg base x k ps sp := by
  obtain ⟨f, fd, F, m⟩ := F.ex
  exact ⟨f, h f fd F, m, F.kp⟩
end
structure CallK (X : Cx) (x : Str) (ps : List Str) (S : List D → R → Prop) : Prop where
  run : ∃ (f : Addr) (k : Nat), FnK0 X.prog X.w X.K X.mg X.base (L2.CX X.prog X.w) k f ps (spP X.K S) ∧ X.A.guards = some [] ∧ Room k X.A ∧ X.mg x = some (.ref f) ∧ PySem.W.keepIn X.K (.ref f) = true
section
variable {X : Cx} {x nm : Str} {ps : List Str} {S : List D → R → Prop} {e : Expr} {p pos kpos : Pos} {ρ ρ1 ρ2 : Env} {r r1 : R} {d : D} {k : Nat}
theorem GK0.ck {j : Nat} (G : GK0 X.prog X.w X.K X.mg X.base x k ps (spP X.K S)) (hg : X.A.guards = some []) (hr : Room j X.A) (h : k ≤ j := by omega) : CallK X x ps S := by
  obtain ⟨f, F, h1, h2⟩ := G.ex
  exact ⟨f, k, F, hg, hr.mono h, h1, h2⟩
theorem pe_callK0 {CX : CXT} {E : XK} {kws : List Keyword} {tk : TA} {f : Addr} {sp : Sp} (F : FnK0 X.prog X.w X.K X.mg X.base CX k f ps sp) (hgu : X.A.guards = some []) (hr : Room k X.A) (hg : Gl X x) (hm : X.mg x = some (.ref f)) (hk : PySem.W.keepIn X.K (.ref f) = true) (hx : Passes CX X E) (hkw : PK X kws tk)
    (hall : (backToKw pos (keywordEach kws X.env)).all (·.1.isSome) = true) (hks : (backToKw pos (keywordEach kws X.env)).filterMap (·.1) = ps) (hdb : (x == ("__debug__" : Str)) = false)
    (hpl : ((backTo pos (starEach [] X.env)).any (·.1) || (backToKw pos (keywordEach kws X.env)).any (·.1.isNone)) = false) :
    PE X (.Call (.Name x p) [] kws pos) (fun σ H Q => tk σ H fun zs H1 => sp zs H1 Q E) := by
  refine ⟨fun pins s σ H Q I h => ?_⟩
  refine wpAny_Call_Name_kw (ld_glob I hg hm ?_ hdb)
  refine PySem.W.callWith_KW0 (h₀ := X.base) I.ok.mod.kin hk hall (thn (hkw.run pos pins s σ H _ I h) fun ws s2 ⟨zs, H2, I2, rz, q2⟩ => ⟨I2.kIn, ?_⟩) hpl
  rw [hks]
  refine wpAny_call (codeAny_mono (F X.A X.stack s2 H2 ws zs Q E hgu hr I2.env0 rz q2) fun r s' hq => ?_)
  cases r with
  | error e => exact hx pins σ H2 s2 e s' I2 hq
  | ok fl =>
    cases fl with
    | ret u => exact I2.after hq
    | next => exact False.elim hq
    | brk => exact False.elim hq
    | cont => exact False.elim hq
/-- f(name = e) -/
theorem wcK (G : CallK X x [nm] S) (h : WE X e ρ r1 ρ1) (z : Frz ρ1 r1 d ρ2) (hS : S [d] r) (ho : r.ok = true := by rfl) (hg : Gl X x := by rfl) (hd : (x == ("__debug__" : Str)) = false := by decide)
    (hall : (backToKw pos (keywordEach [⟨some nm, e, kpos⟩] X.env)).all (·.1.isSome) = true := by rfl) (hks : (backToKw pos (keywordEach [⟨some nm, e, kpos⟩] X.env)).filterMap (·.1) = [nm] := by rfl)
    (hpl : ((backTo pos (starEach [] X.env)).any (·.1) || (backToKw pos (keywordEach [⟨some nm, e, kpos⟩] X.env)).any (·.1.isNone)) = false := by rfl) : WE X (.Call (.Name x p) [] [⟨some nm, e, kpos⟩] pos) ρ r ρ2 := by
  obtain ⟨f, k, F, hgu, hr, hm, hk⟩ := G.run
  exact PE.imp (pe_callK0 F hgu hr hg hm hk passF (pk_cons (we_z h z) pk_nil) hall hks hd hpl) fun σ H Q ⟨F, rel, kk⟩ => ⟨F, rel, fun v F1 H1 rel1 st1 q1 => ⟨[d], r, hS, backP (vs := [v]) (ds := [d]) rel rel1 st1 (.cons q1 .nil) ho kk⟩⟩
end
end Z
set_option maxRecDepth 100000
set_option maxHeartbeats 2000000
/-! Z31: rules led by data: repr, sorted(set(..)), attributes of caught exceptions. -/
namespace Z
open PySem PySem.Spec PyProof.Rows L2 Evl ClX
/-- the text of a datum -/
structure TxD (own : Addr → List (Str × D) → Option Str) (m : Nat) (d : D) (t : Str) : Prop where
  tx : D.txt own d = some t
  sz : t.length ≤ 90000
  dp : D.deep d ≤ m
theorem TxB.ex {own : Addr → List (Str × D) → Option Str} {m k n : Nat} {d : D} (h : TxB own k n d) (hk : k ≤ m) (hn : n ≤ 90000) : ∃ t, TxD own m d t := by
  obtain ⟨t, a, b, c⟩ := h
  exact ⟨t, a, Nat.le_trans b hn, Nat.le_trans c hk⟩
structure SSet (ns ms : List Int) : Prop where
  sz : ns.length < 60
  up : ms.Pairwise (· < ·)
  mem : ∀ k, k ∈ ms ↔ k ∈ ns
/-- a class of exceptions whose attributes are read -/
structure ErrA (K : PySem.W.Frag) (C : Addr) (fs : List Str) : Prop where
  x : XfC K C
  no : ∀ f ∈ fs, PySem.W.findIn K (.ref C) f = some none
section
variable {X : Cx} {e : Expr} {p p2 pos pos2 : Pos} {ρ ρ1 : Env} {r1 : R} {d g : D} {t : Str} {m : Nat} {own : Addr → List (Str × D) → Option Str} {ns ms : List Int} {a dd C : Addr} {gs : List (Str × D)} {n : Str} {fs : List Str}
theorem we_rpT (bi : Bi X.mg) (rp : RpX X own m) (ha : WE X e ρ r1 ρ1) (ca : r1.con ρ1 = some d) (ht : TxD own m d t) (hg : Gl X "repr" := by rfl) (he : starEach [e] X.env = (false, eval e X.env) :: starEach [] X.env := by rfl) : WE X (.Call (.Name "repr" p) [e] [] pos) ρ (.im (.str t)) ρ1 :=
  we_rpr bi rp ha ca ht.tx (Nat.le_trans ht.sz (by decide)) ht.dp (bi.get _ (by decide +kernel)) hg he
theorem we_ss (bi : Bi X.mg) (ha : WE X e ρ r1 ρ1) (ca : r1.con ρ1 = some (.lst (ns.map .int))) (h : SSet ns ms) (hc : X.calm = true := by rfl) (hg : Gl X "set" := by rfl) (hg2 : Gl X "sorted" := by rfl)
    (he : starEach [e] X.env = (false, eval e X.env) :: starEach [] X.env := by rfl) (he2 : starEach [.Call (.Name "set" p2) [e] [] pos2] X.env = (false, eval (.Call (.Name "set" p2) [e] [] pos2) X.env) :: starEach [] X.env := by rfl) :
    WE X (.Call (.Name "sorted" p) [.Call (.Name "set" p2) [e] [] pos2] [] pos) ρ (.fr (.lst (ms.map .int))) ρ1 :=
  we_sortedSet bi (bi.get _ (by decide +kernel)) (bi.get _ (by decide +kernel)) ha ca h.sz h.up h.mem hc hg hg2 he he2
theorem we_xa (ca : Caught X a dd C) (E : ErrA X.K C fs) (he : WE X e ρ (.im (.exc a dd gs)) ρ1) (hg : gs.lookup n = some g) (hf : n ∈ fs) (hb : attributeBase e n X.env (eval e X.env) = eval e X.env := by rfl) : WE X (.Attribute e n pos) ρ (.im g) ρ1 :=
  we_xv E.x ca he hg (E.no n hf) hb
/-- the empty dict -/
theorem we_dct0 : WE X (.Dict [] [] pos) ρ (.fr (.dct [])) ρ := PE.imp pe_dnewK fun σ H Q ⟨F, rel, k⟩ q hq =>
  k (.ref q) F _ (rel.alloc hq) (Stp.alloc hq) ⟨q, rfl, rel.newF hq, hq, ⟨[], upd_same, .nil⟩, rel.new hq⟩
end
section
variable {X : Cx} {s : Shared} {H : Hp} {sc : Scope} {e : PySem.Env} {fp : List Addr}
theorem RpX.blk {own : Addr → List (Str × D) → Option Str} {m : Nat} (h : RpX X own m) : RpX (X.blk s H sc e fp) own m := ⟨h.ex⟩
theorem CallK.blk {x : Str} {ps : List Str} {S : List D → R → Prop} (h : CallK X x ps S) : CallK (X.blk s H sc e fp) x ps S := ⟨h.run⟩
end
end Z
set_option maxRecDepth 100000
set_option maxHeartbeats 2000000
/-! Z32: own error classes with attributes, as facts of the text; raising them. -/
namespace Z
open PySem PySem.Spec PyProof.Rows L2 Evl ClX NdefX
/-- an own class of errors over ValueError, its __init__ the def st -/
structure ErrF (P : Program) (K : PySem.W.Frag) (mg : Str → Option Value) (x : Str) (C : Addr) (qual : Str) (st : Stmt) (fs : List Str) : Prop where
  ex : ∃ (f c cc : Addr) (B i newId : String) (bmB : List Value), ExC K C f B i newId bmB ∧ SupC K C C B i newId bmB ∧ SupF P K "__init__" qual st f c cc C
  o : OexC K C
  a : ErrA K C fs
  mg : mg x = some (.ref C)
/-- raising it -/
structure ErrC (X : Cx) (x : Str) (C : Addr) (S : List D → List (Str × D) → Prop) : Prop where
  ex : ∃ (fI : Addr) (B i newId : String) (bmB : List Value) (k : Nat), ExC X.K C fI B i newId bmB ∧ FnG X.prog X.w X.K X.mg X.base (L2.CX X.prog X.w) k fI (spIv X.K C S) ∧ X.A.guards = some [] ∧ Room (k + 1) X.A
  mg : X.mg x = some (.ref C)
section
variable {X : Cx} {W : WX} {pn : List Nat} {C : Addr} {x : Str} {p pos pos2 : Pos} {e : Expr} {es : List Expr} {rest : List Stmt} {ρ ρ1 ρ2 : Env} {ds : List D} {gs : List (Str × D)} {S : List D → List (Str × D) → Prop} {sp : Sp}
theorem pmk_e (E : ErrC X x C S) (ha : WA X (e :: es) ρ ds ρ1) (hS : S ds gs) (hz : ds.length ≤ 1000 := by exact Nat.le_of_ble_eq_true rfl) (hg : Gl X x := by rfl)
    (hdb : (x == ("__debug__" : Str)) = false := by decide) (he : starEach (e :: es) X.env = (false, eval e X.env) :: starEach es X.env := by rfl) (hpl : (backTo pos (starEach es X.env)).any (·.1) = false := by rfl) :
    PMk X (.Call (.Name x p) (e :: es) [] pos) (tPV X.K ρ C gs ρ1) := by
  obtain ⟨fI, B, i, newId, bmB, k, T, F, hgu, hr⟩ := E.ex
  exact pmk_v T F hgu hr E.mg ha hS hz hg hdb he hpl
/-- raise x(e, ..) -/
theorem rv_err (hc : X.calm = true) (tk : Takes X W) (E : ErrC X x C S) (ha : WA X (e :: es) ρ ds ρ1) (hS : S ds gs) (hz : ds.length ≤ 1000 := by exact Nat.le_of_ble_eq_true rfl) (hg : Gl X x := by rfl)
    (hdb : (x == ("__debug__" : Str)) = false := by decide) (he : starEach (e :: es) X.env = (false, eval e X.env) :: starEach es X.env := by rfl) (hpl : (backTo pos (starEach es X.env)).any (·.1) = false := by rfl) :
    RBv X W pn (.Raise (some (.Call (.Name x p) (e :: es) [] pos)) none pos2 :: rest) ρ C gs ρ1 := rv_st (rv_raise hc tk (pmk_e E ha hS hz hg hdb he hpl))
/-- a call whose arguments raise -/
theorem rv_callA (tk : Takes X W) (G : Call X x sp) (ha : RAv X W (e :: es) ρ C gs ρ1) (hg : Gl X x := by rfl)
    (hdb : (x == ("__debug__" : Str)) = false := by decide) (he : starEach (e :: es) X.env = (false, eval e X.env) :: starEach es X.env := by rfl) (hpl : (backTo pos (starEach es X.env)).any (·.1) = false := by rfl) : REv X W (.Call (.Name x p) (e :: es) [] pos) ρ C gs ρ1 := by
  obtain ⟨f, k, F, hgu, hr, hm, hk⟩ := G.run
  exact PE.imp (pe_callX tk F hgu hr hm hk ha hg hdb he hpl) fun σ H Q z => z
theorem rv_ifT {c : Expr} {a b : List Stmt} {k : Bool} (hc : WT X c ρ k ρ1) (e : k = true) (ha : RBv X W pn a ρ1 C gs ρ2) : RBv X W pn (.If c a b pos :: rest) ρ C gs ρ2 := by subst e; exact rv_st (rv_if hc (fun _ => ha) fun h => by cases h)
end
section
variable {P : Program} {w : World} {K : PySem.W.Frag} {mg : Str → Option Value} {base : Heap}
/-- an error class's promise, at a level -/
structure GEr (P : Program) (w : World) (K : PySem.W.Frag) (mg : Str → Option Value) (base : Heap) (x : Str) (C : Addr) (k : Nat) (S : List D → List (Str × D) → Prop) : Prop where
  ex : ∃ (fI : Addr) (B i newId : String) (bmB : List Value), ExC K C fI B i newId bmB ∧ FnG P w K mg base (L2.CX P w) k fI (spIv K C S)
  mg : mg x = some (.ref C)
end
theorem GEr.ec {X : Cx} {x : Str} {C : Addr} {k : Nat} {S : List D → List (Str × D) → Prop} (G : GEr X.prog X.w X.K X.mg X.base x C k S) (hg : X.A.guards = some []) {j : Nat} (hr : Room j X.A) (h : k + 1 ≤ j := by omega) : ErrC X x C S := by
  obtain ⟨fI, B, i, n, b, T, F⟩ := G.ex
  exact ⟨⟨fI, B, i, n, b, k, T, F, hg, hr.mono h⟩, G.mg⟩
end Z
set_option maxRecDepth 100000
set_option maxHeartbeats 2000000
/-! Z33: own __repr__s of a text; the __init__ of an error class with its text. -/
namespace Z
open PySem PySem.Spec PyProof.Rows L2 Evl ClX NdefX
/-- the own __repr__s, whatever context asks for them -/
def RpG (P : Program) (w : World) (K : PySem.W.Frag) (mg : Str → Option Value) (base : Heap) (own : Addr → List (Str × D) → Option Str) (n : Nat) : Prop :=
  ∀ C gs t, own C gs = some t → ∃ (f : Addr) (S : List D → R → Prop), PySem.W.findIn K (.ref C) "__repr__" = some (some (.ref f)) ∧ PySem.W.isFn K (.ref f) = true ∧ FnR P w K mg base (L2.CX P w) n f (spP K S) ∧ S [.ins C gs] (.im (.str t))
theorem RpG.none {P : Program} {w : World} {K : PySem.W.Frag} {mg : Str → Option Value} {base : Heap} : RpG P w K mg base (fun _ _ => none) 0 := fun _ _ _ h => by cases h
theorem RpG.x {X : Cx} {own : Addr → List (Str × D) → Option Str} {n m j : Nat} (G : RpG X.prog X.w X.K X.mg X.base own n) (hg : X.A.guards = some []) (hr : Room j X.A) (h : n + m + 2 ≤ j := by omega) : RpX X own m := ⟨n, G, hg, hr.mono h⟩
section
variable {X : Cx} {e : Expr} {pos p1 p2 : Pos} {ρ ρ1 : Env} {d : D} {t y : Str} {m : Nat} {own : Addr → List (Str × D) → Option Str} {j : Nat}
/-- f'text{e!r}' -/
theorem we_msg (rp : RpX X own m) (h : WE X e ρ (.im d) ρ1) (ht : TxD own m d t) (hy : y.length ≤ 1000 := by exact Nat.le_of_ble_eq_true rfl) : WE X (.JoinedStr [.Constant (.str y) j p1, .FormattedValue e 114 none p2] pos) ρ (.im (.str ([y, t].foldl (· ++ ·) Str.empty))) ρ1 := by
  obtain ⟨n, h1, h2, h3⟩ := rp.sh
  have := ht.sz
  exact we_joined (wj_cons we_str (wj_cons (we_fmtD h1 h2 h3 h ht.tx ht.dp (by omega)) wj_nil)) (by simp only [List.map_cons, List.map_nil, List.sum_cons, List.sum_nil]; omega)
end
/-- what is told of an error with one attribute -/
def SErr (own : Addr → List (Str × D) → Option Str) (m : Nat) (f1 : Str) (ds : List D) (gs : List (Str × D)) : Prop := ∃ d t, ds = [d] ∧ gs = [(f1, d)] ∧ TxD own m d t
section
variable {P : Program} {w : World} {K : PySem.W.Frag} {mg : Str → Option Value} {base : Heap} {C : Addr} {x qual v f1 y : Str} {st : Stmt} {p0 p1 p2 p3 ap q1 q2 q3 q4 r1 r2 r3 r4 : Pos} {j : Nat} {ar : Arg} {n m : Nat} {own : Addr → List (Str × D) → Option Str}
theorem err1 (E : ErrF P K mg x C qual st [f1]) (hm : mg "super" = none) (rp : RpG P w K mg base own n)
    (hst : defBody st = [.Expr (.Call (.Attribute (.Call (.Name "super" p0) [] [] p1) "__init__" ap) [.JoinedStr [.Constant (.str y) j q1, .FormattedValue (.Name v q2) 114 none q3] q4] [] p2) p3, .Assign [.Attribute (.Name "self" r1) f1 r2] (.Name v r3) r4])
    (S0 : NScope ["self", v, "__class__"] ["self", v] ["__class__"] (defScope st))
    (hbi : ∀ (c : Addr) (cc : Addr) (kV doc pm : Value) (an : Option Addr) (ct : Value) (us : List Value), us.length = 2 → bindArgs (PySem.W.fnX "__init__" qual (defArgs st) (defBody st) (defScope st) [("__class__", cc)] .none kV doc pm an (.ref c) ct) ⟨us, []⟩ = pure ((["self", v] : List Str).zip us))
    (ha : ar.arg = "self") (har : ((defArgs st).posonlyargs ++ (defArgs st).args).head? = some ar) (hka : (defScope st).names.lookup ("self" : Str) = some .local) (hkv : (defScope st).names.lookup v = some .local) (hks : (defScope st).names.lookup ("super" : Str) = some .globalImplicit) (hkc : (defScope st).names.lookup ("__class__" : Str) = some .free)
    (hv1 : (v == ("__debug__" : Str)) = false) (hv2 : (v == ("__classdict__" : Str)) = false) (hy : y.length ≤ 1000) {pl : PySem.Env → Sem Bool}
    (he : ∀ env : PySem.Env, eval (.Call (.Attribute (.Call (.Name "super" p0) [] [] p1) "__init__" ap) [.JoinedStr [.Constant (.str y) j q1, .FormattedValue (.Name v q2) 114 none q3] q4] [] p2) env = (do
      let ov ← attributeBase (.Call (.Name "super" p0) [] [] p1) "__init__" env (eval (.Call (.Name "super" p0) [] [] p1) env)
      standAt ap.atName
      let (f, first) ← holding [ov] (getMethod ov "__init__" (pl env))
      callWith p2 f first (backTo p2 (starEach [.JoinedStr [.Constant (.str y) j q1, .FormattedValue (.Name v q2) 114 none q3] q4] env)) []))
    (hsw0 : ∀ env : PySem.Env, swapsWith (.Call (.Attribute (.Call (.Name "super" p0) [] [] p1) "__init__" ap) [.JoinedStr [.Constant (.str y) j q1, .FormattedValue (.Name v q2) 114 none q3] q4] [] p2) none p3.line env = pure false)
    (hsw : ∀ env : PySem.Env, swapsWith (.Name v r3) (some (.Attribute (.Name "self" r1) f1 r2)) r4.line env = pure false) : GEr P w K mg base x C (n + m + 3) (SErr own m f1) := by
  obtain ⟨f, c, cc, B, i, newId, bmB, T, SC, SF⟩ := E.ex
  refine ⟨⟨f, B, i, newId, bmB, T, ?_⟩, E.mg⟩
  refine sup_fields (k := n + m + 2) (N := ["self", v, "__class__"]) (ps := ["self", v]) (ar := ar) SF SC E.o hm S0 rfl (fun kV doc pm an ct us h => hbi _ _ _ _ _ _ _ us h) hst [(f1, 1)] (fun p hp => ?_) (Nat.le_of_ble_eq_true rfl) (by simp) (fun ds gs ⟨d, t, h1, h2, _⟩ => ?_) (fun A outer s H E' X hX hg hr => ?_) (by rw [ha]; rfl) har (by rw [ha]; exact hka) hks hkc (by intro env; rfl) he hsw0
  · rw [List.mem_singleton.mp hp]
    exact ⟨E.a.no f1 (by simp), Nat.le_refl _, Nat.lt_succ_self _⟩
  · subst h1 h2
    exact ⟨rfl, rfl⟩
  · subst hX
    refine ⟨.cons rfl (.inl hka) rfl (.inl hkv) (by decide) (by decide) hv1 hv2 (hsw _) .nil, fun ds gs ⟨d, t, h1, h2, h3⟩ => ?_⟩
    subst h1 h2
    exact ⟨_, we_msg (RpG.x rp hg hr (by omega)) (we_name (i := 1) (hN := rfl) (hv := .inl hkv) (hi := rfl) (hd := hv1) (hcd := hv2)) h3 hy⟩
end
end Z
set_option maxRecDepth 100000
set_option maxHeartbeats 2000000
/-! Z34: the pots that laws draw from; what is drawn, as a state's function. -/
namespace Z
open PySem PySem.Spec PyProof.Rows L2 Evl ClX
/-- a pot: what is left of the cell's digits, and a mixed number -/
abbrev Pot := Int × Nat
def p2 (p : Pot) : Int := ((p.2 % 2 ^ 31 : Nat) : Int)
theorem p2_nn (p : Pot) : 0 ≤ p2 p ∧ p2 p < 2147483648 := by
  have := Nat.mod_lt p.2 (show 0 < 2 ^ 31 by decide)
  unfold p2
  omega
def potD (p : Pot) : D := .lst [.int p.1, .int (p2 p)]
/-- the numbers of a law's mixing -/
structure Mix where
  a : Int
  b : Int
  m1 : Int
  m2 : Int
  s : Int
structure Mix.Ok (c : Mix) : Prop where
  a : 0 ≤ c.a ∧ c.a < 1048576
  b : 0 ≤ c.b ∧ c.b < 1048576
  m1 : 0 < c.m1 ∧ c.m1 ≤ 2147483648
  m2 : 0 < c.m2
def nxP (c : Mix) (p : Pot) : Int := (p2 p * c.a + c.b) % c.m1
def dg (c : Mix) (p : Pot) (m : Int) : Int × Pot :=
  if 0 < p.1 then (p.1 % m, (p.1 / m, p.2)) else (nxP c p * nxP c p % c.m2 / c.s % m, (p.1, (nxP c p).toNat))
theorem nxP_bd {c : Mix} (h : c.Ok) (p : Pot) : 0 ≤ nxP c p ∧ nxP c p < 2147483648 := by
  have h1 := Int.emod_nonneg (p2 p * c.a + c.b) (show c.m1 ≠ 0 by have := h.m1.1; omega)
  have h2 := Int.emod_lt_of_pos (p2 p * c.a + c.b) h.m1.1
  have := h.m1.2
  unfold nxP
  omega
theorem p2_nx {c : Mix} (h : c.Ok) (p : Pot) (a : Int) : p2 (a, (nxP c p).toNat) = nxP c p := by
  have := nxP_bd h p
  unfold p2
  rw [Nat.mod_eq_of_lt (by show (nxP c p).toNat < 2147483648; omega)]
  show (((nxP c p).toNat : Nat) : Int) = nxP c p
  omega
theorem dg_bd (c : Mix) (p : Pot) {m : Int} (h : 0 < m) : 0 ≤ (dg c p m).1 ∧ (dg c p m).1 < m := by
  unfold dg
  split
  · exact ⟨Int.emod_nonneg _ (by omega), Int.emod_lt_of_pos _ h⟩
  · exact ⟨Int.emod_nonneg _ (by omega), Int.emod_lt_of_pos _ h⟩
/-! ### what is drawn one after another -/
abbrev M (α : Type) := Pot → α × Pot
def mret {α : Type} (a : α) : M α := fun p => (a, p)
def mseq {α β : Type} (x : M α) (f : α → M β) : M β := fun p => f (x p).1 (x p).2
def draw (c : Mix) (m : Int) : M Int := fun p => dg c p m
/-- what holds of all that can be drawn -/
def MP {α : Type} (x : M α) (φ : α → Prop) : Prop := ∀ p, φ (x p).1
theorem MP.ret {α : Type} {a : α} {φ : α → Prop} (h : φ a) : MP (mret a) φ := fun _ => h
theorem MP.seq {α β : Type} {x : M α} {f : α → M β} {φ : α → Prop} {ψ : β → Prop} (h : MP x φ) (g : ∀ a, φ a → MP (f a) ψ) : MP (mseq x f) ψ := fun p => g _ (h p) _
theorem MP.imp {α : Type} {x : M α} {φ ψ : α → Prop} (h : MP x φ) (g : ∀ a, φ a → ψ a) : MP x ψ := fun p => g _ (h p)
theorem MP.draw (c : Mix) {m : Int} (h : 0 < m) : MP (draw c m) fun x => 0 ≤ x ∧ x < m := fun p => dg_bd c p h
/-- one of some -/
def pickM {α : Type} (c : Mix) (xs : List α) (d : α) : M α := mseq (draw c xs.length) fun i => mret (xs.getD i.toNat d)
theorem MP.pick {α : Type} (c : Mix) {xs : List α} {d : α} {φ : α → Prop} (h0 : xs ≠ []) (h : ∀ x ∈ xs, φ x) : MP (pickM c xs d) φ := by
  have hl : 0 < xs.length := List.length_pos_iff.mpr h0
  refine MP.seq (MP.draw c (by omega)) fun i hi => MP.ret ?_
  have hi : i.toNat < xs.length := by omega
  simp only [List.getD_eq_getElem?_getD, List.getElem?_eq_getElem hi, Option.getD_some]
  exact h _ (List.getElem_mem hi)
/-- what is drawn n times -/
def repM {α : Type} (x : M α) : Nat → M (List α)
  | 0 => mret []
  | n + 1 => mseq (repM x n) fun l => mseq x fun a => mret (l ++ [a])
theorem MP.rep {α : Type} {x : M α} {φ : α → Prop} (h : MP x φ) : ∀ n, MP (repM x n) fun l => l.length = n ∧ ∀ a ∈ l, φ a
  | 0 => MP.ret ⟨rfl, fun a h => by cases h⟩
  | n + 1 => MP.seq (MP.rep h n) fun l hl => MP.seq h fun a ha => MP.ret ⟨by rw [List.length_append, hl.1]; rfl, fun b hb => by
    rcases List.mem_append.mp hb with hb | hb
    · exact hl.2 b hb
    · rw [List.mem_singleton.mp hb]; exact ha⟩
/-- a loop that draws -/
def loopM {β : Type} (f : Nat → β → M β) (b : β) : Nat → M β
  | 0 => mret b
  | n + 1 => mseq (loopM f b n) fun x => f n x
theorem MP.loop {β : Type} {f : Nat → β → M β} {b : β} {φ : Nat → β → Prop} (h0 : φ 0 b) (h : ∀ n x, φ n x → MP (f n x) (φ (n + 1))) : ∀ n, MP (loopM f b n) (φ n)
  | 0 => MP.ret h0
  | n + 1 => MP.seq (MP.loop h0 h n) fun x hx => h n x hx
theorem getD_map {α β : Type} (f : α → β) (xs : List α) (i : Nat) (d : α) (h : i < xs.length) (e : β) : (xs.map f).getD i e = f (xs.getD i d) := by
  simp only [List.getD_eq_getElem?_getD, List.getElem?_map, List.getElem?_eq_getElem h, Option.map_some, Option.getD_some]
theorem dgN (c : Mix) (p : Pot) {n : Nat} (h : 0 < n) : (dg c p n).1.toNat < n := by
  have := dg_bd c p (m := n) (by omega)
  omega
theorem lc_if2 {X : Cx} {scope : Scope} {own : List (Str × Nat)} {ρw ρt ρc ρe ρf : Env} {tg elt c : Expr} {d e : D} {b : Bool} {r : R} (h1 : BG X scope (cmpl ρw.length (own.map (·.2))) tg d ρw ρt) (ht : ∀ (s : Shared) (H : Hp) (C : Addr) (cl : List (Str × Addr)) (fp : List Addr), WT (X.blk s H scope (compEnvC scope cl C X.env) fp) c ρt b ρc)
    (e1 : b = true → BE X scope elt ρc r ρe) (e2 : Frz ρe r e ρf) (h3 : wipeE ρc (own.map (·.2)) = ρw) (h4 : ρt.length = ρw.length) (h5 : ρc.length = ρw.length) (e3 : wipeE ρf (own.map (·.2)) = ρw) (e4 : ρf.length = ρw.length) : LcI X scope own ρw tg elt c d e b :=
  lc_if h1 ht (fun hb => ⟨r, ρe, ρf, e1 hb, e2, e3, e4⟩) h3 h4 h5
end Z
set_option maxRecDepth 100000
set_option maxHeartbeats 2000000
/-! Z35: str of an int, join, own __repr__s as promises, isinstance of data of other kinds. -/
namespace Z
open PySem PySem.Spec PyProof.Rows L2 Evl ClX NdefX
theorem join_len {a : Str} {n : Nat} : ∀ {ys : List Str}, (∀ y ∈ ys, y.length ≤ n) → (Str.join a ys).length ≤ ys.length * (n + a.length)
  | [], _ => by show 0 ≤ _; omega
  | [y], h => by
    have := h y (by simp)
    show y.length ≤ _
    simp
    omega
  | y :: z :: r, h => by
    have h1 := h y (by simp)
    have ih := join_len (a := a) (n := n) (ys := z :: r) fun x hx => h x (by simp [hx])
    show ((y ++ a) ++ Str.join a (z :: r)).length ≤ _
    rw [strLen_append, strLen_append, List.length_cons, Nat.succ_mul]
    omega
theorem len_sum {n : Nat} : ∀ {ys : List Str}, (∀ y ∈ ys, y.length ≤ n) → (ys.map (·.length)).sum ≤ ys.length * n
  | [], _ => by simp
  | y :: r, h => by
    have h1 := h y (by simp)
    have ih := len_sum (n := n) (ys := r) fun x hx => h x (by simp [hx])
    rw [List.map_cons, List.sum_cons, List.length_cons, Nat.succ_mul]
    omega
section
variable {X : Cx} {o e : Expr} {p pos apos : Pos} {ρ ρ1 ρ2 : Env} {r : R} {i : Int} {a : Str} {ys : List Str} {ds : List D}
theorem we_sI (bi : Bi X.mg) (h : WE X e ρ (.im (.int i)) ρ1) (hz : i.natAbs.log2 < 1920) (hg : Gl X "str" := by rfl) (he : starEach [e] X.env = (false, eval e X.env) :: starEach [] X.env := by rfl) : WE X (.Call (.Name "str" p) [e] [] pos) ρ (.im (.str (toString i))) ρ1 :=
  PE.imp (pe_callTy call_str_int hg (bi.get _ (by decide +kernel)) rfl (wa1_cons h wa_nil he) (by decide) (by decide) he rfl) fun σ H Q ⟨F, rel, kk⟩ => ⟨F, rel, fun v vs F1 H1 rel1 st1 q1 q2 => by
    cases q2
    have q1 : Rep X.K F1 v (.int i) := q1
    cases q1
    exact ⟨i, rfl, hz, kk _ F1 H1 rel1 st1 (.str _)⟩⟩
theorem we_join (ho : WE X o ρ (.im (.str a)) ρ1) (h : WE X e ρ1 r ρ2) (ca : r.con ρ2 = some (.lst ds)) (hd : ds = ys.map .str) (hz : (ys.map (·.length)).sum + ys.length * a.length ≤ 100000) (hs : starEach [e] X.env = [(false, eval e X.env)] := by rfl) (hbase : attributeBase o "join" X.env (eval o X.env) = eval o X.env := by rfl) (hline : (apos.endLine == pos.line) = true := by rfl) :
    WE X (.Call (.Attribute o "join" apos) [e] [] pos) ρ (.im (.str (Str.join a ys))) ρ2 := by
  subst hd
  refine PE.imp (pe_join ho h hs hbase hline) fun σ H Q ⟨F, rel, k⟩ => ⟨F, rel, fun v F1 H1 rel1 st1 q1 => ?_⟩
  have q1 : Rep X.K F1 v (.str a) := q1
  cases q1
  refine ⟨⟨a, rfl⟩, F1, rel1, fun w F2 H2 rel2 st2 q2 => ?_⟩
  obtain ⟨l, vs, ev, hs2, rp⟩ := (q2.con rel2 ca).lst rel2.ex
  have evs := rp.strs_of
  subst evs
  refine ⟨a, l, ys, rfl, by rw [ev], .inl hs2, by omega, ?_⟩
  rw [TL.join_eq]
  exact k _ F2 H2 rel2 (st1.trans rel st2) (.str _)
end
/-! ### own __repr__s -/
section
variable {P : Program} {w : World} {K : PySem.W.Frag} {mg : Str → Option Value} {base : Heap} {C : Addr} {k : Nat} {st : Stmt} {S : List D → R → Prop}
structure GRp (P : Program) (w : World) (K : PySem.W.Frag) (mg : Str → Option Value) (base : Heap) (C : Addr) (k : Nat) (S : List D → R → Prop) : Prop where
  ex : ∃ f, PySem.W.findIn K (.ref C) "__repr__" = some (some (.ref f)) ∧ PySem.W.isFn K (.ref f) = true ∧ FnR P w K mg base (L2.CX P w) k f (spP K S)
theorem grp {qual : Str} (F : MAt K C "__repr__" qual st) (h : ∀ f fd, Fun K "__repr__" qual st f fd → FnR P w K mg base (L2.CX P w) k f (spP K S)) : GRp P w K mg base C k S := by
  obtain ⟨f, fd, F, m⟩ := F.ex
  exact ⟨f, m.at_, m.fn, h f fd F⟩
end
/-! ### isinstance -/
def kitNames : List String := ["NoneType", "int", "bool", "str", "list", "tuple", "dict", "set"]
structure KitF (K : PySem.W.Frag) (C : Addr) : Prop where
  ot : ∀ T ∈ kitNames, PySem.W.kitOne K (.type T) (.ref C) = some false
  to : ∀ T ∈ kitNames, PySem.W.kitOne K (.ref C) (.type T) = some false
/-- a datum of a built-in kind -/
def D.kind : D → Option String
  | .non => some "NoneType" | .bl _ => some "bool" | .int _ => some "int" | .str _ => some "str" | .lst _ => some "list" | .tup _ => some "tuple" | .set _ => some "set" | .dct _ => some "dict" | _ => none
theorem kind_tyx {d : D} {T : String} (h : d.kind = some T) : d.tyx = some (.type T) ∧ T ∈ kitNames ∧ ∀ C gs, d ≠ .ins C gs := by
  cases d <;> simp only [D.kind] at h <;> cases h <;> exact ⟨rfl, by decide, fun C gs e => by cases e⟩
section
variable {X : Cx} {a b : Expr} {p pos : Pos} {ρ ρ1 : Env} {d : D} {C : Addr} {T : String} {gs : List (Str × D)}
/-- isinstance(a built-in kind, an own class) -/
theorem we_isF (bi : Bi X.mg) (ha : WA X [a, b] ρ [d, .obj C] ρ1) (q : KitF X.K C) (hd : d.kind = some T) (hg : Gl X "isinstance" := by rfl) (he : starEach [a, b] X.env = (false, eval a X.env) :: starEach [b] X.env := by rfl) (hpl : (backTo pos (starEach [b] X.env)).any (·.1) = false := by rfl) :
    WE X (.Call (.Name "isinstance" p) [a, b] [] pos) ρ (.im (.bl false)) ρ1 :=
  let ⟨h1, h2, h3⟩ := kind_tyx hd
  we_is_ bi ha h1 rfl (q.ot T h2) (fun C gs e => absurd e (h3 C gs)) hg he hpl
end
section
variable {X : Cx} {s : Shared} {H : Hp} {sc : Scope} {e : PySem.Env} {fp : List Addr}
end
end Z
set_option maxRecDepth 100000
set_option maxHeartbeats 4000000
/-! Z36: a comprehension over a tuple while an exception is handled. -/
namespace Z
open PySem PySem.Spec PyProof.Rows L2
section
variable {prog : Program} {w : World} {A : Around} {E : Value → Shared → Prop} {s : Shared}
/-- next() of a tuple's iterator at its end, an exception being handled -/
theorem next_end_hot {it t x1 : Addr} {i : Nat} {items : Array Value} {Q : Option Value → Shared → Prop} (hot : HotX.HotAt A x1 s.heap) (hne : x1 ≠ it) (hit : s.heap.IsTupleIter it t i) (ht : s.heap.IsTuple t items) (hx : items[i]? = none)
    (hQ : ∀ h', (∀ b o, b ≠ it → s.heap.get? b = some o → h'.get? b = some o) → Q none { s with heap := h' }) : wpAny (model prog w) A (pyNext (.ref it)) Q E s := by
  obtain ⟨oi, ei, ci, di⟩ := id hit
  obtain ⟨ot, et, _, nt, dt⟩ := ht
  obtain ⟨hh, o1, vs1, h1, d1, c1⟩ := hot
  have lit : it < s.heap.objs.size := Heap.lt_size ei
  have lx : x1 < s.heap.objs.size := Heap.lt_size h1
  unfold pyNext
  refine wpAny_bind (wpAny_attempt (wpAny_callSpecial?_slot (name := Str.ofString "__next__") hit.typeIs F.slot_tuple_iterator_next (wpAny_call_entry F.slot_tuple_iterator_next hit.typeIs F.entry_tuple_iterator_next ?_ (F.args_tuple_iterator_next_1 _))))
  show wpAny _ _ (field (.ref it) 0 >>= _) _ _ s
  refine wpAny_bind (wpAny_field ei di (x := .ref t) rfl ?_)
  show wpAny _ _ (if (Value.ref t == Value.none) = true then _ else _) _ _ s
  rw [if_neg (fun z : (Value.ref t == Value.none) = true => Bool.noConfusion (show false = true from z))]
  show wpAny _ _ (field (.ref it) 1 >>= _) _ _ s
  refine wpAny_bind (wpAny_field ei di (x := .int i 0) rfl ?_)
  show wpAny _ _ (seqItems? (.ref t) >>= _) _ _ s
  refine wpAny_bind (wpAny_seqItems et dt ?_)
  simp only [Int.toNat_natCast, hx]
  refine wpAny_bind (wpAny_rule (wpAny_bind (wpAny_setField ei di (by simp) ?_)))
  have u1 : (s.heap.update it (Obj.mapFields (·.setIfInBounds 0 .none))).get? x1 = some o1 := by rw [Heap.get?_update_other _ _ (Ne.symm hne)]; exact h1
  show wpAny _ _ (newExc (.type "StopIteration") [] >>= _) _ _ _
  refine wpAny_bind ?_
  simp only [newExc, newTuple]
  refine wpAny_bind (wpAny_newObj_type ?_ (by size_fits))
  refine wpAny_bind (m := firstArgMember _ _) (wpAny_of_eq (a := Value.none) (by first | rfl | (simp only [firstArgMember]; rfl)) ?_)
  refine wpAny_newObj_type ?_ (by size_fits)
  have kk : ∀ b o, b ≠ it → s.heap.get? b = some o → (s.heap.update it (Obj.mapFields (·.setIfInBounds 0 .none))).get? b = some o := fun b o hb e => by rw [Heap.get?_update_other _ _ (Ne.symm hb)]; exact e
  refine HotX.raiseNew_hot (x1 := x1) ⟨hh, o1, vs1, Heap.get?_push_of_some _ (Heap.get?_push_of_some _ u1), d1, c1⟩ (Nat.ne_of_lt (Heap.lt_size (Heap.get?_push_of_some _ u1))) (Heap.get?_push_size _ rfl) rfl (by first | (simp; done) | (simp; omega) | (simp only [Array.size_append]; simp; omega)) ?_
  refine wpAny_bind (wpAny_isInstance (T := "StopIteration") (b := true) ⟨_, Heap.get?_update_self _ (Heap.get?_push_size _ rfl) rfl, rfl⟩ isSubtype_stop ?_)
  refine wpAny_pure (hQ _ fun b o hb e => ?_)
  have e2 := kk b o hb e
  rw [Heap.get?_update_other _ _ (Nat.ne_of_gt (Heap.lt_size (Heap.get?_push_of_some _ e2)))]
  exact Heap.get?_push_of_some _ (Heap.get?_push_of_some _ e2)
end
/-- a tuple's iterator has come -/
def TupIt (X : Cx) (pins : List (Addr × Obj)) (σ : L2.St) (H : Hp) (a : Addr) (v : Value) (s2 : Shared) : Prop := ∃ it : Addr, v = .ref it ∧ Inv X pins σ H s2 ∧ s2.heap.IsTupleIter it a 0 ∧ FpOk X pins H it
section
variable {X : Cx} {pins : List (Addr × Obj)} {σ : L2.St} {H : Hp} {s : Shared} {a : Addr}
theorem tup_it {xs : List V} {E : Value → Shared → Prop} (I : Inv X pins σ H s) (hq : SqT X.K H a xs) : wpAny (model X.prog X.w) X.A (pyIter (.ref a)) (TupIt X pins σ H a) E s := by
  obtain ⟨its, rv, p, hz⟩ := I.tuple hq
  refine wpAny_pyIter_tuple (show s.heap.IsTuple a its.toArray from p) ?_
  exact ⟨s.heap.objs.size, rfl, I.kept (t' := s.toks) fun b o e => Heap.get?_push_of_some _ e, ⟨_, Heap.get?_push_size _ rfl, rfl, rfl⟩, I.fpOk (Nat.le_refl _) (I.hok.fresh (Nat.le_refl _))⟩
end
section
variable {X : Cx} {p : Addr × Obj} {elt tg iter : Expr} {ifs : List Expr} {scope : Scope} {own : List (Str × Nat)} {pos : Pos} {ti : TE} {g : TG} {tt : TT} {te : TE}
theorem pe_lcHot (hp : L2H.Hot1 X.A p) (hm : p ∈ X.pn) (hN : X.N.Nodup) (hi : PE X iter ti) (ok : BlkOk X.N X.env.scope scope own)
    (hg : ∀ (s : Shared) (H : Hp) (C : Addr) (cl : List (Str × Addr)) (fp : List Addr), PG (X.blk s H scope (compEnvC scope cl C X.env) fp) tg g) (ht : ∀ (s : Shared) (H : Hp) (C : Addr) (cl : List (Str × Addr)) (fp : List Addr), PTs (X.blk s H scope (compEnvC scope cl C X.env) fp) ifs tt)
    (he : ∀ (s : Shared) (H : Hp) (C : Addr) (cl : List (Str × Addr)) (fp : List Addr), PE (X.blk s H scope (compEnvC scope cl C X.env) fp) elt te) (hs : ∀ x, foldedSetIterable iter X.env x = pure x := by intro _; rfl) :
    PE X (.ListComp elt [⟨tg, iter, ifs, 0⟩] scope pos) (tLc (iTup X.K ti) g tt te (own.map (·.2))) := by
  refine ⟨fun pins s σ H Q I h => ?_⟩
  rw [eval_ListComp]
  have cls : ∀ y ∈ scope.names, y.2 = .free → ∃ c, X.env.cells.lookup y.1 = some c := fun y hy e => (ok.free y hy e).elim (fun k => I.ok.has _ (.inl k)) (fun k => I.ok.has _ (.inr k))
  refine wpAny_comprehension_free (use := none) rfl hs (closure_ok cls) ok.kind (fun y hy e => by rw [ok.uniq y hy, e]) (thn (hi.run pins s σ H _ I h) fun xv s1 hx => ?_)
  obtain ⟨xx, H2, I1, r1, a, rfl, ⟨xs, hq⟩, q⟩ := hx
  cases r1
  refine thn (tup_it I1 hq) fun itv s2 h2 => ?_
  obtain ⟨it, rfl, I2, st2, f2⟩ := h2
  -- the handled exception, at every state of X
  obtain ⟨hot1, xv1, xd1, xc1⟩ := hp
  have pit : p.1 ≠ it := f2.2.2.2.2.2 p (List.mem_append_left _ hm)
  refine wpAny_newObj_type (newEnv_comp ?_) (by show 0 ≤ sizeLine; decide)
  generalize hD : s2.heap.objs.size = D
  have nD : H2 D = none := I2.hok.fresh (Nat.le_of_eq hD)
  obtain ⟨W, ⟨m0, w0⟩, turn⟩ := q D nD
  generalize e3 : ({ s2 with heap := s2.heap.push { cls := .type "list", data := .seq ([] : List Value).toArray } } : Shared) = s3
  have h3 : s3.heap = s2.heap.push { cls := .type "list", data := .seq ([] : List Value).toArray } := by rw [← e3]
  have I3 : Inv X pins σ (upd H2 D (.lst [])) s3 := by
    rw [← e3]
    refine I2.laid (t' := s2.toks) (fun b o e => Heap.get?_push_of_some _ e) (Nat.le_of_eq hD) ⟨Nat.zero_le _, [], 0, .nil, ?_⟩
    rw [← hD]
    exact Heap.get?_push_size _ rfl
  have lit : it < s2.heap.objs.size := by
    obtain ⟨o, e, _⟩ := st2
    exact Heap.lt_size e
  have f3 : FpOk X pins (upd H2 D (.lst [])) it := ⟨by rw [upd_ne (by rw [← hD]; exact Nat.ne_of_lt lit)]; exact f2.1, f2.2⟩
  have l3 : it < s3.heap.objs.size := by rw [h3, Heap.size_push]; exact Nat.lt_succ_of_lt lit
  have st3 : s3.heap.IsTupleIter it a 0 := st2.at fun o e => by rw [h3]; exact Heap.get?_push_of_some _ e
  have tup3 : ∀ b ∈ [it], FpOk X pins (upd H2 D (.lst [])) b ∧ b < s3.heap.objs.size := fun b hb => by
    obtain rfl : b = it := by simpa using hb
    exact ⟨f3, l3⟩
  have I4 := block_start I3 ok hN tup3
  have pg := hg s3 (upd H2 D (.lst [])) s3.heap.objs.size (cellsFrom (s3.heap.objs.size + 1) scope.names (cloFrom X.env.cells scope.names [])) [it]
  have pt := ht s3 (upd H2 D (.lst [])) s3.heap.objs.size (cellsFrom (s3.heap.objs.size + 1) scope.names (cloFrom X.env.cells scope.names [])) [it]
  have pe := he s3 (upd H2 D (.lst [])) s3.heap.objs.size (cellsFrom (s3.heap.objs.size + 1) scope.names (cloFrom X.env.cells scope.names [])) [it]
  show codeAny _ _ (.compStart (.ListComp elt [⟨tg, iter, ifs, 0⟩] scope pos) 0 (.ref it) (.ref D) (compEnvC scope (cellsFrom (s3.heap.objs.size + 1) scope.names (cloFrom X.env.cells scope.names [])) s3.heap.objs.size X.env)) (compPost (model X.prog X.w) X.A X.xe none (EP X pins σ Q) (.ref D) s3.heap.objs.size) { s3 with heap := pushCells (s3.heap.push { cls := .type "dict", data := .dict #[] }) scope.names }
  generalize hce : compEnvC scope (cellsFrom (s3.heap.objs.size + 1) scope.names (cloFrom X.env.cells scope.names [])) s3.heap.objs.size X.env = ce at I4 pg pt pe ⊢
  have cL : ce.locals = s3.heap.objs.size := by subst hce; rfl
  generalize hH3 : upd H2 D (.lst []) = H3 at I3 I4 pg pt pe w0 f3
  generalize e4 : ({ s3 with heap := pushCells (s3.heap.push { cls := .type "dict", data := .dict #[] }) scope.names } : Shared) = s4 at I4 ⊢
  have st4 : s4.heap.IsTupleIter it a 0 := st3.at fun o e => by rw [← e4]; exact pushCells_keeps _ _ _ _ (Heap.get?_push_of_some _ e)
  -- the pin carried into the block
  have pn3 := I3.pin p (List.mem_append_left _ hm)
  have pk4 : s4.heap.get? p.1 = some p.2 := by rw [← e4]; exact pushCells_keeps _ _ _ _ (Heap.get?_push_of_some _ pn3.1)
  have pL : p.1 ≠ ce.locals := by rw [cL]; exact Nat.ne_of_lt (Heap.lt_size pn3.1)
  have pF : p.1 ∉ (X.blk s3 H3 scope ce [it]).fs := fun z => by
    rcases List.mem_cons.mp (I3.stkSub _ z) with e | e
    · exact pn3.2.2.1 e
    · exact pn3.2.2.2.1 e
  have J4 : Inv (X.blk s3 H3 scope ce [it]) [p] (wipe σ (own.map (·.2))) H3 s4 := I4.pins_of fun r hr => by
    obtain rfl : r = p := by simpa using hr
    exact ⟨pk4, pn3.2.1, pL, pF, pn3.2.2.2.2⟩
  have fB : ∀ {σ' : L2.St} {H' : Hp} {s' : Shared}, Inv (X.blk s3 H3 scope ce [it]) [p] σ' H' s' → H' it = none → FpOk (X.blk s3 H3 scope ce [it]) [p] H' it := fun {σ' H' s'} I' hn =>
    ⟨hn, (I'.ok.exf it (by simp)).1, I'.ok.exfs it (by simp), .inl (by simp), fun x c e => (I'.ok.exf it (by simp)).2 x c e, fun r hr => by
      have hr : r ∈ ([] : List (Addr × Obj)) ++ [p] := hr
      obtain rfl : r = p := by simpa using hr
      exact pit⟩
  have loop : codeAny (model X.prog X.w) X.A (.compLoop (.ListComp elt [⟨tg, iter, ifs, 0⟩] scope pos) 0 (.ref it) (.ref D) ce) (compPost (model X.prog X.w) X.A X.xe none (EP X pins σ Q) (.ref D) s3.heap.objs.size) s4 := by
    refine compLoop_any (fun n s' => ∃ i H', Inv (X.blk s3 H3 scope ce [it]) [p] (wipe σ (own.map (·.2))) H' s' ∧ s'.heap.IsTupleIter it a i ∧ H' it = none ∧ W i n H') ?_ m0 ⟨0, H3, J4, st4, f3.1, w0⟩
    rintro n s5 ⟨i, H5, I5, st5, n5, w5⟩
    have fI := fB I5 n5
    obtain ⟨g0, g1, g2, g3, g4, g5⟩ := fI
    rcases turn i n H5 w5 with ⟨⟨ys, hy, hl⟩, qq⟩ | ⟨⟨ys, y, hy, hl⟩, Nx, hNx, step⟩
    · obtain ⟨its, rv, tp, _⟩ := I5.tuple hy
      have len := rv.length
      have hk := I5.pin p (List.mem_append_right _ (by simp))
      refine next_end_hot (x1 := p.1) ⟨hot1, p.2, xv1, hk.1, xd1, xc1⟩ pit st5 (show s5.heap.IsTuple a its.toArray from tp) (by simp; omega) fun h' eb => ?_
      have I6 : Inv (X.blk s3 H3 scope ce [it]) [p] (wipe σ (own.map (·.2))) H5 { s5 with heap := h' } := I5.turned (t' := s5.toks) (fun b o hb e => eb b o hb e) g0 g1 g3 g4 g5
      have I7 : Inv X pins σ H5 { s5 with heap := h' } := I3.call' (ch := [it]) I6.os I6.base I6.hok I6.bare fun b hb => by
        obtain rfl : b = it := by simpa using hb
        exact ⟨f3.2.2.2.1, f3.2.1, f3.2.2.2.2.1, f3.2.2.2.2.2⟩
      have nC : H5 s3.heap.objs.size = none := by
        have z : H5 ce.locals = none := I6.free
        rw [cL] at z
        exact z
      obtain ⟨m, hn, _⟩ := I6.loc
      have hn : h'.Ns ce.locals m := hn
      rw [cL] at hn
      obtain ⟨k0, k1, k2, k3, k4, k5⟩ := I3.fpOk (Nat.le_refl _) nC
      exact ⟨m, hn, fun h'' sb => ⟨.ref D, H5, I7.turned (t' := s5.toks) (fun b o hb e => (sb.2 b hb).trans e) k0 k1 k3 k4 k5, rfl, qq⟩⟩
    · obtain ⟨its, rv, tp, _⟩ := I5.tuple hy
      obtain ⟨u, hu, ru⟩ := rv.get hl
      refine wpAny_pyNext_tuple_item st5 (show s5.heap.IsTuple a its.toArray from tp) (x := u) (by simpa using hu) fun h' st' sb => ?_
      have I6 : Inv (X.blk s3 H3 scope ce [it]) [p] (wipe σ (own.map (·.2))) H5 { s5 with heap := h' } := I5.turned (t' := s5.toks) (fun b o hb e => (sb.2 b hb).trans e) g0 g1 g3 g4 g5
      obtain ⟨oi, ei, ci, di⟩ := id st'
      refine go_of (s := { s5 with heap := h' }) ei ci di (by decide) ?_
      have P6 := I6.pinned (fp := [it]) (fun b hb => by
        obtain rfl : b = it := by simpa using hb
        exact fB I6 n5) (fun b hb => by
        obtain rfl : b = it := by simpa using hb
        exact ⟨oi, ei, fun v z => by rw [di] at z; cases z⟩)
      have hit' : ∀ {s' : Shared} {σ' : L2.St} {H' : Hp}, Inv (X.blk s3 H3 scope ce [it]) ([p] ++ pinsAt [it] h') σ' H' s' → s'.heap.get? it = some oi ∧ H' it = none := fun {s' σ' H'} J =>
        let z := J.pin (it, oi) (List.mem_append_right _ (List.mem_append_right _ (mem_pinsAt (by simp) ei)))
        ⟨z.1, z.2.1⟩
      refine thnF (pg.run _ { s5 with heap := h' } _ H5 y u _ P6 ru (step y H5 ⟨rfl, fun zs hzs => by rw [I5.tuple_inj hzs hy]; exact hl⟩)) fun _ s8 ⟨σ8, H8, I8, hw8, q8⟩ => ?_
      refine thnF (pt.run _ s8 σ8 H8 _ I8 q8) fun b s9 ⟨H9, I9, q9⟩ => ?_
      have fin : ∀ {s' : Shared} {H' : Hp}, Inv (X.blk s3 H3 scope ce [it]) ([p] ++ pinsAt [it] h') σ8 H' s' → Nx H' → ∃ m, m < n ∧ ∃ i H', Inv (X.blk s3 H3 scope ce [it]) [p] (wipe σ (own.map (·.2))) H' s' ∧ s'.heap.IsTupleIter it a i ∧ H' it = none ∧ W i m H' := fun {s' H'} J nx => by
        obtain ⟨m', hlt, w'⟩ := hNx H' nx
        obtain ⟨ki, kn⟩ := hit' J
        refine ⟨m', hlt, i + 1, H', J.unpinned.weak (by rw [← hw8, wipe_length]) (fun j v e => ?_), ⟨oi, ki, ci, di⟩, kn, w'⟩
        rw [← hw8] at e
        exact (wipe_some e).1
      cases b with
      | false =>
        simp only [Bool.false_eq_true, if_false] at q9 ⊢
        exact fin I9 q9
      | true =>
        simp only [if_true] at q9 ⊢
        refine thnF (pe.run _ s9 σ8 H9 _ I9 q9) fun z s10 ⟨yv, H10, I10, r10, acc, hD10, hz10, nx⟩ => ?_
        exact app_ok (X := X.blk s3 H3 scope ce [it]) I10 hD10 hz10 r10 fun s11 I11 => fin I11 nx
  exact codeAny_compStart_list loop (wpAny_pyIter_tupleiter st4 loop)
end
end Z
set_option maxRecDepth 100000
set_option maxHeartbeats 4000000
/-! Z37: own __repr__s called where an exception is handled. -/
namespace Z
open PySem PySem.Spec PyProof.Rows L2 Evl ClX
/-- a pure body's reading at a call, in any context -/
theorem body_PX {X : Cx} {S : List D → R → Prop} {body : List Stmt} {H : Hp} {E : XK} {vs : List V} {Q : VK}
    (hb : ∀ ds r, S ds r → WB X.nox [] body (ds.map .im ++ List.replicate (X.N.length - (ds.map SV.im).length) .un) { nx := fun _ => r = .im .non, rt := fun r' ρ' => Rt [] ρ' r r' }) (h : spP X.K S vs H Q E) :
    ∃ t, PSs X body t ∧ t { nx := fun _ H' => Q .non H', rt := Q } (L2.start X.N vs) H := by
  obtain ⟨ds, r, hS, F, rel, kk⟩ := h
  have hl : vs.length = (ds.map SV.im).length := by have := rel.len; rwa [List.length_map] at this
  refine ⟨_, (hb ds r hS).nox, F, rel_start rel, ?_, ?_, fun _ _ _ _ _ _ _ z => z.elim, fun _ _ _ _ _ _ _ z => z.elim⟩
  · intro ρ' σ' F' H' rel' st pn e
    subst e
    have st' : Stp (ds.map .im) (vs.map some) F H (ds.map .im) (vs.map some) F' H' := ⟨fun a o h _ => st.keep a o h (fun z => no_owns (owns_start hl z)), fun a z => (no_owns z).elim, st.dom⟩
    exact kk .non F' H' (rel.keepAll (fun a o h => st.keep a o h (fun z => no_owns (owns_start hl z))) rel'.ex) st' .non
  · intro v r' ρ' σ' F' H' rel' st pn q g
    have st' : Stp (ds.map .im) (vs.map some) F H (ds.map .im) (vs.map some) F' H' := ⟨fun a o h _ => st.keep a o h (fun z => no_owns (owns_start hl z)), fun a z => (no_owns z).elim, st.dom⟩
    refine kk v F' H' (rel.keepAll (fun a o h => st.keep a o h (fun z => no_owns (owns_start hl z))) rel'.ex) st' ?_
    exact Rt.good g (rel_start rel) rel' st q pn (fun i d h => (by
      obtain ⟨h1, _⟩ := start_get (N := X.N) hl (fun z => by cases z) h
      obtain ⟨z, ez, _⟩ := get_im h1
      cases ez)) fun a z => (no_owns z).elim
section
variable {P : Program} {w : World} {K : PySem.W.Frag} {mg : Str → Option Value} {base : Heap} {x qual : Str} {st : Stmt} {f : Addr} {fd : FuncData} {N ps : List Str} {k : Nat}
/-- the body's context where p's exception is handled -/
abbrev CxBH (P : Program) (w : World) (K : PySem.W.Frag) (mg : Str → Option Value) (base : Heap) (N : List Str) (qual : Str) (st : Stmt) (f : Addr) (cdv : Value) (A : Around) (outer : List PySem.Env) (s : Shared) (H : Hp) (E : XK) (p : Addr × Obj) : Cx :=
  (L2H.cxH (L2.CX P w) P w K mg base N qual (defScope st) f cdv A outer s H E p).nox
theorem def_RH {S : List D → R → Prop} (F : Fun K x qual st f fd) (sc : FnScope N ps (defScope st)) (len : ∀ ds r, S ds r → ds.length = ps.length)
    (hb : ∀ (cdv : Value) (A : Around) (outer : List PySem.Env) (s : Shared) (H : Hp) (E : XK) (p : Addr × Obj), L2H.Hot1 (CxBH P w K mg base N qual st f cdv A outer s H E p).A p → L2H.RoomH k (CxBH P w K mg base N qual st f cdv A outer s H E p).A → ∀ ds r, S ds r →
      WB (CxBH P w K mg base N qual st f cdv A outer s H E p) [] (defBody st) (ds.map .im ++ List.replicate (N.length - (ds.map SV.im).length) .un) { nx := fun _ => r = .im .non, rt := fun r' ρ' => Rt [] ρ' r r' }) :
    L2H.FnH P w K mg base (L2.CX P w) (k + 1) f fd ps (spP K S) := by
  obtain ⟨oc, od, kV, doc, pm, an, cdv, ct, osl, rfl, lk, hcd⟩ := F.ex
  refine L2H.fn_ofH lk hcd sc (fun vs H Q E h => ?_) fun A outer s H vs Q E p hot hr h => ?_
  · obtain ⟨ds, r, hS, F, rel, _⟩ := h
    have := rel.len
    rw [List.length_map, List.length_map] at this
    rw [this, len ds r hS]
  · exact body_PX (X := L2H.cxH (L2.CX P w) P w K mg base N qual (defScope st) f cdv A outer s H E p) (fun ds r hS => hb cdv A outer s H E p hot hr ds r hS) h
end
theorem FnX.ofH {X : Cx} {k : Nat} {f : Addr} {fd : FuncData} {ps : List Str} {sp : Sp} {p : Addr × Obj} (F : L2H.FnH X.prog X.w X.K X.mg X.base (L2.CX X.prog X.w) k f fd ps sp) (bi : Binds X.K fd ps []) (hp : L2H.Hot1 X.A p) (hm : p ∈ X.pn) : FnX X k f sp := fun A pins σ s H us vs Q E I hf hr e0 r hs => by
  have hl : us.length = ps.length := by rw [← r.length]; exact F.len _ _ _ _ hs
  have b := bi s us I.kIn (by rw [List.append_nil]; exact hl)
  rw [List.append_nil] at b
  obtain ⟨p1, p2, p3, p4, p5⟩ := I.pin p (List.mem_append_left _ hm)
  exact F.run A X.stack s H ⟨us, []⟩ us vs Q E p ⟨hr.dp, hr.un⟩ ⟨hr.hd.trans hp.1, hp.2⟩ ⟨p1, p2, fun z => (List.mem_cons.mp (I.stkSub p.1 z)).elim p3 p4, p5⟩ e0 b r hs
/-- the own __repr__s, where an exception is handled -/
def RpGH (P : Program) (w : World) (K : PySem.W.Frag) (mg : Str → Option Value) (base : Heap) (own : Addr → List (Str × D) → Option Str) (n : Nat) : Prop :=
  ∀ C gs t, own C gs = some t → ∃ (f : Addr) (fd : FuncData) (ps : List Str) (S : List D → R → Prop), PySem.W.findIn K (.ref C) "__repr__" = some (some (.ref f)) ∧ PySem.W.isFn K (.ref f) = true ∧ L2H.FnH P w K mg base (L2.CX P w) n f fd ps (spP K S) ∧ Binds K fd ps [] ∧ S [.ins C gs] (.im (.str t))
structure RpXH (X : Cx) (own : Addr → List (Str × D) → Option Str) (m : Nat) : Prop where
  ex : ∃ n, (∀ C gs t, own C gs = some t → ShowI X n C gs t) ∧ X.A.guards = some [] ∧ RoomZ X (n + m + 2) X.A
theorem RpGH.x {X : Cx} {own : Addr → List (Str × D) → Option Str} {n m : Nat} {p : Addr × Obj} (G : RpGH X.prog X.w X.K X.mg X.base own n) (hp : L2H.Hot1 X.A p) (hm : p ∈ X.pn) (hg : X.A.guards = some []) (hr : RoomZ X (n + m + 2) X.A) : RpXH X own m :=
  ⟨n, fun C gs t e => let ⟨f, fd, ps, S, h1, h2, F, bi, h3⟩ := G C gs t e; ⟨f, S, h1, h2, FnX.ofH F bi hp hm, h3⟩, hg, hr⟩
section
variable {X : Cx} {e : Expr} {p pos : Pos} {ρ ρ1 : Env} {r1 : R} {d : D} {t : Str} {m : Nat} {own : Addr → List (Str × D) → Option Str}
theorem we_rpTH (bi : Bi X.mg) (rp : RpXH X own m) (ha : WE X e ρ r1 ρ1) (ca : r1.con ρ1 = some d) (ht : TxD own m d t) (hg : Gl X "repr" := by rfl) (he : starEach [e] X.env = (false, eval e X.env) :: starEach [] X.env := by rfl) : WE X (.Call (.Name "repr" p) [e] [] pos) ρ (.im (.str t)) ρ1 :=
  let ⟨n, h1, h2, h3⟩ := rp.ex
  we_rprI bi h1 h2 h3 ha ca ht.tx (Nat.le_trans ht.sz (by decide)) ht.dp (bi.get _ (by decide +kernel)) hg he
end
/-! ### a comprehension there -/
theorem tI_tup {K : PySem.W.Frag} {ρ ρ1 : Env} {ds : List D} {σ : L2.St} {H : Hp} {Rr : It → Hp → Prop} (h : tI K ρ [] ds ρ1 σ H Rr) : iTup K (tE K ρ (.im (.tup ds)) ρ1) σ H Rr := by
  obtain ⟨F, rel, k⟩ := h
  refine ⟨F, rel, fun v F1 H1 rel1 st1 q => ?_⟩
  have q : Rep K F1 v (.tup ds) := q
  cases q with
  | tup hs r =>
    rename_i a vs
    refine ⟨a, rfl, ⟨vs, ex_t rel1.ex hs⟩, k _ F1 H1 rel1 st1 fun i ρ2 σ2 F2 H2 rel2 e2 _ => ⟨fun hi => ⟨vs, ex_t (e2.trans rel2.ex) hs, by rw [r.length]; exact hi⟩, fun d hd => ?_⟩⟩
    obtain ⟨x, hx, rx⟩ := r.get hd
    refine ⟨⟨vs, x, ex_t (e2.trans rel2.ex) hs, hx⟩, fun y H3 ⟨e3, hy⟩ => ?_⟩
    subst e3
    have e4 := hy vs (ex_t (e2.trans rel2.ex) hs)
    rw [hx] at e4
    cases e4
    exact ⟨F2, rel2, Stp.refl, rx.mono e2⟩
theorem we_lcH {X : Cx} {α : Type} {p : Addr × Obj} (hp : L2H.Hot1 X.A p) (hm : p ∈ X.pn) (as : List α) (cd g : α → D) {scope : Scope} {tg iter elt : Expr} {pos : Pos} {ρ ρ1 ρw : Env} {ds : List D} (own : List (Str × Nat)) (hi : WE X iter ρ (.im (.tup ds)) ρ1) (hds : ds = as.map cd)
    (hw : wipeE ρ1 (own.map (·.2)) = ρw) (hs : ∀ (i : Nat) a, as[i]? = some a → LcS X scope own ρw tg elt (cd a) (g a))
    (ok : BlkOk X.N X.env.scope scope own) (hz : as.length ≤ 100000) (hN : X.N.Nodup := by first | assumption | decide +kernel) (hf : ∀ x, foldedSetIterable iter X.env x = pure x := by intro _; rfl) :
    WE X (.ListComp elt [⟨tg, iter, [], 0⟩] scope pos) ρ (.fr (.lst (as.map g))) ρw := by
  subst hds
  refine PE.imp (pe_lcHot hp hm hN hi ok (fun _ _ _ _ _ => pg_b) (fun _ _ _ _ _ => pt_b) (fun _ _ _ _ _ => pe_b) hf) fun σ H Q h => ?_
  have key := run_lc (X := X) (scope := scope) (tg := tg) (elt := elt) (ifs := []) (bs := []) (ds := as.map cd) (ρ := ρ) (ρ1 := ρ1) (ρ2 := ρw) (out := as.map g) (vs := own.map (·.2)) (σ := σ) (H := H) (Q := Q) (fun i ρ' acc => ρ' = ρw ∧ acc = (as.take i).map g ∧ i ≤ as.length) ⟨hw, by simp, Nat.zero_le _⟩ (fun i ρ' acc ⟨e1, e2, h⟩ => ⟨by rw [e1, ← hw, wipeE_len], by rw [e2, List.length_map, List.length_take]; omega⟩) (fun i d ρi acc hd ⟨e1, e2, h⟩ => ?_) (fun ρ' acc ⟨e1, e2, h⟩ => ⟨by rw [e2, List.length_map, List.take_length], e1⟩) (by rw [List.length_map]; exact hz) h (fun _ _ _ _ b hb => by cases hb)
  · obtain ⟨F, rel, k⟩ := key
    exact tI_tup ⟨F, rel, k⟩
  · rw [List.getElem?_map] at hd
    obtain ⟨a, ha, rfl⟩ := Option.map_eq_some_iff.mp hd
    have hlt : i < as.length := (List.getElem?_eq_some_iff.mp ha).1
    subst e1 e2
    obtain ⟨ρt, ρe, h1, h2, h3, h4, h5⟩ := (hs i a ha).ex
    refine ⟨ρt, true, ρt, h1, h4, bt_nil, h4, fun _ => ⟨g a, ρe, h2, h5, h3, ?_, hlt⟩, fun z => by cases z⟩
    rw [List.take_add_one, ha, List.map_append]
    rfl
end Z
set_option maxRecDepth 100000
set_option maxHeartbeats 4000000
/-! Z38: raising, told with the context of what is raised (None); except .. as, the suite knowing it. -/
namespace Z
open PySem PySem.Spec PyProof.Rows L2 Evl ClX NdefX
section
variable {P : Program} {w : World} {K : PySem.W.Frag} {mg : Str → Option Value} {base : Heap} {k : Nat} {f : Addr} {sp : Sp}
/-- who lets nothing out lets nothing out -/
theorem FnG.toN (F : FnG P w K mg base (L2.CX P w) k f sp) (h : ∀ vs H Q E, sp vs H Q E → sp vs H Q EF) : FnG P w K mg base (L2N.CX P w) k f sp := fun A outer s H us vs Q E hg hr e0 r hs =>
  codeAny_mono (F A outer s H us vs Q EF hg hr e0 r (h _ _ _ _ hs)) fun res s' q => by
    cases res with
    | error e => obtain ⟨_, _, _, _, _, _, _, _, _, _, _, _, z⟩ := q; exact z.elim
    | ok fl => cases fl <;> exact q
end
section
variable {X : Cx} {pins : List (Addr × Obj)} {σ : L2.St} {C fI : Addr} {B i newId : String} {bmB : List Value} {x : Str} {p pos pos2 : Pos} {e : Expr} {es : List Expr} {k : Nat} {sp : Sp} {ta : TA} {W : WX} {pn : List Nat} {rest : List Stmt} {ρ ρ1 ρ2 : Env} {ds : List D} {gs : List (Str × D)} {S : List D → List (Str × D) → Prop}
theorem run_mkxN {s1 : Shared} {H1 : Hp} {us : List Value} {vs : List V} {Q : XK} (T : ExC X.K C fI B i newId bmB) (F1 : FnG X.prog X.w X.K X.mg X.base (L2.CX X.prog X.w) k fI sp) (hgu : X.A.guards = some []) (hr : Room (k + 1) X.A) (I1 : Inv X pins σ H1 s1) (r1 : Vals vs us) (hz : vs.length ≤ 1000)
    (q1 : ∀ a, H1 a = none → sp (.ref a :: vs) (upd H1 a (exo a C none)) (MkQ a C H1 Q) EF) : wpAny (model X.prog X.w) X.A (call (.ref C) us) (L2N.MkP X pins σ Q) X.xe s1 := by
  obtain ⟨nm, N', qn, bs, bm, hdct, sn, sub, ab, col, dd, k0, k1, k2, k3, k5, hC, hT⟩ := PySem.W.excInit_of I1.kIn T.q
  obtain ⟨hp, g, dr, tk, os⟩ := s1
  have hsz : hp.objs.size ≤ hp.objs.size + 1 := Nat.le_succ _
  have hn : H1 (hp.objs.size + 1) = none := I1.hok.fresh hsz
  have hq := q1 (hp.objs.size + 1) hn
  have kk : ∀ b o, hp.get? b = some o → ((hp.push (PySem.W.kdv_tup us)).push (PySem.HandSPX.excO C hp.objs.size)).get? b = some o := fun b o e => Heap.get?_push_of_some _ (Heap.get?_push_of_some _ e)
  have hget : ((hp.push (PySem.W.kdv_tup us)).push (PySem.HandSPX.excO C hp.objs.size)).get? (hp.objs.size + 1) = some (PySem.HandSPX.excO C hp.objs.size) := by heap_get
  have I2 : Inv X pins σ (upd H1 (hp.objs.size + 1) (exo (hp.objs.size + 1) C none)) ⟨(hp.push (PySem.W.kdv_tup us)).push (PySem.HandSPX.excO C hp.objs.size), g, dr, tk, os⟩ :=
    I1.laid (t' := tk) (a := hp.objs.size + 1) (o := exo (hp.objs.size + 1) C none) (h' := (hp.push (PySem.W.kdv_tup us)).push (PySem.HandSPX.excO C hp.objs.size)) kk hsz (exo_ok hget)
  have r2 : Vals (V.ref (hp.objs.size + 1) :: vs) (Value.ref (hp.objs.size + 1) :: us) := .cons rfl r1
  have hus : us.length ≤ sizeLine := by
    rw [← Paired.length r1, sizeLine_eq]
    omega
  refine wpAny_call (PySem.PX.call_own T.FB hT hC (PySem.W.looks_findIn I1.kIn T.init) (fun self => PySem.W.bind_fn I1.kIn self T.tI) hus
    (codeAny_mono (F1 _ X.stack _ _ (Value.ref (hp.objs.size + 1) :: us) _ _ EF hgu (hr.make C us []) (I2.env0.make C us []) r2 hq) fun r s' hq' => ?_))
  cases r with
  | error er => exact passF pins σ _ _ er s' I2 hq'
  | ok fl =>
    cases fl with
    | ret u =>
      obtain ⟨v, H2, os2, bare2, un2, hok2, rv, ev, hh⟩ := hq'
      subst ev
      obtain ⟨h2, g2, d2, t2, os'⟩ := s'
      refine ⟨rv, ?_⟩
      rcases hh with ⟨ea, q2⟩ | ⟨d, fs, ea, ed, hd1, q2⟩
      · obtain ⟨t0, G, J, kG, ge, hoe, na⟩ := mk_endN (d2 := d2) (t2 := t2) I1 hsz kk un2 hok2 os2 bare2 ea
        exact ⟨_, _, _, ⟨G, g2, d2, t2, os'⟩, _, .ref C, none, rfl, J, kG, ge, hoe, ⟨rfl, rfl, fun vs e => by cases e; rfl⟩, rfl, rfl, na, rfl, bare2, raises_own T.exC T.tyC, q2⟩
      · obtain ⟨t0, G, J, kG, ge, hoe, na⟩ := mk_end0 (d2 := d2) (t2 := t2) I1 hsz kk un2 hok2 os2 bare2 ea ed hd1
        exact ⟨_, _, _, ⟨G, g2, d2, t2, os'⟩, _, .ref C, some d, rfl, J, kG, ge, hoe, ⟨rfl, rfl, fun vs e => by cases e; rfl⟩, rfl, rfl, na, rfl, bare2, raises_own T.exC T.tyC, q2⟩
    | next => exact False.elim hq'
    | brk => exact False.elim hq'
    | cont => exact False.elim hq'
theorem pmk_xN (T : ExC X.K C fI B i newId bmB) (F1 : FnG X.prog X.w X.K X.mg X.base (L2.CX X.prog X.w) k fI sp) (hgu : X.A.guards = some []) (hr : Room (k + 1) X.A) (hm : X.mg x = some (.ref C)) (ha : PA X (e :: es) ta) (hg : Gl X x := by rfl)
    (hdb : (x == ("__debug__" : Str)) = false := by decide) (he : starEach (e :: es) X.env = (false, eval e X.env) :: starEach es X.env := by rfl) (hpl : (backTo pos (starEach es X.env)).any (·.1) = false := by rfl) :
    L2N.PMk X (.Call (.Name x p) (e :: es) [] pos) (fun σ H Q => ta σ H fun vs H1 => vs.length ≤ 1000 ∧ ∀ a, H1 a = none → sp (.ref a :: vs) (upd H1 a (exo a C none)) (MkQ a C H1 Q) EF) := by
  intro pins s σ H Q I h
  refine wpAny_Call_Name_kw (ld_glob I hg hm ?_ hdb)
  refine PySem.W.callWith_K (h₀ := X.base) I.ok.mod.kin T.kp (thn (ha.run pos pins s σ H _ I h) fun us s1 ⟨vs, H1, I1, r1, hz, q1⟩ => ⟨I1.kIn, ?_⟩) he hpl
  exact run_mkxN T F1 hgu hr I1 r1 hz q1
/-- what pmk_v's reading gives the object's maker -/
theorem tPV_mk (hz : ds.length ≤ 1000) (hS : S ds gs) {σ : L2.St} {H : Hp} {Q : XK} (h : tPV X.K ρ C gs ρ1 σ H Q) : ∃ F, Rel X.K F ρ σ H ∧ ∀ vs F1 H1, Rel X.K F1 ρ1 σ H1 → Stp ρ σ F H ρ1 σ F1 H1 → Reps X.K F1 vs ds → vs.length ≤ 1000 ∧ ∀ a, H1 a = none → spIv X.K C S (.ref a :: vs) (upd H1 a (exo a C none)) (MkQ a C H1 Q) EF := by
  obtain ⟨F, rel, q⟩ := h
  refine ⟨F, rel, fun vs F1 H1 rel1 st1 rd => ⟨by rw [rd.length]; exact hz, fun a ha => ?_⟩⟩
  have nA : ∀ {b : Addr} {o : HO}, H1 b = some o → b ≠ a := fun {b o} h => ne_of_none h ha
  refine ⟨a, vs, ds, gs, F1, rfl, upd_same, rel1.newF ha, fun b o h => ?_, rd, hS, fun H2 fs H' up im hl => ⟨rfl, ?_⟩⟩
  · have := rel1.ex b o h
    rw [upd_ne (nA this)]
    exact this
  have up1 : ∀ b o, H1 b = some o → H2 b = some o := fun b o h => up b o (by rw [upd_ne (nA h)]; exact h)
  have done : ∀ F' H3 d, (∀ b o, H1 b = some o → H3 b = some o ∧ F' b = F1 b) → Ex F' H3 → XFs X.K F' d gs → Q (.ref C) d H3 := fun F' H3 d keep ex xf =>
    q F' H3 d (rel1.keepAll keep ex) (st1.trans rel ⟨fun b o h _ => keep b o h, fun b z => .inl z, fun b h => by
      cases z : H1 b with
      | none => exact absurd z h
      | some o => rw [(keep b o z).1]; exact fun z => by cases z⟩) xf
  rcases im with ⟨rfl, rfl, ea⟩ | ⟨dx, ea, hn, hne, rfl⟩
  · refine .inl ⟨ea, done F1 _ none (fun b o h => ⟨by rw [del_ne (nA h)]; exact up1 b o h, rfl⟩) (fun b o h => ?_) fun f g hfg => ?_⟩
    · have := rel1.ex b o h
      rw [del_ne (nA this)]
      exact up1 b o this
    · obtain ⟨v, h, _⟩ := hl f g hfg
      cases h
  · have hn1 : H1 dx = none := by
      cases z : H1 dx with
      | none => rfl
      | some o => rw [up1 dx o z] at hn; cases hn
    have nD : ∀ {b : Addr} {o : HO}, H1 b = some o → b ≠ dx := fun {b o} h => ne_of_none h hn1
    have fin : ∀ b o, H1 b = some o → upd (del (upd (upd H2 dx (exd dx fs)) a (exo a C (some dx))) a) dx (.xd fs) b = some o := fun b o h => by
      rw [upd_ne (nD h), del_ne (nA h), upd_ne (nA h), upd_ne (nD h)]
      exact up1 b o h
    refine .inr ⟨dx, fs, upd_same, by rw [upd_ne hne, upd_same], hn1, done (upd F1 dx (.xd fs)) _ _ (fun b o h => ⟨fin b o h, upd_ne (nD h)⟩) (fun b o h => ?_) fun f g hfg => ?_⟩
    · by_cases hb : b = dx
      · subst hb
        rw [upd_same] at h ⊢
        exact h
      · rw [upd_ne hb] at h
        exact fin b o (rel1.ex b o h)
    · obtain ⟨v, h, r⟩ := hl f g hfg
      exact ⟨dx, fs, v, rfl, upd_same, h, r.mono (ex_put (rel1.newF hn1))⟩
theorem pmk_eN (E : ErrC X x C S) (ha : WA X (e :: es) ρ ds ρ1) (hS : S ds gs) (hz : ds.length ≤ 1000 := by exact Nat.le_of_ble_eq_true rfl) (hg : Gl X x := by rfl)
    (hdb : (x == ("__debug__" : Str)) = false := by decide) (he : starEach (e :: es) X.env = (false, eval e X.env) :: starEach es X.env := by rfl) (hpl : (backTo pos (starEach es X.env)).any (·.1) = false := by rfl) :
    L2N.PMk X (.Call (.Name x p) (e :: es) [] pos) (tPV X.K ρ C gs ρ1) := by
  obtain ⟨fI, B, i, newId, bmB, k, T, F, hgu, hr⟩ := E.ex
  exact fun pins s σ H Q I h => pmk_xN T F hgu hr E.mg ha hg hdb he hpl pins s σ H Q I (by
    obtain ⟨F0, rel, kk⟩ := tPV_mk hz hS h
    exact ⟨F0, rel, kk⟩)
theorem rv_errN (hc : X.calm = true) (tk : L2N.Takes X W) (E : ErrC X x C S) (ha : WA X (e :: es) ρ ds ρ1) (hS : S ds gs) (hz : ds.length ≤ 1000 := by exact Nat.le_of_ble_eq_true rfl) (hg : Gl X x := by rfl)
    (hdb : (x == ("__debug__" : Str)) = false := by decide) (he : starEach (e :: es) X.env = (false, eval e X.env) :: starEach es X.env := by rfl) (hpl : (backTo pos (starEach es X.env)).any (·.1) = false := by rfl) :
    RBv X W pn (.Raise (some (.Call (.Name x p) (e :: es) [] pos)) none pos2 :: rest) ρ C gs ρ1 :=
  rv_st (PS.imp (L2N.ps_raise hc tk (pmk_eN E ha hS hz hg hdb he hpl)) fun D σ H ⟨F, rel, w⟩ => ⟨F, rel, fun F' H' d rel' st' xf => w σ F' H' d rel' st' Pin.refl xf⟩)
end
/-! ### calls that raise so -/
structure CallN (X : Cx) (x : Str) (sp : Sp) : Prop where
  run : ∃ f k, FnG X.prog X.w X.K X.mg X.base (L2N.CX X.prog X.w) k f sp ∧ X.A.guards = some [] ∧ Room k X.A ∧ X.mg x = some (.ref f) ∧ PySem.W.keepIn X.K (.ref f) = true
structure GFnN (P : Program) (w : World) (K : PySem.W.Frag) (mg : Str → Option Value) (base : Heap) (x : Str) (k : Nat) (sp : Sp) : Prop where
  ex : ∃ f, FnG P w K mg base (L2N.CX P w) k f sp ∧ mg x = some (.ref f) ∧ PySem.W.keepIn K (.ref f) = true
theorem GFnN.call {X : Cx} {x : Str} {k : Nat} {sp : Sp} (G : GFnN X.prog X.w X.K X.mg X.base x k sp) (hg : X.A.guards = some []) {j : Nat} (hr : Room j X.A) (h : k ≤ j := by omega) : CallN X x sp := by
  obtain ⟨f, F, h1, h2⟩ := G.ex
  exact ⟨f, k, F, hg, hr.mono h, h1, h2⟩
theorem gofN {P : Program} {w : World} {K : PySem.W.Frag} {mg : Str → Option Value} {base : Heap} {x : Str} {k : Nat} {sp : Sp} {st : Stmt} (F : FAt K mg x st) (h : ∀ f fd, Fun K x x st f fd → FnG P w K mg base (L2N.CX P w) k f sp) : GFnN P w K mg base x k sp := by
  obtain ⟨f, fd, F, m⟩ := F.ex
  exact ⟨f, h f fd F, m, F.kp⟩
/-- a pure def, told so -/
theorem GFn.toN {P : Program} {w : World} {K : PySem.W.Frag} {mg : Str → Option Value} {base : Heap} {x : Str} {k : Nat} {S : List D → R → Prop} (G : GFn P w K mg base x k (spP K S)) : GFnN P w K mg base x k (spP K S) := by
  obtain ⟨f, F, h1, h2⟩ := G.ex
  exact ⟨f, F.toN fun vs H Q E h => h, h1, h2⟩
section
variable {X : Cx} {W : WX} {pn : List Nat} {e : Expr} {es : List Expr} {pos p : Pos} {x : Str} {ρ ρ1 : Env} {C : Addr} {gs : List (Str × D)} {ds : List D} {S : List D → Addr → List (Str × D) → Prop} {t : TA} {sp : Sp}
theorem pe_callN (tk : L2N.Takes X W) (G : CallN X x sp) (ha : PA X (e :: es) t) (hg : Gl X x := by rfl)
    (hdb : (x == ("__debug__" : Str)) = false := by decide) (he : starEach (e :: es) X.env = (false, eval e X.env) :: starEach es X.env := by rfl) (hpl : (backTo pos (starEach es X.env)).any (·.1) = false := by rfl) :
    PE X (.Call (.Name x p) (e :: es) [] pos) (fun σ H Q => t σ H fun vs H1 => sp vs H1 Q (L2.WE W σ)) := by
  obtain ⟨f, k, F, hgu, hr, hm, hk⟩ := G.run
  refine ⟨fun pins s σ H Q I h => ?_⟩
  refine wpAny_Call_Name_kw (ld_glob I hg hm ?_ hdb)
  refine PySem.W.callWith_K (h₀ := X.base) I.ok.mod.kin hk (thn (ha.run pos pins s σ H _ I h) fun us s1 ⟨vs, H1, I1, r1, q1⟩ => ⟨I1.kIn, ?_⟩) he hpl
  exact wpAny_call (run_fnGS F hgu hr (L2N.passAt tk σ) I1 r1 q1)
theorem rv_callN (tk : L2N.Takes X W) (G : CallN X x (spXv X.K S)) (ha : WA X (e :: es) ρ ds ρ1) (hS : S ds C gs) (hg : Gl X x := by rfl)
    (hdb : (x == ("__debug__" : Str)) = false := by decide) (he : starEach (e :: es) X.env = (false, eval e X.env) :: starEach es X.env := by rfl) (hpl : (backTo pos (starEach es X.env)).any (·.1) = false := by rfl) : REv X W (.Call (.Name x p) (e :: es) [] pos) ρ C gs ρ1 :=
  PE.imp (pe_callN tk G ha hg hdb he hpl) fun σ H Q ⟨F, rel, kk⟩ => ⟨F, rel, fun vs F1 H1 rel1 st1 rd => backXv rel rel1 st1 rd hS kk⟩
theorem rv_callAN (tk : L2N.Takes X W) (G : CallN X x sp) (ha : RAv X W (e :: es) ρ C gs ρ1) (hg : Gl X x := by rfl)
    (hdb : (x == ("__debug__" : Str)) = false := by decide) (he : starEach (e :: es) X.env = (false, eval e X.env) :: starEach es X.env := by rfl) (hpl : (backTo pos (starEach es X.env)).any (·.1) = false := by rfl) : REv X W (.Call (.Name x p) (e :: es) [] pos) ρ C gs ρ1 :=
  PE.imp (pe_callN tk G ha hg hdb he hpl) fun σ H Q z => z
end
section
variable {P : Program} {w : World} {K : PySem.W.Frag} {mg : Str → Option Value} {base : Heap} {x qual : Str} {st : Stmt} {f : Addr} {fd : FuncData} {N ps : List Str} {k : Nat}
/-- the context of a def that raises -/
abbrev CxN (P : Program) (w : World) (K : PySem.W.Frag) (mg : Str → Option Value) (base : Heap) (N : List Str) (qual : Str) (st : Stmt) (f : Addr) (cdv : Value) (A : Around) (outer : List PySem.Env) (s : Shared) (H : Hp) (E : XK) : Cx :=
  cxOf (L2N.CX P w) P w K mg base N qual (defScope st) f cdv A outer s H E
theorem def_XvN {S : List D → Addr → List (Str × D) → Prop} (F : Fun K x qual st f fd) (sc : FnScope N ps (defScope st)) (bi : Binds K fd ps []) (len : ∀ ds C gs, S ds C gs → ds.length = ps.length)
    (hb : ∀ (cdv : Value) (A : Around) (outer : List PySem.Env) (s : Shared) (H : Hp) (E : XK) (W : WX), L2N.Takes (CxN P w K mg base N qual st f cdv A outer s H E) W → (CxN P w K mg base N qual st f cdv A outer s H E).A.guards = some [] → Room k (CxN P w K mg base N qual st f cdv A outer s H E).A → ∀ ds C gs, S ds C gs → ∃ ρ', RBv (CxN P w K mg base N qual st f cdv A outer s H E) W [] (defBody st) (ds.map .im ++ List.replicate (N.length - (ds.map SV.im).length) .un) C gs ρ') :
    FnG P w K mg base (L2N.CX P w) (k + 1) f (spXv K S) := by
  obtain ⟨oc, od, kV, doc, pm, an, cdv, ct, osl, rfl, lk, hcd⟩ := F.ex
  refine (g_of (sp := spXv K S) (dvs := []) lk hcd sc bi .nil (fun vs H Q E h => ?_) fun A outer s H vs Q E hg hr h => ?_).imp fun vs H Q E h => by rw [List.append_nil]; exact h
  · obtain ⟨ds, C, gs, hS, F, rel, _⟩ := h
    have := rel.len
    rw [List.length_map, List.length_map] at this
    rw [this, len ds C gs hS]
  · obtain ⟨ds, C, gs, hS, F, rel, e⟩ := h
    have hl : vs.length = (ds.map SV.im).length := by have := rel.len; rwa [List.length_map] at this
    have tk : L2N.Takes (CxN P w K mg base N qual st f cdv A outer s H E) (fun cls d _ H => E cls d H) := L2N.takes_of rfl rfl rfl rfl
    obtain ⟨ρ', hrb⟩ := hb cdv A outer s H E _ tk hg hr ds C gs hS
    refine ⟨_, hrb, F, rel_start rel, fun σ' F' H' d rel' st' p' xf => ?_⟩
    have keep : ∀ a o, H a = some o → H' a = some o ∧ F' a = F a := fun a o h => st'.keep a o h fun z => no_owns (owns_start hl z)
    refine e F' H' d (rel.keepAll keep rel'.ex) ⟨fun a o h _ => keep a o h, fun a z => .inl z, fun a h => ?_⟩ xf
    cases q : H a with
    | none => exact absurd q h
    | some o => rw [(keep a o q).1]; exact fun z => by cases z
end
section
variable {X : Cx} {pn : List Nat} {body suite rest : List Stmt} {b₀ : Stmt} {np pos pos' : Pos} {ρ ρ1 : Env} {P : Post} {x n : Str} {c : Value} {C : Addr} {gs : List (Str × D)} {i : Nat}
theorem wb_try_asN (hb : ∀ (W : WX) (pnp : List (Addr × Obj)) (xe : Value → Shared → Prop), L2N.Takes (X.tr pnp xe) W → RBv (X.tr pnp xe) W pn body ρ C gs ρ1) (hx : PySem.W.exmOne X.K (.ref C) c = some true) (nd : (gs.map (·.1)).Nodup) (hn : gs ≠ [])
    (hsu : ∀ (a dd : Addr) (oe : Obj) (pl : List (Addr × Obj)), Caught (X.suite a ((a, oe) :: pl)) a dd C → L2H.Hot1 (X.suite a ((a, oe) :: pl)).A (a, oe) → WB (X.suite a ((a, oe) :: pl)) pn (b₀ :: suite) (ρ1.set i (.im (.exc a dd gs))) { nx := fun ρ' => WB X pn rest (ρ'.set i .un) P, rt := P.rt, bk := fun ρ' => P.bk (ρ'.set i .un), ct := fun ρ' => P.ct (ρ'.set i .un) })
    (hc : Names X x c) (hi : X.N[i]? = some n) (hp : i ∉ pn) (hl : i < ρ1.length) (hun : ρ1[i]? = some .un) (hN : X.N.Nodup := by first | assumption | decide +kernel) (hln : X.env.kindOf n = some .local := by rfl) (hst : X.stack = X.env :: X.outer := by rfl) (hf : X.env.frame = some X.env.locals := by rfl) :
    WB X pn (.Try body [.ExceptHandler (some (.Name x np)) (some n) (b₀ :: suite) pos'] [] [] pos :: rest) ρ P := by
  refine wb_cons (M := fun ρ' => WB X pn rest ρ' P) ?_ fun _ g => g
  have tk : L2N.Takes X (fun _ _ _ _ => False) := fun u s' ⟨_, _, _, _, _, _, _, _, _, _, _, _, _, _, _, _, w⟩ => w.elim
  refine PS.imp (L2N.ps_try_as hst hf hN hi hln hc tk (tb := fun W => tXv X.K W pn ρ C gs ρ1) (ts := fun a cls d Dn σ H => ∃ dd, cls = .ref C ∧ d = some dd ∧ tS X.K pn (ρ1.set i (.im (.exc a dd gs))) { nx := fun ρ' => WB X pn rest (ρ'.set i .un) P, rt := P.rt, bk := fun ρ' => P.bk (ρ'.set i .un), ct := fun ρ' => P.ct (ρ'.set i .un) } Dn σ H)
    (fun W pnp xe t _ => hb W pnp xe t) fun a oe cls d pl hz hfl => ⟨fun pins s σ H D I ⟨dd, e1, e2, h⟩ => by
      subst e1; subst e2
      obtain ⟨vs, hvs⟩ := hfl
      exact (hsu a dd oe pl ⟨X, oe, pl, rfl, hz.zc, ⟨vs, hvs⟩⟩ ⟨rfl, vs, hvs, hz.2.2 vs hvs⟩).run pins s σ H D I h⟩) fun Dn σ H ⟨F, rel, ka, kb, kc, kd⟩ => ?_
  refine ⟨F, rel, fun σ' F' H' d rel' st' p' xf => ⟨true, hx, fun _ a ha => ?_, fun z => by cases z⟩⟩
  obtain ⟨dd, hd, rx⟩ := xf.exc nd hn a
  have q : RepR X.K F' H H' ρ1 σ' (.ref a) (.im (.exc a dd gs)) := rx
  have r2 := set_rel rel' q (.im _) hl
  have s2 : Stp ρ σ F H (ρ1.set i (.im (.exc a dd gs))) (σ'.set i (some (.ref a))) F' H' := st'.trans rel (set_stp (H0 := H') Stp.refl (r := .im (.exc a dd gs)) (v := .ref a) rx (.im _))
  have p2 : Pin pn σ (σ'.set i (some (.ref a))) := p'.trans (pin_set hp)
  have clr : ∀ {G : Env → Prop} {N : L2.St → Hp → Prop}, To X.K pn ρ σ F H G N → To X.K pn (ρ1.set i (.im (.exc a dd gs))) (σ'.set i (some (.ref a))) F' H' (fun ρ' => G (ρ'.set i .un)) (fun σ'' H'' => N (σ''.set i none) H'') := fun {G N} t ρ3 σ3 F3 H3 rel3 st3 p3 g => by
    refine t _ _ F3 H3 (un_rel rel3) ((s2.trans rel st3).trans rel un_stp) ((p2.trans p3).trans (pin_set hp)) g
  exact ⟨dd, rfl, hd, F', r2, clr ka, kb.from rel s2 p2, clr kc, clr kd⟩
/-- own __repr__s in such a suite -/
theorem RpGH.inS {X : Cx} {own : Addr → List (Str × D) → Option Str} {n m j : Nat} {a : Addr} {oe : Obj} {pl : List (Addr × Obj)} (G : RpGH X.prog X.w X.K X.mg X.base own n) (h1 : L2H.Hot1 (X.suite a ((a, oe) :: pl)).A (a, oe)) (hg : X.A.guards = some []) (hr : Room j X.A) (h : n + m + 2 ≤ j := by omega) : RpXH (X.suite a ((a, oe) :: pl)) own m := by
  have hr := hr.mono h
  exact RpGH.x (X := X.suite a ((a, oe) :: pl)) G h1 (by simp) hg ⟨rfl, hr.dp, hr.un⟩
end
end Z
set_option maxRecDepth 100000
set_option maxHeartbeats 4000000
/-! Z39: name = [elt for ..], element by element. -/
namespace Z
open PySem PySem.Spec PyProof.Rows L2 Evl ClX
theorem ws_setL {X : Cx} {α : Type} (as : List α) (cd g : α → D) {pn : List Nat} {i : Nat} {y : Str} {py spos pos : Pos} {scope : Scope} {tg iter elt : Expr} {ρ ρ1 ρw : Env} {bs : List (Nat × D)} {ds : List D} (own : List (Str × Nat)) (hi : WI X tg iter ρ bs ds ρ1) (hds : ds = as.map cd)
    (hw : wipeE ρ1 (own.map (·.2)) = ρw) (hs : ∀ (i : Nat) a, as[i]? = some a → LcS X scope own ρw tg elt (cd a) (g a))
    (ok : BlkOk X.N X.env.scope scope own) (hz : as.length ≤ 100000) (hsw : swapsWith (.ListComp elt [⟨tg, iter, [], 0⟩] scope pos) (some (.Name y py)) spos.line X.env = pure true) (hy : findN X.N y = some i) (hl : i < ρw.length) (hbo : ∀ b ∈ bs, b.1 ∉ own.map (·.2) ∧ ρw[b.1]? = some (.own b.2))
    (hp : i ∉ pn := by first | decide | exact of_decide_eq_true rfl) (hyl : X.env.scope.names.lookup y = some .local := by rfl) (hc : X.calm = true := by rfl) (hN : X.N.Nodup := by first | assumption | decide +kernel) (hf : ∀ x, foldedSetIterable iter X.env x = pure x := by intro _; rfl) :
    WN X pn (.Assign [.Name y py] (.ListComp elt [⟨tg, iter, [], 0⟩] scope pos) spos) ρ (ρw.set i (.own (.lst (as.map g)))) := by
  subst hds
  refine ws_setLc (out := as.map g) (ρ2 := ρw) own hi (fun i ρ' acc => ρ' = ρw ∧ acc = (as.take i).map g ∧ i ≤ as.length) ⟨hw, by simp, Nat.zero_le _⟩ (fun i ρ' acc ⟨e1, e2, h⟩ => ⟨by rw [e1, ← hw, wipeE_len], by rw [e2, List.length_map, List.length_take]; omega⟩) (fun i d ρi acc hd ⟨e1, e2, h⟩ => ?_) (fun ρ' acc ⟨e1, e2, h⟩ => ⟨by rw [e2, List.length_map, List.take_length], e1⟩) (by rw [List.length_map]; exact hz) ok hsw hp hl (findN_at hy) hyl hc hN hf (fun i ρ acc ⟨e1, _, _⟩ b hb => by subst e1; exact hbo b hb)
  rw [List.getElem?_map] at hd
  obtain ⟨a, ha, rfl⟩ := Option.map_eq_some_iff.mp hd
  have hlt : i < as.length := (List.getElem?_eq_some_iff.mp ha).1
  subst e1 e2
  obtain ⟨ρt, ρe, h1, h2, h3, h4, h5⟩ := (hs i a ha).ex
  refine ⟨ρt, true, ρt, h1, h4, bt_nil, h4, fun _ => ⟨g a, ρe, h2, h5, h3, ?_, hlt⟩, fun z => by cases z⟩
  rw [List.take_add_one, ha, List.map_append]
  rfl
/-- an owned slot may be frozen at any time -/
theorem wb_frz {X : Cx} {pn : List Nat} {sts : List Stmt} {ρ : Env} {P : Post} {d : D} (i : Nat) (hi : ρ[i]? = some (.own d)) (h : WB X pn sts (ρ.set i (.im d)) P) : WB X pn sts ρ P := PSs.imp h fun D σ H ⟨F, rel, ka, kb, kc, kd⟩ => by
  obtain ⟨p, hs, hn, ho⟩ := rel.own i d hi
  obtain ⟨o, hop⟩ := ho.ob
  obtain ⟨r2, _, _⟩ := rel.freezeS hi hs hop
  have s2 : Stp ρ σ F H (ρ.set i (.im d)) σ (upd F p o) H := ⟨fun a u h n => ⟨h, upd_ne fun z => n ⟨i, d, hi, by rw [z]; exact hs⟩⟩, fun a z => .inl (owns_set (by simp) z), fun a h => h⟩
  exact ⟨_, r2, ka.from rel s2 Pin.refl, kb.from rel s2 Pin.refl, kc.from rel s2 Pin.refl, kd.from rel s2 Pin.refl⟩
/-- isinstance of a datum of a built-in kind, which stays whose it is -/
theorem we_isO {X : Cx} {a b : Expr} {pos p : Pos} {ρ ρ1 : Env} {r1 : R} {d c : D} {T : String} {u : Value} {kk : Bool} (bi : Bi X.mg) (ha : WE X a ρ r1 ρ1) (hb : WA X [b] ρ1 [c] ρ1) (ca : r1.con ρ1 = some d) (hd : d.kind = some T) (hc : c.cls = some u) (hk : PySem.W.kitOne X.K (.type T) u = some kk) (hg : Gl X "isinstance" := by rfl)
    (he : starEach [a, b] X.env = (false, eval a X.env) :: starEach [b] X.env := by rfl) (hpl : (backTo pos (starEach [b] X.env)).any (·.1) = false := by rfl) : WE X (.Call (.Name "isinstance" p) [a, b] [] pos) ρ (.im (.bl kk)) ρ1 := by
  obtain ⟨h1, h2, h3⟩ := kind_tyx hd
  refine PE.imp (pe_callB call_isi hg (bi.get _ (by decide +kernel)) rfl (wa1_cons ha hb he) (by decide) (by decide) he hpl) fun σ H Q ⟨F, rel, k⟩ => ⟨F, rel, fun v vs F1 H1 rel1 st1 q1 q2 => ?_⟩
  cases q2 with
  | cons q2 q =>
    cases q
    rename_i w
    have hcl : ClsV w u := by
      cases q2 <;> first | (cases hc; done) | (cases hc; first | exact .ty _ | exact .own _)
    have ty : TyX X.K H1 v (.type T) := by
      rcases q1.con rel1 ca with q | ⟨p, rfl, q⟩
      · exact tyx_of q rel1.ex h1 fun C gs e => absurd e (h3 C gs)
      · cases d with
        | lst xs => obtain ⟨vs, h, _⟩ := q; cases hd; exact .base (.lst h)
        | set xs => obtain ⟨S, n, h, _⟩ := q; cases hd; exact .set h
        | dct ds => obtain ⟨vs, h, _⟩ := q; cases hd; exact .base (.dK h)
        | ins C gs => exact absurd rfl (h3 C gs)
        | _ => exact (show False from q).elim
    exact ⟨v, w, _, u, kk, rfl, hcl, ty, hk, k _ F1 H1 rel1 st1 (.bl _)⟩
end Z
set_option maxRecDepth 100000
set_option maxHeartbeats 4000000
/-! Z40: an own error class, from tests that run. -/
namespace Z
open PySem PySem.Spec PyProof.Rows L2 Evl ClX
abbrev veB : List Value := [.type "ValueError", .type "Exception", .type "BaseException", .type "object"]
theorem refs_of : ∀ l : List Value, PySem.W.excTail veB l = true → PySem.HandSPX.refsVE l = true := by
  intro l
  induction l with
  | nil => intro e; cases (beq_iff_eq.mp e : ([] : List Value) = veB)
  | cons a r ih =>
    intro e
    rcases PySem.W.excTail_cases (a :: r) e with ⟨c, r', q, h⟩ | q
    · obtain ⟨rfl, rfl⟩ := List.cons.inj q
      exact ih h
    · rw [q]
      first | rfl | decide | decide +kernel
theorem oex_of {K : PySem.W.Frag} {C : Addr} (q : PySem.W.excInitIn K C veB "ValueError.__new__" = true) (hd : PySem.W.hasDictIn K C = true) (sa : PySem.W.findIn K (.ref C) "__setattr__" = some (some (.builtin "object.__setattr__")))
    (ex : PySem.W.subIn K (.ref C) (.type "BaseException") = some true) (ty : PySem.W.typeIn K (.ref C) = some (.type "type")) (kc : PySem.W.keepIn K (.ref C) = true) : OexC K C := by
  refine ⟨?_, sa, ex, ty, kc⟩
  obtain ⟨cd', hC, hdd⟩ := PySem.W.any_some hd
  unfold PySem.W.clsIn at hC
  unfold PySem.W.excInitIn at q
  split at q
  · rename_i dd cd sl ho
    rw [ho] at hC
    have hC := Option.some.inj hC
    subst hC
    split at q
    · rename_i C' bm k0 k1 k2 k3 n k5 hm hs
      simp only [Bool.and_eq_true, beq_iff_eq, Bool.not_eq_true'] at q
      obtain ⟨⟨⟨rfl, rfl⟩, hdel⟩, ht⟩ := q
      obtain ⟨nm, bs, mro, ns, qn, hd, sn, sub, ab, col, del⟩ := cd
      dsimp only at hm hdel hdd
      subst hm hdel hdd
      obtain ⟨l⟩ := sl
      simp only at hs
      subst hs
      exact ⟨nm, qn, ns, bs, bm, sn, sub, ab, col, dd, k0, k1, k2, k3, k5, ho, refs_of _ ht⟩
    · cases q
  · cases q
end Z
set_option maxRecDepth 100000
/-! the rules put in rows -/
local macro_rules | `(tactic| walk_at "zZ") => `(tactic| first | exact Z.Frz.im _ _ | exact Z.Frz.fr _ _ | exact Z.Frz.sl _ rfl)
local macro_rules | `(tactic| walk_at "zSt") => `(tactic| first | exact Z.StoZ.im _ _ | exact Z.StoZ.fr _ _ | exact Z.StoZ.sl _ rfl)
local macro_rules | `(tactic| walk_at "zSf") => `(tactic| first | exact Z.Sfr.im _ _ | exact Z.Sfr.fr _ _ | exact Z.Sfr.sl _ rfl)
local macro_rules | `(tactic| walk_at "zNf") => `(tactic| first | exact Z.Nfr.im _ | exact Z.Nfr.fr _ | exact Z.Nfr.sl _)
local macro_rules | `(tactic| walk_at "zSr") => `(tactic| first | exact Z.Src.im _ | exact Z.Src.own _ _ rfl)
local macro_rules | `(tactic| walk_at "zIt") => `(tactic| first | with_reducible assumption | assumption | exact Z.IterZ.im _ _ | exact Z.IterZ.fr _ _ | exact Z.IterZ.tup _ _ | exact Z.IterZ.sl _ rfl)
local macro_rules | `(tactic| walk_at "zQ") => `(tactic| first | with_reducible assumption | assumption | rfl | decide | omega | exact ⟨by omega, by omega⟩ | exact ⟨by omega, by omega, by omega⟩ | exact ⟨by decide, by decide⟩ | exact ⟨by decide, by decide, by decide⟩ | exact .inr (by decide) | exact .inl (by omega))
local macro_rules | `(tactic| walk_at "zMul") => `(tactic| first | with_reducible assumption | assumption | exact L2.wide_mul (a := 60) (b := 60) (by omega) (by omega) (by decide) (by decide) (by decide))
local macro_rules | `(tactic| walk_at "zO") => `(tactic| first
  | exact Z.bv_add
  | exact Z.bv_sub
  | (refine' Z.bv_mul ?zqc; try (case zqc => walk_at "zMul"))
  | (refine' Z.bv_mod ?zqc; try (case zqc => walk_at "zQ"))
  | (refine' Z.bv_fdiv ?zqc; (case zqc => walk_at "zQ"))
  | (refine' Z.bv_fdivA ?zqc; try (case zqc => walk_at "zQ"))
  | (refine' Z.bv_pow ?zqc; try (case zqc => walk_at "zQ"))
  | (refine' Z.bv_cat ?zqc; try (case zqc => first | walk_at "zQ" | (simp; done) | (simp; omega)))
  | (refine' Z.bv_catS ?zqc; try (case zqc => walk_at "zQ"))
  | (refine' Z.bv_catT ?zqc ?zqd; (try (case zqc => first | with_reducible assumption | assumption | simp)); (try (case zqd => first | walk_at "zQ" | (simp; done) | (simp; omega)))))
local macro_rules | `(tactic| walk_at "zC") => `(tactic| first
  | exact Z.cv_lt | exact Z.cv_le | exact Z.cv_gt | exact Z.cv_ge | exact Z.cv_eqI | exact Z.cv_neI | exact Z.cv_eqS | exact Z.cv_neS | exact Z.cv_isN | exact Z.cv_notN | exact Z.cv_isB | exact Z.cv_notB
  | with_reducible assumption | assumption
  | (refine' Z.cv_eqK ?zqr ?zqk; (case zqk => first | with_reducible assumption | assumption); (case zqr => first | with_reducible assumption | assumption))
  | (refine' Z.cv_neK ?zqr ?zqk; (case zqk => first | with_reducible assumption | assumption); (case zqr => first | with_reducible assumption | assumption))
  | exact Z.cv_eq rfl rfl rfl | exact Z.cv_ne rfl rfl rfl)
local macro_rules | `(tactic| walk_at "zIx") => `(tactic| first
  | (refine' Z.IxV.lst ?zqh; (case zqh => first | with_reducible assumption | assumption | rfl))
  | (refine' Z.IxV.tup ?zqh; (case zqh => first | with_reducible assumption | assumption | rfl)))
local macro_rules | `(tactic| walk_at "zS") => `(tactic| first
  | with_reducible assumption | assumption
  | exact ⟨_, rfl, rfl⟩ | exact ⟨_, _, rfl, rfl⟩ | exact ⟨_, _, _, rfl, rfl⟩ | exact ⟨_, _, _, _, rfl, rfl⟩ | exact ⟨_, _, _, _, _, rfl, rfl⟩
  | exact ⟨_, rfl, rfl, rfl⟩ | exact ⟨_, _, rfl, rfl, rfl⟩ | exact ⟨_, _, _, rfl, rfl, rfl⟩ | exact ⟨_, _, _, _, rfl, rfl, rfl⟩
  | (refine' ⟨_, rfl, rfl, ?zqq⟩; try (case zqq => walk_at "zQ"))
  | (refine' ⟨_, _, rfl, rfl, ?zqq⟩; try (case zqq => walk_at "zQ"))
  | (refine' ⟨_, _, _, rfl, rfl, ?zqq⟩; try (case zqq => walk_at "zQ"))
  | (refine' ⟨_, _, _, _, rfl, rfl, ?zqq⟩; try (case zqq => walk_at "zQ"))
  | (refine' ⟨_, rfl, rfl, rfl, ?zqq⟩; try (case zqq => walk_at "zQ"))
  | (refine' ⟨_, _, rfl, rfl, rfl, ?zqq⟩; try (case zqq => walk_at "zQ"))
  | (refine' ⟨_, _, _, rfl, rfl, rfl, ?zqq⟩; try (case zqq => walk_at "zQ"))
  | (refine' ⟨_, _, _, _, rfl, rfl, rfl, ?zqq⟩; try (case zqq => walk_at "zQ"))
  | exact ⟨rfl, rfl⟩ | exact ⟨rfl, rfl, rfl⟩)
local macro_rules | `(tactic| walk_at "zF") => `(tactic| first | exact List.Mem.head _ | exact List.Mem.tail _ (List.Mem.head _) | exact List.Mem.tail _ (List.Mem.tail _ (List.Mem.head _)) | exact List.Mem.tail _ (List.Mem.tail _ (List.Mem.tail _ (List.Mem.head _))) | decide +kernel)
local macro_rules | `(tactic| walk_at "zE") => `(tactic| first
  | ((with_reducible show Z.WE _ (.Constant _ _ _) _ _ _); first | exact Z.we_int | exact Z.we_bl | exact Z.we_str | exact Z.we_non)
  | ((with_reducible show Z.WE _ (.Name _ _) _ _ _); first | exact Z.we_nm | exact Z.we_ty_ (by first | with_reducible assumption | assumption) | exact Z.we_cl (by first | with_reducible assumption | assumption))
  | ((with_reducible show Z.WE _ (.BinOp _ _ _ _) _ _ _); first | (refine' Z.we_rpD ?zqa ?zqb ?zqz ?zqc ?zqd; (case' zqa => walk_at "zA"); (case' zqb => walk_at "zE"); (case zqz => first | exact Nat.le_of_ble_eq_true rfl | (simp; done)); (try (case zqc => first | (simp; done) | (simp; omega) | omega)); (try (case zqd => omega))) | (refine' Z.we_b2 ?zqa ?zqx ?zqb ?zqy ?zqv; (case' zqa => walk_at "zE"); (case zqx => walk_at "zOz"); (case' zqb => walk_at "zE"); (case zqy => walk_at "zOz"); (case' zqv => walk_at "zBs")))
  | ((with_reducible show Z.WE _ (.Compare _ _ _ _) _ _ _); first | (refine' Z.we_cx ?zqa ?zqb ?zqx ?zqy ?zqv; (case' zqa => walk_at "zE"); (case' zqb => walk_at "zE"); (case zqx => exact rfl); (case zqy => exact rfl); (case' zqv => walk_at "zC")))
  | ((with_reducible show Z.WE _ (.Dict [] [] _) _ _ _); exact Z.we_dct0)
  | ((with_reducible show Z.WE _ (.Call _ _ _ _) _ _ _); first | walk_at "zCall")
  | ((with_reducible show Z.WE _ (.Subscript _ _ _) _ _ _); first | (refine' Z.we_ix2 ?zqa ?zqb ?zqx ?zqy ?zqv; (case' zqa => walk_at "zE"); (case' zqb => walk_at "zE"); (case zqx => exact rfl); (case zqy => exact rfl); (case' zqv => walk_at "zIx")) | (refine' Z.we_sl ?zqa ?zql ?zqh ?zqx ?zqv; (case' zqa => walk_at "zE"); (case' zql => walk_at "zWo"); (case' zqh => walk_at "zWo"); (case zqx => exact rfl); (case' zqv => first | exact Z.SlV.lst _ _ _ | (refine' Z.SlV.tup _ _ _ ?zqw; try (case zqw => first | decide | omega | with_reducible assumption | assumption)))) | (refine' Z.we_rv ?zqa ?zqx ?zqv; (case' zqa => walk_at "zE"); (case zqx => exact rfl); (case zqv => first | exact Z.RvV.lst _ | exact Z.RvV.tup _)) | (refine' Z.we_dlL ?zqa (ca := ?zqx); (case' zqa => walk_at "zE"); (case zqx => exact rfl)))
  | ((with_reducible show Z.WE _ (.Attribute _ _ _) _ _ _); first | (refine' Z.we_at ?zqa ?zqx ?zqc ?zqf (hl := ?zql); (case' zqa => walk_at "zE"); (case zqx => exact rfl); (case zqc => first | with_reducible assumption | assumption); (case zqf => walk_at "zF"); (case zql => exact rfl)) | (refine' Z.we_xa ?zqc ?zqe ?zqa ?zql ?zqf; (case' zqa => walk_at "zE"); (case zqc => first | with_reducible assumption | assumption); (case zqe => first | with_reducible assumption | assumption); (case zql => exact rfl); (case zqf => walk_at "zF")) | (refine' Z.we_pr ?zqh ?zqa ?zqz ?zqc ?zqs (ho := ?zqo); (case' zqa => walk_at "zE"); (case zqz => walk_at "zZ"); (case zqh => first | with_reducible assumption | assumption | exact Z.PC.blk (by first | with_reducible assumption | with_reducible assumption | assumption)); (case zqc => first | with_reducible assumption | assumption); (case' zqs => walk_at "zS"); (case zqo => exact rfl)))
  | ((with_reducible show Z.WE _ (.List _ _) _ _ _); first | (refine' Z.we_lst ?zqa (hz := ?zqz); (case' zqa => walk_at "zA"); (case zqz => first | exact Nat.le_of_ble_eq_true rfl | decide | (simp; done))))
  | ((with_reducible show Z.WE _ (.Tuple _ _ _) _ _ _); first | (refine' Z.we_tup ?zqa (hz := ?zqz); (case' zqa => walk_at "zA"); (case zqz => first | exact Nat.le_of_ble_eq_true rfl | decide | (simp; done))))
  | ((with_reducible show Z.WE _ (.UnaryOp _ _ _) _ _ _); first | (refine' Z.we_n2 ?zqa ?zqx ?zqv; (case' zqa => walk_at "zE"); (case zqx => walk_at "zOz"); (case' zqv => first | exact Z.NegS.dat rfl | (refine' Z.NegS.own ?zqh ?zqs ?zqo; (case zqh => first | with_reducible assumption | assumption | exact Z.NC.blk (by first | with_reducible assumption | with_reducible assumption | assumption)); (case' zqs => walk_at "zS"); (case zqo => exact rfl)))) | (refine' Z.we_not ?zqa; (case' zqa => walk_at "zE")))
  | ((with_reducible show Z.WE _ (.BoolOp _ _ _) _ _ _); first | (refine' Z.we_one ?zqa; (case' zqa => walk_at "zE")) | (refine' Z.we_and ?zqa ?zqb; (case' zqa => walk_at "zE"); (case' zqb => (intro _; walk_at "zE"))) | (refine' Z.we_or ?zqa ?zqb; (case' zqa => walk_at "zE"); (case' zqb => (intro _; walk_at "zE"))))
  | ((with_reducible show Z.WE _ (.IfExp _ _ _ _) _ _ _); first | (refine' Z.we_ifTe ?zqa ?zqe ?zqb; (case' zqa => walk_at "zT"); (case zqe => first | exact rfl | with_reducible assumption | assumption | (simp [Z.D.isNon, Z.optD, *]; done)); (case' zqb => walk_at "zE")) | (refine' Z.we_ifFe ?zqa ?zqe ?zqb; (case' zqa => walk_at "zT"); (case zqe => first | exact rfl | with_reducible assumption | assumption | (simp [Z.D.isNon, Z.optD, *]; done)); (case' zqb => walk_at "zE")) | (refine' Z.we_ifC ?zqa ?zqb ?zqc; (case' zqa => walk_at "zT"); (case' zqb => (intro _; walk_at "zE")); (case' zqc => (intro _; walk_at "zE")))))
local macro_rules | `(tactic| walk_at "zWo") => `(tactic| first | exact Z.wo_none | (refine' Z.wo_some ?zqa; (case' zqa => walk_at "zE")))
local macro_rules | `(tactic| walk_at "zI") => `(tactic| (refine' Z.we_z ?zqa ?zqz; (case' zqa => walk_at "zE"); (case zqz => walk_at "zZ")))
local macro_rules | `(tactic| walk_at "zA") => `(tactic| first
  | exact Z.wa_nil
  | (refine' Z.wa_c ?zqa ?zqz ?zqr; (case' zqa => walk_at "zE"); (case zqz => walk_at "zZ"); (case' zqr => walk_at "zA")))
local macro_rules | `(tactic| walk_at "zR") => `(tactic| first
  | exact Z.wrm_nil
  | (refine' Z.wrm_cons ?zqa ?zql ?zqr; (case' zqa => walk_at "zE"); (case zql => first | exact Z.Lnd.yes _ _ | (refine' Z.Lnd.no ?zqz; (case zqz => walk_at "zZ"))); (case' zqr => walk_at "zR")))
local macro_rules | `(tactic| walk_at "zCall") => `(tactic| first
  | ((with_reducible show Z.WE _ (.Call (.Name (PySem.Str.ofString "repr") _) _ _ _) _ _ _); (refine' Z.we_rpT ?zqg ?zqr ?zqa ?zqx ?zqt; (case zqg => first | with_reducible assumption | assumption); (case zqr => first | with_reducible assumption | assumption | exact Z.RpX.blk (by first | with_reducible assumption | with_reducible assumption | assumption)); (case' zqa => walk_at "zE"); (case zqx => exact rfl); (case zqt => first | with_reducible assumption | assumption)))
  | ((with_reducible show Z.WE _ (.Call (.Name (PySem.Str.ofString "sorted") _) [.Call (.Name (PySem.Str.ofString "set") _) _ _ _] _ _) _ _ _); (refine' Z.we_ss ?zqg ?zqa ?zqx ?zqt; (case zqg => first | with_reducible assumption | assumption); (case' zqa => walk_at "zE"); (case zqx => exact rfl); (case zqt => first | with_reducible assumption | assumption)))
  | ((with_reducible show Z.WE _ (.Call (.Name _ _) [] [_] _) _ _ _); (refine' Z.wcK ?zqg ?zqa ?zqz ?zqs (ho := ?zqo); (case zqg => first | with_reducible assumption | assumption | exact Z.CallK.blk (by first | with_reducible assumption | with_reducible assumption | assumption)); (case' zqa => walk_at "zE"); (case zqz => walk_at "zZ"); (case' zqs => walk_at "zS"); (case zqo => exact rfl)))
  | ((with_reducible show Z.WE _ (.Call (.Name (PySem.Str.ofString "len") _) _ _ _) _ _ _); (refine' Z.we_len ?zqg ?zqa ?zqx ?zqv; (case zqg => first | with_reducible assumption | assumption); (case' zqa => walk_at "zE"); (case zqx => exact rfl); (case zqv => first | with_reducible assumption | assumption | exact Z.LenV.lst _ | exact Z.LenV.tup _)))
  | ((with_reducible show Z.WE _ (.Call (.Name (PySem.Str.ofString "isinstance") _) _ _ _) _ _ _); first | (refine' Z.we_isO ?zqg ?zqa ?zqb ?zqx ?zqt ?zqc ?zqk; (case zqg => first | with_reducible assumption | assumption); (case' zqa => walk_at "zE"); (case' zqb => walk_at "zA"); (case zqx => exact rfl); (case zqt => exact rfl); (case zqc => exact rfl); (case zqk => first | with_reducible assumption | assumption | exact L2.kit_ty rfl | exact Z.KitF.ot (by first | with_reducible assumption | assumption) _ (by decide))) | (refine' Z.we_is_ ?zqg ?zqa ?zqt ?zqc ?zqk ?zqi; (case zqg => first | with_reducible assumption | assumption); (case' zqa => walk_at "zA"); (case zqt => exact rfl); (case zqc => exact rfl); (case zqk => first | with_reducible assumption | assumption | exact L2.kit_ty rfl); (case zqi => first | (intro C gs e; cases e; done) | (intro C gs e; cases e; exact Z.ClsF.isc (by first | with_reducible assumption | assumption)))))
  | ((with_reducible show Z.WE _ (.Call (.Name (PySem.Str.ofString "int") _) _ _ _) _ _ _); (refine' Z.we_int_ ?zqg ?zqa ?zqv; (case zqg => first | with_reducible assumption | assumption); (case' zqa => walk_at "zE"); (case zqv => first | exact Z.IntV.int _ | exact Z.IntV.bl _)))
  | ((with_reducible show Z.WE _ (.Call (.Name (PySem.Str.ofString "abs") _) _ _ _) _ _ _); (refine' Z.we_abs_ ?zqg ?zqa; (case zqg => first | with_reducible assumption | assumption); (case' zqa => walk_at "zE")))
  | ((with_reducible show Z.WE _ (.Call (.Name (PySem.Str.ofString "max") _) _ _ _) _ _ _); (refine' Z.we_mx ?zqg ?zqa; (case zqg => first | with_reducible assumption | assumption); (case' zqa => walk_at "zA")))
  | ((with_reducible show Z.WE _ (.Call (.Name (PySem.Str.ofString "min") _) _ _ _) _ _ _); (refine' Z.we_mn ?zqg ?zqa; (case zqg => first | with_reducible assumption | assumption); (case' zqa => walk_at "zA")))
  | ((with_reducible show Z.WE _ (.Call (.Name (PySem.Str.ofString "divmod") _) _ _ _) _ _ _); (refine' Z.we_dm ?zqg ?zqa ?zqc; (case zqg => first | with_reducible assumption | assumption); (case' zqa => walk_at "zA"); (try (case zqc => walk_at "zQ"))))
  | ((with_reducible show Z.WE _ (.Call (.Name (PySem.Str.ofString "list") _) _ _ _) _ _ _); (refine' Z.we_list_ ?zqg ?zqa ?zqx ?zqv; (case zqg => first | with_reducible assumption | assumption); (case' zqa => walk_at "zE"); (case zqx => exact rfl); (case zqv => first | with_reducible assumption | assumption | exact Z.ListV.lst _ | exact Z.ListV.tup _)))
  | ((with_reducible show Z.WE _ (.Call (.Name (PySem.Str.ofString "tuple") _) _ _ _) _ _ _); (refine' Z.we_tuple_ ?zqg ?zqa ?zqx; (case zqg => first | with_reducible assumption | assumption); (case' zqa => walk_at "zE"); (case zqx => exact rfl)))
  | ((with_reducible show Z.WE _ (.Call (.Name (PySem.Str.ofString "sum") _) _ _ _) _ _ _); (refine' Z.we_sum_ ?zqg ?zqa ?zqx ?zqe; (case zqg => first | with_reducible assumption | assumption); (case' zqa => walk_at "zE"); (case zqx => exact rfl); (case zqe => first | exact rfl | with_reducible assumption | assumption)))
  | ((with_reducible show Z.WE _ (.Call (.Name (PySem.Str.ofString "all") _) _ _ _) _ _ _); (refine' Z.we_all_ ?zqg ?zqa ?zqx ?zqe; (case zqg => first | with_reducible assumption | assumption); (case' zqa => walk_at "zE"); (case zqx => exact rfl); (case zqe => first | exact rfl | with_reducible assumption | assumption)))
  | ((with_reducible show Z.WE _ (.Call (.Name (PySem.Str.ofString "any") _) _ _ _) _ _ _); (refine' Z.we_any_ ?zqg ?zqa ?zqx ?zqe; (case zqg => first | with_reducible assumption | assumption); (case' zqa => walk_at "zE"); (case zqx => exact rfl); (case zqe => first | exact rfl | with_reducible assumption | assumption)))
  | ((with_reducible show Z.WE _ (.Call (.Attribute _ (PySem.Str.ofString "append") _) _ _ _) _ _ _); (refine' Z.we_append ?zqa ?zqb (hn := ?zqn) (hz := ?zqz) (hn1 := ?zqm); (case' zqa => walk_at "zE"); (case' zqb => walk_at "zI"); (case zqn => exact rfl); (try (case zqz => first | with_reducible assumption | assumption | (simp; done) | omega | (simp; omega))); (case zqm => exact ⟨_, rfl⟩)))
  | ((with_reducible show Z.WE _ (.Call (.Attribute _ (PySem.Str.ofString "extend") _) _ _ _) _ _ _); (refine' Z.we_extend ?zqa ?zqb (hn := ?zqn) (hz := ?zqz) (hn1 := ?zqm); (case' zqa => walk_at "zE"); (case' zqb => walk_at "zE"); (case zqn => exact rfl); (try (case zqz => first | with_reducible assumption | assumption | (simp; done) | omega | (simp; omega))); (case zqm => exact ⟨_, rfl⟩)))
  | ((with_reducible show Z.WE _ (.Call (.Attribute _ (PySem.Str.ofString "pop") _) _ _ _) _ _ _); (refine' Z.we_pop ?zqa (hn := ?zqn) (hx := ?zqx); (case' zqa => walk_at "zE"); (case zqn => exact rfl); (case zqx => first | with_reducible assumption | assumption | exact rfl)))
  | ((with_reducible show Z.WE _ (.Call (.Name _ _) _ _ _) _ _ _); first | (refine' Z.wcX ?zqg ?zqa ?zqs (ho := ?zqo); (case zqg => first | with_reducible assumption | assumption); (case' zqa => walk_at "zA"); (case' zqs => walk_at "zS"); (case zqo => exact rfl)) | (refine' Z.wgX ?zqg ?zqa ?zqm ?zqs ?zqp (hk := ?zqk) (nd := ?zqn) (ok := ?zql) (ho := ?zqo); (case zqg => first | with_reducible assumption | assumption | exact Z.CallL.blk (by first | with_reducible assumption | with_reducible assumption | assumption)); (case' zqa => walk_at "zR"); (case zqm => exact rfl); (case' zqs => walk_at "zS"); (case zqp => exact rfl); (case zqk => first | exact .nil | repeat constructor); (case zqn => first | decide | exact List.nodup_nil | (show List.Nodup [_]; decide) | (show List.Nodup [_, _]; decide)); (case zql => exact rfl); (case zqo => exact rfl)) | (refine' Z.we_mk ?zqg ?zqa ?zqs; (case zqg => first | with_reducible assumption | assumption | exact Z.KC.blk (by first | with_reducible assumption | with_reducible assumption | assumption)); (case' zqa => walk_at "zA"); (case' zqs => walk_at "zS")) | (refine' Z.we_mk0 ?zqg ?zqs; (case zqg => first | with_reducible assumption | assumption | exact Z.KC.blk (by first | with_reducible assumption | with_reducible assumption | assumption)); (case' zqs => walk_at "zS")) | (refine' Z.we_mkS ?zqg ?zqa ?zqx ?zqs; (case zqg => first | with_reducible assumption | assumption | exact Z.KC.blk (by first | with_reducible assumption | with_reducible assumption | assumption)); (case' zqa => walk_at "zE"); (case zqx => first | exact .inl rfl | exact .inr rfl); (case' zqs => walk_at "zS")))
  | ((with_reducible show Z.WE _ (.Call (.Attribute _ _ _) _ _ _) _ _ _); first | (refine' Z.we_mt ?zqg ?zqa ?zqz ?zqc ?zqr ?zqs (hl := ?zql) (ho := ?zqo); (case' zqa => walk_at "zE"); (case zqz => walk_at "zZ"); (case zqg => first | with_reducible assumption | assumption | exact Z.MC.blk (by first | with_reducible assumption | with_reducible assumption | assumption)); (case zqc => first | with_reducible assumption | assumption); (case' zqr => walk_at "zA"); (case' zqs => walk_at "zS"); (case zql => exact rfl); (case zqo => exact rfl)) | (refine' Z.we_mt0 ?zqg ?zqa ?zqz ?zqc ?zqs (hl := ?zql) (ho := ?zqo); (case' zqa => walk_at "zE"); (case zqz => walk_at "zZ"); (case zqg => first | with_reducible assumption | assumption | exact Z.MC.blk (by first | with_reducible assumption | with_reducible assumption | assumption)); (case zqc => first | with_reducible assumption | assumption); (case' zqs => walk_at "zS"); (case zql => exact rfl); (case zqo => exact rfl))))
local macro_rules | `(tactic| walk_at "zT") => `(tactic| first
  | (refine' Z.wt_not ?zqa; (case' zqa => walk_at "zT"))
  | (refine' Z.wt_cx ?zqa ?zqb ?zqx ?zqy ?zqv; (case' zqa => walk_at "zE"); (case' zqb => walk_at "zE"); (case zqx => exact rfl); (case zqy => exact rfl); (case' zqv => walk_at "zC"))
  | (refine' Z.wt_of ?zqa; (case' zqa => walk_at "zW"))
  | (refine' Z.wt_val ?zqa; (case' zqa => walk_at "zE")))
local macro_rules | `(tactic| walk_at "zW") => `(tactic| first
  | (refine' Z.ww_and1 ?zqa; (case' zqa => walk_at "zT"))
  | (refine' Z.ww_or1 ?zqa; (case' zqa => walk_at "zT"))
  | (refine' Z.ww_and ?zqa ?zqb; (case' zqa => walk_at "zT"); (case' zqb => (intro _; walk_at "zW")))
  | (refine' Z.ww_or ?zqa ?zqb; (case' zqa => walk_at "zT"); (case' zqb => (intro _; walk_at "zW"))))
local macro_rules | `(tactic| walk_at "zG") => `(tactic| first
  | exact .im _ | exact .fr _ | exact .sl (by decide) rfl
  | exact ⟨.im _, by repeat (first | exact .nil _ | apply Z.EndS.im | apply Z.EndS.own)⟩ | exact ⟨.fr _, by repeat (first | exact .nil _ | apply Z.EndS.im | apply Z.EndS.own)⟩ | exact ⟨.sl (by decide) rfl, by repeat (first | exact .nil _ | apply Z.EndS.im | apply Z.EndS.own)⟩
  | exact ⟨.im _, rfl⟩ | exact ⟨rfl, rfl⟩ | skip)
local macro_rules | `(tactic| walk_at "zN") => `(tactic| first
  | (refine' Z.ws_st ?zqa ?zqz (hl := ?zql); (case' zqa => walk_at "zE"); (case zqz => walk_at "zSt"); (case zql => first | exact Nat.le_of_ble_eq_true rfl | (simp; done)))
  | (refine' Z.ws_pr ?zqa ?zqx ?zqb ?zqy ?zqs ?zqt (hli := ?zql) (hlj := ?zqm); (case' zqa => walk_at "zE"); (case zqx => walk_at "zSf"); (case' zqb => walk_at "zE"); (case zqy => walk_at "zSf"); (case zqs => first | exact .im _ | exact .fr _); (case zqt => first | exact .im _ | exact .fr _); (case zql => first | exact Nat.le_of_ble_eq_true rfl | (simp; done)); (case zqm => first | exact Nat.le_of_ble_eq_true rfl | (simp; done)))
  | (refine' Z.ws_fa ?zqa ?zqz ?zqo ?zqi ?zqc ?zqf ?zql; (case' zqa => walk_at "zE"); (case zqz => walk_at "zZ"); (case' zqo => walk_at "zE"); (case zqi => exact rfl); (case zqc => first | with_reducible assumption | assumption); (case zqf => walk_at "zF"); (case zql => exact Nat.le_of_ble_eq_true rfl))
  | (refine' Z.ws_expr ?zqa; (case' zqa => walk_at "zE"))
  | (refine' Z.ws_asg ?zqa ?zqg; (case' zqa => walk_at "zI"); (case' zqg => walk_at "zTg")))
local macro_rules | `(tactic| walk_at "zTg") => `(tactic| first
  | ((with_reducible show Z.WG _ _ (.Name _ _) _ _ _); exact Z.wg_nm)
  | ((with_reducible show Z.WG _ _ (.Tuple _ _ _) _ _ _); refine' Z.wg_tup ?zqazTg (hz := ?zqzzTg); (case' zqazTg => walk_at "zTs"); (case zqzzTg => exact rfl))
  | ((with_reducible show Z.WG _ _ (.Subscript _ _ _) _ _ _); refine' Z.wg_sub ?zqczTg ?zqbzTg (hn := ?zqnzTg) (hix := ?zqxzTg); (case' zqczTg => walk_at "zE"); (case' zqbzTg => walk_at "zE"); (case zqnzTg => exact rfl); (case zqxzTg => first | with_reducible assumption | assumption | exact rfl)))
local macro_rules | `(tactic| walk_at "zTs") => `(tactic| (refine' Z.wgs_cons ?ztazTs ?ztbzTs; (case' ztazTs => walk_at "zTh"); (case' ztbzTs => walk_at "zTs")))
local macro_rules | `(tactic| walk_at "zTs") => `(tactic| exact Z.wgs_nil)
local macro_rules | `(tactic| walk_at "zTh") => `(tactic| first
  | ((with_reducible show Z.WG _ _ (.Name _ _) _ _ _); exact Z.wg_nm)
  | ((with_reducible show Z.WG _ _ (.Tuple _ _ _) _ _ _); refine' Z.wg_tup ?zqazTh (hz := ?zqzzTh); (case' zqazTh => walk_at "zTt"); (case zqzzTh => exact rfl))
  | ((with_reducible show Z.WG _ _ (.Subscript _ _ _) _ _ _); refine' Z.wg_sub ?zqczTh ?zqbzTh (hn := ?zqnzTh) (hix := ?zqxzTh); (case' zqczTh => walk_at "zE"); (case' zqbzTh => walk_at "zE"); (case zqnzTh => exact rfl); (case zqxzTh => first | with_reducible assumption | assumption | exact rfl)))
local macro_rules | `(tactic| walk_at "zTt") => `(tactic| (refine' Z.wgs_cons ?ztazTt ?ztbzTt; (case' ztazTt => walk_at "zTi"); (case' ztbzTt => walk_at "zTt")))
local macro_rules | `(tactic| walk_at "zTt") => `(tactic| exact Z.wgs_nil)
local macro_rules | `(tactic| walk_at "zTi") => `(tactic| exact Z.wg_nm)
local macro_rules | `(tactic| walk_at "zs") => `(tactic| first
  | (refine' Z.wb_ret ?zqa ?zqg; (case' zqa => walk_at "zE"); (case' zqg => walk_at "zG"))
  | (refine' Z.wb_go ?zqa ?_; (case' zqa => walk_at "zN"))
  | (refine' Z.wb_if ?zqa ?zqb ?zqc; (case' zqa => walk_at "zT"); (first | ((case zqb => exact fun h => absurd (show (false : Bool) = true from h) (by decide)); (case' zqc => ((refine' fun _ => ?_); try (refine' Z.wb_nilW ?_)))) | ((case zqc => exact fun h => absurd (show (true : Bool) = false from h) (by decide)); (case' zqb => refine' fun _ => ?_)) | skip))
  | refine' Z.wb_nilW ?_
  | exact Z.wb_nil ⟨rfl, rfl⟩
  | exact Z.wb_nil rfl)
local macro_rules | `(tactic| walk_at "zWi") => `(tactic| first
  | (refine' Z.wi_zp ?zqg ?zqa ?zqx ?zqb ?zqy ?zqs ?zqt; (case zqg => first | with_reducible assumption | assumption); (case' zqa => walk_at "zE"); (case zqx => walk_at "zNf"); (case' zqb => walk_at "zE"); (case zqy => walk_at "zNf"); (case zqs => walk_at "zSr"); (case zqt => walk_at "zSr"))
  | (refine' Z.wi_en ?zqg ?zqa ?zqx ?zqs; (case zqg => first | with_reducible assumption | assumption); (case' zqa => walk_at "zE"); (case zqx => walk_at "zNf"); (case zqs => walk_at "zSr"))
  | (refine' Z.wi_r1 ?zqg ?zqa ?zqc; (case zqg => first | with_reducible assumption | assumption); (case' zqa => walk_at "zE"); (try (case zqc => walk_at "zQ")))
  | (refine' Z.wi_r2 ?zqg ?zqa ?zqb ?zqc; (case zqg => first | with_reducible assumption | assumption); (case' zqa => walk_at "zE"); (case' zqb => walk_at "zE"); (try (case zqc => walk_at "zQ")))
  | (refine' Z.wi_x ?zqa ?zqz; (case' zqa => walk_at "zE"); (case zqz => walk_at "zIt")))
local macro_rules | `(tactic| walk_at "zB") => `(tactic| (intro s H C cl fp; walk_at "zTg"))
local macro_rules | `(tactic| walk_at "zLs") => `(tactic| (refine' Z.lc_step ?zqt ?zqe ?zqz ?zqw ?zql ?zqm; (case' zqt => walk_at "zB"); (case' zqe => (intro s H C cl fp; walk_at "zE")); (case zqz => walk_at "zZ"); (case zqw => exact rfl); (case zql => exact rfl); (case zqm => exact rfl)))
local macro_rules | `(tactic| walk_at "zOz") => `(tactic| first | exact Z.OpZ.insF _ _ _ | exact Z.OpZ.insS _ rfl | exact Z.OpZ.id _ _)
local macro_rules | `(tactic| walk_at "zBs") => `(tactic| first
  | (refine' Z.BinS.dat ?zqx ?zqy ?zqv; (case zqx => exact rfl); (case zqy => exact rfl); (case' zqv => walk_at "zO"))
  | (refine' Z.BinS.own ?zqh ?zqs ?zqo; (case zqh => first | with_reducible assumption | assumption | exact Z.OC.blk (by first | with_reducible assumption | with_reducible assumption | assumption)); (case' zqs => walk_at "zS"); (case zqo => exact rfl)))
local macro_rules | `(tactic| walk_at "zLe") => `(tactic| (refine' Z.lc_step ?zqt ?zqe ?zqz ?zqw ?zql ?zqm; (case' zqt => walk_at "zB"); (case' zqe => (intro s H C cl fp))))
local macro_rules | `(tactic| walk_at "zLz") => `(tactic| ((any_goals (walk_at "zZ")); (all_goals exact rfl)))
local macro_rules | `(tactic| walk_at "zIT") => `(tactic| (refine' Z.wb_ifTe ?zqt ?zqe ?_; (case' zqt => walk_at "zT"); (try (case zqe => first | exact rfl | with_reducible assumption | assumption | (simp [Z.D.isNon, Z.optD, *]; done)))))
local macro_rules | `(tactic| walk_at "zIF") => `(tactic| (refine' Z.wb_ifFe ?zqt ?zqe ?_; (case' zqt => walk_at "zT"); (try (case zqe => first | exact rfl | with_reducible assumption | assumption | (simp [Z.D.isNon, Z.optD, *]; done)); try (refine' Z.wb_nilW ?_))))
local macro_rules | `(tactic| walk_at "zLt") => `(tactic| (refine' Z.tn_step ?zqt ?zqe ?zqz ?zql ?zqm ?zqG; (case' zqt => walk_at "zB"); (case' zqe => (intro s H C cl fp; walk_at "zE")); (case zqz => walk_at "zZ"); (case zql => exact rfl); (case zqm => exact rfl)))
local macro_rules | `(tactic| walk_at "zLi") => `(tactic| (refine' Z.lc_if2 ?zqt ?zqc ?zqe ?zqz ?zqw ?zql ?zqm ?zra ?zrb; (case' zqt => walk_at "zB"); (case' zqc => (intro s H C cl fp; walk_at "zT")); (case' zqe => (intro _; intro s H C cl fp; walk_at "zE")); (case zqz => walk_at "zZ"); (case zqw => exact rfl); (case zql => exact rfl); (case zqm => exact rfl); (case zra => exact rfl); (case zrb => exact rfl)))
local macro_rules | `(tactic| walk_at "zRb") => `(tactic| first
  | ((with_reducible show Z.RBv _ _ _ (.Raise _ _ _ :: _) _ _ _ _); (refine' Z.rv_st (Z.rv_raise rfl ?zqk ?zqp); (case zqk => first | with_reducible assumption | assumption); (case' zqp => walk_at "zPm")))
  | (refine' Z.rv_go ?zqa ?_; (case' zqa => walk_at "zN")))
/-! polynomials as rows, signs, runs: plain -/
namespace K75
def evalP (row : List Int) (d : Int) : Int := row.foldr (fun a acc => acc * d + a) 0
theorem eval_nil (d : Int) : evalP [] d = 0 := rfl
theorem eval_cons (a : Int) (r : List Int) (d : Int) : evalP (a :: r) d = evalP r d * d + a := rfl
def trim (xs : List Int) : List Int := (xs.reverse.dropWhile (· == 0)).reverse
theorem eval_app0 (xs : List Int) (n : Nat) (d : Int) : evalP (xs ++ List.replicate n 0) d = evalP xs d := by
  induction xs with
  | nil =>
    induction n with
    | zero => rfl
    | succ n ih => rw [List.replicate_succ, List.nil_append, eval_cons, ← List.nil_append (List.replicate n 0), ih, eval_nil]; omega
  | cons a r ih => rw [List.cons_append, eval_cons, eval_cons, ih]
theorem trim_split (xs : List Int) : ∃ n, xs = trim xs ++ List.replicate n 0 := by
  refine ⟨(xs.reverse.takeWhile (· == 0)).length, ?_⟩
  have h : xs.reverse = xs.reverse.takeWhile (· == 0) ++ xs.reverse.dropWhile (· == 0) := (List.takeWhile_append_dropWhile).symm
  have e : xs.reverse.takeWhile (· == 0) = List.replicate (xs.reverse.takeWhile (· == 0)).length 0 := by
    apply List.eq_replicate_of_mem
    intro b hb
    have := List.all_takeWhile (p := (· == (0 : Int))) (l := xs.reverse)
    rw [List.all_eq_true] at this
    simpa using this b hb
  have h2 := congrArg List.reverse h
  rw [List.reverse_reverse, List.reverse_append] at h2
  unfold trim
  conv => lhs; rw [h2]
  congr 1
  conv => lhs; rw [e]
  exact List.reverse_replicate ..
theorem eval_trim (xs : List Int) (d : Int) : evalP (trim xs) d = evalP xs d := by
  obtain ⟨n, h⟩ := trim_split xs
  conv => rhs; rw [h]
  rw [eval_app0]
theorem trim_len (xs : List Int) : (trim xs).length ≤ xs.length := by
  obtain ⟨n, h⟩ := trim_split xs
  have := congrArg List.length h
  rw [List.length_append] at this
  omega
theorem trim_mem {xs : List Int} {a : Int} (h : a ∈ trim xs) : a ∈ xs := by
  obtain ⟨n, e⟩ := trim_split xs
  rw [e]
  exact List.mem_append_left _ h
/-- no zero at the end -/
def TR (xs : List Int) : Prop := ∀ a, xs.getLast? = some a → a ≠ 0
theorem TR_trim (xs : List Int) : TR (trim xs) := by
  intro a h
  unfold trim at h
  rw [List.getLast?_reverse] at h
  intro z
  subst z
  have := List.head?_dropWhile_not (fun x : Int => x == 0) xs.reverse
  rw [h] at this
  simp at this
theorem trim_snoc0 (xs : List Int) : trim (xs ++ [0]) = trim xs := by
  unfold trim
  rw [List.reverse_append]
  rfl
theorem trim_snoc {a : Int} (xs : List Int) (h : a ≠ 0) : trim (xs ++ [a]) = xs ++ [a] := by
  unfold trim
  rw [List.reverse_append]
  have : ([a].reverse ++ xs.reverse).dropWhile (· == 0) = [a].reverse ++ xs.reverse := by
    show (a :: xs.reverse).dropWhile (· == 0) = _
    rw [List.dropWhile_cons_of_neg (by simpa using h)]
    rfl
  rw [this, ← List.reverse_append, List.reverse_reverse]
/-! sums, products -/
def addR (xs ys : List Int) : List Int := ((xs ++ List.replicate (max xs.length ys.length - xs.length) 0).zip (ys ++ List.replicate (max xs.length ys.length - ys.length) 0)).map fun (p : Int × Int) => p.1 + p.2
def oppR (xs : List Int) : List Int := xs.map (0 - ·)
theorem eval_zip : ∀ (xs ys : List Int) (d : Int), xs.length = ys.length → evalP ((xs.zip ys).map fun (p : Int × Int) => p.1 + p.2) d = evalP xs d + evalP ys d
  | [], [], d, _ => rfl
  | x :: xs, y :: ys, d, h => by
    have ih := eval_zip xs ys d (by simpa using h)
    rw [List.zip_cons_cons, List.map_cons, eval_cons, eval_cons, eval_cons, ih, Int.add_mul]
    show _ + (x + y) = _
    omega
  | [], _ :: _, _, h => by cases h
  | _ :: _, [], _, h => by cases h
theorem eval_add (xs ys : List Int) (d : Int) : evalP (addR xs ys) d = evalP xs d + evalP ys d := by
  unfold addR
  rw [eval_zip _ _ _ (by simp; omega), eval_app0, eval_app0]
theorem eval_opp (xs : List Int) (d : Int) : evalP (oppR xs) d = 0 - evalP xs d := by
  induction xs with
  | nil => rfl
  | cons a r ih =>
    show evalP (oppR r) d * d + (0 - a) = _
    rw [ih, eval_cons, Int.sub_mul]
    omega
def fst0 (xs : List Int) (n : Nat) : List Int := xs ++ List.replicate n 0
def mulR (xs ys : List Int) : List Int := (List.range (xs.length + ys.length)).map fun i => ((List.range (i + 1)).map fun j => (fst0 xs ys.length).getD j 0 * (fst0 ys xs.length).getD (i - j) 0).sum
/-! sums from the front -/
def sm : Nat → (Nat → Int) → Int
  | 0, _ => 0
  | n + 1, f => f 0 + sm n fun i => f (i + 1)
theorem sm_range : ∀ (n : Nat) (f : Nat → Int), ((List.range n).map f).sum = sm n f
  | 0, f => rfl
  | n + 1, f => by
    rw [List.range_succ_eq_map, List.map_cons, List.sum_cons, List.map_map]
    show f 0 + ((List.range n).map (f ∘ Nat.succ)).sum = f 0 + sm n fun i => f (i + 1)
    rw [← sm_range n fun i => f (i + 1)]
    rfl
theorem sm_congr : ∀ {n : Nat} {f g : Nat → Int}, (∀ i, i < n → f i = g i) → sm n f = sm n g
  | 0, _, _, _ => rfl
  | n + 1, f, g, h => by
    show f 0 + sm n _ = g 0 + sm n _
    rw [h 0 (by omega), sm_congr fun i hi => h (i + 1) (by omega)]
theorem sm_add : ∀ (n : Nat) (f g : Nat → Int), sm n (fun i => f i + g i) = sm n f + sm n g
  | 0, _, _ => rfl
  | n + 1, f, g => by
    show f 0 + g 0 + sm n _ = f 0 + sm n _ + (g 0 + sm n _)
    rw [sm_add n (fun i => f (i + 1)) fun i => g (i + 1)]
    omega
theorem sm_mul : ∀ (n : Nat) (f : Nat → Int) (c : Int), sm n (fun i => f i * c) = sm n f * c
  | 0, _, c => by simp [sm]
  | n + 1, f, c => by
    show f 0 * c + sm n _ = (f 0 + sm n _) * c
    rw [sm_mul n (fun i => f (i + 1)) c, Int.add_mul]
theorem sm_mulL (n : Nat) (f : Nat → Int) (c : Int) : sm n (fun i => c * f i) = c * sm n f := by
  rw [show (fun i => c * f i) = fun i => f i * c from funext fun i => Int.mul_comm _ _, sm_mul, Int.mul_comm]
theorem sm_zero (n : Nat) : sm n (fun _ => 0) = 0 := by
  have := sm_mul n (fun _ => 0) 0
  simpa using this
theorem eval_sm : ∀ (xs : List Int) (d : Int) (N : Nat), xs.length ≤ N → sm N (fun i => xs.getD i 0 * d ^ i) = evalP xs d
  | [], d, N, _ => by
    rw [show (fun i : Nat => ([] : List Int).getD i 0 * d ^ i) = fun _ => 0 from funext fun i => by simp]
    exact sm_zero N
  | a :: r, d, 0, h => by simp at h
  | a :: r, d, N + 1, h => by
    show (a :: r).getD 0 0 * d ^ 0 + sm N (fun i => (a :: r).getD (i + 1) 0 * d ^ (i + 1)) = _
    rw [eval_cons, ← eval_sm r d N (by simpa using h), ← sm_mul]
    rw [sm_congr (g := fun i => r.getD i 0 * d ^ i * d) fun i _ => by rw [List.getD_cons_succ, Int.pow_succ, Int.mul_assoc]]
    simp
    omega
def cv (xs ys : List Int) (i : Nat) : Int := sm (i + 1) fun j => xs.getD j 0 * ys.getD (i - j) 0
theorem cv_nil (ys : List Int) (i : Nat) : cv [] ys i = 0 := by
  unfold cv
  rw [show (fun j : Nat => ([] : List Int).getD j 0 * ys.getD (i - j) 0) = fun _ => 0 from funext fun i => by simp]
  exact sm_zero _
theorem cv_succ (a : Int) (r ys : List Int) (i : Nat) : cv (a :: r) ys (i + 1) = a * ys.getD (i + 1) 0 + cv r ys i := by
  show (a :: r).getD 0 0 * ys.getD (i + 1 - 0) 0 + sm (i + 1) (fun j => (a :: r).getD (j + 1) 0 * ys.getD (i + 1 - (j + 1)) 0) = _
  congr 1
  unfold cv
  exact sm_congr fun j hj => by rw [List.getD_cons_succ, show i + 1 - (j + 1) = i - j by omega]
theorem eval_cv : ∀ (xs ys : List Int) (d : Int) (N : Nat), xs.length + ys.length ≤ N → sm N (fun i => cv xs ys i * d ^ i) = evalP xs d * evalP ys d
  | [], ys, d, N, _ => by
    rw [show (fun i => cv [] ys i * d ^ i) = fun _ => 0 from funext fun i => by rw [cv_nil]; simp, sm_zero, eval_nil]
    simp
  | a :: r, ys, d, 0, h => by simp at h
  | a :: r, ys, d, N + 1, h => by
    have hl : r.length + ys.length ≤ N := by simp at h; omega
    show cv (a :: r) ys 0 * d ^ 0 + sm N (fun i => cv (a :: r) ys (i + 1) * d ^ (i + 1)) = _
    rw [sm_congr (g := fun i => a * (ys.getD (i + 1) 0 * d ^ (i + 1)) + cv r ys i * d ^ i * d) fun i _ => by
      rw [cv_succ, Int.add_mul, Int.pow_succ, Int.mul_assoc, Int.mul_assoc]]
    rw [sm_add, sm_mul, eval_cv r ys d N hl, sm_mulL]
    have e := eval_sm ys d (N + 1) (by omega)
    have e' : ys.getD 0 0 * d ^ 0 + sm N (fun i => ys.getD (i + 1) 0 * d ^ (i + 1)) = evalP ys d := e
    have c0 : cv (a :: r) ys 0 = a * ys.getD 0 0 := by
      show (a :: r).getD 0 0 * ys.getD (0 - 0) 0 + sm 0 _ = _
      simp [sm]
    have h1 : d ^ 0 = 1 := Int.pow_zero d
    rw [h1, Int.mul_one] at e'
    rw [c0, h1, Int.mul_one, eval_cons, Int.add_mul, ← e']
    generalize ys.getD 0 0 = y
    generalize sm N (fun i => ys.getD (i + 1) 0 * d ^ (i + 1)) = T
    generalize evalP r d = R
    rw [Int.mul_right_comm R (y + T) d, Int.mul_add a]
    omega
theorem getD_fst0 (xs : List Int) (n j : Nat) : (fst0 xs n).getD j 0 = xs.getD j 0 := by
  unfold fst0
  simp only [List.getD_eq_getElem?_getD]
  by_cases h : j < xs.length
  · rw [List.getElem?_append_left h]
  · rw [List.getElem?_append_right (by omega), List.getElem?_eq_none (l := xs) (by omega), List.getElem?_replicate]
    split
    · rfl
    · rfl
theorem mulR_cv (xs ys : List Int) : mulR xs ys = (List.range (xs.length + ys.length)).map (cv xs ys) := by
  unfold mulR
  apply List.map_congr_left
  intro i _
  rw [sm_range]
  exact sm_congr fun j _ => by rw [getD_fst0, getD_fst0]
theorem eval_mul (xs ys : List Int) (d : Int) : evalP (mulR xs ys) d = evalP xs d * evalP ys d := by
  rw [← eval_cv xs ys d (xs.length + ys.length) (Nat.le_refl _), ← eval_sm (mulR xs ys) d (xs.length + ys.length) (by rw [mulR_cv]; simp), mulR_cv]
  exact sm_congr fun i hi => by
    simp only [List.getD_eq_getElem?_getD, List.getElem?_map, List.getElem?_range hi, Option.map_some, Option.getD_some]
/-! bounds -/
def Bd (n k : Nat) (xs : List Int) : Prop := xs.length ≤ n ∧ ∀ a ∈ xs, a.natAbs < 2 ^ k
theorem Bd.mono {n m k l : Nat} {xs : List Int} (h : Bd n k xs) (h1 : n ≤ m) (h2 : k ≤ l) : Bd m l xs := ⟨Nat.le_trans h.1 h1, fun a ha => Nat.lt_of_lt_of_le (h.2 a ha) (Nat.pow_le_pow_right (by decide) h2)⟩
theorem Bd.trim {n k : Nat} {xs : List Int} (h : Bd n k xs) : Bd n k (trim xs) := ⟨Nat.le_trans (trim_len xs) h.1, fun a ha => h.2 a (trim_mem ha)⟩
theorem Bd.opp {n k : Nat} {xs : List Int} (h : Bd n k xs) : Bd n k (oppR xs) := by
  refine ⟨by unfold oppR; rw [List.length_map]; exact h.1, fun a ha => ?_⟩
  unfold oppR at ha
  obtain ⟨b, hb, rfl⟩ := List.mem_map.mp ha
  have := h.2 b hb
  omega
theorem Bd.add {n k : Nat} {xs ys : List Int} (h : Bd n k xs) (g : Bd n k ys) : Bd n (k + 1) (addR xs ys) := by
  have l1 := h.1
  have l2 := g.1
  have pz : ∀ {m : Nat} {zs : List Int} {b : Int}, (∀ a ∈ zs, a.natAbs < 2 ^ k) → b ∈ zs ++ List.replicate m 0 → b.natAbs < 2 ^ k := fun {m zs b} hz hb => by
    rcases List.mem_append.mp hb with hb | hb
    · exact hz b hb
    · rw [List.eq_of_mem_replicate hb]
      exact Nat.pos_of_ne_zero (by simp)
  refine ⟨?_, fun a ha => ?_⟩
  · unfold addR
    simp
    omega
  · unfold addR at ha
    obtain ⟨p, hp, rfl⟩ := List.mem_map.mp ha
    have h1 := pz h.2 (List.of_mem_zip hp).1
    have h2 := pz g.2 (List.of_mem_zip hp).2
    rw [Nat.pow_succ]
    omega
theorem sm_lt {k : Nat} : ∀ {n : Nat} {f : Nat → Int}, (∀ i, i < n → (f i).natAbs < 2 ^ k) → (sm n f).natAbs ≤ n * 2 ^ k
  | 0, _, _ => by simp [sm]
  | n + 1, f, h => by
    have h0 := h 0 (by omega)
    have ih := sm_lt (n := n) (f := fun i => f (i + 1)) fun i hi => h (i + 1) (by omega)
    show (f 0 + sm n _).natAbs ≤ _
    rw [Nat.succ_mul]
    omega
theorem getD_lt {k : Nat} {xs : List Int} (h : ∀ a ∈ xs, a.natAbs < 2 ^ k) (j : Nat) : (xs.getD j 0).natAbs < 2 ^ k := by
  by_cases hj : j < xs.length
  · simp only [List.getD_eq_getElem?_getD, List.getElem?_eq_getElem hj, Option.getD_some]
    exact h _ (List.getElem_mem hj)
  · simp only [List.getD_eq_getElem?_getD, List.getElem?_eq_none (Nat.le_of_not_lt hj), Option.getD_none]
    exact Nat.pos_of_ne_zero (by simp)
theorem Bd.mul {n m k l : Nat} {xs ys : List Int} (h : Bd n k xs) (g : Bd m l ys) (hn : n + m < 2 ^ 5) : Bd (n + m) (k + l + 6) (mulR xs ys) := by
  have l1 := h.1
  have l2 := g.1
  refine ⟨by unfold mulR; simp; omega, fun a ha => ?_⟩
  rw [mulR_cv] at ha
  obtain ⟨i, hi, rfl⟩ := List.mem_map.mp ha
  have hi := List.mem_range.mp hi
  have := sm_lt (k := k + l) (n := i + 1) (f := fun j => xs.getD j 0 * ys.getD (i - j) 0) fun j _ => by
    show (xs.getD j 0 * ys.getD (i - j) 0).natAbs < _
    rw [Int.natAbs_mul, Nat.pow_add]
    exact Nat.mul_lt_mul'' (getD_lt h.2 j) (getD_lt g.2 _)
  unfold cv
  refine Nat.lt_of_le_of_lt this ?_
  have p : 0 < 2 ^ (k + l) := Nat.pos_of_ne_zero (by simp)
  have e : 2 ^ (k + l + 6) = 2 ^ (k + l) * 64 := Nat.pow_add 2 (k + l) 6
  rw [e, Nat.mul_comm]
  exact (Nat.mul_lt_mul_left p).mpr (by omega)
theorem eval_lt {k t : Nat} {d : Int} (hd : d.natAbs < 2 ^ t) : ∀ {xs : List Int}, (∀ a ∈ xs, a.natAbs < 2 ^ k) → (evalP xs d).natAbs < 2 ^ (k + xs.length * (t + 1))
  | [], _ => by show 0 < _; exact Nat.pos_of_ne_zero (by simp)
  | a :: r, h => by
    have ih := eval_lt hd (xs := r) fun b hb => h b (List.mem_cons_of_mem _ hb)
    have ha := h a (by simp)
    rw [eval_cons]
    have e : (evalP r d * d).natAbs < 2 ^ (k + r.length * (t + 1)) * 2 ^ t := by rw [Int.natAbs_mul]; exact Nat.mul_lt_mul'' ih hd
    rw [← Nat.pow_add] at e
    have h1 : 2 ^ k ≤ 2 ^ (k + r.length * (t + 1) + t) := Nat.pow_le_pow_right (by decide) (by omega)
    have h2 : k + (a :: r).length * (t + 1) = (k + r.length * (t + 1) + t) + 1 := by rw [List.length_cons, Nat.succ_mul]; omega
    rw [h2, Nat.pow_succ]
    omega
end K75
/-! signs, differences, runs: plain -/
namespace K75
def sgn (x : Int) : Int := (if decide (0 < x) then 1 else 0) - (if decide (x < 0) then 1 else 0)
theorem sgn_pos {x : Int} (h : 0 < x) : sgn x = 1 := by unfold sgn; rw [decide_eq_true h, decide_eq_false (by omega)]; rfl
theorem sgn_neg {x : Int} (h : x < 0) : sgn x = -1 := by unfold sgn; rw [decide_eq_true h, decide_eq_false (by omega)]; rfl
theorem sgn_zero : sgn 0 = 0 := rfl
theorem sgn_cases (x : Int) : (0 < x ∧ sgn x = 1) ∨ (x = 0 ∧ sgn x = 0) ∨ (x < 0 ∧ sgn x = -1) := by
  rcases Int.lt_trichotomy x 0 with h | h | h
  · exact .inr (.inr ⟨h, sgn_neg h⟩)
  · subst h; exact .inr (.inl ⟨rfl, rfl⟩)
  · exact .inl ⟨h, sgn_pos h⟩
theorem sgn_opp (x : Int) : sgn (0 - x) = 0 - sgn x := by
  rcases sgn_cases x with ⟨h, e⟩ | ⟨h, e⟩ | ⟨h, e⟩
  · rw [e, sgn_neg (by omega)]; rfl
  · subst h; rfl
  · rw [e, sgn_pos (by omega)]; rfl
theorem sgn_mul_pos {x y : Int} (h : 0 < x) : sgn (x * y) = sgn y := by
  rcases sgn_cases y with ⟨g, e⟩ | ⟨g, e⟩ | ⟨g, e⟩
  · rw [e, sgn_pos (Int.mul_pos h g)]
  · subst g; simp
  · rw [e, sgn_neg (Int.mul_neg_of_pos_of_neg h g)]
def sg (row : List Int) (d : Int) : Int := sgn (evalP row d)
/-! far away -/
theorem last_cons {a c : Int} {r : List Int} (h : r ≠ []) : (a :: r).getLast? = some c ↔ r.getLast? = some c := by
  cases r with
  | nil => exact absurd rfl h
  | cons b r => rw [List.getLast?_cons_cons]
theorem far {B d : Int} (hd : B ≤ d) (hB : 0 < B) : ∀ {row : List Int} {c : Int}, (∀ a ∈ row, (a.natAbs : Int) < B) → row.getLast? = some c → c ≠ 0 → evalP row d ≠ 0 ∧ sgn (evalP row d) = sgn c
  | [], _, _, h, _ => by cases h
  | [a], c, hb, h, hc => by
    have e : a = c := by simpa using h
    subst e
    have : evalP [a] d = a := by rw [eval_cons, eval_nil]; omega
    rw [this]
    exact ⟨hc, rfl⟩
  | a :: b :: r, c, hb, h, hc => by
    obtain ⟨h1, h2⟩ := far hd hB (row := b :: r) (c := c) (fun x hx => hb x (List.mem_cons_of_mem _ hx)) (by rwa [last_cons (by simp)] at h) hc
    have ha := hb a (by simp)
    rw [eval_cons a (b :: r)]
    generalize evalP (b :: r) d = x at *
    rcases sgn_cases x with ⟨g, e⟩ | ⟨g, e⟩ | ⟨g, e⟩
    · have : d ≤ x * d := by
        have := Int.mul_le_mul_of_nonneg_right (show 1 ≤ x by omega) (show 0 ≤ d by omega)
        omega
      have p : 0 < x * d + a := by omega
      exact ⟨by omega, by rw [sgn_pos p, ← h2, e]⟩
    · exact absurd g h1
    · have : x * d ≤ -d := by
        have := Int.mul_le_mul_of_nonneg_right (show x ≤ -1 by omega) (show 0 ≤ d by omega)
        omega
      have p : x * d + a < 0 := by omega
      exact ⟨by omega, by rw [sgn_neg p, ← h2, e]⟩
/-- the sign from 2 ^ k on -/
theorem far_const {n k : Nat} {row : List Int} (h : Bd n k row) (t : TR row) {d e : Int} (hd : (2 : Int) ^ k ≤ d) (he : (2 : Int) ^ k ≤ e) : sg row d = sg row e := by
  cases hl : row.getLast? with
  | none =>
    have : row = [] := by simpa using hl
    subst this
    rfl
  | some c =>
    have hB : (0 : Int) < 2 ^ k := Int.pow_pos (by decide)
    have hb : ∀ a ∈ row, (a.natAbs : Int) < 2 ^ k := fun a ha => by
      have := h.2 a ha
      have e : ((2 ^ k : Nat) : Int) = (2 : Int) ^ k := by simp
      omega
    unfold sg
    rw [(far hd hB hb hl (t c hl)).2, (far he hB hb hl (t c hl)).2]
/-! the step -/
def compR (row : List Int) : List Int := row.foldr (fun one found => trim (addR (trim (mulR found [1, 1])) (trim [one]))) []
def stepR (row : List Int) : List Int := trim (addR (compR row) (oppR row))
theorem eval_comp (row : List Int) (d : Int) : evalP (compR row) d = evalP row (d + 1) := by
  induction row with
  | nil => rfl
  | cons a r ih =>
    show evalP (trim (addR (trim (mulR (compR r) [1, 1])) (trim [a]))) d = _
    rw [eval_trim, eval_add, eval_trim, eval_trim, eval_mul, ih, eval_cons a r]
    have e1 : evalP [1, 1] d = d + 1 := by rw [eval_cons, eval_cons, eval_nil]; omega
    have e2 : evalP [a] d = a := by rw [eval_cons, eval_nil]; omega
    rw [e1, e2]
theorem eval_step (row : List Int) (d : Int) : evalP (stepR row) d = evalP row (d + 1) - evalP row d := by
  unfold stepR
  rw [eval_trim, eval_add, eval_opp, eval_comp]
  omega
theorem getD_trim (xs : List Int) (i : Nat) : (trim xs).getD i 0 = xs.getD i 0 := by
  obtain ⟨n, h⟩ := trim_split xs
  conv => rhs; rw [h]
  exact (getD_fst0 (trim xs) n i).symm
theorem getD_map_zip : ∀ (xs ys : List Int) (i : Nat), xs.length = ys.length → ((xs.zip ys).map fun (p : Int × Int) => p.1 + p.2).getD i 0 = xs.getD i 0 + ys.getD i 0
  | [], [], i, _ => by simp
  | x :: xs, y :: ys, 0, _ => by simp
  | x :: xs, y :: ys, i + 1, h => by
    have := getD_map_zip xs ys i (by simpa using h)
    simpa using this
  | [], _ :: _, _, h => by cases h
  | _ :: _, [], _, h => by cases h
theorem getD_add (xs ys : List Int) (i : Nat) : (addR xs ys).getD i 0 = xs.getD i 0 + ys.getD i 0 := by
  unfold addR
  rw [getD_map_zip _ _ _ (by simp; omega)]
  have e : ∀ (zs : List Int) (n : Nat), (zs ++ List.replicate n 0).getD i 0 = zs.getD i 0 := fun zs n => getD_fst0 zs n i
  rw [e, e]
theorem getD_opp (xs : List Int) (i : Nat) : (oppR xs).getD i 0 = 0 - xs.getD i 0 := by
  unfold oppR
  simp only [List.getD_eq_getElem?_getD, List.getElem?_map]
  cases xs[i]? <;> simp
theorem cv11 : ∀ (xs : List Int) (i : Nat), cv xs [1, 1] (i + 1) = xs.getD (i + 1) 0 + xs.getD i 0
  | [], i => by rw [cv_nil]; simp
  | a :: r, 0 => by
    rw [cv_succ]
    show a * 1 + (r.getD 0 0 * 1 + 0) = _
    simp
    omega
  | a :: r, i + 1 => by
    rw [cv_succ, cv11 r i]
    simp
theorem getD_mul11 (xs : List Int) (i : Nat) : (mulR xs [1, 1]).getD (i + 1) 0 = xs.getD (i + 1) 0 + xs.getD i 0 := by
  rw [mulR_cv]
  by_cases h : i + 1 < xs.length + 2
  · simp only [List.getD_eq_getElem?_getD, List.getElem?_map, List.length_cons, List.length_nil]
    rw [List.getElem?_range (by omega)]
    have := cv11 xs i
    simp only [List.getD_eq_getElem?_getD] at this
    exact this
  · simp only [List.getD_eq_getElem?_getD]
    rw [List.getElem?_eq_none (by simp; omega), List.getElem?_eq_none (by omega), List.getElem?_eq_none (by omega)]
    rfl
theorem comp_top : ∀ (row : List Int), (∀ i, row.length ≤ i → (compR row).getD i 0 = 0) ∧ (row ≠ [] → (compR row).getD (row.length - 1) 0 = row.getD (row.length - 1) 0)
  | [] => ⟨fun i _ => by simp [compR], fun h => absurd rfl h⟩
  | a :: r => by
    obtain ⟨h1, h2⟩ := comp_top r
    have e : ∀ i, (compR (a :: r)).getD i 0 = (mulR (compR r) [1, 1]).getD i 0 + [a].getD i 0 := fun i => by
      show (trim (addR (trim (mulR (compR r) [1, 1])) (trim [a]))).getD i 0 = _
      rw [getD_trim, getD_add, getD_trim, getD_trim]
    refine ⟨fun i hi => ?_, fun _ => ?_⟩
    · obtain ⟨j, rfl⟩ : ∃ j, i = j + 1 := ⟨i - 1, by simp at hi; omega⟩
      have hj : r.length ≤ j := by simpa using hi
      rw [e, getD_mul11, h1 _ (by omega), h1 _ hj]
      simp
    · cases r with
      | nil =>
        show (compR [a]).getD 0 0 = a
        rw [e]
        have : (mulR (compR []) [1, 1]).getD 0 0 = 0 := by
          rw [mulR_cv]
          show (cv (compR []) [1, 1] 0) = 0
          simp [compR, cv_nil]
        rw [this]
        simp
      | cons b r =>
        have : (a :: b :: r).length - 1 = (b :: r).length - 1 + 1 := by simp
        rw [this, e, getD_mul11, h1 _ (by simp), h2 (by simp)]
        simp
theorem TR_len {xs : List Int} {n : Nat} (t : TR xs) (h : ∀ i, n ≤ i → xs.getD i 0 = 0) : xs.length ≤ n := by
  by_cases hl : xs.length ≤ n
  · exact hl
  · exfalso
    have hx : xs ≠ [] := fun z => by rw [z] at hl; simp at hl
    have e : xs.getLast? = some (xs.getD (xs.length - 1) 0) := by
      rw [List.getLast?_eq_getElem?]
      simp only [List.getD_eq_getElem?_getD]
      rw [List.getElem?_eq_getElem (by omega)]
      rfl
    exact t _ e (h _ (by omega))
theorem step_len {row : List Int} (h : row ≠ []) : (stepR row).length ≤ row.length - 1 := by
  refine TR_len (TR_trim _) fun i hi => ?_
  show (trim (addR (compR row) (oppR row))).getD i 0 = 0
  obtain ⟨h1, h2⟩ := comp_top row
  rw [getD_trim, getD_add, getD_opp]
  by_cases hj : i = row.length - 1
  · subst hj; rw [h2 h]; omega
  · have : row.length ≤ i := by omega
    rw [h1 i this]
    simp only [List.getD_eq_getElem?_getD]
    rw [List.getElem?_eq_none this]
    rfl
theorem Bd.comp {k : Nat} (hk : 0 < k) : ∀ {row : List Int}, Bd 12 k row → row.length ≤ 12 → (compR row).length ≤ row.length ∧ ∀ a ∈ compR row, a.natAbs < 2 ^ (k + 8 * row.length)
  | [], _, _ => ⟨Nat.le_refl _, fun a ha => by cases ha⟩
  | a :: r, h, hl => by
    have hr : Bd 12 k r := ⟨by have := h.1; simp at this; omega, fun b hb => h.2 b (List.mem_cons_of_mem _ hb)⟩
    obtain ⟨l1, b1⟩ := Bd.comp hk hr (by simp at hl; omega)
    have len : (compR (a :: r)).length ≤ (a :: r).length := TR_len (TR_trim _) (comp_top (a :: r)).1
    refine ⟨len, ?_⟩
    have B1 : Bd (r.length) (k + 8 * r.length) (compR r) := ⟨l1, b1⟩
    have B2 : Bd 2 1 ([1, 1] : List Int) := ⟨by simp, fun b hb => by simp at hb; subst hb; decide⟩
    have hrl : r.length ≤ 11 := by simp at hl; omega
    have B3 := (B1.mul B2 (by omega)).trim
    have B4 : Bd 1 k (K75.trim [a]) := Bd.trim (xs := [a]) ⟨by simp, fun b hb => by rw [List.mem_singleton.mp hb]; exact h.2 a (by simp)⟩
    have B5 := ((B3.mono (Nat.le_refl _) (Nat.le_refl _)).add (B4.mono (m := r.length + 2) (l := k + 8 * r.length + 1 + 6) (by omega) (by omega))).trim
    intro b hb
    have := B5.2 b hb
    rw [show k + 8 * (a :: r).length = k + 8 * r.length + 1 + 6 + 1 by simp; omega]
    exact this
theorem Bd.step {k : Nat} {row : List Int} (h : Bd 12 k row) (hk : 0 < k) : Bd 12 (k + 97) (stepR row) := by
  obtain ⟨l1, b1⟩ := Bd.comp hk h h.1
  have h12 := h.1
  have B1 : Bd 12 (k + 96) (compR row) := ⟨by omega, fun a ha => Nat.lt_of_lt_of_le (b1 a ha) (Nat.pow_le_pow_right (by decide) (by omega))⟩
  exact (B1.add (h.opp.mono (Nat.le_refl _) (by omega))).trim
end K75
/-! runs of a sign -/
namespace K75
def scan (s : Int → Int) : Int → Nat → Option Int → List (Int × Int)
  | _, 0, _ => []
  | a, n + 1, p => if some (s a) = p then scan s (a + 1) n p else (a, s a) :: scan s (a + 1) n (some (s a))
theorem scan_skip {s : Int → Int} {a : Int} {n : Nat} {p : Option Int} (h : some (s a) = p) : scan s a (n + 1) p = scan s (a + 1) n p := by
  show (if some (s a) = p then _ else _) = _
  rw [if_pos h]
theorem scan_new {s : Int → Int} {a : Int} {n : Nat} {p : Option Int} (h : some (s a) ≠ p) : scan s a (n + 1) p = (a, s a) :: scan s (a + 1) n (some (s a)) := by
  show (if some (s a) = p then _ else _) = _
  rw [if_neg h]
theorem scan_none {s : Int → Int} {a : Int} {n : Nat} : scan s a (n + 1) none = (a, s a) :: scan s (a + 1) n (some (s a)) := scan_new (by simp)
theorem scan_any {s : Int → Int} {a : Int} {n : Nat} {p : Option Int} (h : some (s a) ≠ p) : scan s a (n + 1) p = scan s a (n + 1) none := by rw [scan_new h, scan_none]
theorem scan_self {s : Int → Int} {a : Int} {n : Nat} : scan s a (n + 1) none = (a, s a) :: scan s a (n + 1) (some (s a)) := by rw [scan_none, scan_skip rfl]
theorem scan_app (s : Int → Int) : ∀ (n : Nat) (a : Int) (m : Nat) (p : Option Int), scan s a (n + 1 + m) p = scan s a (n + 1) p ++ scan s (a + (n + 1 : Nat)) m (some (s (a + n)))
  | 0, a, m, p => by
    rw [show 0 + 1 + m = m + 1 by omega]
    by_cases h : some (s a) = p
    · rw [scan_skip h, scan_skip h]; simp [scan, h]
    · rw [scan_new h, scan_new h]; simp [scan]
  | n + 1, a, m, p => by
    have e1 : a + 1 + ((n + 1 : Nat) : Int) = a + ((n + 1 + 1 : Nat) : Int) := by omega
    have e2 : a + 1 + (n : Int) = a + ((n + 1 : Nat) : Int) := by omega
    rw [show n + 1 + 1 + m = (n + 1 + m) + 1 by omega]
    by_cases h : some (s a) = p
    · rw [scan_skip h, scan_skip h, scan_app s n (a + 1) m p, e1, e2]
    · rw [scan_new h, scan_new h, scan_app s n (a + 1) m _, e1, e2, List.cons_append]
theorem scan_const {s : Int → Int} {σ : Int} : ∀ {n : Nat} {a : Int}, (∀ d, a ≤ d → d < a + n → s d = σ) → scan s a n (some σ) = []
  | 0, _, _ => rfl
  | n + 1, a, h => by
    rw [scan_skip (by rw [h a (by omega) (by omega)]), scan_const fun d h1 h2 => h d (by omega) (by omega)]
theorem scan_congr {s t : Int → Int} : ∀ {n : Nat} {a : Int} {p : Option Int}, (∀ d, a ≤ d → d < a + n → s d = t d) → scan s a n p = scan t a n p
  | 0, _, _, _ => rfl
  | n + 1, a, p, h => by
    have e := h a (by omega) (by omega)
    have ih := fun p => scan_congr (s := s) (t := t) (n := n) (a := a + 1) (p := p) fun d h1 h2 => h d (by omega) (by omega)
    show (if some (s a) = p then _ else _) = (if some (t a) = p then _ else _)
    rw [e, ih, ih]
def neg2 (q : Int × Int) : Int × Int := (q.1, 0 - q.2)
theorem scan_neg {s : Int → Int} : ∀ {n : Nat} {a : Int} {p : Option Int}, scan (fun d => 0 - s d) a n (p.map (0 - ·)) = (scan s a n p).map neg2
  | 0, _, _ => rfl
  | n + 1, a, p => by
    by_cases h : some (s a) = p
    · rw [scan_skip h, scan_skip (by rw [← h]; rfl), scan_neg]
    · rw [scan_new h, scan_new (by
        intro z
        apply h
        cases p with
        | none => cases z
        | some q => have : 0 - s a = 0 - q := Option.some.inj z; rw [show s a = q by omega]), List.map_cons]
      congr 1
      exact scan_neg (p := some (s a))
/-- all entries: where they stand, what they tell -/
theorem scan_cut {s : Int → Int} : ∀ {m : Nat} {c : Int} {q : Option Int} {b τ : Int} {r : List (Int × Int)}, scan s c m q = (b, τ) :: r → c ≤ b ∧ b < c + m ∧ τ = s b ∧ (∀ d, c ≤ d → d < b → some (s d) = q) ∧ scan s c m q = scan s b (c + m - b).toNat none
  | 0, _, _, _, _, _, h => by cases h
  | m + 1, c, q, b, τ, r, h => by
    by_cases hq : some (s c) = q
    · rw [scan_skip hq] at h ⊢
      obtain ⟨h1, h2, h3, h4, h5⟩ := scan_cut h
      refine ⟨by omega, by omega, h3, fun d hd hd2 => ?_, ?_⟩
      · by_cases e : d = c
        · rw [e]; exact hq
        · exact h4 d (by omega) hd2
      · rw [h5, show c + 1 + (m : Int) - b = c + ((m + 1 : Nat) : Int) - b by omega]
    · have hs := scan_any (n := m) hq
      rw [scan_new hq] at h
      have hb : c = b := (congrArg (fun l => (l.head?.getD (0, 0)).1) h)
      have ht : s c = τ := (congrArg (fun l => (l.head?.getD (0, 0)).2) h)
      subst hb
      refine ⟨by omega, by omega, ht.symm, fun d h1 h2 => by omega, ?_⟩
      rw [hs, show (c + ((m + 1 : Nat) : Int) - c).toNat = m + 1 by omega]
def nxt (E : Int) : List (Int × Int) → Int
  | [] => E
  | (b, _) :: _ => b
/-- one entry of a whole row of runs, and what follows it -/
theorem scan_seg {s : Int → Int} {a : Int} {n : Nat} {σ : Int} {b : Int} {r : List (Int × Int)} (h : scan s a (n + 1) none = (b, σ) :: r) : b = a ∧ σ = s a ∧ a < nxt (a + (n + 1 : Nat)) r ∧ nxt (a + (n + 1 : Nat)) r ≤ a + (n + 1 : Nat) ∧ (∀ d, a ≤ d → d < nxt (a + (n + 1 : Nat)) r → s d = σ) ∧ r = scan s (nxt (a + (n + 1 : Nat)) r) (a + (n + 1 : Nat) - nxt (a + (n + 1 : Nat)) r).toNat none := by
  rw [scan_none] at h
  have hb : a = b := (congrArg (fun l => (l.head?.getD (0, 0)).1) h)
  have ht : s a = σ := (congrArg (fun l => (l.head?.getD (0, 0)).2) h)
  have hr : scan s (a + 1) n (some (s a)) = r := (congrArg List.tail h)
  subst hb ht
  cases r with
  | nil =>
    refine ⟨rfl, rfl, by show a < a + (n + 1 : Nat); omega, Int.le_refl _, fun d h1 h2 => ?_, by show [] = scan s (a + (n + 1 : Nat)) (a + (n + 1 : Nat) - (a + (n + 1 : Nat))).toNat none; rw [Int.sub_self]; rfl⟩
    have h2 : d < a + (n + 1 : Nat) := h2
    have key : ∀ (m : Nat) (c : Int), scan s c m (some (s a)) = [] → ∀ d, c ≤ d → d < c + m → s d = s a := by
      intro m
      induction m with
      | zero => intro c _ d h1 h2; omega
      | succ m ih =>
        intro c hc d h1 h2
        by_cases e : some (s c) = some (s a)
        · rw [scan_skip e] at hc
          by_cases z : d = c
          · rw [z]; exact Option.some.inj e
          · exact ih (c + 1) hc d (by omega) (by omega)
        · rw [scan_new e] at hc; cases hc
    by_cases z : d = a
    · rw [z]
    · exact key n (a + 1) hr d (by omega) (by omega)
  | cons q r =>
    obtain ⟨b, τ⟩ := q
    obtain ⟨h1, h2, h3, h4, h5⟩ := scan_cut hr
    show a = a ∧ _ ∧ a < b ∧ b ≤ _ ∧ (∀ d, a ≤ d → d < b → s d = s a) ∧ _ = scan s b (a + (n + 1 : Nat) - b).toNat none
    refine ⟨rfl, rfl, by omega, by omega, fun d hd hd2 => ?_, ?_⟩
    · by_cases z : d = a
      · rw [z]
      · exact Option.some.inj (h4 d (by omega) hd2)
    · rw [← hr, h5, show a + 1 + (n : Int) - b = a + ((n + 1 : Nat) : Int) - b by omega]
/-! runs put together -/
def joinR : Option Int → List (Int × Int) → List (Int × Int)
  | _, [] => []
  | p, (a, σ) :: r => if some σ = p then joinR p r else (a, σ) :: joinR (some σ) r
theorem join_scan {s : Int → Int} (rest : List (Int × Int)) : ∀ {n : Nat} {a : Int} {p : Option Int}, joinR p (scan s a n p ++ rest) = scan s a n p ++ joinR (if n = 0 then p else some (s (a + n - 1))) rest
  | 0, _, _ => rfl
  | n + 1, a, p => by
    have e : (if n = 0 then some (s a) else some (s (a + 1 + n - 1))) = some (s (a + ((n + 1 : Nat) : Int) - 1)) := by
      split
      · rename_i h; subst h; congr 2; omega
      · congr 2; omega
    by_cases h : some (s a) = p
    · rw [scan_skip h, join_scan rest, if_neg (Nat.succ_ne_zero n), ← h, e]
    · rw [scan_new h, List.cons_append]
      show (if some (s a) = p then _ else (a, s a) :: joinR (some (s a)) _) = _
      rw [if_neg h, join_scan rest, if_neg (Nat.succ_ne_zero n), e, List.cons_append]
theorem join_seg {s : Int → Int} (rest : List (Int × Int)) {n : Nat} {a : Int} (p : Option Int) : joinR p (scan s a (n + 1) none ++ rest) = scan s a (n + 1) p ++ joinR (some (s (a + n))) rest := by
  have e1 : a + ((n + 1 : Nat) : Int) - 1 = a + n := by omega
  by_cases h : some (s a) = p
  · rw [scan_self, List.cons_append]
    show (if some (s a) = p then joinR p _ else _) = _
    rw [if_pos h, ← h, join_scan rest, if_neg (Nat.succ_ne_zero n), e1]
  · rw [← scan_any h, join_scan rest, if_neg (Nat.succ_ne_zero n), e1]
/-- what is collected, segment by segment -/
def cat (s : Int → Int) (E : Int) : List (Int × Int) → List (Int × Int)
  | [] => []
  | (a, _) :: r => scan s a (nxt E r - a).toNat none ++ cat s E r
theorem join_cat {s t : Int → Int} : ∀ (n : Nat) (a : Int) (p : Option Int), joinR p (cat s (a + (n + 1 : Nat)) (scan t a (n + 1) none)) = scan s a (n + 1) p := by
  intro n
  induction n using Nat.strongRecOn with
  | ind n ih =>
    intro a p
    generalize hE : a + ((n + 1 : Nat) : Int) = E
    cases hl : scan t a (n + 1) none with
    | nil => rw [scan_none] at hl; cases hl
    | cons q r =>
      obtain ⟨b, σ⟩ := q
      obtain ⟨h1, h2, h3, h4, h5, h6⟩ := scan_seg hl
      rw [hE] at h3 h4 h5 h6
      subst h1
      show joinR p (scan s b (nxt E r - b).toNat none ++ cat s E r) = _
      obtain ⟨k, hk⟩ : ∃ k : Nat, nxt E r = b + ((k + 1 : Nat) : Int) := ⟨(nxt E r - b).toNat - 1, by omega⟩
      have e1 : (nxt E r - b).toNat = k + 1 := by omega
      rw [e1, join_seg]
      by_cases hz : nxt E r = E
      · rw [hz, Int.sub_self] at h6
        have : r = [] := h6
        subst this
        have : k = n := by
          have : E = b + ((k + 1 : Nat) : Int) := hk
          omega
        subst this
        show scan s b (k + 1) p ++ joinR _ [] = _
        simp [joinR]
      · obtain ⟨m, hm⟩ : ∃ m : Nat, E = nxt E r + ((m + 1 : Nat) : Int) := ⟨(E - nxt E r).toNat - 1, by omega⟩
        have e2 : (E - nxt E r).toNat = m + 1 := by omega
        rw [e2, hk] at h6
        have ihm := ih m (by omega) (b + ((k + 1 : Nat) : Int)) (some (s (b + k)))
        rw [← hk, ← hm] at ihm
        have h6' : scan t (nxt E r) (m + 1) none = r := by rw [hk]; exact h6.symm
        rw [h6'] at ihm
        rw [ihm, show n + 1 = k + 1 + (m + 1) by omega, scan_app, hk]
end K75
/-! where the values only rise, fall or stay -/
namespace K75
/-- how a sign goes from a to before E -/
def Mono (δ : Int) (s : Int → Int) (a E : Int) : Prop := (δ = 0 ∧ ∀ d, a ≤ d → d + 1 < E → s (d + 1) = s d) ∨ (δ = 1 ∧ ∀ d, a ≤ d → d + 1 < E → s d ≤ s (d + 1)) ∨ (δ = -1 ∧ ∀ d, a ≤ d → d + 1 < E → s (d + 1) ≤ s d)
theorem up_le {s : Int → Int} {a E : Int} (h : ∀ d, a ≤ d → d + 1 < E → s d ≤ s (d + 1)) : ∀ (n : Nat) (d : Int), a ≤ d → d + n < E → s d ≤ s (d + n)
  | 0, d, _, _ => by simp
  | n + 1, d, h1, h2 => by
    have ih := up_le h n d h1 (by omega)
    have := h (d + n) (by omega) (by omega)
    rw [show d + ((n + 1 : Nat) : Int) = d + n + 1 by omega]
    omega
theorem dn_le {s : Int → Int} {a E : Int} (h : ∀ d, a ≤ d → d + 1 < E → s (d + 1) ≤ s d) : ∀ (n : Nat) (d : Int), a ≤ d → d + n < E → s (d + n) ≤ s d
  | 0, d, _, _ => by simp
  | n + 1, d, h1, h2 => by
    have ih := dn_le h n d h1 (by omega)
    have := h (d + n) (by omega) (by omega)
    rw [show d + ((n + 1 : Nat) : Int) = d + n + 1 by omega]
    omega
theorem st_eq {s : Int → Int} {a E : Int} (h : ∀ d, a ≤ d → d + 1 < E → s (d + 1) = s d) : ∀ (n : Nat) (d : Int), a ≤ d → d + n < E → s (d + n) = s d
  | 0, d, _, _ => by simp
  | n + 1, d, h1, h2 => by
    have ih := st_eq h n d h1 (by omega)
    have := h (d + n) (by omega) (by omega)
    rw [show d + ((n + 1 : Nat) : Int) = d + n + 1 by omega]
    omega
/-- once it has left a value it doesn't come back -/
theorem Mono.left {δ : Int} {s : Int → Int} {a E : Int} (h : Mono δ s a E) {p c d : Int} (hp : a ≤ p) (hc : p ≤ c) (hd : c ≤ d) (he : d < E) (hn : s c ≠ s p) : s d ≠ s p := by
  obtain ⟨n, rfl⟩ : ∃ n : Nat, c = p + n := ⟨(c - p).toNat, by omega⟩
  obtain ⟨m, rfl⟩ : ∃ m : Nat, d = p + n + m := ⟨(d - (p + n)).toNat, by omega⟩
  rcases h with ⟨_, h⟩ | ⟨_, h⟩ | ⟨_, h⟩
  · exact absurd (st_eq h n p hp (by omega)) hn
  · have h1 := up_le h n p hp (by omega)
    have h2 := up_le h m (p + n) (by omega) (by omega)
    omega
  · have h1 := dn_le h n p hp (by omega)
    have h2 := dn_le h m (p + n) (by omega) (by omega)
    omega
/-- what has the direction's sign keeps it -/
theorem Mono.keep {δ : Int} {s : Int → Int} {a E : Int} (h : Mono δ s a E) (hs : ∀ d, -1 ≤ s d ∧ s d ≤ 1) {p d : Int} (hp : a ≤ p) (hd : p ≤ d) (he : d < E) (h0 : δ = 0 ∨ s p = δ) : s d = s p := by
  obtain ⟨n, rfl⟩ : ∃ n : Nat, d = p + n := ⟨(d - p).toNat, by omega⟩
  have b := hs (p + n)
  rcases h with ⟨e, h⟩ | ⟨e, h⟩ | ⟨e, h⟩
  · exact st_eq h n p hp (by omega)
  · have h1 := up_le h n p hp (by omega)
    omega
  · have h1 := dn_le h n p hp (by omega)
    omega
theorem Mono.from {δ : Int} {s : Int → Int} {a E p : Int} (h : Mono δ s a E) (hp : a ≤ p) : Mono δ s p E := by
  rcases h with ⟨e, h⟩ | ⟨e, h⟩ | ⟨e, h⟩
  · exact .inl ⟨e, fun d g => h d (by omega)⟩
  · exact .inr (.inl ⟨e, fun d g => h d (by omega)⟩)
  · exact .inr (.inr ⟨e, fun d g => h d (by omega)⟩)
theorem least_change {δ : Int} {s : Int → Int} {a E : Int} (h : Mono δ s a E) {p : Int} (hp : a ≤ p) : ∀ (n : Nat) (c : Int), p ≤ c → c + n = E → (∀ d, p ≤ d → d < c → s d = s p) → ∃ m, c ≤ m ∧ m ≤ E ∧ (∀ d, p ≤ d → d < m → s d = s p) ∧ (∀ d, m ≤ d → d < E → s d ≠ s p)
  | 0, c, h1, h2, h3 => ⟨c, by omega, by omega, h3, fun d g1 g2 => by omega⟩
  | n + 1, c, h1, h2, h3 => by
    by_cases e : s c = s p
    · obtain ⟨m, g1, g2, g3, g4⟩ := least_change h hp n (c + 1) (by omega) (by omega) (fun d k1 k2 => by
        by_cases z : d = c
        · rw [z]; exact e
        · exact h3 d k1 (by omega))
      exact ⟨m, by omega, g2, g3, g4⟩
    · exact ⟨c, by omega, by omega, h3, fun d g1 g2 => h.left hp h1 g1 g2 e⟩
theorem len_up {s : Int → Int} {E : Int} : ∀ (n : Nat) (a : Int) (σ : Int), a + n ≤ E → (∀ d, a ≤ d → d + 1 < E → s d ≤ s (d + 1)) → (∀ d, s d ≤ 1) → (0 < n → σ ≤ s a) → σ ≤ 1 → ((scan s a n (some σ)).length : Int) ≤ 1 - σ
  | 0, _, σ, _, _, _, _, hσ => by simp [scan]; omega
  | n + 1, a, σ, h1, h2, h3, h4, hσ => by
    have h4 := h4 (by omega)
    have b := h3 a
    have st : 0 < n → s a ≤ s (a + 1) := fun hn => h2 a (by omega) (by omega)
    by_cases e : s a = σ
    · rw [scan_skip (by rw [e])]
      exact len_up n (a + 1) σ (by omega) (fun d g => h2 d (by omega)) h3 (fun hn => by have := st hn; omega) hσ
    · rw [scan_new (by intro z; exact e (Option.some.inj z)), List.length_cons]
      have := len_up n (a + 1) (s a) (by omega) (fun d g => h2 d (by omega)) h3 st b
      omega
theorem Mono.len {δ : Int} {s : Int → Int} {a : Int} {n : Nat} (h : Mono δ s a (a + n)) (hs : ∀ d, -1 ≤ s d ∧ s d ≤ 1) : (scan s a n none).length ≤ 3 := by
  cases n with
  | zero => simp [scan]
  | succ n =>
    rw [scan_self, List.length_cons]
    have up : ∀ t : Int → Int, (∀ d, -1 ≤ t d ∧ t d ≤ 1) → (∀ d, a ≤ d → d + 1 < a + ((n + 1 : Nat) : Int) → t d ≤ t (d + 1)) → (scan t a (n + 1) (some (t a))).length + 1 ≤ 3 := fun t ht h => by
      have := len_up (n + 1) a (t a) (Int.le_refl _) h (fun d => (ht d).2) (fun _ => Int.le_refl _) (ht a).2
      have := ht a
      omega
    rcases h with ⟨e, h⟩ | ⟨e, h⟩ | ⟨e, h⟩
    · exact up s hs fun d g1 g2 => by rw [h d g1 g2]; exact Int.le_refl _
    · exact up s hs h
    · have := up (fun d => 0 - s d) (fun d => by have := hs d; omega) fun d g1 g2 => by have := h d g1 g2; show 0 - s d ≤ 0 - s (d + 1); omega
      rw [show (some (0 - s a) : Option Int) = (some (s a)).map (0 - ·) from rfl, scan_neg, List.length_map] at this
      exact this
theorem join_len : ∀ (p : Option Int) (l : List (Int × Int)), (joinR p l).length ≤ l.length
  | _, [] => Nat.le_refl _
  | p, (a, σ) :: r => by
    show (if some σ = p then joinR p r else (a, σ) :: joinR (some σ) r).length ≤ _
    split
    · have := join_len p r; simp; omega
    · have := join_len (some σ) r; simp; omega
theorem sg_bd (row : List Int) (d : Int) : -1 ≤ sg row d ∧ sg row d ≤ 1 := by
  unfold sg
  rcases sgn_cases (evalP row d) with ⟨_, e⟩ | ⟨_, e⟩ | ⟨_, e⟩ <;> rw [e] <;> decide
/-- the sign of the steps tells how the sign goes -/
theorem mono_step {row : List Int} {δ a E : Int} (h : ∀ d, a ≤ d → d < E → sg (stepR row) d = δ) (hδ : δ = 0 ∨ δ = 1 ∨ δ = -1) : Mono δ (sg row) a E := by
  have v : ∀ d, a ≤ d → d < E → sgn (evalP row (d + 1) - evalP row d) = δ := fun d h1 h2 => by
    have := h d h1 h2
    unfold sg at this
    rwa [eval_step] at this
  have mn : ∀ x y : Int, x ≤ y → sgn x ≤ sgn y := fun x y h => by
    rcases sgn_cases x with ⟨g, e⟩ | ⟨g, e⟩ | ⟨g, e⟩ <;> rcases sgn_cases y with ⟨g', e'⟩ | ⟨g', e'⟩ | ⟨g', e'⟩ <;> rw [e, e'] <;> first | decide | (exfalso; omega)
  rcases hδ with rfl | rfl | rfl
  · refine .inl ⟨rfl, fun d h1 h2 => ?_⟩
    have := v d h1 (by omega)
    rcases sgn_cases (evalP row (d + 1) - evalP row d) with ⟨g, e⟩ | ⟨g, e⟩ | ⟨g, e⟩
    · rw [e] at this; cases this
    · unfold sg; rw [show evalP row (d + 1) = evalP row d by omega]
    · rw [e] at this; cases this
  · refine .inr (.inl ⟨rfl, fun d h1 h2 => ?_⟩)
    have := v d h1 (by omega)
    rcases sgn_cases (evalP row (d + 1) - evalP row d) with ⟨g, e⟩ | ⟨g, e⟩ | ⟨g, e⟩
    · exact mn _ _ (by omega)
    · rw [e] at this; cases this
    · rw [e] at this; cases this
  · refine .inr (.inr ⟨rfl, fun d h1 h2 => ?_⟩)
    have := v d h1 (by omega)
    rcases sgn_cases (evalP row (d + 1) - evalP row d) with ⟨g, e⟩ | ⟨g, e⟩ | ⟨g, e⟩
    · rw [e] at this; cases this
    · rw [e] at this; cases this
    · exact mn _ _ (by omega)
/-- where the values rise or fall for ever, the sign is at last that of the steps -/
theorem far_dir {row : List Int} {δ a N : Int} (h : ∀ d, a ≤ d → sg (stepR row) d = δ) (hδ : δ = 1 ∨ δ = -1) (hc : ∀ d, N ≤ d → sg row d = sg row N) : sg row N = δ := by
  have v : ∀ d, a ≤ d → sgn (evalP row (d + 1) - evalP row d) = δ := fun d h1 => by
    have := h d h1
    unfold sg at this
    rwa [eval_step] at this
  rcases hδ with rfl | rfl
  · have gr : ∀ n : Nat, evalP row a + n ≤ evalP row (a + n) := by
      intro n
      induction n with
      | zero => simp
      | succ n ih =>
        have := v (a + n) (by omega)
        rcases sgn_cases (evalP row (a + n + 1) - evalP row (a + n)) with ⟨g, e⟩ | ⟨g, e⟩ | ⟨g, e⟩
        · rw [show a + ((n + 1 : Nat) : Int) = a + n + 1 by omega]; omega
        · rw [e] at this; cases this
        · rw [e] at this; cases this
    have g := gr ((evalP row a).natAbs + 1 + (N - a).natAbs)
    rw [← hc (a + (((evalP row a).natAbs + 1 + (N - a).natAbs : Nat) : Int)) (by omega)]
    exact sgn_pos (by omega)
  · have gr : ∀ n : Nat, evalP row (a + n) ≤ evalP row a - n := by
      intro n
      induction n with
      | zero => simp
      | succ n ih =>
        have := v (a + n) (by omega)
        rcases sgn_cases (evalP row (a + n + 1) - evalP row (a + n)) with ⟨g, e⟩ | ⟨g, e⟩ | ⟨g, e⟩
        · rw [e] at this; cases this
        · rw [e] at this; cases this
        · rw [show a + ((n + 1 : Nat) : Int) = a + n + 1 by omega]; omega
    have g := gr ((evalP row a).natAbs + 1 + (N - a).natAbs)
    rw [← hc (a + (((evalP row a).natAbs + 1 + (N - a).natAbs : Nat) : Int)) (by omega)]
    exact sgn_neg (by omega)
end K75
namespace K75
def NN : Nat := 2 ^ 2300
theorem NN_pos : 0 < NN := Nat.pos_of_ne_zero (by unfold NN; simp)
theorem NN_big {k : Nat} (h : k ≤ 2300) : (2 : Int) ^ k ≤ NN := by
  have : (2 : Nat) ^ k ≤ 2 ^ 2300 := Nat.pow_le_pow_right (by decide) h
  unfold NN
  exact_mod_cast this
theorem NN_lt : (1 : Int) + NN < 2 ^ 2400 := by
  have h : (2 : Nat) ^ 2400 = 2 ^ 2300 * 2 ^ 100 := Nat.pow_add 2 2300 100
  have p : 2 ≤ (2 : Nat) ^ 100 := by decide
  have q : 1 < 2 ^ 2300 := Nat.one_lt_two_pow (by decide)
  have : 1 + NN < 2 ^ 2400 := by
    unfold NN
    rw [h]
    have := Nat.mul_le_mul_left (2 ^ 2300) p
    omega
  have e : ((2 ^ 2400 : Nat) : Int) = (2 : Int) ^ 2400 := by simp
  omega
theorem eval_nonneg {d : Int} (hd : 1 ≤ d) : ∀ {row : List Int}, (∀ a ∈ row, 0 ≤ a) → 0 ≤ evalP row d ∧ ((∃ a ∈ row, 0 < a) → 0 < evalP row d)
  | [], _ => ⟨Int.le_refl _, fun ⟨a, h, _⟩ => by cases h⟩
  | a :: r, h => by
    obtain ⟨h1, h2⟩ := eval_nonneg hd (row := r) fun b hb => h b (List.mem_cons_of_mem _ hb)
    have ha := h a (by simp)
    rw [eval_cons]
    have m : 0 ≤ evalP r d * d := Int.mul_nonneg h1 (by omega)
    refine ⟨by omega, fun ⟨b, hb, hp⟩ => ?_⟩
    rcases List.mem_cons.mp hb with rfl | hb
    · omega
    · have := Int.mul_pos (h2 ⟨b, hb, hp⟩) (show 0 < d by omega)
      omega
def oneS (row : List Int) : Option Int := if row.any (fun x => decide (0 < x)) then (if row.any (fun x => decide (x < 0)) then none else some 1) else if row = [] then some 0 else some (-1)
theorem one_const {row : List Int} (t : TR row) {v : Int} (h : oneS row = some v) {d : Int} (hd : 1 ≤ d) : sg row d = v := by
  unfold oneS at h
  split at h
  · rename_i h1
    split at h
    · cases h
    · rename_i h2
      cases h
      simp at h1 h2
      exact sgn_pos ((eval_nonneg hd h2).2 h1)
  · rename_i h1
    simp at h1
    split at h
    · rename_i h3; cases h; subst h3; rfl
    · rename_i h3
      cases h
      have hl : row.getLast? = some (row.getLast h3) := List.getLast?_eq_some_getLast h3
      have hn := t _ hl
      have hm : row.getLast h3 ∈ row := List.getLast_mem h3
      have h4 : ∀ a ∈ oppR row, 0 ≤ a := fun a ha => by
        unfold oppR at ha
        obtain ⟨b, hb, rfl⟩ := List.mem_map.mp ha
        have := h1 b hb
        omega
      have h5 := (eval_nonneg hd h4).2 ⟨0 - row.getLast h3, by unfold oppR; exact List.mem_map.mpr ⟨_, hm, rfl⟩, by have := h1 _ hm; omega⟩
      rw [eval_opp] at h5
      exact sgn_neg (by omega)
def itR (row : List Int) : Nat → List Int
  | 0 => row
  | n + 1 => stepR (itR row n)
theorem itR_TR {row : List Int} (t : TR row) : ∀ n, TR (itR row n)
  | 0 => t
  | _ + 1 => TR_trim _
theorem itR_Bd {row : List Int} (h : Bd 12 300 row) : ∀ n, Bd 12 (300 + 97 * n) (itR row n)
  | 0 => h
  | n + 1 => (itR_Bd h n).step (by omega)
theorem itR_len (row : List Int) (n : Nat) (h : 1 < (itR row n).length) : (itR row (n + 1)).length + 1 ≤ (itR row n).length := by
  have := step_len (row := itR row n) (fun z => by rw [z] at h; simp at h)
  show (stepR (itR row n)).length + 1 ≤ _
  omega
theorem itR_far {row : List Int} (h : Bd 12 300 row) (t : TR row) {n : Nat} (hn : n ≤ 12) {d : Int} (hd : (NN : Int) ≤ d) : sg (itR row n) d = sg (itR row n) NN :=
  far_const (itR_Bd h n) (itR_TR t n) (Int.le_trans (NN_big (by omega)) hd) (NN_big (by omega))
theorem drop_scan {s : Int → Int} : ∀ (k : Nat) (a : Int) (n : Nat), k < (scan s a (n + 1) none).length → ∃ b m, (scan s a (n + 1) none).drop k = scan s b (m + 1) none ∧ b + ((m + 1 : Nat) : Int) = a + ((n + 1 : Nat) : Int) ∧ a ≤ b
  | 0, a, n, _ => ⟨a, n, rfl, rfl, Int.le_refl _⟩
  | k + 1, a, n, h => by
    cases hl : scan s a (n + 1) none with
    | nil => rw [hl] at h; simp at h
    | cons q r =>
      obtain ⟨b, σ⟩ := q
      obtain ⟨h1, h2, h3, h4, h5, h6⟩ := scan_seg hl
      rw [hl] at h
      have hk : k < r.length := by simpa using h
      obtain ⟨m, hm⟩ : ∃ m : Nat, (a + ((n + 1 : Nat) : Int) - nxt (a + ((n + 1 : Nat) : Int)) r).toNat = m + 1 ∨ r = [] := by
        by_cases z : nxt (a + ((n + 1 : Nat) : Int)) r = a + ((n + 1 : Nat) : Int)
        · refine ⟨0, .inr ?_⟩
          rw [h6, z, Int.sub_self]; rfl
        · exact ⟨(a + ((n + 1 : Nat) : Int) - nxt (a + ((n + 1 : Nat) : Int)) r).toNat - 1, .inl (by omega)⟩
      rcases hm with hm | hm
      · rw [hm] at h6
        rw [h6] at hk
        obtain ⟨c, m', g1, g2, g3⟩ := drop_scan k _ m hk
        refine ⟨c, m', ?_, by omega, by omega⟩
        show r.drop k = _
        rw [← g1]
        exact congrArg (List.drop k) h6
      · rw [hm] at hk; simp at hk
/-- all of one sign from 1 on -/
theorem scan_all {s : Int → Int} {v : Int} (h : ∀ d, 1 ≤ d → s d = v) : scan s 1 NN none = [(1, v)] := by
  obtain ⟨n, hn⟩ : ∃ n, NN = n + 1 := ⟨NN - 1, by have := NN_pos; omega⟩
  rw [hn, scan_none, scan_const fun d h1 h2 => by rw [h d (by omega), h 1 (by omega)], h 1 (by omega)]
theorem len1_const {row : List Int} (h : row.length ≤ 1) (d e : Int) : sg row d = sg row e := by
  match row, h with
  | [], _ => rfl
  | [a], _ => simp [sg, evalP]
theorem cat_len {s : Int → Int} {E : Int} : ∀ (l : List (Int × Int)), (∀ k, k < l.length → ∀ a σ r, l.drop k = (a, σ) :: r → (scan s a (nxt E r - a).toNat none).length ≤ 3) → (cat s E l).length ≤ 3 * l.length
  | [], _ => Nat.le_refl _
  | (a, σ) :: r, h => by
    have h0 := h 0 (by simp) a σ r rfl
    have ih := cat_len (s := s) (E := E) r fun k hk b τ q e => h (k + 1) (by simpa using hk) b τ q e
    show (scan s a (nxt E r - a).toNat none ++ cat s E r).length ≤ _
    rw [List.length_append, List.length_cons]
    omega
end K75
/-! the law's own numbers: plain -/
set_option maxRecDepth 100000
namespace K71
open K75
theorem getD0 {xs : List Int} {i : Nat} (h : xs.length ≤ i) : xs.getD i 0 = 0 := by
  simp only [List.getD_eq_getElem?_getD]
  rw [List.getElem?_eq_none h]
  rfl
/-! ### lengths and bounds of products -/
theorem mul_len (xs ys : List Int) : (trim (mulR xs ys)).length ≤ xs.length + ys.length - 1 := by
  refine TR_len (TR_trim _) fun i hi => ?_
  rw [getD_trim, mulR_cv]
  by_cases h : i < xs.length + ys.length
  · simp only [List.getD_eq_getElem?_getD, List.getElem?_map, List.getElem?_range h, Option.map_some, Option.getD_some]
    unfold cv
    rw [sm_congr (g := fun _ => 0) fun j hj => ?_, sm_zero]
    by_cases h1 : xs.length ≤ j
    · rw [getD0 h1, Int.zero_mul]
    · rw [getD0 (xs := ys) (i := i - j) (by omega), Int.mul_zero]
  · exact getD0 (by simp; omega)
theorem Bd_mul {n m k l : Nat} {xs ys : List Int} (h : Bd n k xs) (g : Bd m l ys) (hn : n + m < 2 ^ 5) : Bd (n + m - 1) (k + l + 6) (trim (mulR xs ys)) := by
  have hb := (h.mul g hn).trim
  have h1 := h.1
  have h2 := g.1
  exact ⟨Nat.le_trans (mul_len xs ys) (by omega), hb.2⟩
/-! ### runs of the steps -/
theorem scan_len_step {s t : Int → Int} (hs : ∀ d, -1 ≤ s d ∧ s d ≤ 1) (hm : ∀ a E δ, a < E → (∀ d, a ≤ d → d < E → t d = δ) → Mono δ s a (E + 1)) : ∀ (n : Nat) (a : Int) (p : Option Int), (n = 0 ∨ some (t a) ≠ p) → (scan s (a + 1) n (some (s a))).length ≤ 2 * (scan t a n p).length := by
  intro n
  induction n using Nat.strongRecOn with
  | ind n ih =>
    intro a p hp
    cases n with
    | zero => simp [scan]
    | succ n =>
      have hp : some (t a) ≠ p := hp.resolve_left (by omega)
      rw [scan_any hp]
      cases hl : scan t a (n + 1) none with
      | nil => rw [scan_none] at hl; cases hl
      | cons q r =>
        obtain ⟨b, σ⟩ := q
        obtain ⟨h1, h2, h3, h4, h5, h6⟩ := scan_seg hl
        subst h1
        generalize hE : b + ((n + 1 : Nat) : Int) = E at *
        obtain ⟨k, hk⟩ : ∃ k : Nat, nxt E r = b + ((k + 1 : Nat) : Int) := ⟨(nxt E r - b).toNat - 1, by omega⟩
        have mo := hm b (nxt E r) σ h3 h5
        have l3 : (scan s b (k + 2) none).length ≤ 3 := Mono.len (δ := σ) (by rw [show b + ((k + 2 : Nat) : Int) = nxt E r + 1 by omega]; exact mo) hs
        rw [scan_none, List.length_cons] at l3
        have split : n + 1 = k + 1 + (E - nxt E r).toNat := by omega
        rw [split, scan_app, List.length_append, List.length_cons]
        have e1 : b + 1 + ((k + 1 : Nat) : Int) = nxt E r + 1 := by omega
        have e2 : b + 1 + (k : Int) = nxt E r := by omega
        rw [e1, e2]
        have := ih (E - nxt E r).toNat (by omega) (nxt E r) none (.inr (by simp))
        rw [← h6] at this
        omega
/-- the sign of the steps tells how the sign goes -/
theorem mono_step1 {row : List Int} {δ a E : Int} (h : ∀ d, a ≤ d → d + 1 < E → sg (stepR row) d = δ) (hδ : δ = 0 ∨ δ = 1 ∨ δ = -1) : Mono δ (sg row) a E := by
  have v : ∀ d, a ≤ d → d + 1 < E → sgn (evalP row (d + 1) - evalP row d) = δ := fun d h1 h2 => by
    have := h d h1 h2
    unfold sg at this
    rwa [eval_step] at this
  have mn : ∀ x y : Int, x ≤ y → sgn x ≤ sgn y := fun x y h => by
    rcases sgn_cases x with ⟨g, e⟩ | ⟨g, e⟩ | ⟨g, e⟩ <;> rcases sgn_cases y with ⟨g', e'⟩ | ⟨g', e'⟩ | ⟨g', e'⟩ <;> rw [e, e'] <;> first | decide | (exfalso; omega)
  rcases hδ with rfl | rfl | rfl
  · refine .inl ⟨rfl, fun d h1 h2 => ?_⟩
    have := v d h1 h2
    rcases sgn_cases (evalP row (d + 1) - evalP row d) with ⟨g, e⟩ | ⟨g, e⟩ | ⟨g, e⟩
    · rw [e] at this; cases this
    · unfold sg; rw [show evalP row (d + 1) = evalP row d by omega]
    · rw [e] at this; cases this
  · refine .inr (.inl ⟨rfl, fun d h1 h2 => ?_⟩)
    have := v d h1 h2
    rcases sgn_cases (evalP row (d + 1) - evalP row d) with ⟨g, e⟩ | ⟨g, e⟩ | ⟨g, e⟩
    · exact mn _ _ (by omega)
    · rw [e] at this; cases this
    · rw [e] at this; cases this
  · refine .inr (.inr ⟨rfl, fun d h1 h2 => ?_⟩)
    have := v d h1 h2
    rcases sgn_cases (evalP row (d + 1) - evalP row d) with ⟨g, e⟩ | ⟨g, e⟩ | ⟨g, e⟩
    · rw [e] at this; cases this
    · rw [e] at this; cases this
    · exact mn _ _ (by omega)
theorem run_len_step (row : List Int) (N : Nat) : (scan (sg row) 1 (N + 1) none).length ≤ 1 + 2 * (scan (sg (stepR row)) 1 (N + 1) none).length := by
  rw [scan_none, List.length_cons]
  have h := scan_len_step (s := sg row) (t := sg (stepR row)) (sg_bd row) (fun a E δ hz h => ?_) (N + 1) 1 none (.inr (by simp))
  · have e : scan (sg row) (1 + 1) (N + 1) (some (sg row 1)) = scan (sg row) (1 + 1) N (some (sg row 1)) ++ scan (sg row) (1 + 1 + N) 1 (some (sg row (1 + N))) := by
      cases N with
      | zero => simp [scan]
      | succ N =>
        rw [scan_app]
        congr 3
        congr 1
        omega
    rw [e, List.length_append] at h
    omega
  · refine mono_step1 (fun d h1 h2 => h d h1 (by omega)) ?_
    have e := h a (Int.le_refl _) hz
    have := sg_bd (stepR row) a
    omega
theorem itB {k : Nat} {row : List Int} (h : Bd 12 k row) (hk : 0 < k := by decide) : ∀ n, Bd 12 (k + 97 * n) (itR row n)
  | 0 => h
  | n + 1 => (itB h hk n).step (by omega)
theorem itFar {row : List Int} (h : Bd 12 500 row) (t : TR row) {n : Nat} (hn : n ≤ 12) {d : Int} (hd : (NN : Int) ≤ d) : sg (itR row n) d = sg (itR row n) NN :=
  far_const (itB h (by decide) n) (itR_TR t n) (Int.le_trans (NN_big (by omega)) hd) (NN_big (by omega))
/-! ### the law's factors -/
abbrev Fc := Int × Int × Bool
def rowF (f : Fc) : List Int := if f.2.2 then [f.2.1, 0, f.1] else [-f.2.1, f.1]
def sgF (f : Fc) (d : Int) : Int := if f.2.2 then 1 else sgn (f.1 * d - f.2.1)
def sAt (number : Int) (fs : List Fc) (d : Int) : Int := fs.foldl (fun x f => x * sgF f d) (sgn number)
def plcF (f : Fc) : List Int := if f.2.2 then [] else [f.2.1 / f.1, f.2.1 / f.1 + 1, f.2.1 / f.1 + 2]
def plc (fs : List Fc) : List Int := fs.foldl (fun l f => l ++ plcF f) [1]
def wholeR (number : Int) (fs : List Fc) : List Int := fs.foldl (fun r f => trim (mulR r (rowF f))) (trim [number])
/-- a factor as the law draws it -/
structure FcOk (k : Nat) (f : Fc) : Prop where
  a : 1 ≤ f.1 ∧ f.1 ≤ 40
  b : f.2.1.natAbs < 2 ^ k
  q : f.2.2 = true → 1 ≤ f.2.1
theorem sgn_mul (x y : Int) : sgn (x * y) = sgn x * sgn y := by
  rcases sgn_cases x with ⟨g, e⟩ | ⟨g, e⟩ | ⟨g, e⟩ <;> rcases sgn_cases y with ⟨g', e'⟩ | ⟨g', e'⟩ | ⟨g', e'⟩ <;> rw [e, e']
  · rw [sgn_pos (Int.mul_pos g g')]; rfl
  · subst g'; simp [sgn_zero]
  · rw [sgn_neg (Int.mul_neg_of_pos_of_neg g g')]; rfl
  · subst g; simp [sgn_zero]
  · subst g; simp [sgn_zero]
  · subst g; simp [sgn_zero]
  · rw [sgn_neg (Int.mul_neg_of_neg_of_pos g g')]; rfl
  · subst g'; simp [sgn_zero]
  · rw [sgn_pos (Int.mul_pos_of_neg_of_neg g g')]; rfl
theorem sg_row {k : Nat} {f : Fc} (h : FcOk k f) (d : Int) : sg (rowF f) d = sgF f d := by
  obtain ⟨a, b, q⟩ := f
  unfold sg rowF sgF
  cases q with
  | true =>
    have hb : 1 ≤ b := h.q rfl
    have ha : 1 ≤ a := h.a.1
    show sgn (((0 * d + a) * d + 0) * d + b) = 1
    have e : ((0 * d + a) * d + 0) * d = a * (d * d) := by rw [Int.zero_mul, Int.zero_add, Int.add_zero, Int.mul_assoc]
    have h0 : 0 ≤ d * d := by
      rcases Int.le_total 0 d with z | z
      · exact Int.mul_nonneg z z
      · exact Int.mul_nonneg_of_nonpos_of_nonpos z z
    have := Int.mul_nonneg (show (0 : Int) ≤ a by omega) h0
    exact sgn_pos (by omega)
  | false =>
    show sgn ((0 * d + a) * d + -b) = sgn (a * d - b)
    rw [Int.zero_mul, Int.zero_add]
    rfl
theorem sg_mul (xs ys : List Int) (d : Int) : sg (trim (mulR xs ys)) d = sg xs d * sg ys d := by
  unfold sg
  rw [eval_trim, eval_mul, sgn_mul]
theorem sg_whole {k : Nat} {number : Int} (d : Int) : ∀ {fs : List Fc}, (∀ f ∈ fs, FcOk k f) → sg (wholeR number fs) d = sAt number fs d := by
  have key : ∀ (fs : List Fc) (r : List Int) (x : Int), (∀ f ∈ fs, FcOk k f) → sg r d = x → sg (fs.foldl (fun r f => trim (mulR r (rowF f))) r) d = fs.foldl (fun x f => x * sgF f d) x := by
    intro fs
    induction fs with
    | nil => intro r x _ h; exact h
    | cons f fs ih =>
      intro r x hf h
      exact ih _ _ (fun g hg => hf g (List.mem_cons_of_mem _ hg)) (by rw [sg_mul, h, sg_row (hf f (by simp))])
  intro fs hf
  refine key fs _ _ hf ?_
  unfold sg
  rw [eval_trim, eval_cons, eval_nil, Int.zero_mul, Int.zero_add]
theorem whole_TR (number : Int) : ∀ (fs : List Fc), TR (wholeR number fs) := by
  have key : ∀ (fs : List Fc) (r : List Int), TR r → TR (fs.foldl (fun r f => trim (mulR r (rowF f))) r) := by
    intro fs
    induction fs with
    | nil => intro r h; exact h
    | cons f fs ih => intro r _; exact ih _ (TR_trim _)
  exact fun fs => key fs _ (TR_trim _)
theorem row_Bd {k : Nat} {f : Fc} (h : FcOk k f) (hk : 6 ≤ k) : Bd 3 k (rowF f) := by
  obtain ⟨a, b, q⟩ := f
  have ha : a.natAbs < 2 ^ k := by
    have h1 := h.a
    have h2 : (2 : Nat) ^ 6 ≤ 2 ^ k := Nat.pow_le_pow_right (by decide) hk
    have h3 : (2 : Nat) ^ 6 = 64 := rfl
    have h4 : 1 ≤ a ∧ a ≤ 40 := h1
    omega
  have hb : b.natAbs < 2 ^ k := h.b
  have h0 : (0 : Int).natAbs < 2 ^ k := Nat.pos_of_ne_zero (by simp)
  unfold rowF
  cases q with
  | true => exact ⟨Nat.le_refl _, fun x hx => by
      have hx : x ∈ [b, 0, a] := hx
      simp only [List.mem_cons, List.not_mem_nil, or_false] at hx
      rcases hx with rfl | rfl | rfl <;> assumption⟩
  | false => exact ⟨Nat.le_succ _, fun x hx => by
      have hx : x ∈ [-b, a] := hx
      simp only [List.mem_cons, List.not_mem_nil, or_false] at hx
      rcases hx with rfl | rfl
      · omega
      · assumption⟩
theorem whole_Bd {k l : Nat} {number : Int} (hk : 6 ≤ k) (hn : number.natAbs < 2 ^ l) : ∀ {fs : List Fc}, (∀ f ∈ fs, FcOk k f) → fs.length ≤ 5 → Bd (1 + 2 * fs.length) (l + fs.length * (k + 6)) (wholeR number fs) := by
  have key : ∀ (fs : List Fc) (r : List Int) (n m : Nat), (∀ f ∈ fs, FcOk k f) → n + 2 * fs.length ≤ 11 → 1 ≤ n → Bd n m r → Bd (n + 2 * fs.length) (m + fs.length * (k + 6)) (fs.foldl (fun r f => trim (mulR r (rowF f))) r) := by
    intro fs
    induction fs with
    | nil => intro r n m _ _ _ h; exact h.mono (by simp) (by simp)
    | cons f fs ih =>
      intro r n m hf hl h1 h
      rw [List.length_cons] at hl ⊢
      have := ih (trim (mulR r (rowF f))) (n + 2) (m + k + 6) (fun g hg => hf g (List.mem_cons_of_mem _ hg)) (by omega) (by omega) ((Bd_mul h (row_Bd (hf f (by simp)) hk) (by omega)).mono (by omega) (by omega))
      refine this.mono (by omega) ?_
      rw [Nat.succ_mul]
      omega
  intro fs hf hl
  refine key fs _ 1 l hf (by omega) (by omega) (Bd.trim ⟨Nat.le_refl _, fun a ha => ?_⟩)
  rw [List.mem_singleton.mp ha]
  exact hn
theorem fl_same {a b d : Int} (ha : 1 ≤ a) (h0 : d ≠ b / a) (h1 : d ≠ b / a + 1) : sgn (a * d - b) = sgn (a * (d - 1) - b) := by
  have e := Int.mul_ediv_add_emod b a
  have m0 := Int.emod_nonneg b (show a ≠ 0 by omega)
  have m1 := Int.emod_lt_of_pos b (show 0 < a by omega)
  generalize b / a = q at *
  generalize b % a = r at *
  rw [Int.mul_sub, Int.mul_one]
  rcases Int.lt_or_gt_of_ne h0 with h | h
  · have h2 : a * d ≤ a * (q - 1) := Int.mul_le_mul_of_nonneg_left (by omega) (by omega)
    rw [Int.mul_sub, Int.mul_one] at h2
    rw [sgn_neg (by omega), sgn_neg (by omega)]
  · have h2 : a * (q + 2) ≤ a * d := Int.mul_le_mul_of_nonneg_left (by omega) (by omega)
    rw [Int.mul_add] at h2
    rw [sgn_pos (by omega), sgn_pos (by omega)]
theorem plc_mem {d : Int} : ∀ {fs : List Fc} {l : List Int}, d ∉ fs.foldl (fun l f => l ++ plcF f) l → d ∉ l ∧ ∀ f ∈ fs, d ∉ plcF f
  | [], l, h => ⟨h, fun f hf => by cases hf⟩
  | f :: fs, l, h => by
    obtain ⟨h1, h2⟩ := plc_mem (fs := fs) (l := l ++ plcF f) h
    refine ⟨fun z => h1 (List.mem_append_left _ z), fun g hg => ?_⟩
    rcases List.mem_cons.mp hg with rfl | hg
    · exact fun z => h1 (List.mem_append_right _ z)
    · exact h2 g hg
theorem sAt_same {k : Nat} {number : Int} {fs : List Fc} (hf : ∀ f ∈ fs, FcOk k f) {d : Int} (h : d ∉ plc fs) : sAt number fs d = sAt number fs (d - 1) := by
  have hn := (plc_mem h).2
  have one : ∀ f ∈ fs, sgF f d = sgF f (d - 1) := fun f hm => by
    obtain ⟨a, b, q⟩ := f
    have h1 := hn _ hm
    have h2 := hf _ hm
    unfold sgF
    cases q with
    | true => rfl
    | false =>
      have h1 : d ∉ [b / a, b / a + 1, b / a + 2] := h1
      simp only [List.mem_cons, List.not_mem_nil, or_false, not_or] at h1
      exact fl_same h2.a.1 h1.1 h1.2.1
  unfold sAt
  clear h hn hf
  generalize sgn number = x
  induction fs generalizing x with
  | nil => rfl
  | cons f fs ih =>
    rw [List.foldl_cons, List.foldl_cons, one f (by simp)]
    exact ih (fun g hg => one g (List.mem_cons_of_mem _ hg)) _
/-! ### places in a row -/
def uins (x : Int) : List Int → List Int
  | [] => [x]
  | y :: r => if x < y then x :: y :: r else if x = y then y :: r else y :: uins x r
def usort (ns : List Int) : List Int := ns.foldr uins []
theorem uins_mem (x k : Int) : ∀ (l : List Int), k ∈ uins x l ↔ k = x ∨ k ∈ l
  | [] => by simp [uins]
  | y :: r => by
    unfold uins
    split
    · simp
    · split
      · rename_i h1 h2; subst h2; simp
      · rw [List.mem_cons, uins_mem x k r, List.mem_cons]
        constructor
        · rintro (h | h | h)
          · exact .inr (.inl h)
          · exact .inl h
          · exact .inr (.inr h)
        · rintro (h | h | h)
          · exact .inr (.inl h)
          · exact .inl h
          · exact .inr (.inr h)
theorem uins_up {x : Int} : ∀ {l : List Int}, l.Pairwise (· < ·) → (uins x l).Pairwise (· < ·)
  | [], _ => by simp [uins]
  | y :: r, h => by
    have h2 := List.pairwise_cons.mp h
    unfold uins
    split
    · rename_i hx
      refine List.pairwise_cons.mpr ⟨fun z hz => ?_, h⟩
      rcases List.mem_cons.mp hz with rfl | hz
      · exact hx
      · exact Int.lt_trans hx (h2.1 z hz)
    · split
      · exact h
      · rename_i h3 h4
        refine List.pairwise_cons.mpr ⟨fun z hz => ?_, uins_up h2.2⟩
        rcases (uins_mem x z r).mp hz with rfl | hz
        · omega
        · exact h2.1 z hz
theorem usort_mem (ns : List Int) (k : Int) : k ∈ usort ns ↔ k ∈ ns := by
  induction ns with
  | nil => simp [usort]
  | cons a r ih =>
    show k ∈ uins a (usort r) ↔ _
    rw [uins_mem, ih, List.mem_cons]
theorem usort_up (ns : List Int) : (usort ns).Pairwise (· < ·) := by
  induction ns with
  | nil => simp [usort]
  | cons a r ih => exact uins_up ih
theorem uins_len (x : Int) : ∀ (l : List Int), (uins x l).length ≤ l.length + 1
  | [] => Nat.le_refl _
  | y :: r => by
    unfold uins
    split
    · simp
    · split
      · simp
      · have := uins_len x r; simp; omega
theorem usort_len (ns : List Int) : (usort ns).length ≤ ns.length := by
  induction ns with
  | nil => simp [usort]
  | cons a r ih =>
    show (uins a (usort r)).length ≤ _
    have := uins_len a (usort r)
    simp
    omega
theorem scan_at {s : Int → Int} : ∀ (n : Nat) (a : Int) (ms : List Int), ms.Pairwise (· < ·) → (∀ m ∈ ms, a ≤ m ∧ m < a + n) → (∀ d, a ≤ d → d < a + n → d ∉ ms → s d = s (d - 1)) → scan s a n (some (s (a - 1))) = joinR (some (s (a - 1))) (ms.map fun p => (p, s p))
  | 0, a, ms, _, hb, _ => by
    cases ms with
    | nil => rfl
    | cons m ms => have := hb m (by simp); omega
  | n + 1, a, ms, up, hb, hc => by
    have e1 : a + 1 - 1 = a := by omega
    by_cases ha : a ∈ ms
    · cases ms with
      | nil => cases ha
      | cons m ms =>
        have u2 := List.pairwise_cons.mp up
        have hm : m = a := by
          rcases List.mem_cons.mp ha with h | h
          · exact h.symm
          · have := u2.1 a h
            have := (hb m (by simp)).1
            omega
        subst hm
        have ih := scan_at n (m + 1) ms u2.2 (fun x hx => ⟨by have := u2.1 x hx; omega, by have := (hb x (List.mem_cons_of_mem _ hx)).2; omega⟩) (fun d h1 h2 h3 => hc d (by omega) (by omega) (fun z => by
          rcases List.mem_cons.mp z with z | z
          · omega
          · exact h3 z))
        rw [e1] at ih
        show _ = (if some (s m) = some (s (m - 1)) then joinR _ _ else (m, s m) :: joinR (some (s m)) _)
        by_cases q : some (s m) = some (s (m - 1))
        · rw [scan_skip q, if_pos q, ← q, ih]
        · rw [scan_new q, if_neg q, ih]
    · have e := hc a (Int.le_refl _) (by omega) ha
      rw [scan_skip (by rw [e]), ← e]
      have ih := scan_at n (a + 1) ms up (fun x hx => ⟨by
        have h1 := (hb x hx).1
        have : x ≠ a := fun z => ha (by rw [← z]; exact hx)
        omega, by have := (hb x hx).2; omega⟩) (fun d h1 h2 h3 => hc d (by omega) (by omega) h3)
      rwa [e1] at ih
def placesR (fs : List Fc) : List Int := usort ((plc fs).filter fun p => decide (0 < p))
def dueR (number : Int) (fs : List Fc) : List (Int × Int) := joinR none ((placesR fs).map fun p => (p, sAt number fs p))
theorem plcF_lt {k : Nat} {f : Fc} (h : FcOk k f) (hk : 2 ≤ k) : ∀ p ∈ plcF f, p < 2 ^ (k + 1) := fun p hp => by
  obtain ⟨a, b, q⟩ := f
  unfold plcF at hp
  cases q with
  | true => cases hp
  | false =>
    have hp : p ∈ [b / a, b / a + 1, b / a + 2] := hp
    simp only [List.mem_cons, List.not_mem_nil, or_false] at hp
    have hb : b.natAbs < 2 ^ k := h.b
    have ha : 1 ≤ a := h.a.1
    have e1 : ((2 ^ k : Nat) : Int) = (2 : Int) ^ k := by simp
    have e2 : (2 : Int) ^ (k + 1) = 2 ^ k * 2 := Int.pow_succ 2 k
    have e3 : (2 : Nat) ^ 2 ≤ 2 ^ k := Nat.pow_le_pow_right (by decide) hk
    have e4 : (2 : Nat) ^ 2 = 4 := rfl
    have h1 : b / a ≤ b.natAbs := by
      have := Int.ediv_le_ediv (show 0 < a by omega) (show b ≤ b.natAbs by omega)
      have h2 : ((b.natAbs : Nat) : Int) / a ≤ (b.natAbs : Nat) := Int.ediv_le_self _ (by omega)
      omega
    omega
theorem plc_lt {k : Nat} (hk : 2 ≤ k) : ∀ {fs : List Fc}, (∀ f ∈ fs, FcOk k f) → ∀ p ∈ plc fs, p < 2 ^ (k + 1) := by
  have key : ∀ (fs : List Fc) (l : List Int), (∀ f ∈ fs, FcOk k f) → (∀ p ∈ l, p < 2 ^ (k + 1)) → ∀ p ∈ fs.foldl (fun l f => l ++ plcF f) l, p < 2 ^ (k + 1) := by
    intro fs
    induction fs with
    | nil => intro l _ h; exact h
    | cons f fs ih =>
      intro l hf h
      refine ih _ (fun g hg => hf g (List.mem_cons_of_mem _ hg)) fun p hp => ?_
      rcases List.mem_append.mp hp with hp | hp
      · exact h p hp
      · exact plcF_lt (hf f (by simp)) hk p hp
  intro fs hf
  refine key fs _ hf fun p hp => ?_
  rw [List.mem_singleton.mp hp]
  have e2 : (2 : Int) ^ (k + 1) = 2 ^ k * 2 := Int.pow_succ 2 k
  have e3 : 0 < (2 : Int) ^ k := Int.pow_pos (by decide)
  omega
theorem plc_one : ∀ (fs : List Fc) (l : List Int), (1 : Int) ∈ l → 1 ∈ fs.foldl (fun l f => l ++ plcF f) l
  | [], l, h => h
  | f :: fs, l, h => plc_one fs _ (List.mem_append_left _ h)
theorem plc_len : ∀ (fs : List Fc) (l : List Int), (fs.foldl (fun l f => l ++ plcF f) l).length ≤ l.length + 3 * fs.length
  | [], l => by simp
  | f :: fs, l => by
    have := plc_len fs (l ++ plcF f)
    rw [List.length_append] at this
    have h3 : (plcF f).length ≤ 3 := by unfold plcF; split <;> simp
    rw [List.foldl_cons, List.length_cons]
    omega
theorem due_eq {k : Nat} {number : Int} {fs : List Fc} (hf : ∀ f ∈ fs, FcOk k f) (hk : 2 ≤ k) (hk2 : k ≤ 2000) : dueR number fs = scan (sAt number fs) 1 NN none := by
  have up := usort_up ((plc fs).filter fun p => decide (0 < p))
  have mem : ∀ p, p ∈ placesR fs ↔ p ∈ plc fs ∧ 0 < p := fun p => by
    unfold placesR
    rw [usort_mem, List.mem_filter]
    simp
  have m1 : (1 : Int) ∈ placesR fs := (mem 1).mpr ⟨plc_one fs _ (by simp), by decide⟩
  have hN : (2 : Int) ^ (k + 1) ≤ NN := NN_big (by omega)
  obtain ⟨N0, hN0⟩ : ∃ n, NN = n + 1 := ⟨NN - 1, by have := NN_pos; omega⟩
  unfold dueR
  cases hp : placesR fs with
  | nil => rw [hp] at m1; cases m1
  | cons m ms =>
    have up' : (m :: ms).Pairwise (· < ·) := by rw [← hp]; exact up
    have u2 := List.pairwise_cons.mp up'
    have hm1 : m = 1 := by
      have h1 := ((mem m).mp (by rw [hp]; simp)).2
      rw [hp] at m1
      rcases List.mem_cons.mp m1 with h | h
      · exact h.symm
      · have := u2.1 1 h; omega
    subst hm1
    rw [hN0, scan_none]
    show (if some _ = none then _ else ((1 : Int), sAt number fs 1) :: joinR (some (sAt number fs 1)) (ms.map fun p => (p, sAt number fs p))) = _
    rw [if_neg (by simp)]
    congr 1
    have := scan_at (s := sAt number fs) N0 (1 + 1) ms u2.2 (fun x hx => ⟨by have := u2.1 x hx; omega, by
      have h1 := (mem x).mp (by rw [hp]; exact List.mem_cons_of_mem _ hx)
      have := plc_lt hk hf x h1.1
      omega⟩) (fun d h1 h2 h3 => sAt_same hf fun z => by
        have := (mem d).mpr ⟨z, by omega⟩
        rw [hp] at this
        rcases List.mem_cons.mp this with h | h
        · omega
        · exact h3 h)
    rw [show (1 : Int) + 1 - 1 = 1 by omega] at this
    exact this.symm
end K71
set_option maxRecDepth 100000
namespace K71
open PySem PySem.Spec PyProof.Rows L2 Evl Z ClX
def top (i : Nat) : Stmt := PySem.Challenge.pw_slotmeans_k71_sign_runs.main.body.getD i (.Pass ⟨0, 0, 0, 0⟩)
structure Lk (P : Program) (K : PySem.W.Frag) (mg : Str → Option Value) (CP XP : Addr) : Prop where
  bi : Bi mg
  c_Polynomial : ClsF K CP ["own_row"]
  mg_Polynomial : mg "Polynomial" = some (.ref CP)
  sf_Polynomial : PySem.W.selfFirst K CP = true
  q_Polynomial : KitF K CP
  er_InvalidPolynomial : ErrF P K mg "InvalidPolynomial" XP "InvalidPolynomial.__init__" (inClass (top 3) 0) ["value"]
  xm_InvalidPolynomial : PySem.W.exmOne K (.ref XP) (.ref XP) = some true
  f_is_integer : FAt K mg "is_integer" (top 5)
  f_added_rows : FAt K mg "added_rows" (top 7)
  f_multiplied_rows : FAt K mg "multiplied_rows" (top 8)
  f_opposite_row : FAt K mg "opposite_row" (top 9)
  i_Polynomial : IAt K CP "Polynomial.__init__" (inClass (top 13) 0)
  p_Polynomial_degree : PAt K CP "degree" "Polynomial.degree" (inClass (top 13) 1)
  m_Polynomial_coefficients : MAt K CP "coefficients" "Polynomial.coefficients" (inClass (top 13) 2)
  m_Polynomial_at : MAt K CP "at" "Polynomial.at" (inClass (top 13) 3)
  m_Polynomial___add__ : MAt K CP "__add__" "Polynomial.__add__" (inClass (top 13) 4)
  m_Polynomial___sub__ : MAt K CP "__sub__" "Polynomial.__sub__" (inClass (top 13) 5)
  m_Polynomial___mul__ : MAt K CP "__mul__" "Polynomial.__mul__" (inClass (top 13) 6)
  m_Polynomial___neg__ : MAt K CP "__neg__" "Polynomial.__neg__" (inClass (top 13) 7)
  m_Polynomial___eq__ : MAt K CP "__eq__" "Polynomial.__eq__" (inClass (top 13) 8)
  m_Polynomial___repr__ : MAt K CP "__repr__" "Polynomial.__repr__" (inClass (top 13) 10)
  f_row_of : FAt K mg "row_of" (top 14)
  f_sign_at : FAt K mg "sign_at" (top 15)
  f_step_of : FAt K mg "step_of" (top 16)
  f_first_other : FAt K mg "first_other" (top 17)
  f_runs_in : FAt K mg "runs_in" (top 18)
  f_joined_runs : FAt K mg "joined_runs" (top 19)
  f_one_sign : FAt K mg "one_sign" (top 20)
  f_sign_runs : FAt K mg "sign_runs" (top 21)
  f__law_rng : FAt K mg "_law_rng" (top 23)
  f__law_draw : FAt K mg "_law_draw" (top 24)
  f__law_choice : FAt K mg "_law_choice" (top 25)
  f__law_sign : FAt K mg "_law_sign" (top 26)
  f__law_factor : FAt K mg "_law_factor" (top 27)
  f__law_polynomial : FAt K mg "_law_polynomial" (top 28)
  f__law_sign_at : FAt K mg "_law_sign_at" (top 29)
  f__law_places : FAt K mg "_law_places" (top 30)
  f__law_due : FAt K mg "_law_due" (top 31)
  f__law_refused : FAt K mg "_law_refused" (top 32)
  f__law_product_right : FAt K mg "_law_product_right" (top 33)
  f__law_right : FAt K mg "_law_right" (top 34)
  f_law : FAt K mg "law" (top 35)
  k_PP : PySem.W.kitOne K (.ref CP) (.ref CP) = some true
end K71
set_option maxRecDepth 100000
set_option maxHeartbeats 2000000
namespace K71
open PySem PySem.Spec PyProof.Rows L2 Evl Z ClX K75
abbrev pol (CP : Addr) (row : List Int) : D := .ins CP [("own_row", .tup (row.map .int))]
abbrev il (xs : List Int) : List D := xs.map D.int
abbrev prD (p : Int × Int) : D := .tup [.int p.1, .int p.2]
theorem il_rep (xs : List Int) (n : Nat) : il xs ++ (List.replicate n [D.int 0]).flatten = il (xs ++ List.replicate n 0) := by
  rw [show (List.replicate n [D.int 0]).flatten = List.replicate n (D.int 0) by
    induction n with
    | zero => rfl
    | succ n ih => rw [List.replicate_succ, List.flatten_cons, ih, List.replicate_succ]; rfl]
  unfold il
  rw [List.map_append, List.map_replicate]
theorem zipD_il : ∀ (xs ys : List Int), zipD (il xs) (il ys) = (xs.zip ys).map prD
  | [], ys => by simp [zipD]
  | _ :: _, [] => by simp [zipD]
  | x :: xs, y :: ys => by
    have := zipD_il xs ys
    simp [zipD] at this ⊢
    exact this
theorem at_il {xs : List Int} {i : Int} (h0 : 0 ≤ i) (h : i < xs.length) : atI (il xs) i = some (.int (xs.getD i.toNat 0)) := by
  have hi : i.toNat < xs.length := by omega
  unfold atI ixN
  rw [if_pos h0, if_pos (by rw [List.length_map]; omega)]
  show (il xs)[i.toNat]? = _
  rw [List.getElem?_map, List.getElem?_eq_getElem hi]
  simp only [List.getD_eq_getElem?_getD, List.getElem?_eq_getElem hi, Option.getD_some, Option.map_some]
theorem mul2k {x y : Int} (h1 : x.natAbs < 2 ^ 100000) (h2 : y.natAbs < 2 ^ 100000) : CMulW x y := L2.wide_mul h1 h2 (by decide) (by decide) (by decide)
theorem pow_le_big {x : Int} {k : Nat} (h : x.natAbs < 2 ^ k) (hk : k ≤ 100000) : x.natAbs < 2 ^ 100000 := Nat.lt_of_lt_of_le h (Nat.pow_le_pow_right (by decide) hk)
section
variable {P : Program} {w : World} {K : PySem.W.Frag} {mg : Str → Option Value} {base : Heap} {CP XP : Addr}
def S_is_integer (CP : Addr) (ds : List D) (r : R) : Prop := ∃ (i : Int), ds = [(.int i)] ∧ r = .im (.bl true)
theorem ok_is_integer (L : Lk P K mg CP XP) : GFn P w K mg base "is_integer" 1 (spP K (S_is_integer CP)) := by
  refine gof L.f_is_integer fun f fd F => ?_
  refine def_P (N := ["value"]) (ps := ["value"]) F ⟨rfl, rfl, rfl, by decide +kernel, rfl, by decide +kernel, by decide +kernel⟩ (F.binds (ps := ["value"]) fun _ _ _ _ _ _ us hl => match us, hl with | [_], _ => rfl) (fun ds r h => by obtain ⟨_, rfl, _⟩ := h; rfl) ?_
  rintro cdv A outer s H E hg hr ds r ⟨i, rfl, rfl⟩
  have nd : List.Nodup (["value"] : List Str) := by decide +kernel
  have bi : Bi (CxB P w K mg base ["value"] "is_integer" (top 5) f cdv A outer s H E).mg := L.bi
  have c_Polynomial : ClsF (CxB P w K mg base ["value"] "is_integer" (top 5) f cdv A outer s H E).K CP ["own_row"] := L.c_Polynomial
  have q_Polynomial : KitF (CxB P w K mg base ["value"] "is_integer" (top 5) f cdv A outer s H E).K CP := L.q_Polynomial
  show WB _ [] _ [.im (.int i)] _
  walk_at "zs"
end
section
variable {P : Program} {w : World} {K : PySem.W.Frag} {mg : Str → Option Value} {base : Heap} {CP XP : Addr}
def S_opposite_row (CP : Addr) (ds : List D) (r : R) : Prop := ∃ (xs : List Int) (d : D), ds = [d] ∧ r = .fr (.lst (il (oppR xs))) ∧ xs.length ≤ 1000 ∧ ListV d (il xs)
theorem ok_opposite_row (L : Lk P K mg CP XP) : GFn P w K mg base "opposite_row" 1 (spP K (S_opposite_row CP)) := by
  refine gof L.f_opposite_row fun f fd F => ?_
  refine def_P (N := ["row", "one"]) (ps := ["row"]) F ⟨rfl, rfl, rfl, by decide +kernel, rfl, by decide +kernel, by decide +kernel⟩ (F.binds (ps := ["row"]) fun _ _ _ _ _ _ us hl => match us, hl with | [_], _ => rfl) (fun ds r h => by obtain ⟨_, _, rfl, _⟩ := h; rfl) ?_
  rintro cdv A outer s H E hg hr ds r ⟨xs, d, rfl, rfl, ⟨hz, hv⟩⟩
  have nd : List.Nodup (["row", "one"] : List Str) := by decide +kernel
  have bi : Bi (CxB P w K mg base ["row", "one"] "opposite_row" (top 9) f cdv A outer s H E).mg := L.bi
  have c_Polynomial : ClsF (CxB P w K mg base ["row", "one"] "opposite_row" (top 9) f cdv A outer s H E).K CP ["own_row"] := L.c_Polynomial
  have q_Polynomial : KitF (CxB P w K mg base ["row", "one"] "opposite_row" (top 9) f cdv A outer s H E).K CP := L.q_Polynomial
  show WB _ [] _ [.im d, .un] _
  refine wb_ret (we_lcL xs .int (fun x => .int (0 - x)) [("one", 1)] (wi_x we_nm (by cases hv; exact .im _ _; exact .tup _ _)) rfl rfl (fun i x hx => ?_) (blkOk_by rfl) (by omega) (by intro b hb; cases hb)) ?_
  · walk_at "zLs"
  · unfold oppR il; rw [List.map_map]; exact .fr _
end
section
variable {P : Program} {w : World} {K : PySem.W.Frag} {mg : Str → Option Value} {base : Heap} {CP XP : Addr}
def S_added_rows (CP : Addr) (ds : List D) (r : R) : Prop := ∃ (xs ys : List Int) (d e : D), ds = [d, e] ∧ r = .fr (.lst (il (addR xs ys))) ∧ xs.length ≤ 1000 ∧ ys.length ≤ 1000 ∧ ListV d (il xs) ∧ ListV e (il ys)
theorem ok_added_rows (L : Lk P K mg CP XP) : GFn P w K mg base "added_rows" 1 (spP K (S_added_rows CP)) := by
  refine gof L.f_added_rows fun f fd F => ?_
  refine def_P (N := ["one", "other", "wide", "first", "second", "left", "right"]) (ps := ["one", "other"]) F ⟨rfl, rfl, rfl, by decide +kernel, rfl, by decide +kernel, by decide +kernel⟩ (F.binds (ps := ["one", "other"]) fun _ _ _ _ _ _ us hl => match us, hl with | [_, _], _ => rfl) (fun ds r h => by obtain ⟨_, _, _, _, rfl, _⟩ := h; rfl) ?_
  rintro cdv A outer s H E hg hr ds r ⟨xs, ys, d, e, rfl, rfl, ⟨hz, hz2, hv, hv2⟩⟩
  have nd : List.Nodup (["one", "other", "wide", "first", "second", "left", "right"] : List Str) := by decide +kernel
  have bi : Bi (CxB P w K mg base ["one", "other", "wide", "first", "second", "left", "right"] "added_rows" (top 7) f cdv A outer s H E).mg := L.bi
  have c_Polynomial : ClsF (CxB P w K mg base ["one", "other", "wide", "first", "second", "left", "right"] "added_rows" (top 7) f cdv A outer s H E).K CP ["own_row"] := L.c_Polynomial
  have q_Polynomial : KitF (CxB P w K mg base ["one", "other", "wide", "first", "second", "left", "right"] "added_rows" (top 7) f cdv A outer s H E).K CP := L.q_Polynomial
  show WB _ [] _ [.im d, .im e, .un, .un, .un, .un, .un] _
  have l1 := hv.len
  have l2 := hv2.len
  rw [List.length_map] at l1 l2
  walk_at "zs"
  walk_at "zs"
  rw [il_rep, il_rep]
  have e1 : (max (xs.length : Int) ys.length - xs.length).toNat = max xs.length ys.length - xs.length := by omega
  have e2 : (max (xs.length : Int) ys.length - ys.length).toNat = max xs.length ys.length - ys.length := by omega
  rw [e1, e2]
  refine wb_ret (we_lcL ((xs ++ List.replicate (max xs.length ys.length - xs.length) 0).zip (ys ++ List.replicate (max xs.length ys.length - ys.length) 0)) prD (fun p => .int (p.1 + p.2)) [("left", 5), ("right", 6)] (by walk_at "zWi") (zipD_il _ _) rfl (fun i x hx => ?_) (blkOk_by rfl) (by simp; omega) (by intro b hb; rcases List.mem_cons.mp hb with rfl | hb; exact ⟨of_decide_eq_true rfl, rfl⟩; rcases List.mem_cons.mp hb with rfl | hb; exact ⟨of_decide_eq_true rfl, rfl⟩; cases hb)) ?_
  · walk_at "zLs"
  · unfold addR il; rw [List.map_map]; exact .fr _
end
end K71
set_option maxRecDepth 100000
set_option maxHeartbeats 2000000
namespace K71
open PySem PySem.Spec PyProof.Rows L2 Evl Z ClX K75
theorem getD_app0 (xs : List Int) (n j : Nat) : (xs ++ List.replicate n 0).getD j 0 = xs.getD j 0 := getD_fst0 xs n j
section
variable {P : Program} {w : World} {K : PySem.W.Frag} {mg : Str → Option Value} {base : Heap} {CP XP : Addr}
def S_multiplied_rows (CP : Addr) (ds : List D) (r : R) : Prop := ∃ (xs ys : List Int) (d e : D), ds = [d, e] ∧ r = .fr (.lst (il (mulR xs ys))) ∧ xs.length ≤ 1000 ∧ ys.length ≤ 1000 ∧ ListV d (il xs) ∧ ListV e (il ys) ∧ (∀ a ∈ xs, a.natAbs < 2 ^ 20000) ∧ (∀ a ∈ ys, a.natAbs < 2 ^ 20000)
theorem ok_multiplied_rows (L : Lk P K mg CP XP) : GFn P w K mg base "multiplied_rows" 1 (spP K (S_multiplied_rows CP)) := by
  refine gof L.f_multiplied_rows fun f fd F => ?_
  refine def_P (N := ["one", "other", "first", "second", "low", "at"]) (ps := ["one", "other"]) F ⟨rfl, rfl, rfl, by decide +kernel, rfl, by decide +kernel, by decide +kernel⟩ (F.binds (ps := ["one", "other"]) fun _ _ _ _ _ _ us hl => match us, hl with | [_, _], _ => rfl) (fun ds r h => by obtain ⟨_, _, _, _, rfl, _⟩ := h; rfl) ?_
  rintro cdv A outer s H E hg hr ds r ⟨xs, ys, d, e, rfl, rfl, ⟨hz, hz2, hv, hv2, hb, hb2⟩⟩
  have nd : List.Nodup (["one", "other", "first", "second", "low", "at"] : List Str) := by decide +kernel
  have bi : Bi (CxB P w K mg base ["one", "other", "first", "second", "low", "at"] "multiplied_rows" (top 8) f cdv A outer s H E).mg := L.bi
  have c_Polynomial : ClsF (CxB P w K mg base ["one", "other", "first", "second", "low", "at"] "multiplied_rows" (top 8) f cdv A outer s H E).K CP ["own_row"] := L.c_Polynomial
  have q_Polynomial : KitF (CxB P w K mg base ["one", "other", "first", "second", "low", "at"] "multiplied_rows" (top 8) f cdv A outer s H E).K CP := L.q_Polynomial
  show WB _ [] _ [.im d, .im e, .un, .un, .un, .un] _
  have l1 := hv.len
  have l2 := hv2.len
  rw [List.length_map] at l1 l2
  walk_at "zs"
  rw [il_rep, il_rep, Int.toNat_natCast, Int.toNat_natCast]
  have hl : (il (fst0 xs ys.length)).length = xs.length + ys.length := by simp [fst0]
  refine wb_ret (we_lcL (List.range (xs.length + ys.length)) (fun i => .int (0 + (i : Nat))) (fun i => .int ((List.range (i + 1)).map fun j => (fst0 xs ys.length).getD j 0 * (fst0 ys xs.length).getD (i - j) 0).sum) [("at", 5)] (wi_r1 bi (by walk_at "zE") (by simp; omega)) ?_ rfl (fun i x hx => ?_) (blkOk_by rfl) (by simp; omega) (by intro b hb; cases hb)) ?_
  · show rng 0 (((il (fst0 xs ys.length)).length : Nat) : Int).toNat = _
    rw [hl]; rfl
  · have hx' : x < xs.length + ys.length := by
      have := (List.getElem?_eq_some_iff.mp hx)
      obtain ⟨h1, h2⟩ := this
      simp at h1 h2
      omega
    walk_at "zLe"
    refine we_sum_ (ns := (List.range (x + 1)).map fun j => (fst0 xs ys.length).getD j 0 * (fst0 ys xs.length).getD (x - j) 0) bi (we_lcL (List.range (x + 1)) (fun i => .int (0 + (i : Nat))) (fun j => .int ((fst0 xs ys.length).getD j 0 * (fst0 ys xs.length).getD (x - j) 0)) [("low", 4)] (wi_r1 bi (by walk_at "zE") (by omega)) ?_ rfl (fun j y hy => ?_) (blkOk_by rfl) (by simp; omega) (by intro b hb; cases hb)) rfl (by rw [List.map_map]; rfl)
    · show rng 0 (0 + (x : Int) + 1).toNat = _
      rw [show (0 + (x : Int) + 1).toNat = x + 1 by omega]; rfl
    · have hy' : y < x + 1 := by
        obtain ⟨h1, h2⟩ := (List.getElem?_eq_some_iff.mp hy)
        simp at h1 h2
        omega
      have a1 : atI (il (fst0 xs ys.length)) (0 + (y : Nat)) = some (.int ((fst0 xs ys.length).getD y 0)) := by
        have := at_il (xs := fst0 xs ys.length) (i := 0 + (y : Nat)) (by omega) (by have := hl; rw [List.length_map] at this; omega)
        rwa [show (0 + (y : Int)).toNat = y by omega] at this
      have a2 : atI (il (fst0 ys xs.length)) (0 + (x : Nat) - (0 + (y : Nat))) = some (.int ((fst0 ys xs.length).getD (x - y) 0)) := by
        have := at_il (xs := fst0 ys xs.length) (i := 0 + (x : Nat) - (0 + (y : Nat))) (by omega) (by simp [fst0]; omega)
        rwa [show (0 + (x : Int) - (0 + (y : Int))).toNat = x - y by omega] at this
      have m1 : CMulW ((fst0 xs ys.length).getD y 0) ((fst0 ys xs.length).getD (x - y) 0) := by
        rw [getD_fst0, getD_fst0]
        exact mul2k (pow_le_big (getD_lt hb y) (by decide)) (pow_le_big (getD_lt hb2 _) (by decide))
      walk_at "zLs"
    walk_at "zLz"
  · unfold mulR il; rw [List.map_map]; exact .fr _
end
end K71
set_option maxRecDepth 100000
set_option maxHeartbeats 2000000
namespace K71
open PySem PySem.Spec PyProof.Rows L2 Evl Z ClX K75
def T_Polynomial___init__ (CP : Addr) (d : D) (ds : List D) (r : R) (d' : D) : Prop := ∃ xs : List Int, d = .ins CP [] ∧ ds = [.tup (il xs)] ∧ r = .im .non ∧ d' = pol CP (trim xs) ∧ xs.length ≤ 1000
theorem pop_il {xs : List Int} {a : Int} : (il (xs ++ [a]))[(il (xs ++ [a])).length - 1]? = some (.int a) := by simp
theorem at_last {xs : List Int} {a : Int} : atI (il (xs ++ [a])) (-1) = some (.int a) := by
  unfold atI ixN
  rw [if_neg (by decide), if_pos (by simp; omega)]
  have : (-1 + ((il (xs ++ [a])).length : Int)).toNat = xs.length := by simp; omega
  show (il (xs ++ [a]))[(-1 + ((il (xs ++ [a])).length : Int)).toNat]? = _
  rw [this]
  simp
theorem pln_il (xs : List Int) : Pln 60 (.lst (il xs)) := Pln.lst (n := 59) fun d hd => by obtain ⟨x, _, rfl⟩ := List.mem_map.mp hd; exact .int _
theorem pln_nil : Pln 60 (.lst []) := Pln.lst (n := 59) fun d hd => by cases hd
def lastZ (xs : List Int) : Bool := match xs.getLast? with
  | some 0 => true
  | _ => false
section
variable {P : Program} {w : World} {K : PySem.W.Frag} {mg : Str → Option Value} {base : Heap} {CP XP : Addr}
def S_Polynomial___init__ (CP : Addr) (d : D) (ds : List D) (r : R) (d' : D) : Prop := ∃ xs : List Int, d = .ins CP [] ∧ ds = il xs ∧ r = .im .non ∧ d' = pol CP (trim xs) ∧ xs.length ≤ 1000
theorem ok_Polynomial___init__ (L : Lk P K mg CP XP) : GI P w K mg base CP 2 (S_Polynomial___init__ CP) := by
  refine gin L.i_Polynomial fun f fd F => ?_
  have key : FnG P w K mg base (L2.CX P w) 2 f (spM K fun d es r d' => T_Polynomial___init__ CP d [.tup es] r d') := by
    refine def_MS (S := T_Polynomial___init__ CP) (N := ["self", "coefficients", "one", "found"]) (p1 := "self") (pv := "coefficients") F ⟨rfl, rfl, rfl, by decide +kernel, rfl, by decide +kernel, by decide +kernel⟩ (fun _ _ _ _ _ _ us rest hl => match us, rest, hl with | [_], [], _ => rfl | [_], _ :: _, _ => rfl) (fun d es r d' h => by obtain ⟨xs, _, h2, _, _, h5⟩ := h; have h2 := D.tup.inj (List.cons.inj h2).1; rw [h2, List.length_map]; exact h5) (fun d es r d' h => by obtain ⟨xs, _, _, h3, _⟩ := h; exact h3) ?_
    rintro cdv A outer s H E hg hr d ds r d' ⟨xs, rfl, rfl, rfl, rfl, hz⟩
    have nd : List.Nodup (["self", "coefficients", "one", "found"] : List Str) := by decide +kernel
    have bi : Bi (CxB P w K mg base ["self", "coefficients", "one", "found"] "Polynomial.__init__" (inClass (top 13) 0) f cdv A outer s H E).mg := L.bi
    have c_Polynomial : ClsF (CxB P w K mg base ["self", "coefficients", "one", "found"] "Polynomial.__init__" (inClass (top 13) 0) f cdv A outer s H E).K CP ["own_row"] := L.c_Polynomial
    have q_Polynomial : KitF (CxB P w K mg base ["self", "coefficients", "one", "found"] "Polynomial.__init__" (inClass (top 13) 0) f cdv A outer s H E).K CP := L.q_Polynomial
    have h_is_integer : Call (CxB P w K mg base ["self", "coefficients", "one", "found"] "Polynomial.__init__" (inClass (top 13) 0) f cdv A outer s H E) "is_integer" _ := (ok_is_integer L).call hg hr
    show WB _ [0] _ [.own (.ins CP []), .im (.tup (il xs)), .un, .un] _
    refine wb_forT (as := xs) (cd := .int) (wi_x we_nm (.tup _ _)) rfl (fun i ρ => ∃ s, ρ = [.own (.ins CP []), .im (.tup (il xs)), s, .un]) ⟨_, rfl⟩ ?_ ?_
    · rintro i a ρi ha ⟨s, rfl⟩
      refine ⟨_, wg_nm, ?_⟩
      walk_at "zs"
      refine wb_nil ?_
      exact ⟨_, rfl⟩
    · rintro ρ' ⟨s, rfl⟩
      walk_at "zs"
      refine wb_whileS (fun (ys : List Int) ρ => trim ys = trim xs ∧ ys.length ≤ 1000 ∧ ρ = [.own (.ins CP []), .im (.tup (il xs)), s, .own (.lst (il ys))]) lastZ List.length xs ⟨rfl, hz, rfl⟩ ?_ ?_ ?_
      · rintro ys ρ' ⟨h1, h2, rfl⟩
        rcases List.eq_nil_or_concat ys with rfl | ⟨zs, a, rfl⟩
        · have n1 : EqK (.lst (il [])) (.lst []) true := ⟨pln_il _, pln_nil, by simp⟩
          refine wt_is (k := !true && false) (wt_of (ww_and (k := !true) (l := false) ?_ fun z => by cases z)) rfl
          walk_at "zT"
        · rw [List.concat_eq_append] at *
          have n1 : EqK (.lst (il (zs ++ [a]))) (.lst []) false := ⟨pln_il _, pln_nil, by simp⟩
          have a1 := at_last (xs := zs) (a := a)
          refine wt_is (k := !false && decide (a = 0)) (by walk_at "zT") ?_
          unfold lastZ
          simp only [List.getLast?_concat]
          by_cases e : a = 0
          · subst e; rfl
          · rw [decide_eq_false e]
            split
            · rename_i q; exact absurd (Option.some.inj q) e
            · rfl
      · rintro ys ρ' ⟨h1, h2, rfl⟩ hk
        rcases List.eq_nil_or_concat ys with rfl | ⟨zs, a, rfl⟩
        · cases hk
        · rw [List.concat_eq_append] at *
          have ea : a = 0 := by
            unfold lastZ at hk
            simp only [List.getLast?_concat] at hk
            split at hk
            · rename_i q; exact Option.some.inj q
            · cases hk
          subst ea
          have p1 := pop_il (xs := zs) (a := 0)
          walk_at "zs"
          refine wb_nil ⟨zs, by simp, by rw [← h1, trim_snoc0], by simp at h2; omega, ?_⟩
          show [_, _, _, SV.own (.lst (il (zs ++ [0])).dropLast)] = _
          simp
      · rintro ys ρ' ⟨h1, h2, rfl⟩ hk
        have e : ys = trim ys := by
          rcases List.eq_nil_or_concat ys with rfl | ⟨zs, a, rfl⟩
          · rfl
          · rw [List.concat_eq_append] at *
            refine (trim_snoc zs fun z => ?_).symm
            subst z
            unfold lastZ at hk
            simp at hk
        rw [← h1, ← e]
        walk_at "zs"
        walk_at "zs"
  exact key.imp fun vs H Q E h => by obtain ⟨d, ds, r, d', ⟨xs, h1, h2, h3, h4, h5⟩, h⟩ := h; subst h2; exact ⟨d, _, r, d', ⟨xs, h1, rfl, h3, h4, h5⟩, h⟩
end
end K71
set_option maxRecDepth 100000
set_option maxHeartbeats 2000000
namespace K71
open PySem PySem.Spec PyProof.Rows L2 Evl Z ClX K75
/-- a row as it may stand in a polynomial -/
structure Rw (k : Nat) (row : List Int) : Prop where
  t : trim row = row
  b : Bd 12 k row
section
variable {P : Program} {w : World} {K : PySem.W.Frag} {mg : Str → Option Value} {base : Heap} {CP XP : Addr}
def S_Polynomial_degree (CP : Addr) (ds : List D) (r : R) : Prop := ∃ (row : List Int), ds = [(pol CP row)] ∧ r = .im (.int ((row.length : Nat) - 1))
theorem ok_Polynomial_degree (L : Lk P K mg CP XP) : GPr P w K mg base CP "degree" 1 (S_Polynomial_degree CP) := by
  refine gpr L.p_Polynomial_degree fun f fd F => ?_
  refine def_P (N := ["self"]) (ps := ["self"]) F ⟨rfl, rfl, rfl, by decide +kernel, rfl, by decide +kernel, by decide +kernel⟩ (F.binds (ps := ["self"]) fun _ _ _ _ _ _ us hl => match us, hl with | [_], _ => rfl) (fun ds r h => by obtain ⟨_, rfl, _⟩ := h; rfl) ?_
  rintro cdv A outer s H E hg hr ds r ⟨row, rfl, rfl⟩
  have nd : List.Nodup (["self"] : List Str) := by decide +kernel
  have bi : Bi (CxB P w K mg base ["self"] "Polynomial.degree" (inClass (top 13) 1) f cdv A outer s H E).mg := L.bi
  have c_Polynomial : ClsF (CxB P w K mg base ["self"] "Polynomial.degree" (inClass (top 13) 1) f cdv A outer s H E).K CP ["own_row"] := L.c_Polynomial
  have q_Polynomial : KitF (CxB P w K mg base ["self"] "Polynomial.degree" (inClass (top 13) 1) f cdv A outer s H E).K CP := L.q_Polynomial
  show WB _ [] _ [.im (pol CP row)] _
  have e : (row.map D.int).length = row.length := List.length_map ..
  rw [← e]
  walk_at "zs"
end
section
variable {P : Program} {w : World} {K : PySem.W.Frag} {mg : Str → Option Value} {base : Heap} {CP XP : Addr}
def S_Polynomial_coefficients (CP : Addr) (ds : List D) (r : R) : Prop := ∃ (row : List Int), ds = [(pol CP row)] ∧ r = .im (.tup (il row))
theorem ok_Polynomial_coefficients (L : Lk P K mg CP XP) : GMt P w K mg base CP "coefficients" 1 (S_Polynomial_coefficients CP) := by
  refine gmt L.m_Polynomial_coefficients fun f fd F => ?_
  refine def_P (N := ["self"]) (ps := ["self"]) F ⟨rfl, rfl, rfl, by decide +kernel, rfl, by decide +kernel, by decide +kernel⟩ (F.binds (ps := ["self"]) fun _ _ _ _ _ _ us hl => match us, hl with | [_], _ => rfl) (fun ds r h => by obtain ⟨_, rfl, _⟩ := h; rfl) ?_
  rintro cdv A outer s H E hg hr ds r ⟨row, rfl, rfl⟩
  have nd : List.Nodup (["self"] : List Str) := by decide +kernel
  have bi : Bi (CxB P w K mg base ["self"] "Polynomial.coefficients" (inClass (top 13) 2) f cdv A outer s H E).mg := L.bi
  have c_Polynomial : ClsF (CxB P w K mg base ["self"] "Polynomial.coefficients" (inClass (top 13) 2) f cdv A outer s H E).K CP ["own_row"] := L.c_Polynomial
  have q_Polynomial : KitF (CxB P w K mg base ["self"] "Polynomial.coefficients" (inClass (top 13) 2) f cdv A outer s H E).K CP := L.q_Polynomial
  show WB _ [] _ [.im (pol CP row)] _
  walk_at "zs"
end
section
variable {P : Program} {w : World} {K : PySem.W.Frag} {mg : Str → Option Value} {base : Heap} {CP XP : Addr}
def S_Polynomial_at (CP : Addr) (ds : List D) (r : R) : Prop := ∃ (row : List Int) (d : Int), ds = [(pol CP row), (.int d)] ∧ r = .im (.int (evalP row d)) ∧ Bd 12 2000 row ∧ d.natAbs < 2 ^ 3000
theorem ok_Polynomial_at (L : Lk P K mg CP XP) : GMt P w K mg base CP "at" 2 (S_Polynomial_at CP) := by
  refine gmt L.m_Polynomial_at fun f fd F => ?_
  refine def_P (N := ["self", "d", "found", "one"]) (ps := ["self", "d"]) F ⟨rfl, rfl, rfl, by decide +kernel, rfl, by decide +kernel, by decide +kernel⟩ (F.binds (ps := ["self", "d"]) fun _ _ _ _ _ _ us hl => match us, hl with | [_, _], _ => rfl) (fun ds r h => by obtain ⟨_, _, rfl, _⟩ := h; rfl) ?_
  rintro cdv A outer s H E hg hr ds r ⟨row, d, rfl, rfl, ⟨hb, hd⟩⟩
  have nd : List.Nodup (["self", "d", "found", "one"] : List Str) := by decide +kernel
  have bi : Bi (CxB P w K mg base ["self", "d", "found", "one"] "Polynomial.at" (inClass (top 13) 3) f cdv A outer s H E).mg := L.bi
  have c_Polynomial : ClsF (CxB P w K mg base ["self", "d", "found", "one"] "Polynomial.at" (inClass (top 13) 3) f cdv A outer s H E).K CP ["own_row"] := L.c_Polynomial
  have q_Polynomial : KitF (CxB P w K mg base ["self", "d", "found", "one"] "Polynomial.at" (inClass (top 13) 3) f cdv A outer s H E).K CP := L.q_Polynomial
  have h_is_integer : Call (CxB P w K mg base ["self", "d", "found", "one"] "Polynomial.at" (inClass (top 13) 3) f cdv A outer s H E) "is_integer" _ := (ok_is_integer L).call hg hr
  show WB _ [] _ [.im (pol CP row), .im (.int d), .un, .un] _
  walk_at "zs"
  walk_at "zs"
  have er : (row.map D.int).reverse = row.reverse.map D.int := by rw [List.map_reverse]
  refine wb_forT (as := row.reverse) (cd := .int) (by walk_at "zWi") er (fun i ρ => ∃ s, ρ = [.im (pol CP row), .im (.int d), .im (.int (evalP (row.reverse.take i).reverse d)), s]) ⟨_, rfl⟩ ?_ ?_
  · rintro i a ρi ha ⟨s, rfl⟩
    refine ⟨_, wg_nm, ?_⟩
    have hm : ∀ x ∈ (row.reverse.take i).reverse, x.natAbs < 2 ^ 2000 := fun x hx => hb.2 x (by have := List.mem_of_mem_take (List.mem_reverse.mp hx); exact List.mem_reverse.mp this)
    have h1 := eval_lt hd hm
    have hl : (row.reverse.take i).reverse.length ≤ 12 := by have := hb.1; rw [List.length_reverse, List.length_take, List.length_reverse]; omega
    have m1 : CMulW (evalP (row.reverse.take i).reverse d) d := mul2k (pow_le_big h1 (by
      have : (row.reverse.take i).reverse.length * (3000 + 1) ≤ 12 * 3001 := Nat.mul_le_mul_right _ hl
      omega)) (pow_le_big hd (by decide))
    walk_at "zs"
    have e : (row.reverse.take (i + 1)).reverse = a :: (row.reverse.take i).reverse := by
      rw [List.take_add_one, ha]; simp
    refine wb_nil ?_
    show ∃ s, _ = [_, _, SV.im (.int (evalP (row.reverse.take (i + 1)).reverse d)), s]
    rw [e, eval_cons]
    exact ⟨_, rfl⟩
  · rintro ρ' ⟨s, rfl⟩
    rw [List.take_length, List.reverse_reverse]
    walk_at "zs"
end
section
variable {P : Program} {w : World} {K : PySem.W.Frag} {mg : Str → Option Value} {base : Heap} {CP XP : Addr}
def S_row_of (CP : Addr) (ds : List D) (r : R) : Prop := ∃ (row : List Int), ds = [(pol CP row)] ∧ r = .im (.tup (il row))
theorem ok_row_of (L : Lk P K mg CP XP) : GFn P w K mg base "row_of" 5 (spP K (S_row_of CP)) := by
  refine gof L.f_row_of fun f fd F => ?_
  refine def_P (N := ["value"]) (ps := ["value"]) F ⟨rfl, rfl, rfl, by decide +kernel, rfl, by decide +kernel, by decide +kernel⟩ (F.binds (ps := ["value"]) fun _ _ _ _ _ _ us hl => match us, hl with | [_], _ => rfl) (fun ds r h => by obtain ⟨_, rfl, _⟩ := h; rfl) ?_
  rintro cdv A outer s H E hg hr ds r ⟨row, rfl, rfl⟩
  have nd : List.Nodup (["value"] : List Str) := by decide +kernel
  have bi : Bi (CxB P w K mg base ["value"] "row_of" (top 14) f cdv A outer s H E).mg := L.bi
  have c_Polynomial : ClsF (CxB P w K mg base ["value"] "row_of" (top 14) f cdv A outer s H E).K CP ["own_row"] := L.c_Polynomial
  have q_Polynomial : KitF (CxB P w K mg base ["value"] "row_of" (top 14) f cdv A outer s H E).K CP := L.q_Polynomial
  have h_Polynomial_coefficients := (ok_Polynomial_coefficients L).mc hg hr (CxB P w K mg base ["value"] "row_of" (top 14) f cdv A outer s H E)
  show WB _ [] _ [.im (pol CP row)] _
  have kk := L.k_PP
  have mg1 := L.mg_Polynomial
  walk_at "zs"
  walk_at "zs"
end
section
variable {P : Program} {w : World} {K : PySem.W.Frag} {mg : Str → Option Value} {base : Heap} {CP XP : Addr}
def S_Polynomial___add__ (CP : Addr) (ds : List D) (r : R) : Prop := ∃ (xs ys : List Int), ds = [(pol CP xs), (pol CP ys)] ∧ r = .im (pol CP (trim (addR xs ys))) ∧ xs.length ≤ 400 ∧ ys.length ≤ 400
theorem ok_Polynomial___add__ (L : Lk P K mg CP XP) : GMt P w K mg base CP "__add__" 6 (S_Polynomial___add__ CP) := by
  refine gmt L.m_Polynomial___add__ fun f fd F => ?_
  refine def_P (N := ["self", "other", "found"]) (ps := ["self", "other"]) F ⟨rfl, rfl, rfl, by decide +kernel, rfl, by decide +kernel, by decide +kernel⟩ (F.binds (ps := ["self", "other"]) fun _ _ _ _ _ _ us hl => match us, hl with | [_, _], _ => rfl) (fun ds r h => by obtain ⟨_, _, rfl, _⟩ := h; rfl) ?_
  rintro cdv A outer s H E hg hr ds r ⟨xs, ys, rfl, rfl, ⟨h1, h2⟩⟩
  have nd : List.Nodup (["self", "other", "found"] : List Str) := by decide +kernel
  have bi : Bi (CxB P w K mg base ["self", "other", "found"] "Polynomial.__add__" (inClass (top 13) 4) f cdv A outer s H E).mg := L.bi
  have c_Polynomial : ClsF (CxB P w K mg base ["self", "other", "found"] "Polynomial.__add__" (inClass (top 13) 4) f cdv A outer s H E).K CP ["own_row"] := L.c_Polynomial
  have q_Polynomial : KitF (CxB P w K mg base ["self", "other", "found"] "Polynomial.__add__" (inClass (top 13) 4) f cdv A outer s H E).K CP := L.q_Polynomial
  have h_added_rows : Call (CxB P w K mg base ["self", "other", "found"] "Polynomial.__add__" (inClass (top 13) 4) f cdv A outer s H E) "added_rows" _ := (ok_added_rows L).call hg hr
  have h_Polynomial___init__ := (ok_Polynomial___init__ L).kc L.mg_Polynomial hg hr (CxB P w K mg base ["self", "other", "found"] "Polynomial.__add__" (inClass (top 13) 4) f cdv A outer s H E)
  have h_row_of : Call (CxB P w K mg base ["self", "other", "found"] "Polynomial.__add__" (inClass (top 13) 4) f cdv A outer s H E) "row_of" _ := (ok_row_of L).call hg hr
  show WB _ [] _ [.im (pol CP xs), .im (pol CP ys), .un] _
  have s1 : S_added_rows CP [.tup (il xs), .tup (il ys)] (.fr (.lst (il (addR xs ys)))) := ⟨xs, ys, _, _, rfl, rfl, by omega, by omega, .tup _, .tup _⟩
  have s2 : S_Polynomial___init__ CP (.ins CP []) (il (addR xs ys)) (.im .non) (pol CP (trim (addR xs ys))) := ⟨_, rfl, rfl, rfl, rfl, by unfold addR; simp; omega⟩
  walk_at "zs"
  refine wb_ret (we_im (by walk_at "zE")) (.im _)
end
section
variable {P : Program} {w : World} {K : PySem.W.Frag} {mg : Str → Option Value} {base : Heap} {CP XP : Addr}
def S_Polynomial___sub__ (CP : Addr) (ds : List D) (r : R) : Prop := ∃ (xs ys : List Int), ds = [(pol CP xs), (pol CP ys)] ∧ r = .im (pol CP (trim (addR xs (oppR ys)))) ∧ xs.length ≤ 400 ∧ ys.length ≤ 400
theorem ok_Polynomial___sub__ (L : Lk P K mg CP XP) : GMt P w K mg base CP "__sub__" 6 (S_Polynomial___sub__ CP) := by
  refine gmt L.m_Polynomial___sub__ fun f fd F => ?_
  refine def_P (N := ["self", "other", "found"]) (ps := ["self", "other"]) F ⟨rfl, rfl, rfl, by decide +kernel, rfl, by decide +kernel, by decide +kernel⟩ (F.binds (ps := ["self", "other"]) fun _ _ _ _ _ _ us hl => match us, hl with | [_, _], _ => rfl) (fun ds r h => by obtain ⟨_, _, rfl, _⟩ := h; rfl) ?_
  rintro cdv A outer s H E hg hr ds r ⟨xs, ys, rfl, rfl, ⟨h1, h2⟩⟩
  have nd : List.Nodup (["self", "other", "found"] : List Str) := by decide +kernel
  have bi : Bi (CxB P w K mg base ["self", "other", "found"] "Polynomial.__sub__" (inClass (top 13) 5) f cdv A outer s H E).mg := L.bi
  have c_Polynomial : ClsF (CxB P w K mg base ["self", "other", "found"] "Polynomial.__sub__" (inClass (top 13) 5) f cdv A outer s H E).K CP ["own_row"] := L.c_Polynomial
  have q_Polynomial : KitF (CxB P w K mg base ["self", "other", "found"] "Polynomial.__sub__" (inClass (top 13) 5) f cdv A outer s H E).K CP := L.q_Polynomial
  have h_added_rows : Call (CxB P w K mg base ["self", "other", "found"] "Polynomial.__sub__" (inClass (top 13) 5) f cdv A outer s H E) "added_rows" _ := (ok_added_rows L).call hg hr
  have h_Polynomial___init__ := (ok_Polynomial___init__ L).kc L.mg_Polynomial hg hr (CxB P w K mg base ["self", "other", "found"] "Polynomial.__sub__" (inClass (top 13) 5) f cdv A outer s H E)
  have h_opposite_row : Call (CxB P w K mg base ["self", "other", "found"] "Polynomial.__sub__" (inClass (top 13) 5) f cdv A outer s H E) "opposite_row" _ := (ok_opposite_row L).call hg hr
  have h_row_of : Call (CxB P w K mg base ["self", "other", "found"] "Polynomial.__sub__" (inClass (top 13) 5) f cdv A outer s H E) "row_of" _ := (ok_row_of L).call hg hr
  show WB _ [] _ [.im (pol CP xs), .im (pol CP ys), .un] _
  have s0 : S_opposite_row CP [.tup (il ys)] (.fr (.lst (il (oppR ys)))) := ⟨ys, _, rfl, rfl, by omega, .tup _⟩
  have lo : (oppR ys).length = ys.length := by simp [oppR]
  have s1 : S_added_rows CP [.tup (il xs), .lst (il (oppR ys))] (.fr (.lst (il (addR xs (oppR ys))))) := ⟨xs, _, _, _, rfl, rfl, by omega, by omega, .tup _, .lst _⟩
  have s2 : S_Polynomial___init__ CP (.ins CP []) (il (addR xs (oppR ys))) (.im .non) (pol CP (trim (addR xs (oppR ys)))) := ⟨_, rfl, rfl, rfl, rfl, by unfold addR; simp; omega⟩
  walk_at "zs"
  refine wb_ret (we_im (by walk_at "zE")) (.im _)
end
section
variable {P : Program} {w : World} {K : PySem.W.Frag} {mg : Str → Option Value} {base : Heap} {CP XP : Addr}
def S_Polynomial___mul__ (CP : Addr) (ds : List D) (r : R) : Prop := ∃ (xs ys : List Int), ds = [(pol CP xs), (pol CP ys)] ∧ r = .im (pol CP (trim (mulR xs ys))) ∧ Bd 12 2000 xs ∧ Bd 12 2000 ys
theorem ok_Polynomial___mul__ (L : Lk P K mg CP XP) : GMt P w K mg base CP "__mul__" 6 (S_Polynomial___mul__ CP) := by
  refine gmt L.m_Polynomial___mul__ fun f fd F => ?_
  refine def_P (N := ["self", "other", "found"]) (ps := ["self", "other"]) F ⟨rfl, rfl, rfl, by decide +kernel, rfl, by decide +kernel, by decide +kernel⟩ (F.binds (ps := ["self", "other"]) fun _ _ _ _ _ _ us hl => match us, hl with | [_, _], _ => rfl) (fun ds r h => by obtain ⟨_, _, rfl, _⟩ := h; rfl) ?_
  rintro cdv A outer s H E hg hr ds r ⟨xs, ys, rfl, rfl, ⟨h1, h2⟩⟩
  have nd : List.Nodup (["self", "other", "found"] : List Str) := by decide +kernel
  have bi : Bi (CxB P w K mg base ["self", "other", "found"] "Polynomial.__mul__" (inClass (top 13) 6) f cdv A outer s H E).mg := L.bi
  have c_Polynomial : ClsF (CxB P w K mg base ["self", "other", "found"] "Polynomial.__mul__" (inClass (top 13) 6) f cdv A outer s H E).K CP ["own_row"] := L.c_Polynomial
  have q_Polynomial : KitF (CxB P w K mg base ["self", "other", "found"] "Polynomial.__mul__" (inClass (top 13) 6) f cdv A outer s H E).K CP := L.q_Polynomial
  have h_multiplied_rows : Call (CxB P w K mg base ["self", "other", "found"] "Polynomial.__mul__" (inClass (top 13) 6) f cdv A outer s H E) "multiplied_rows" _ := (ok_multiplied_rows L).call hg hr
  have h_Polynomial___init__ := (ok_Polynomial___init__ L).kc L.mg_Polynomial hg hr (CxB P w K mg base ["self", "other", "found"] "Polynomial.__mul__" (inClass (top 13) 6) f cdv A outer s H E)
  have h_row_of : Call (CxB P w K mg base ["self", "other", "found"] "Polynomial.__mul__" (inClass (top 13) 6) f cdv A outer s H E) "row_of" _ := (ok_row_of L).call hg hr
  show WB _ [] _ [.im (pol CP xs), .im (pol CP ys), .un] _
  have l1 := h1.1
  have l2 := h2.1
  have pw : (2 : Nat) ^ 2000 ≤ 2 ^ 20000 := Nat.pow_le_pow_right (by decide) (by decide)
  have s1 : S_multiplied_rows CP [.tup (il xs), .tup (il ys)] (.fr (.lst (il (mulR xs ys)))) := ⟨xs, ys, _, _, rfl, rfl, by omega, by omega, .tup _, .tup _, fun a h => Nat.lt_of_lt_of_le (h1.2 a h) pw, fun a h => Nat.lt_of_lt_of_le (h2.2 a h) pw⟩
  have s2 : S_Polynomial___init__ CP (.ins CP []) (il (mulR xs ys)) (.im .non) (pol CP (trim (mulR xs ys))) := ⟨_, rfl, rfl, rfl, rfl, by unfold mulR; simp; omega⟩
  walk_at "zs"
  refine wb_ret (we_im (by walk_at "zE")) (.im _)
end
section
variable {P : Program} {w : World} {K : PySem.W.Frag} {mg : Str → Option Value} {base : Heap} {CP XP : Addr}
def S_Polynomial___neg__ (CP : Addr) (ds : List D) (r : R) : Prop := ∃ (ys : List Int), ds = [(pol CP ys)] ∧ r = .im (pol CP (trim (oppR ys))) ∧ ys.length ≤ 400
theorem ok_Polynomial___neg__ (L : Lk P K mg CP XP) : GMt P w K mg base CP "__neg__" 6 (S_Polynomial___neg__ CP) := by
  refine gmt L.m_Polynomial___neg__ fun f fd F => ?_
  refine def_P (N := ["self", "found"]) (ps := ["self"]) F ⟨rfl, rfl, rfl, by decide +kernel, rfl, by decide +kernel, by decide +kernel⟩ (F.binds (ps := ["self"]) fun _ _ _ _ _ _ us hl => match us, hl with | [_], _ => rfl) (fun ds r h => by obtain ⟨_, rfl, _⟩ := h; rfl) ?_
  rintro cdv A outer s H E hg hr ds r ⟨ys, rfl, rfl, h2⟩
  have nd : List.Nodup (["self", "found"] : List Str) := by decide +kernel
  have bi : Bi (CxB P w K mg base ["self", "found"] "Polynomial.__neg__" (inClass (top 13) 7) f cdv A outer s H E).mg := L.bi
  have c_Polynomial : ClsF (CxB P w K mg base ["self", "found"] "Polynomial.__neg__" (inClass (top 13) 7) f cdv A outer s H E).K CP ["own_row"] := L.c_Polynomial
  have q_Polynomial : KitF (CxB P w K mg base ["self", "found"] "Polynomial.__neg__" (inClass (top 13) 7) f cdv A outer s H E).K CP := L.q_Polynomial
  have h_opposite_row : Call (CxB P w K mg base ["self", "found"] "Polynomial.__neg__" (inClass (top 13) 7) f cdv A outer s H E) "opposite_row" _ := (ok_opposite_row L).call hg hr
  have h_Polynomial___init__ := (ok_Polynomial___init__ L).kc L.mg_Polynomial hg hr (CxB P w K mg base ["self", "found"] "Polynomial.__neg__" (inClass (top 13) 7) f cdv A outer s H E)
  show WB _ [] _ [.im (pol CP ys), .un] _
  have s0 : S_opposite_row CP [.tup (il ys)] (.fr (.lst (il (oppR ys)))) := ⟨ys, _, rfl, rfl, by omega, .tup _⟩
  have lo : (oppR ys).length = ys.length := by simp [oppR]
  have s2 : S_Polynomial___init__ CP (.ins CP []) (il (oppR ys)) (.im .non) (pol CP (trim (oppR ys))) := ⟨_, rfl, rfl, rfl, rfl, by omega⟩
  walk_at "zs"
  refine wb_ret (we_im (by walk_at "zE")) (.im _)
end
section
variable {P : Program} {w : World} {K : PySem.W.Frag} {mg : Str → Option Value} {base : Heap} {CP XP : Addr}
def S_sign_at (CP : Addr) (ds : List D) (r : R) : Prop := ∃ (row : List Int) (d : Int), ds = [(pol CP row), (.int d)] ∧ r = .im (.int (sg row d)) ∧ Bd 12 2000 row ∧ d.natAbs < 2 ^ 3000
theorem ok_sign_at (L : Lk P K mg CP XP) : GFn P w K mg base "sign_at" 6 (spP K (S_sign_at CP)) := by
  refine gof L.f_sign_at fun f fd F => ?_
  refine def_P (N := ["polynomial", "d", "found"]) (ps := ["polynomial", "d"]) F ⟨rfl, rfl, rfl, by decide +kernel, rfl, by decide +kernel, by decide +kernel⟩ (F.binds (ps := ["polynomial", "d"]) fun _ _ _ _ _ _ us hl => match us, hl with | [_, _], _ => rfl) (fun ds r h => by obtain ⟨_, _, rfl, _⟩ := h; rfl) ?_
  rintro cdv A outer s H E hg hr ds r ⟨row, d, rfl, rfl, ⟨hb, hd⟩⟩
  have nd : List.Nodup (["polynomial", "d", "found"] : List Str) := by decide +kernel
  have bi : Bi (CxB P w K mg base ["polynomial", "d", "found"] "sign_at" (top 15) f cdv A outer s H E).mg := L.bi
  have c_Polynomial : ClsF (CxB P w K mg base ["polynomial", "d", "found"] "sign_at" (top 15) f cdv A outer s H E).K CP ["own_row"] := L.c_Polynomial
  have q_Polynomial : KitF (CxB P w K mg base ["polynomial", "d", "found"] "sign_at" (top 15) f cdv A outer s H E).K CP := L.q_Polynomial
  have h_Polynomial_at := (ok_Polynomial_at L).mc hg hr (CxB P w K mg base ["polynomial", "d", "found"] "sign_at" (top 15) f cdv A outer s H E)
  show WB _ [] _ [.im (pol CP row), .im (.int d), .un] _
  have s1 : S_Polynomial_at CP [pol CP row, .int d] (.im (.int (evalP row d))) := ⟨row, d, rfl, rfl, hb, hd⟩
  walk_at "zs"
  walk_at "zs"
end
end K71
set_option maxRecDepth 100000
set_option maxHeartbeats 2000000
namespace K71
open PySem PySem.Spec PyProof.Rows L2 Evl Z ClX K75
theorem _root_.K75.Bd.sub {k : Nat} {row : List Int} (h : Bd 12 k row) (i : Nat) : Bd 12 k (row.reverse.take i).reverse := ⟨by have := h.1; rw [List.length_reverse, List.length_take, List.length_reverse]; omega, fun x hx => h.2 x (by have := List.mem_of_mem_take (List.mem_reverse.mp hx); exact List.mem_reverse.mp this)⟩
theorem take_next {xs : List Int} {i : Nat} {a : Int} (h : xs.reverse[i]? = some a) : (xs.reverse.take (i + 1)).reverse = a :: (xs.reverse.take i).reverse := by
  rw [List.take_add_one, h]; simp
theorem trim11 : trim [1, 1] = [1, 1] := by decide
section
variable {P : Program} {w : World} {K : PySem.W.Frag} {mg : Str → Option Value} {base : Heap} {CP XP : Addr}
def S_step_of (CP : Addr) (ds : List D) (r : R) : Prop := ∃ (row : List Int), ds = [(pol CP row)] ∧ r = .im (pol CP (stepR row)) ∧ Bd 12 1800 row
theorem ok_step_of (L : Lk P K mg CP XP) : GFn P w K mg base "step_of" 10 (spP K (S_step_of CP)) := by
  refine gof L.f_step_of fun f fd F => ?_
  refine def_P (N := ["polynomial", "found", "one"]) (ps := ["polynomial"]) F ⟨rfl, rfl, rfl, by decide +kernel, rfl, by decide +kernel, by decide +kernel⟩ (F.binds (ps := ["polynomial"]) fun _ _ _ _ _ _ us hl => match us, hl with | [_], _ => rfl) (fun ds r h => by obtain ⟨_, rfl, _⟩ := h; rfl) ?_
  rintro cdv A outer s H E hg hr ds r ⟨row, rfl, rfl, hb⟩
  have nd : List.Nodup (["polynomial", "found", "one"] : List Str) := by decide +kernel
  have bi : Bi (CxB P w K mg base ["polynomial", "found", "one"] "step_of" (top 16) f cdv A outer s H E).mg := L.bi
  have c_Polynomial : ClsF (CxB P w K mg base ["polynomial", "found", "one"] "step_of" (top 16) f cdv A outer s H E).K CP ["own_row"] := L.c_Polynomial
  have q_Polynomial : KitF (CxB P w K mg base ["polynomial", "found", "one"] "step_of" (top 16) f cdv A outer s H E).K CP := L.q_Polynomial
  have h_Polynomial___init__ := (ok_Polynomial___init__ L).kc L.mg_Polynomial hg hr (CxB P w K mg base ["polynomial", "found", "one"] "step_of" (top 16) f cdv A outer s H E)
  have h_Polynomial_coefficients := (ok_Polynomial_coefficients L).mc hg hr (CxB P w K mg base ["polynomial", "found", "one"] "step_of" (top 16) f cdv A outer s H E)
  have h_Polynomial___mul__ := GMt.oc (n := "mul") (ok_Polynomial___mul__ L) L.sf_Polynomial hg hr (CxB P w K mg base ["polynomial", "found", "one"] "step_of" (top 16) f cdv A outer s H E)
  have h_Polynomial___add__ := GMt.oc (n := "add") (ok_Polynomial___add__ L) L.sf_Polynomial hg hr (CxB P w K mg base ["polynomial", "found", "one"] "step_of" (top 16) f cdv A outer s H E)
  have h_Polynomial___sub__ := GMt.oc (n := "sub") (ok_Polynomial___sub__ L) L.sf_Polynomial hg hr (CxB P w K mg base ["polynomial", "found", "one"] "step_of" (top 16) f cdv A outer s H E)
  show WB _ [] _ [.im (pol CP row), .un, .un] _
  have s0 : S_Polynomial___init__ CP (.ins CP []) [] (.im .non) (pol CP []) := ⟨[], rfl, rfl, rfl, rfl, by simp⟩
  have s1 : S_Polynomial___init__ CP (.ins CP []) [.int 1, .int 1] (.im .non) (pol CP [1, 1]) := ⟨[1, 1], rfl, rfl, rfl, by rw [trim11], by simp⟩
  walk_at "zs"
  have er : (il row).reverse = row.reverse.map D.int := by unfold il; rw [List.map_reverse]
  have cb : ∀ i, Bd 12 1896 (compR (row.reverse.take i).reverse) := fun i => by
    have h := hb.sub i
    obtain ⟨l1, b1⟩ := Bd.comp (by decide) h h.1
    have := h.1
    exact ⟨by omega, fun a ha => Nat.lt_of_lt_of_le (b1 a ha) (Nat.pow_le_pow_right (by decide) (by omega))⟩
  have b11 : Bd 12 2000 ([1, 1] : List Int) := ⟨by simp, fun b hb => by simp at hb; subst hb; exact Nat.one_lt_two_pow (by decide)⟩
  refine wb_forT (as := row.reverse) (cd := .int) (by walk_at "zWi") er (fun i ρ => ∃ s v, (v = .own (pol CP (compR (row.reverse.take i).reverse)) ∨ v = .im (pol CP (compR (row.reverse.take i).reverse))) ∧ ρ = [.im (pol CP row), v, s]) ⟨_, _, .inl rfl, rfl⟩ ?_ ?_
  · rintro i a ρi ha ⟨s, v, hv, rfl⟩
    have s2 : S_Polynomial___init__ CP (.ins CP []) [.int a] (.im .non) (pol CP (trim [a])) := ⟨[a], rfl, rfl, rfl, rfl, by simp⟩
    have c1 := cb i
    have s3 : S_Polynomial___mul__ CP [pol CP (compR (row.reverse.take i).reverse), pol CP [1, 1]] (.im (pol CP (trim (mulR (compR (row.reverse.take i).reverse) [1, 1])))) := ⟨_, _, rfl, rfl, c1.mono (by decide) (by decide), b11⟩
    have l1 : (trim (mulR (compR (row.reverse.take i).reverse) [1, 1])).length ≤ 400 := Nat.le_trans (trim_len _) (by have := c1.1; unfold mulR; simp; omega)
    have l2 : (trim [a]).length ≤ 400 := Nat.le_trans (trim_len _) (by simp)
    have s4 : S_Polynomial___add__ CP [pol CP (trim (mulR (compR (row.reverse.take i).reverse) [1, 1])), pol CP (trim [a])] (.im (pol CP (compR (row.reverse.take (i + 1)).reverse))) := ⟨_, _, rfl, by rw [take_next ha]; rfl, l1, l2⟩
    refine ⟨_, wg_nm, ?_⟩
    rcases hv with rfl | rfl
    · walk_at "zs"
      exact wb_nil ⟨_, _, .inr rfl, rfl⟩
    · walk_at "zs"
      exact wb_nil ⟨_, _, .inr rfl, rfl⟩
  · rintro ρ' ⟨s, v, hv, rfl⟩
    have c1 := cb row.reverse.length
    have l0 := hb.1
    have s5 : S_Polynomial___sub__ CP [pol CP (compR (row.reverse.take row.reverse.length).reverse), pol CP row] (.im (pol CP (stepR row))) := ⟨_, _, rfl, by rw [List.take_length, List.reverse_reverse]; rfl, by have := c1.1; omega, by omega⟩
    rcases hv with rfl | rfl
    · walk_at "zs"
    · walk_at "zs"
end
section
variable {P : Program} {w : World} {K : PySem.W.Frag} {mg : Str → Option Value} {base : Heap} {CP XP : Addr}
def S_first_other (CP : Addr) (ds : List D) (r : R) : Prop := ∃ (row : List Int) (start : Int) (e : Option Int) (m : Int), ds = [(pol CP row), (.int (sg row start)), (.int start), (optD e)] ∧ r = .im (.int m) ∧ Bd 12 2000 row ∧ 1 ≤ start ∧ start < m ∧ m < 2 ^ 2500 ∧ (∀ d, start ≤ d → d < m → sg row d = sg row start) ∧ (∀ E, e = some E → m ≤ E ∧ E < 2 ^ 2500 ∧ ∀ d, m ≤ d → d < E → sg row d ≠ sg row start) ∧ (e = none → ∀ d, m ≤ d → sg row d ≠ sg row start)
theorem ok_first_other (L : Lk P K mg CP XP) : GFn P w K mg base "first_other" 7 (spP K (S_first_other CP)) := by
  refine gof L.f_first_other fun f fd F => ?_
  refine def_P (N := ["polynomial", "sign", "start", "end", "low", "high", "reach", "middle"]) (ps := ["polynomial", "sign", "start", "end"]) F ⟨rfl, rfl, rfl, by decide +kernel, rfl, by decide +kernel, by decide +kernel⟩ (F.binds (ps := ["polynomial", "sign", "start", "end"]) fun _ _ _ _ _ _ us hl => match us, hl with | [_, _, _, _], _ => rfl) (fun ds r h => by obtain ⟨_, _, _, _, rfl, _⟩ := h; rfl) ?_
  rintro cdv A outer s H E hg hr ds r ⟨row, start, e, m, rfl, rfl, ⟨hb, h1, h2, h3, h4, h5, h6⟩⟩
  have nd : List.Nodup (["polynomial", "sign", "start", "end", "low", "high", "reach", "middle"] : List Str) := by decide +kernel
  have bi : Bi (CxB P w K mg base ["polynomial", "sign", "start", "end", "low", "high", "reach", "middle"] "first_other" (top 17) f cdv A outer s H E).mg := L.bi
  have c_Polynomial : ClsF (CxB P w K mg base ["polynomial", "sign", "start", "end", "low", "high", "reach", "middle"] "first_other" (top 17) f cdv A outer s H E).K CP ["own_row"] := L.c_Polynomial
  have q_Polynomial : KitF (CxB P w K mg base ["polynomial", "sign", "start", "end", "low", "high", "reach", "middle"] "first_other" (top 17) f cdv A outer s H E).K CP := L.q_Polynomial
  have h_sign_at : Call (CxB P w K mg base ["polynomial", "sign", "start", "end", "low", "high", "reach", "middle"] "first_other" (top 17) f cdv A outer s H E) "sign_at" _ := (ok_sign_at L).call hg hr
  show WB _ [] _ [.im (pol CP row), .im (.int (sg row start)), .im (.int start), .im (optD e), .un, .un, .un, .un] _
  have big : ∀ d : Int, 0 ≤ d → d < 2 ^ 2501 → d.natAbs < 2 ^ 3000 := fun d h0 h => by
    have e1 : ((2 ^ 2501 : Nat) : Int) = (2 : Int) ^ 2501 := by simp
    have e2 : (2 : Nat) ^ 2501 ≤ 2 ^ 3000 := Nat.pow_le_pow_right (by decide) (by decide)
    omega
  have p1 : (2 : Int) ^ 2501 = 2 ^ 2500 * 2 := Int.pow_succ 2 2500
  have sS : ∀ d : Int, 0 ≤ d → d < 2 ^ 2501 → S_sign_at CP [pol CP row, .int d] (.im (.int (sg row d))) := fun d h0 h => ⟨row, d, rfl, rfl, hb, big d h0 h⟩
  walk_at "zs"
  refine wb_ifJ (fun ρ => ∃ (H0 : Int) (s : SV), m ≤ H0 ∧ H0 < 2 ^ 2501 ∧ (∀ d, m ≤ d → d < H0 → sg row d ≠ sg row start) ∧ ρ = [.im (pol CP row), .im (.int (sg row start)), .im (.int start), .im (optD e), .im (.int start), .im (.int H0), s, .un]) (by walk_at "zT") (fun hk => ?_) (fun hk => ?_) ?_
  · cases e with
    | some E => cases hk
    | none =>
      have h6 := h6 rfl
      walk_at "zs"
      refine wb_whileS (fun (st : Int) ρ => 1 ≤ st ∧ st ≤ 2 * (m - start) ∧ ρ = [.im (pol CP row), .im (.int (sg row start)), .im (.int start), .im (optD none), .im (.int start), .im (optD none), .im (.int st), .un]) (fun st => decide (sg row (start + st) = sg row start)) (fun st => (2 * (m - start) - st).toNat) 1 ⟨by omega, by omega, rfl⟩ ?_ ?_ ?_
      · rintro st ρ' ⟨g1, g2, rfl⟩
        have s1 := sS (start + st) (by omega) (by omega)
        walk_at "zT"
      · rintro st ρ' ⟨g1, g2, rfl⟩ hk
        have lt : start + st < m := by
          by_cases z : start + st < m
          · exact z
          · exact absurd (of_decide_eq_true hk) (h6 _ (by omega))
        have m1 : CMulW 2 st := mul2k (pow_le_big (k := 2) (by decide) (by decide)) (by have := big st (by omega) (by omega); exact pow_le_big this (by decide))
        walk_at "zs"
        exact wb_nil ⟨2 * st, by omega, by omega, by omega, rfl⟩
      · rintro st ρ' ⟨g1, g2, rfl⟩ hk
        have ge : m ≤ start + st := by
          by_cases z : m ≤ start + st
          · exact z
          · exact absurd (h4 (start + st) (by omega) (by omega)) (of_decide_eq_false hk)
        walk_at "zs"
        exact wb_nil ⟨start + st, _, ge, by omega, fun d a _ => h6 d a, rfl⟩
  · cases e with
    | none => cases hk
    | some E =>
      obtain ⟨g1, g2, g3⟩ := h5 E rfl
      exact wb_nil ⟨E, .un, g1, by omega, g3, rfl⟩
  · rintro ρ' ⟨H0, s, k1, k2, k3, rfl⟩
    refine wb_whileS (fun (st : Int × Int) ρ => start ≤ st.1 ∧ st.1 < m ∧ m ≤ st.2 ∧ st.2 ≤ H0 ∧ ∃ s', ρ = [.im (pol CP row), .im (.int (sg row start)), .im (.int start), .im (optD e), .im (.int st.1), .im (.int st.2), s, s']) (fun st => decide (1 < st.2 - st.1)) (fun st => (st.2 - st.1).toNat) (start, H0) ⟨Int.le_refl _, h2, k1, Int.le_refl _, _, rfl⟩ ?_ ?_ ?_
    · rintro ⟨lo, hi⟩ ρ' ⟨g1, g2, g3, g4, s', rfl⟩
      walk_at "zT"
    · rintro ⟨lo, hi⟩ ρ' ⟨g1, g2, g3, g4, s', rfl⟩ hk
      have hk : 1 < hi - lo := of_decide_eq_true hk
      have g1 : start ≤ lo := g1
      have g2 : lo < m := g2
      have g3 : m ≤ hi := g3
      have g4 : hi ≤ H0 := g4
      walk_at "zs"
      have s1 := sS ((lo + hi) / 2) (by omega) (by omega)
      walk_at "zs"
      · intro hk2
        have hk2 : sg row ((lo + hi) / 2) = sg row start := of_decide_eq_true hk2
        have lt : (lo + hi) / 2 < m := by
          by_cases z : (lo + hi) / 2 < m
          · exact z
          · exact absurd hk2 (k3 _ (by omega) (by omega))
        walk_at "zs"
        exact wb_nil (wb_nil ⟨((lo + hi) / 2, hi), by show (hi - (lo + hi) / 2).toNat < (hi - lo).toNat; omega, by show start ≤ (lo + hi) / 2; omega, lt, g3, g4, _, rfl⟩)
      · intro hk2
        have hk2 : ¬ sg row ((lo + hi) / 2) = sg row start := of_decide_eq_false hk2
        have ge : m ≤ (lo + hi) / 2 := by
          by_cases z : m ≤ (lo + hi) / 2
          · exact z
          · exact absurd (h4 _ (by omega) (by omega)) hk2
        walk_at "zs"
        exact wb_nil (wb_nil ⟨(lo, (lo + hi) / 2), by show ((lo + hi) / 2 - lo).toNat < (hi - lo).toNat; omega, g1, g2, ge, by show (lo + hi) / 2 ≤ H0; omega, _, rfl⟩)
    · rintro ⟨lo, hi⟩ ρ' ⟨g1, g2, g3, g4, s', rfl⟩ hk
      have hk : ¬ 1 < hi - lo := of_decide_eq_false hk
      have g2 : lo < m := g2
      have g3 : m ≤ hi := g3
      have e1 : hi = m := by omega
      subst e1
      walk_at "zs"
end
end K71
set_option maxRecDepth 100000
set_option maxHeartbeats 2000000
namespace K71
open PySem PySem.Spec PyProof.Rows L2 Evl Z ClX K75
theorem pln_pr (p : Int × Int) : Pln 59 (prD p) := Pln.tup (n := 58) fun d hd => by rcases List.mem_cons.mp hd with rfl | hd; exact .int _; rcases List.mem_cons.mp hd with rfl | hd; exact .int _; cases hd
theorem big24 {d : Int} (h0 : 0 ≤ d) (h : d < 2 ^ 2400) : d.natAbs < 2 ^ 3000 := by
  have e1 : ((2 ^ 2400 : Nat) : Int) = (2 : Int) ^ 2400 := by simp
  have e2 : (2 : Nat) ^ 2400 ≤ 2 ^ 3000 := Nat.pow_le_pow_right (by decide) (by decide)
  omega
def RunsI (CP : Addr) (row : List Int) (start : Int) (e : Option Int) (δ E0 : Int) : Option Int → Z.Env → Prop
  | some p, ρ => start ≤ p ∧ p < E0 ∧ (p = start ∨ sg row p ≠ sg row (p - 1)) ∧ ∃ s6 s7, ρ = [.im (pol CP row), .im (.int start), .im (optD e), .im (.int δ), .own (.lst ((scan (sg row) start (p - start).toNat none).map prD)), .im (.int p), s6, s7]
  | none, ρ => ∃ s6 s7, ρ = [.im (pol CP row), .im (.int start), .im (optD e), .im (.int δ), .own (.lst ((scan (sg row) start (E0 - start).toNat none).map prD)), .im .non, s6, s7]
theorem RunsI.no {CP : Addr} {row : List Int} {start : Int} {e : Option Int} {δ E0 : Int} {l : List D} (s6 s7 : SV) (h : l = (scan (sg row) start (E0 - start).toNat none).map prD) : RunsI CP row start e δ E0 none [.im (pol CP row), .im (.int start), .im (optD e), .im (.int δ), .own (.lst l), .im .non, s6, s7] := ⟨s6, s7, by rw [h]⟩
theorem RunsI.so {CP : Addr} {row : List Int} {start p : Int} {e : Option Int} {δ E0 : Int} {l : List D} (s6 s7 : SV) (h1 : start ≤ p) (h2 : p < E0) (h3 : p = start ∨ sg row p ≠ sg row (p - 1)) (h : l = (scan (sg row) start (p - start).toNat none).map prD) : RunsI CP row start e δ E0 (some p) [.im (pol CP row), .im (.int start), .im (optD e), .im (.int δ), .own (.lst l), .im (.int p), s6, s7] := ⟨h1, h2, h3, s6, s7, by rw [h]⟩
section
variable {P : Program} {w : World} {K : PySem.W.Frag} {mg : Str → Option Value} {base : Heap} {CP XP : Addr}
def S_runs_in (CP : Addr) (ds : List D) (r : R) : Prop := ∃ (row : List Int) (start : Int) (e : Option Int) (δ : Int) (E0 : Int), ds = [(pol CP row), (.int start), (optD e), (.int δ)] ∧ r = .fr (.lst ((scan (sg row) start (E0 - start).toNat none).map prD)) ∧ Bd 12 2000 row ∧ 1 ≤ start ∧ start < E0 ∧ E0 < 2 ^ 2400 ∧ Mono δ (sg row) start E0 ∧ (e = some E0 ∨ (e = none ∧ (∀ d, E0 - 1 ≤ d → sg row d = sg row (E0 - 1)) ∧ (δ ≠ 0 → sg row (E0 - 1) = δ)))
theorem ok_runs_in (L : Lk P K mg CP XP) : GFn P w K mg base "runs_in" 8 (spP K (S_runs_in CP)) := by
  refine gof L.f_runs_in fun f fd F => ?_
  refine def_P (N := ["polynomial", "start", "end", "direction", "found", "place", "sign", "following"]) (ps := ["polynomial", "start", "end", "direction"]) F ⟨rfl, rfl, rfl, by decide +kernel, rfl, by decide +kernel, by decide +kernel⟩ (F.binds (ps := ["polynomial", "start", "end", "direction"]) fun _ _ _ _ _ _ us hl => match us, hl with | [_, _, _, _], _ => rfl) (fun ds r h => by obtain ⟨_, _, _, _, _, rfl, _⟩ := h; rfl) ?_
  rintro cdv A outer s H E hg hr ds r ⟨row, start, e, δ, E0, rfl, rfl, ⟨hb, h1, h2, h3, hm, he⟩⟩
  have nd : List.Nodup (["polynomial", "start", "end", "direction", "found", "place", "sign", "following"] : List Str) := by decide +kernel
  have bi : Bi (CxB P w K mg base ["polynomial", "start", "end", "direction", "found", "place", "sign", "following"] "runs_in" (top 18) f cdv A outer s H E).mg := L.bi
  have c_Polynomial : ClsF (CxB P w K mg base ["polynomial", "start", "end", "direction", "found", "place", "sign", "following"] "runs_in" (top 18) f cdv A outer s H E).K CP ["own_row"] := L.c_Polynomial
  have q_Polynomial : KitF (CxB P w K mg base ["polynomial", "start", "end", "direction", "found", "place", "sign", "following"] "runs_in" (top 18) f cdv A outer s H E).K CP := L.q_Polynomial
  have h_sign_at : Call (CxB P w K mg base ["polynomial", "start", "end", "direction", "found", "place", "sign", "following"] "runs_in" (top 18) f cdv A outer s H E) "sign_at" _ := (ok_sign_at L).call hg hr
  have h_first_other : Call (CxB P w K mg base ["polynomial", "start", "end", "direction", "found", "place", "sign", "following"] "runs_in" (top 18) f cdv A outer s H E) "first_other" _ := (ok_first_other L).call hg hr
  show WB _ [] _ [.im (pol CP row), .im (.int start), .im (optD e), .im (.int δ), .un, .un, .un, .un] _
  have pp : (2 : Int) ^ 2400 ≤ 2 ^ 2500 := by
    have : (2 : Nat) ^ 2400 ≤ 2 ^ 2500 := Nat.pow_le_pow_right (by decide) (by decide)
    exact_mod_cast this
  walk_at "zs"
  refine wb_whileS (RunsI CP row start e δ E0) (fun st => st.isSome) (fun st => match st with | some p => (E0 - p).toNat + 1 | none => 0) (some start) (RunsI.so _ _ (Int.le_refl _) h2 (.inl rfl) (by rw [Int.sub_self]; rfl)) ?_ ?_ ?_
  · rintro (_ | p) ρ' h
    · obtain ⟨s6, s7, rfl⟩ := h
      refine wt_is (k := !D.non.isNon) (by walk_at "zT") rfl
    · obtain ⟨g1, g2, g3, s6, s7, rfl⟩ := h
      refine wt_is (k := !(D.int p).isNon) (by walk_at "zT") rfl
  · rintro (_ | p) ρ' h hk
    · cases hk
    obtain ⟨g1, g2, g3, s6, s7, rfl⟩ := h
    have g1 : start ≤ p := g1
    have g2 : p < E0 := g2
    have g3 : p = start ∨ sg row p ≠ sg row (p - 1) := g3
    have s1 : S_sign_at CP [pol CP row, .int p] (.im (.int (sg row p))) := ⟨row, p, rfl, rfl, hb, big24 (by omega) (by omega)⟩
    have ln : ∀ q, q ≤ E0 → (scan (sg row) start (q - start).toNat none).length ≤ 3 := fun q hq => by
      refine Mono.len (δ := δ) ?_ (sg_bd row)
      rcases hm with ⟨z, h⟩ | ⟨z, h⟩ | ⟨z, h⟩
      · exact .inl ⟨z, fun d a b => h d a (by omega)⟩
      · exact .inr (.inl ⟨z, fun d a b => h d a (by omega)⟩)
      · exact .inr (.inr ⟨z, fun d a b => h d a (by omega)⟩)
    have l3 := ln p (by omega)
    have add : ∀ q, p < q → q ≤ E0 → (∀ d, p ≤ d → d < q → sg row d = sg row p) → scan (sg row) start (q - start).toNat none = scan (sg row) start (p - start).toNat none ++ [(p, sg row p)] := fun q k1 k2 k3 => by
      have one : ∀ w : Option Int, some (sg row p) ≠ w → scan (sg row) p (q - p).toNat w = [(p, sg row p)] := fun w hw => by
        obtain ⟨n, hn⟩ : ∃ n : Nat, (q - p).toNat = n + 1 := ⟨(q - p).toNat - 1, by omega⟩
        rw [hn, scan_new hw, scan_const fun d a b => k3 d (by omega) (by omega)]
      by_cases z : p = start
      · subst z
        rw [Int.sub_self]
        exact one none (by simp)
      · have g4 : sg row p ≠ sg row (p - 1) := g3.resolve_left z
        obtain ⟨n, hn⟩ : ∃ n : Nat, (p - start).toNat = n + 1 := ⟨(p - start).toNat - 1, by omega⟩
        rw [show (q - start).toNat = n + 1 + (q - p).toNat by omega, scan_app, hn, show start + ((n + 1 : Nat) : Int) = p by omega, show start + (n : Int) = p - 1 by omega]
        rw [one _ (by intro z; exact g4 (Option.some.inj z))]
    have fin : (∀ d, p ≤ d → d < E0 → sg row d = sg row p) → ((scan (sg row) start (p - start).toNat none).map prD ++ [D.tup [.int p, .int (sg row p)]]) = (scan (sg row) start (E0 - start).toNat none).map prD := fun k => by
      rw [add E0 g2 (Int.le_refl _) k, List.map_append]; rfl
    have hz : ((scan (sg row) start (p - start).toNat none).map prD).length < 100000 := by rw [List.length_map]; omega
    walk_at "zs"
    walk_at "zs"
    walk_at "zs"
    by_cases hd : δ ≠ 0 ∧ sg row p ≠ δ
    · obtain ⟨hd0, hd1⟩ := hd
      obtain ⟨m, k1, k2, k3, k4⟩ := least_change hm g1 (E0 - p - 1).toNat (p + 1) (by omega) (by omega) (fun d a b => by rw [show d = p by omega])
      have s2 : S_first_other CP [pol CP row, .int (sg row p), .int p, optD e] (.im (.int m)) := by
        refine ⟨row, p, e, m, rfl, rfl, hb, by omega, by omega, by omega, k3, fun E hE => ?_, fun hE => ?_⟩
        · rcases he with he | ⟨he, _⟩
          · rw [he] at hE; cases hE; exact ⟨k2, by omega, k4⟩
          · rw [he] at hE; cases hE
        · rcases he with he | ⟨_, he1, he2⟩
          · rw [he] at hE; cases hE
          · intro d a
            by_cases z : d < E0
            · exact k4 d a z
            · rw [he1 d (by omega), he2 hd0]; exact Ne.symm hd1
      walk_at "zIT"
      walk_at "zs"
      refine wb_nil ?_
      rcases he with he | ⟨he, he1, he2⟩
      · subst he
        by_cases z : m = E0
        · walk_at "zs"
          exact wb_nil ⟨none, by simp, RunsI.no _ _ (fin (by rw [← z]; exact k3))⟩
        · walk_at "zs"
          refine wb_nil ⟨some m, by show (E0 - m).toNat + 1 < (E0 - p).toNat + 1; omega, RunsI.so _ _ (by omega) (by omega) (.inr ?_) ?_⟩
          · rw [k3 (m - 1) (by omega) (by omega)]; exact k4 m (Int.le_refl _) (by omega)
          · rw [add m (by omega) k2 k3, List.map_append]; rfl
      · subst he
        have z : m ≠ E0 := fun z => by
          subst z
          have := k3 (m - 1) (by omega) (by omega)
          rw [he2 hd0] at this
          exact hd1 this.symm
        have q1 : EqK (.int m) (optD none) false := ⟨.int _, .non, by simp [optD]⟩
        walk_at "zs"
        refine wb_nil ⟨some m, by show (E0 - m).toNat + 1 < (E0 - p).toNat + 1; omega, RunsI.so _ _ (by omega) (by omega) (.inr ?_) ?_⟩
        · rw [k3 (m - 1) (by omega) (by omega)]; exact k4 m (Int.le_refl _) (by omega)
        · rw [add m (by omega) k2 k3, List.map_append]; rfl
    · have k3 : ∀ d, p ≤ d → d < E0 → sg row d = sg row p := fun d a b => hm.keep (sg_bd row) g1 a b (by omega)
      have q0 : (!decide (δ = 0) && !decide (sg row p = δ)) = false := by
        by_cases z : δ = 0
        · simp [z]
        · have : sg row p = δ := by omega
          simp [this]
      walk_at "zIF"
      have q2 : EqK .non (optD e) e.isNone := by
        cases e with
        | none => exact ⟨.non, .non, by simp [optD]⟩
        | some E => exact ⟨.non, .int _, by simp [optD]⟩
      walk_at "zs"
      exact wb_nil ⟨none, by simp, RunsI.no _ _ (fin k3)⟩
  · rintro (_ | p) ρ' h hk
    · obtain ⟨s6, s7, rfl⟩ := h
      walk_at "zs"
    · cases hk
end
end K71
set_option maxRecDepth 100000
set_option maxHeartbeats 2000000
namespace K71
open PySem PySem.Spec PyProof.Rows L2 Evl Z ClX K75
/-- the last sign of some runs -/
def lastQ (l : List (Int × Int)) : Option Int := l.getLast?.map (·.2)
theorem lastQ_snoc (l : List (Int × Int)) (q : Int × Int) : lastQ (l ++ [q]) = some q.2 := by simp [lastQ]
theorem at_lastD {l : List D} {d : D} : atI (l ++ [d]) (-1) = some d := by
  unfold atI ixN
  rw [if_neg (by decide), if_pos (by simp; omega)]
  have : (-1 + ((l ++ [d]).length : Int)).toNat = l.length := by simp; omega
  show (l ++ [d])[(-1 + ((l ++ [d]).length : Int)).toNat]? = _
  rw [this]
  simp
theorem eqk_runs (l : List (Int × Int)) : EqK (.lst (l.map prD)) (.lst []) (decide (l = [])) := by
  refine ⟨Pln.lst fun d hd => by obtain ⟨p, _, rfl⟩ := List.mem_map.mp hd; exact pln_pr p, Pln.lst (by simp), ?_⟩
  simp
section
variable {P : Program} {w : World} {K : PySem.W.Frag} {mg : Str → Option Value} {base : Heap} {CP XP : Addr}
def S_joined_runs (CP : Addr) (ds : List D) (r : R) : Prop := ∃ (l : List (Int × Int)), ds = [(.lst (l.map prD))] ∧ r = .fr (.lst ((joinR none l).map prD)) ∧ l.length ≤ 90000
theorem ok_joined_runs (L : Lk P K mg CP XP) : GFn P w K mg base "joined_runs" 1 (spP K (S_joined_runs CP)) := by
  refine gof L.f_joined_runs fun f fd F => ?_
  refine def_P (N := ["runs", "found", "start", "sign"]) (ps := ["runs"]) F ⟨rfl, rfl, rfl, by decide +kernel, rfl, by decide +kernel, by decide +kernel⟩ (F.binds (ps := ["runs"]) fun _ _ _ _ _ _ us hl => match us, hl with | [_], _ => rfl) (fun ds r h => by obtain ⟨_, rfl, _⟩ := h; rfl) ?_
  rintro cdv A outer s H E hg hr ds r ⟨l, rfl, rfl, hl⟩
  have nd : List.Nodup (["runs", "found", "start", "sign"] : List Str) := by decide +kernel
  have bi : Bi (CxB P w K mg base ["runs", "found", "start", "sign"] "joined_runs" (top 19) f cdv A outer s H E).mg := L.bi
  have c_Polynomial : ClsF (CxB P w K mg base ["runs", "found", "start", "sign"] "joined_runs" (top 19) f cdv A outer s H E).K CP ["own_row"] := L.c_Polynomial
  have q_Polynomial : KitF (CxB P w K mg base ["runs", "found", "start", "sign"] "joined_runs" (top 19) f cdv A outer s H E).K CP := L.q_Polynomial
  show WB _ [] _ [.im (.lst (l.map prD)), .un, .un, .un] _
  walk_at "zs"
  refine wb_forT (as := l) (cd := prD) (by walk_at "zWi") rfl (fun i ρ => ∃ (f : List (Int × Int)) (s2 s3 : SV), f.length ≤ i ∧ joinR none l = f ++ joinR (lastQ f) (l.drop i) ∧ ρ = [.im (.lst (l.map prD)), .own (.lst (f.map prD)), s2, s3]) ⟨[], _, _, Nat.le_refl _, rfl, rfl⟩ ?_ ?_
  · rintro i ⟨a, σ⟩ ρi ha ⟨f, s2, s3, hf, hj, rfl⟩
    refine ⟨_, by walk_at "zTg", ?_⟩
    have hi := (List.getElem?_eq_some_iff.mp ha).1
    have hdrop : l.drop i = (a, σ) :: l.drop (i + 1) := by
      have := List.drop_eq_getElem_cons hi
      rw [this]
      congr 1
      exact (List.getElem?_eq_some_iff.mp ha).2
    have hz : (f.map prD).length < 100000 := by rw [List.length_map]; omega
    rw [hdrop] at hj
    rcases List.eq_nil_or_concat f with rfl | ⟨g, ⟨b, τ⟩, rfl⟩
    · have n1 := eqk_runs []
      refine wb_ifTe (kk := true || true) (wt_of (ww_or (k := true) (l := true) (by walk_at "zT") fun z => by cases z)) rfl ?_
      walk_at "zs"
      refine wb_nil (wb_nil ⟨[(a, σ)], _, _, by simp, ?_, rfl⟩)
      rw [hj]
      rfl
    · rw [List.concat_eq_append] at *
      have n1 : EqK (.lst ((g ++ [(b, τ)]).map prD)) (.lst []) false := by
        have := eqk_runs (g ++ [(b, τ)])
        simpa using this
      have a1 : atI ((g ++ [(b, τ)]).map prD) (-1) = some (prD (b, τ)) := by rw [List.map_append]; exact at_lastD
      have hlq : lastQ (g ++ [(b, τ)]) = some τ := lastQ_snoc g (b, τ)
      rw [hlq] at hj
      by_cases z : τ = σ
      · have q0 : (false || !decide (τ = σ)) = false := by simp [z]
        walk_at "zIF"
        refine wb_nil ⟨g ++ [(b, τ)], _, _, by omega, ?_, rfl⟩
        rw [hlq, hj]
        congr 1
        show (if some σ = some τ then _ else _) = _
        rw [if_pos (by rw [z])]
      · have q0 : (false || !decide (τ = σ)) = true := by simp [z]
        walk_at "zIT"
        walk_at "zs"
        have em : (g ++ [(b, τ)]).map prD ++ [prD (a, σ)] = (g ++ [(b, τ)] ++ [(a, σ)]).map prD := by simp
        refine wb_nil (wb_nil ⟨g ++ [(b, τ)] ++ [(a, σ)], _, _, by simp at hf ⊢; omega, ?_, by rw [← em]; rfl⟩)
        rw [lastQ_snoc, hj]
        show _ ++ (if some σ = some τ then _ else _) = _
        rw [if_neg (by intro q; exact z (Option.some.inj q).symm)]
        simp
  · rintro ρ' ⟨f, s2, s3, hf, hj, rfl⟩
    rw [List.drop_length] at hj
    have e : joinR none l = f := by rw [hj]; simp [joinR]
    rw [e]
    walk_at "zs"
end
section
variable {P : Program} {w : World} {K : PySem.W.Frag} {mg : Str → Option Value} {base : Heap} {CP XP : Addr}
def S_one_sign (CP : Addr) (ds : List D) (r : R) : Prop := ∃ (row : List Int), ds = [(.tup (il row))] ∧ r = .im (optD (oneS row)) ∧ row.length ≤ 1000
theorem ok_one_sign (L : Lk P K mg CP XP) : GFn P w K mg base "one_sign" 1 (spP K (S_one_sign CP)) := by
  refine gof L.f_one_sign fun f fd F => ?_
  refine def_P (N := ["row", "one"]) (ps := ["row"]) F ⟨rfl, rfl, rfl, by decide +kernel, rfl, by decide +kernel, by decide +kernel⟩ (F.binds (ps := ["row"]) fun _ _ _ _ _ _ us hl => match us, hl with | [_], _ => rfl) (fun ds r h => by obtain ⟨_, rfl, _⟩ := h; rfl) ?_
  rintro cdv A outer s H E hg hr ds r ⟨row, rfl, rfl, hl⟩
  have nd : List.Nodup (["row", "one"] : List Str) := by decide +kernel
  have bi : Bi (CxB P w K mg base ["row", "one"] "one_sign" (top 20) f cdv A outer s H E).mg := L.bi
  have c_Polynomial : ClsF (CxB P w K mg base ["row", "one"] "one_sign" (top 20) f cdv A outer s H E).K CP ["own_row"] := L.c_Polynomial
  have q_Polynomial : KitF (CxB P w K mg base ["row", "one"] "one_sign" (top 20) f cdv A outer s H E).K CP := L.q_Polynomial
  show WB _ [] _ [.im (.tup (il row)), .un] _
  have l1 : (il row).length = row.length := List.length_map ..
  have hb1 : ∀ (q : Int → Bool), (row.map fun x => D.bl (q x)) = (row.map q).map .bl := fun q => by rw [List.map_map]; rfl
  have n1 : EqK (.tup (il row)) (.tup []) (decide (row = [])) := by
    refine ⟨Pln.tup (n := 59) fun d hd => by obtain ⟨x, _, rfl⟩ := List.mem_map.mp hd; exact .int _, Pln.tup (by simp), ?_⟩
    simp
  have any1 : ∀ (q : Int → Bool), (row.map q).any id = row.any q := fun q => by rw [List.any_map]; rfl
  refine wb_if (k := ((row.map fun x => decide (0 < x))).any id) (wt_val (we_any_ bi (we_lcL row .int (fun x => .bl (decide (0 < x))) [("one", 1)] (by walk_at "zWi") rfl rfl (fun i x hx => ?_) (blkOk_by rfl) (by omega) (by intro b hb; cases hb)) rfl (hb1 _))) (fun hk => ?_) (fun hk => ?_)
  · walk_at "zLs"
  · rw [any1] at hk
    refine wb_ret (we_is (r' := .im (optD (oneS row))) (we_ifC (k := ((row.map fun x => decide (x < 0))).any id) (d1 := .non) (d2 := .int 1) (wt_val (we_any_ bi (we_lcL row .int (fun x => .bl (decide (x < 0))) [("one", 1)] (by walk_at "zWi") rfl rfl (fun i x hx => ?_) (blkOk_by rfl) (by omega) (by intro b hb; cases hb)) rfl (hb1 _))) (fun _ => we_non) (fun _ => we_int)) ?_) (.im _)
    · walk_at "zLs"
    · rw [any1]
      unfold oneS
      rw [if_pos hk]
      cases row.any fun x => decide (x < 0) <;> rfl
  · rw [any1] at hk
    refine wb_nil ?_
    refine wb_ret (we_is (r' := .im (optD (oneS row))) (we_ifC (k := !decide (row = [])) (d1 := .int (-1)) (d2 := .int 0) (by walk_at "zT") (fun _ => we_neg we_int) (fun _ => we_int)) ?_) (.im _)
    unfold oneS
    rw [hk]
    by_cases z : row = []
    · simp [z, optD]
    · simp [z, optD]
end
end K71
set_option maxRecDepth 100000
set_option maxHeartbeats 2000000
namespace K71
open PySem PySem.Spec PyProof.Rows L2 Evl Z ClX K75
theorem enum_map (l : List (Int × Int)) : enumD (l.map prD) = l.zipIdx.map fun p => D.tup [.int (p.2 : Nat), prD p.1] := by
  unfold enumD
  rw [List.zipIdx_map, List.map_map]
  rfl
theorem at_runs {l : List (Int × Int)} {k : Nat} {q : Int × Int} (h : l[k]? = some q) {i : Int} (hi : i = k) : atI (l.map prD) i = some (prD q) := by
  have hk := (List.getElem?_eq_some_iff.mp h).1
  unfold atI ixN
  rw [if_pos (by omega), if_pos (by rw [List.length_map]; omega)]
  show (l.map prD)[i.toNat]? = _
  rw [show i.toNat = k by omega, List.getElem?_map, h]
  rfl
section
variable {P : Program} {w : World} {K : PySem.W.Frag} {mg : Str → Option Value} {base : Heap} {CP XP : Addr}
def S_sign_runs (CP : Addr) (ds : List D) (r : R) : Prop := ∃ (row : List Int), ds = [(pol CP row)] ∧ r = .fr (.lst ((scan (sg row) 1 NN none).map prD)) ∧ TR row ∧ Bd 12 500 row ∧ row.length ≤ 11
theorem okB_sign_runs (L : Lk P K mg CP XP) (f : Addr) : ∀ (cdv : Value) (A : Around) (outer : List PySem.Env) (s : Shared) (H : Hp) (E : XK), (CxB P w K mg base ["polynomial", "sign", "chain", "runs", "one", "found", "number", "start", "end"] "sign_runs" (top 21) f cdv A outer s H E).A.guards = some [] → Room 10 (CxB P w K mg base ["polynomial", "sign", "chain", "runs", "one", "found", "number", "start", "end"] "sign_runs" (top 21) f cdv A outer s H E).A → ∀ ds r, S_sign_runs CP ds r → WB (CxB P w K mg base ["polynomial", "sign", "chain", "runs", "one", "found", "number", "start", "end"] "sign_runs" (top 21) f cdv A outer s H E) [] (defBody (top 21)) (ds.map .im ++ List.replicate ((["polynomial", "sign", "chain", "runs", "one", "found", "number", "start", "end"] : List Str).length - (ds.map SV.im).length) .un) { nx := fun _ => r = .im .non, rt := fun r' ρ' => Rt [] ρ' r r' } := by
  rintro cdv A outer s H E hg hr ds r ⟨row, rfl, rfl, ⟨ht, hb, hl⟩⟩
  have nd : List.Nodup (["polynomial", "sign", "chain", "runs", "one", "found", "number", "start", "end"] : List Str) := by decide +kernel
  have bi : Bi (CxB P w K mg base ["polynomial", "sign", "chain", "runs", "one", "found", "number", "start", "end"] "sign_runs" (top 21) f cdv A outer s H E).mg := L.bi
  have c_Polynomial : ClsF (CxB P w K mg base ["polynomial", "sign", "chain", "runs", "one", "found", "number", "start", "end"] "sign_runs" (top 21) f cdv A outer s H E).K CP ["own_row"] := L.c_Polynomial
  have q_Polynomial : KitF (CxB P w K mg base ["polynomial", "sign", "chain", "runs", "one", "found", "number", "start", "end"] "sign_runs" (top 21) f cdv A outer s H E).K CP := L.q_Polynomial
  have h_one_sign : Call (CxB P w K mg base ["polynomial", "sign", "chain", "runs", "one", "found", "number", "start", "end"] "sign_runs" (top 21) f cdv A outer s H E) "one_sign" _ := (ok_one_sign L).call hg hr
  have h_row_of : Call (CxB P w K mg base ["polynomial", "sign", "chain", "runs", "one", "found", "number", "start", "end"] "sign_runs" (top 21) f cdv A outer s H E) "row_of" _ := (ok_row_of L).call hg hr
  have h_Polynomial_degree := (ok_Polynomial_degree L).pc hg hr (CxB P w K mg base ["polynomial", "sign", "chain", "runs", "one", "found", "number", "start", "end"] "sign_runs" (top 21) f cdv A outer s H E)
  have h_joined_runs : Call (CxB P w K mg base ["polynomial", "sign", "chain", "runs", "one", "found", "number", "start", "end"] "sign_runs" (top 21) f cdv A outer s H E) "joined_runs" _ := (ok_joined_runs L).call hg hr
  have h_step_of : Call (CxB P w K mg base ["polynomial", "sign", "chain", "runs", "one", "found", "number", "start", "end"] "sign_runs" (top 21) f cdv A outer s H E) "step_of" _ := (ok_step_of L).call hg hr
  have h_sign_at : Call (CxB P w K mg base ["polynomial", "sign", "chain", "runs", "one", "found", "number", "start", "end"] "sign_runs" (top 21) f cdv A outer s H E) "sign_at" _ := (ok_sign_at L).call hg hr
  have h_runs_in : Call (CxB P w K mg base ["polynomial", "sign", "chain", "runs", "one", "found", "number", "start", "end"] "sign_runs" (top 21) f cdv A outer s H E) "runs_in" _ := (ok_runs_in L).call hg hr
  show WB _ [] _ [.im (pol CP row), .un, .un, .un, .un, .un, .un, .un, .un] _
  have s1 : S_one_sign CP [.tup (il row)] (.im (optD (oneS row))) := ⟨row, rfl, rfl, by omega⟩
  walk_at "zs"
  cases h1 : oneS row with
  | some v =>
    have e1 := scan_all fun d hd => one_const ht h1 hd
    rw [e1]
    walk_at "zs"
    walk_at "zs"
  | none =>
    walk_at "zs"
    walk_at "zs"
    have b2k : ∀ j, j ≤ 11 → Bd 12 1800 (itR row j) := fun j hj => (itB hb (by decide) j).mono (Nat.le_refl _) (by omega)
    have lst : ∀ j, (List.range (j + 1)).map (fun i => pol CP (itR row i)) = (List.range j).map (fun i => pol CP (itR row i)) ++ [pol CP (itR row j)] := fun j => by rw [List.range_succ, List.map_append]; rfl
    refine wb_whileS (fun (j : Nat) ρ => j + (itR row j).length ≤ 11 ∧ ρ = [.im (pol CP row), .im .non, .own (.lst ((List.range (j + 1)).map fun i => pol CP (itR row i))), .un, .un, .un, .un, .un, .un]) (fun j => decide (0 < (((itR row j).length : Nat) : Int) - 1)) (fun j => (itR row j).length) 0 ⟨by show 0 + row.length ≤ 11; omega, rfl⟩ ?_ ?_ ?_
    · rintro j ρ' ⟨g1, rfl⟩
      have a1 : atI ((List.range (j + 1)).map fun i => pol CP (itR row i)) (-1) = some (pol CP (itR row j)) := by rw [lst]; exact at_lastD
      walk_at "zT"
    · rintro j ρ' ⟨g1, rfl⟩ hk
      have hk : 0 < (((itR row j).length : Nat) : Int) - 1 := of_decide_eq_true hk
      have hlen := itR_len row j (by omega)
      have a1 : atI ((List.range (j + 1)).map fun i => pol CP (itR row i)) (-1) = some (pol CP (itR row j)) := by rw [lst]; exact at_lastD
      have s2 : S_step_of CP [pol CP (itR row j)] (.im (pol CP (itR row (j + 1)))) := ⟨_, rfl, rfl, b2k j (by omega)⟩
      have hz : ((List.range (j + 1)).map fun i => pol CP (itR row i)).length < 100000 := by simp; omega
      walk_at "zs"
      exact wb_nil ⟨j + 1, by omega, by omega, by rw [lst (j + 1)]; rfl⟩
    · rintro j ρ' ⟨g1, rfl⟩ hk
      have hk : ¬ 0 < (((itR row j).length : Nat) : Int) - 1 := of_decide_eq_false hk
      have a1 : atI ((List.range (j + 1)).map fun i => pol CP (itR row i)) (-1) = some (pol CP (itR row j)) := by rw [lst]; exact at_lastD
      have s2 : S_sign_at CP [pol CP (itR row j), .int 1] (.im (.int (sg (itR row j) 1))) := ⟨_, _, rfl, rfl, (b2k j (by omega)).mono (Nat.le_refl _) (by decide), big24 (by decide) (by have := NN_lt; have := NN_pos; omega)⟩
      have e0 : scan (sg (itR row j)) 1 NN none = [(1, sg (itR row j) 1)] := scan_all fun d _ => len1_const (by omega) _ _
      walk_at "zs"
      have er : (((List.range (j + 1)).map fun i => pol CP (itR row i)).dropLast.reverse) = (List.range j).reverse.map fun i => pol CP (itR row i) := by rw [lst, List.dropLast_concat, List.map_reverse]
      obtain ⟨N0, hN0⟩ : ∃ n, NN = n + 1 := ⟨NN - 1, by have := NN_pos; omega⟩
      refine wb_forT (as := (List.range j).reverse) (cd := fun i => pol CP (itR row i)) (by walk_at "zWi") er (fun i ρ => (scan (sg (itR row (j - i))) 1 NN none).length + 1 ≤ 2 ^ (i + 1) ∧ ∃ s4 s5 s6 s7 s8 s9, ρ = [.im (pol CP row), s9, .own (.lst ((List.range (j + 1)).map fun i => pol CP (itR row i))), .own (.lst ((scan (sg (itR row (j - i))) 1 NN none).map prD)), s4, s5, s6, s7, s8]) ⟨by rw [show j - 0 = j from rfl, e0]; simp, _, _, _, _, _, _, by rw [show j - 0 = j from rfl, e0]; rfl⟩ ?_ ?_
      · rintro i x ρi hx ⟨q1, s4, s5, s6, s7, s8, s9, rfl⟩
        have hij : i < j := by have := (List.getElem?_eq_some_iff.mp hx).1; simpa using this
        have ex : x = j - i - 1 := by
          obtain ⟨h1, h2⟩ := List.getElem?_eq_some_iff.mp hx
          simp at h2
          omega
        obtain ⟨t, et⟩ : ∃ t, j - i = t + 1 := ⟨j - i - 1, by omega⟩
        have ext : x = t := by omega
        subst ext
        rw [et] at q1 ⊢
        have hstep : itR row (x + 1) = stepR (itR row x) := rfl
        have p3 : (2 : Nat) ^ (i + 1) ≤ 2 ^ 11 := Nat.pow_le_pow_right (by decide) (by omega)
        have n9 : (2 : Nat) ^ 11 = 2048 := by decide
        generalize hls : scan (sg (itR row (x + 1))) 1 NN none = l at *
        refine ⟨_, wg_nm, ?_⟩
        walk_at "zs"
        have E0e : (1 : Int) + NN = 1 + ((N0 + 1 : Nat) : Int) := by rw [hN0]
        -- the parts of one segment
        have seg : ∀ k a σ r, l.drop k = (a, σ) :: r → 1 ≤ a ∧ a < nxt (1 + NN) r ∧ nxt (1 + NN) r ≤ 1 + NN ∧ (r = [] → nxt (1 + NN) r = 1 + NN) ∧ (∀ d, a ≤ d → d < nxt (1 + NN) r → sg (itR row (x + 1)) d = σ) := fun k a σ r h => by
          have hk : k < (scan (sg (itR row (x + 1))) 1 (N0 + 1) none).length := by
            rw [← hN0, hls]
            by_cases z : k < l.length
            · exact z
            · rw [List.drop_eq_nil_of_le (by omega)] at h; cases h
          obtain ⟨b, m, h1, h2, h3⟩ := drop_scan k 1 N0 hk
          rw [← hN0, hls, h] at h1
          obtain ⟨g1, g2, g3, g4, g5, g6⟩ := scan_seg h1.symm
          rw [h2, ← hN0] at g3 g4 g5
          subst g1
          exact ⟨h3, g3, g4, fun z => by rw [z]; rfl, fun d k1 k2 => g5 d k1 k2⟩
        have mon : ∀ k a σ r, l.drop k = (a, σ) :: r → Mono σ (sg (itR row x)) a (nxt (1 + NN) r) := fun k a σ r h => by
          obtain ⟨g1, g2, g3, g4, g5⟩ := seg k a σ r h
          refine mono_step (fun d k1 k2 => g5 d k1 k2) ?_
          have e := g5 a (Int.le_refl _) g2
          have := sg_bd (itR row (x + 1)) a
          omega
        have sl3 : ∀ k a σ r, l.drop k = (a, σ) :: r → (scan (sg (itR row x)) a (nxt (1 + NN) r - a).toNat none).length ≤ 3 := fun k a σ r h => by
          obtain ⟨g1, g2, g3, g4, g5⟩ := seg k a σ r h
          refine Mono.len (δ := σ) ?_ (sg_bd _)
          rw [show a + (((nxt (1 + NN) r - a).toNat : Nat) : Int) = nxt (1 + NN) r by omega]
          exact mon k a σ r h
        refine wb_forT (as := l.zipIdx) (cd := fun p => D.tup [.int (p.2 : Nat), prD p.1]) (by walk_at "zWi") (enum_map l) (fun k ρ => ∃ (f : List (Int × Int)) (s1 s6 s7 s8 : SV), f.length ≤ 3 * k ∧ f ++ cat (sg (itR row x)) (1 + NN) (l.drop k) = cat (sg (itR row x)) (1 + NN) l ∧ ρ = [.im (pol CP row), s1, .own (.lst ((List.range (j + 1)).map fun i => pol CP (itR row i))), .own (.lst (l.map prD)), .im (pol CP (itR row x)), .own (.lst (f.map prD)), s6, s7, s8]) ⟨[], _, _, _, _, Nat.le_refl _, rfl, rfl⟩ ?_ ?_ ?_
        · rintro k ⟨⟨a, σ⟩, k'⟩ ρk hk ⟨f, u1, u6, u7, u8, f1, f2, rfl⟩
          have hkl : k < l.length := by have := (List.getElem?_eq_some_iff.mp hk).1; simpa using this
          have hk2 : l[k]? = some (a, σ) ∧ k' = k := by
            rw [List.getElem?_zipIdx] at hk
            cases h : l[k]? with
            | none => rw [h] at hk; cases hk
            | some q => rw [h] at hk; simp at hk; exact ⟨by rw [hk.1], hk.2.symm⟩
          obtain ⟨hk3, rfl⟩ := hk2
          have hdr : l.drop k' = (a, σ) :: l.drop (k' + 1) := by
            rw [List.drop_eq_getElem_cons hkl]
            congr 1
            exact (List.getElem?_eq_some_iff.mp hk3).2
          obtain ⟨g1, g2, g3, g4, g5⟩ := seg k' a σ _ hdr
          refine' ⟨?_, ?tg, ?_⟩
          case' tg => walk_at "zTg"
          have l5 : (l.map prD).length = l.length := List.length_map ..
          -- the end of the segment
          have key : ∀ e : Option Int, (e = some (nxt (1 + NN) (l.drop (k' + 1))) ∨ (e = none ∧ l.drop (k' + 1) = [])) → S_runs_in CP [pol CP (itR row x), .int a, optD e, .int σ] (.fr (.lst ((scan (sg (itR row x)) a (nxt (1 + NN) (l.drop (k' + 1)) - a).toNat none).map prD))) := fun e he => by
            have hx8 : x ≤ 11 := by omega
            refine ⟨itR row x, a, e, σ, nxt (1 + NN) (l.drop (k' + 1)), rfl, rfl, (b2k x hx8).mono (Nat.le_refl _) (by decide), g1, g2, by have := NN_lt; omega, mon k' a σ _ hdr, ?_⟩
            rcases he with he | ⟨he, hn⟩
            · exact .inl he
            · refine .inr ⟨he, ?_⟩
              have en := g4 hn
              rw [en]
              have e3 : (1 : Int) + NN - 1 = NN := by omega
              rw [e3]
              refine ⟨fun d hd => itFar hb ht (by omega) hd, fun hσ => ?_⟩
              have e := g5 a (Int.le_refl _) g2
              have bd := sg_bd (itR row (x + 1)) a
              refine far_dir (a := a) (fun d hd => ?_) (by omega) (fun d hd => itFar hb ht (by omega) hd)
              show sg (itR row (x + 1)) d = σ
              by_cases z : d < nxt (1 + NN) (l.drop (k' + 1))
              · exact g5 d hd z
              · rw [itFar hb ht (n := x + 1) (by omega) (by omega), g5 NN (by omega) (by omega)]
          have ext : ∀ e : Option Int, S_runs_in CP [pol CP (itR row x), .int a, optD e, .int σ] (.fr (.lst ((scan (sg (itR row x)) a (nxt (1 + NN) (l.drop (k' + 1)) - a).toNat none).map prD))) → True := fun _ _ => trivial
          have l3 := sl3 k' a σ _ hdr
          have hz : (f.map prD).length + ((scan (sg (itR row x)) a (nxt (1 + NN) (l.drop (k' + 1)) - a).toNat none).map prD).length ≤ 100000 := by rw [List.length_map, List.length_map]; omega
          have fin : ∀ (v1 v6 v7 v8 : SV), ∃ (f' : List (Int × Int)) (s1 s6 s7 s8 : SV), f'.length ≤ 3 * (k' + 1) ∧ f' ++ cat (sg (itR row x)) (1 + NN) (l.drop (k' + 1)) = cat (sg (itR row x)) (1 + NN) l ∧ [.im (pol CP row), v1, .own (.lst ((List.range (j + 1)).map fun i => pol CP (itR row i))), .own (.lst (l.map prD)), .im (pol CP (itR row x)), .own (.lst (f.map prD ++ (scan (sg (itR row x)) a (nxt (1 + NN) (l.drop (k' + 1)) - a).toNat none).map prD)), v6, v7, v8] = [.im (pol CP row), s1, .own (.lst ((List.range (j + 1)).map fun i => pol CP (itR row i))), .own (.lst (l.map prD)), .im (pol CP (itR row x)), SV.own (.lst (f'.map prD)), s6, s7, s8] := fun v1 v6 v7 v8 => by
            refine ⟨f ++ scan (sg (itR row x)) a (nxt (1 + NN) (l.drop (k' + 1)) - a).toNat none, v1, v6, v7, v8, by rw [List.length_append]; omega, ?_, by rw [List.map_append]⟩
            rw [List.append_assoc, ← f2, hdr]
            rfl
          by_cases z : k' + 1 < l.length
          · obtain ⟨⟨b, τ⟩, hb2⟩ : ∃ q, l[k' + 1]? = some q := ⟨_, List.getElem?_eq_getElem z⟩
            have en : nxt (1 + NN) (l.drop (k' + 1)) = b := by
              rw [List.drop_eq_getElem_cons z, (List.getElem?_eq_some_iff.mp hb2).2]; rfl
            have a2 := at_runs hb2 (i := (k' : Nat) + 1) (by omega)
            have k1 := key (some b) (.inl (by rw [en]))
            have z2 : (k' : Int) + 1 < (l.length : Nat) := by omega
            have z3 : decide ((k' : Int) + 1 < ((l.map prD).length : Nat)) = true := decide_eq_true (by omega)
            walk_at "zs"
            have k1 : S_runs_in CP [pol CP (itR row x), .int a, .int b, .int σ] (.fr (.lst ((scan (sg (itR row x)) a (nxt (1 + NN) (l.drop (k' + 1)) - a).toNat none).map prD))) := k1
            walk_at "zs"
            exact wb_nil (fin _ _ _ _)
          · have en : l.drop (k' + 1) = [] := List.drop_eq_nil_of_le (by omega)
            have k1 : S_runs_in CP [pol CP (itR row x), .int a, .non, .int σ] (.fr (.lst ((scan (sg (itR row x)) a (nxt (1 + NN) (l.drop (k' + 1)) - a).toNat none).map prD))) := key none (.inr ⟨rfl, en⟩)
            have z3 : decide ((k' : Int) + 1 < ((l.map prD).length : Nat)) = false := decide_eq_false (by omega)
            walk_at "zs"
            walk_at "zs"
            exact wb_nil (fin _ _ _ _)
        · rintro ρk ⟨f, u1, u6, u7, u8, f1, f2, rfl⟩
          have f1 : f.length ≤ 3 * l.length := by rw [List.length_zipIdx] at f1; exact f1
          have f2 : f = cat (sg (itR row x)) (1 + NN) l := by
            rw [List.length_zipIdx, List.drop_length] at f2
            rw [← f2]; simp [cat]
          have ej : joinR none f = scan (sg (itR row x)) 1 NN none := by
            rw [f2, ← hls, hN0]
            exact join_cat N0 1 none
          have s5 : S_joined_runs CP [.lst (f.map prD)] (.fr (.lst ((scan (sg (itR row x)) 1 NN none).map prD))) := ⟨f, rfl, by rw [ej], by omega⟩
          walk_at "zs"
          have e1 : j - (i + 1) = x := by omega
          refine wb_nil ⟨?_, ?_⟩
          · rw [e1]
            have h1 := run_len_step (itR row x) N0
            rw [← hN0, show stepR (itR row x) = itR row (x + 1) from rfl, hls] at h1
            have h2 : 2 ^ (i + 1 + 1) = 2 ^ (i + 1) * 2 := Nat.pow_succ 2 (i + 1)
            omega
          · rw [e1]
            exact ⟨_, _, _, _, _, _, rfl⟩
        · rintro k ρk ⟨f, u1, u6, u7, u8, f1, f2, rfl⟩ b hb
          rcases List.mem_cons.mp hb with rfl | hb
          · rfl
          · cases hb
      · rintro ρ' ⟨q1, s4, s5, s6, s7, s8, s9, rfl⟩
        rw [List.length_reverse, List.length_range, Nat.sub_self] at *
        walk_at "zs"
theorem ok_sign_runs (L : Lk P K mg CP XP) : GFn P w K mg base "sign_runs" 11 (spP K (S_sign_runs CP)) := by
  refine gof L.f_sign_runs fun f fd F => ?_
  exact def_P (N := ["polynomial", "sign", "chain", "runs", "one", "found", "number", "start", "end"]) (ps := ["polynomial"]) F ⟨rfl, rfl, rfl, by decide +kernel, rfl, by decide +kernel, by decide +kernel⟩ (F.binds (ps := ["polynomial"]) fun _ _ _ _ _ _ us hl => match us, hl with | [_], _ => rfl) (fun ds r h => by obtain ⟨_, rfl, _⟩ := h; rfl) (okB_sign_runs L f)
theorem okK_sign_runs (L : Lk P K mg CP XP) : GK0 P w K mg base "sign_runs" 11 ["polynomial"] (spP K (S_sign_runs CP)) := by
  refine gkw L.f_sign_runs fun f fd F => ?_
  exact def_PK (N := ["polynomial", "sign", "chain", "runs", "one", "found", "number", "start", "end"]) (ps := ["polynomial"]) F ⟨rfl, rfl, rfl, by decide +kernel, rfl, by decide +kernel, by decide +kernel⟩ (fun _ _ _ _ _ _ us hl => match us, hl with | [_], _ => rfl) (fun ds r h => by obtain ⟨_, rfl, _⟩ := h; rfl) (okB_sign_runs L f)
end
end K71
set_option maxRecDepth 100000
set_option maxHeartbeats 2000000
namespace K71
open PySem PySem.Spec PyProof.Rows L2 Evl Z ClX K75
def pc : Mix := ⟨39373, 28411, 2147483399, 2147483353, 23⟩
theorem pcOk : pc.Ok := ⟨by decide, by decide, by decide, by decide⟩
def cellOf (ns : List Int) (k : Nat) : Int := if k < ns.length then ns.getD k 0 else 17 * k + 3
def mixOf (ns : List Int) (k : Nat) : Int := (((cellOf ns k).natAbs : Int) % 2147483489 + 1) * (2 * k + 7) ^ (3 : Int).toNat % 2147483423 + 1
def potOf (ns : List Int) (k : Nat) : Pot := (max 0 (((cellOf ns k).natAbs : Int) - 10 ^ (18 : Int).toNat), (mixOf ns k).toNat)
theorem p2_of (ns : List Int) (k : Nat) : p2 (potOf ns k) = mixOf ns k := by
  have h1 := Int.emod_nonneg ((((cellOf ns k).natAbs : Int) % 2147483489 + 1) * (2 * k + 7) ^ (3 : Int).toNat) (show (2147483423 : Int) ≠ 0 by decide)
  have h2 := Int.emod_lt_of_pos ((((cellOf ns k).natAbs : Int) % 2147483489 + 1) * (2 * k + 7) ^ (3 : Int).toNat) (show (0 : Int) < 2147483423 by decide)
  have e : 0 ≤ mixOf ns k ∧ mixOf ns k < 2147483648 := by unfold mixOf; omega
  unfold p2 potOf
  show ((((mixOf ns k).toNat % 2 ^ 31 : Nat)) : Int) = _
  rw [Nat.mod_eq_of_lt (by show _ < 2147483648; omega)]
  omega
section
variable {P : Program} {w : World} {K : PySem.W.Frag} {mg : Str → Option Value} {base : Heap} {CP XP : Addr}
def S__law_rng (CP : Addr) (ds : List D) (r : R) : Prop := ∃ (ns : List Int) (k : Nat), ds = [(.lst (il ns)), (.int k)] ∧ r = .fr (potD (potOf ns k)) ∧ k < 100
theorem ok__law_rng (L : Lk P K mg CP XP) : GFn P w K mg base "_law_rng" 1 (spP K (S__law_rng CP)) := by
  refine gof L.f__law_rng fun f fd F => ?_
  refine def_P (N := ["script", "k", "cell"]) (ps := ["script", "k"]) F ⟨rfl, rfl, rfl, by decide +kernel, rfl, by decide +kernel, by decide +kernel⟩ (F.binds (ps := ["script", "k"]) fun _ _ _ _ _ _ us hl => match us, hl with | [_, _], _ => rfl) (fun ds r h => by obtain ⟨_, _, rfl, _⟩ := h; rfl) ?_
  rintro cdv A outer s H E hg hr ds r ⟨ns, k, rfl, rfl, hk⟩
  have nd : List.Nodup (["script", "k", "cell"] : List Str) := by decide +kernel
  have bi : Bi (CxB P w K mg base ["script", "k", "cell"] "_law_rng" (top 23) f cdv A outer s H E).mg := L.bi
  have c_Polynomial : ClsF (CxB P w K mg base ["script", "k", "cell"] "_law_rng" (top 23) f cdv A outer s H E).K CP ["own_row"] := L.c_Polynomial
  have q_Polynomial : KitF (CxB P w K mg base ["script", "k", "cell"] "_law_rng" (top 23) f cdv A outer s H E).K CP := L.q_Polynomial
  show WB _ [] _ [.im (.lst (il ns)), .im (.int k), .un] _
  have l1 : (il ns).length = ns.length := List.length_map ..
  have hp : CPow (2 * (k : Int) + 7) 3 := ⟨by decide, by decide, by omega⟩
  have m0 : CMulW 17 (k : Int) := mul2k (pow_le_big (k := 5) (by decide) (by decide)) (pow_le_big (k := 7) (by omega) (by decide))
  have m2 : CMulW 2 (k : Int) := mul2k (pow_le_big (k := 5) (by decide) (by decide)) (pow_le_big (k := 7) (by omega) (by decide))
  have hpw : ((2 * (k : Int) + 7) ^ (3 : Int).toNat).natAbs < 2 ^ 30 := by
    show ((2 * (k : Int) + 7) ^ 3).natAbs < 2 ^ 30
    rw [Int.natAbs_pow]
    have h : (2 * (k : Int) + 7).natAbs ≤ 210 := by omega
    exact Nat.lt_of_le_of_lt (Nat.pow_le_pow_left h 3) (by decide)
  have m3 : CMulW (((cellOf ns k).natAbs : Int) % 2147483489 + 1) ((2 * (k : Int) + 7) ^ (3 : Int).toNat) := mul2k (pow_le_big (k := 40) (by omega) (by decide)) (pow_le_big hpw (by decide))
  walk_at "zs"
  refine wb_ifJ (fun ρ => ρ = [.im (.lst (il ns)), .im (.int k), .im (.int (cellOf ns k))]) (kk := decide ((k : Int) < ((il ns).length : Nat))) (by walk_at "zT") (fun hk => ?_) (fun hk => ?_) ?_
  · have h : k < ns.length := by have := of_decide_eq_true hk; omega
    have a1 := at_il (xs := ns) (i := k) (by omega) (by omega)
    rw [Int.toNat_natCast] at a1
    have e : cellOf ns k = ns.getD k 0 := if_pos h
    rw [e]
    walk_at "zs"
    exact wb_nil rfl
  · have h : ¬ k < ns.length := by have := of_decide_eq_false hk; omega
    have e : cellOf ns k = 17 * k + 3 := if_neg h
    rw [e]
    exact wb_nil rfl
  · rintro ρ' rfl
    refine' wb_ret (r := .fr (potD (potOf ns k))) ?tt (.fr _)
    unfold potD
    rw [p2_of]
    unfold potOf mixOf
    walk_at "zE"
end
section
variable {P : Program} {w : World} {K : PySem.W.Frag} {mg : Str → Option Value} {base : Heap} {CP XP : Addr}
def S__law_draw (CP : Addr) (as : List SV) (r : R) (as' : List SV) : Prop := ∃ (p : Pot) (m : Int), as = [.own (potD p), .im (.int m)] ∧ r = .im (.int (dg pc p m).1) ∧ as' = [.own (potD (dg pc p m).2), .im (.int m)] ∧ 0 < m ∧ m < 1073741824
theorem ok__law_draw (L : Lk P K mg CP XP) : GFn P w K mg base "_law_draw" 1 (spG K (S__law_draw CP)) := by
  refine gof L.f__law_draw fun f fd F => ?_
  refine def_G (N := ["rng", "many", "digit"]) (ps := ["rng", "many"]) F ⟨rfl, rfl, rfl, by decide +kernel, rfl, by decide +kernel, by decide +kernel⟩ (F.binds (ps := ["rng", "many"]) fun _ _ _ _ _ _ us hl => match us, hl with | [_, _], _ => rfl) (fun as r as' h => by obtain ⟨_, _, rfl, _⟩ := h; rfl) ?_
  rintro cdv A outer s H E hg hr as r as' ⟨p, m, rfl, rfl, rfl, ⟨h0, h1⟩⟩
  have nd : List.Nodup (["rng", "many", "digit"] : List Str) := by decide +kernel
  have bi : Bi (CxB P w K mg base ["rng", "many", "digit"] "_law_draw" (top 24) f cdv A outer s H E).mg := L.bi
  have c_Polynomial : ClsF (CxB P w K mg base ["rng", "many", "digit"] "_law_draw" (top 24) f cdv A outer s H E).K CP ["own_row"] := L.c_Polynomial
  have q_Polynomial : KitF (CxB P w K mg base ["rng", "many", "digit"] "_law_draw" (top 24) f cdv A outer s H E).K CP := L.q_Polynomial
  show WB _ [0] _ [.own (potD p), .im (.int m), .un] _
  have hb := p2_nn p
  have hn := nxP_bd pcOk p
  have m1 : CMulW (p2 p) 39373 := mul2k (pow_le_big (k := 31) (by omega) (by decide)) (pow_le_big (k := 20) (by decide) (by decide))
  have m2 : CMulW (nxP pc p) (nxP pc p) := mul2k (pow_le_big (k := 31) (by omega) (by decide)) (pow_le_big (k := 31) (by omega) (by decide))
  have hcd : CDiv p.1 m := ⟨h0, h1⟩
  unfold potD
  walk_at "zs"
  · intro h
    have h : 0 < p.1 := of_decide_eq_true h
    have e : dg pc p m = (p.1 % m, (p.1 / m, p.2)) := if_pos h
    rw [e]
    walk_at "zs"
    walk_at "zs"
  · intro h
    have h : ¬ 0 < p.1 := of_decide_eq_false h
    have e : dg pc p m = _ := if_neg h
    rw [e]
    have e2 := p2_nx pcOk p p.1
    walk_at "zs"
    walk_at "zs"
    have ex : (p2 p * 39373 + 28411) % 2147483399 = nxP pc p := rfl
    rw [ex]
    show WB _ _ _ _ { nx := _, rt := fun r' ρ' => _ ∧ EndS _ [.own (.lst [.int p.1, .int (p2 (p.1, (nxP pc p).toNat))]), _] ρ' }
    rw [e2]
    walk_at "zs"
end
end K71
set_option maxRecDepth 100000
set_option maxHeartbeats 2000000
namespace K71
open PySem PySem.Spec PyProof.Rows L2 Evl Z ClX K75
section
variable {P : Program} {w : World} {K : PySem.W.Frag} {mg : Str → Option Value} {base : Heap} {CP XP : Addr}
def S__law_choice (CP : Addr) (as : List SV) (r : R) (as' : List SV) : Prop := ∃ (p : Pot) (xs : List D), as = [.own (potD p), .im (.lst xs)] ∧ r = .im (pickM pc xs .non p).1 ∧ as' = [.own (potD (pickM pc xs .non p).2), .im (.lst xs)] ∧ 0 < xs.length ∧ xs.length < 1000
theorem ok__law_choice (L : Lk P K mg CP XP) : GFn P w K mg base "_law_choice" 2 (spG K (S__law_choice CP)) := by
  refine gof L.f__law_choice fun f fd F => ?_
  refine def_G (N := ["rng", "some"]) (ps := ["rng", "some"]) F ⟨rfl, rfl, rfl, by decide +kernel, rfl, by decide +kernel, by decide +kernel⟩ (F.binds (ps := ["rng", "some"]) fun _ _ _ _ _ _ us hl => match us, hl with | [_, _], _ => rfl) (fun as r as' h => by obtain ⟨_, _, rfl, _⟩ := h; rfl) ?_
  rintro cdv A outer s H E hg hr as r as' ⟨p, xs, rfl, rfl, rfl, ⟨h0, h1⟩⟩
  have nd : List.Nodup (["rng", "some"] : List Str) := by decide +kernel
  have bi : Bi (CxB P w K mg base ["rng", "some"] "_law_choice" (top 25) f cdv A outer s H E).mg := L.bi
  have c_Polynomial : ClsF (CxB P w K mg base ["rng", "some"] "_law_choice" (top 25) f cdv A outer s H E).K CP ["own_row"] := L.c_Polynomial
  have q_Polynomial : KitF (CxB P w K mg base ["rng", "some"] "_law_choice" (top 25) f cdv A outer s H E).K CP := L.q_Polynomial
  have h__law_draw : CallL (CxB P w K mg base ["rng", "some"] "_law_choice" (top 25) f cdv A outer s H E) "_law_draw" [true, false] _ := ⟨(ok__law_draw L).call hg hr⟩
  show WB _ [0] _ [.own (potD p), .im (.lst xs)] _
  have hd := dg_bd pc p (m := xs.length) (by omega)
  have a1 : atI xs (dg pc p xs.length).1 = some (pickM pc xs .non p).1 := by
    have hi : (dg pc p xs.length).1.toNat < xs.length := by omega
    show _ = some (xs.getD (dg pc p xs.length).1.toNat .non)
    unfold atI ixN
    rw [if_pos hd.1, if_pos (by omega)]
    show xs[(dg pc p xs.length).1.toNat]? = _
    simp only [List.getD_eq_getElem?_getD, List.getElem?_eq_getElem hi, Option.getD_some]
  have s1 : S__law_draw CP [.own (potD p), .im (.int xs.length)] (.im (.int (dg pc p xs.length).1)) [.own (potD (dg pc p xs.length).2), .im (.int xs.length)] := ⟨_, _, rfl, rfl, rfl, by omega, by omega⟩
  walk_at "zs"
end
section
variable {P : Program} {w : World} {K : PySem.W.Frag} {mg : Str → Option Value} {base : Heap} {CP XP : Addr}
def S__law_sign (CP : Addr) (ds : List D) (r : R) : Prop := ∃ (x : Int), ds = [(.int x)] ∧ r = .im (.int (sgn x))
theorem ok__law_sign (L : Lk P K mg CP XP) : GFn P w K mg base "_law_sign" 1 (spP K (S__law_sign CP)) := by
  refine gof L.f__law_sign fun f fd F => ?_
  refine def_P (N := ["number"]) (ps := ["number"]) F ⟨rfl, rfl, rfl, by decide +kernel, rfl, by decide +kernel, by decide +kernel⟩ (F.binds (ps := ["number"]) fun _ _ _ _ _ _ us hl => match us, hl with | [_], _ => rfl) (fun ds r h => by obtain ⟨_, rfl, _⟩ := h; rfl) ?_
  rintro cdv A outer s H E hg hr ds r ⟨x, rfl, rfl⟩
  have nd : List.Nodup (["number"] : List Str) := by decide +kernel
  have bi : Bi (CxB P w K mg base ["number"] "_law_sign" (top 26) f cdv A outer s H E).mg := L.bi
  have c_Polynomial : ClsF (CxB P w K mg base ["number"] "_law_sign" (top 26) f cdv A outer s H E).K CP ["own_row"] := L.c_Polynomial
  have q_Polynomial : KitF (CxB P w K mg base ["number"] "_law_sign" (top 26) f cdv A outer s H E).K CP := L.q_Polynomial
  show WB _ [] _ [.im (.int x)] _
  walk_at "zs"
end
theorem pick_map {α : Type} (c : Mix) (f : α → D) (xs : List α) (d : α) (e : D) (p : Pot) (h : 0 < xs.length) : (pickM c (xs.map f) e p).1 = f (pickM c xs d p).1 ∧ (pickM c (xs.map f) e p).2 = (pickM c xs d p).2 := by
  show (xs.map f).getD (dg c p ((xs.map f).length : Nat)).1.toNat e = f (xs.getD (dg c p (xs.length : Nat)).1.toNat d) ∧ (dg c p ((xs.map f).length : Nat)).2 = (dg c p (xs.length : Nat)).2
  rw [List.length_map]
  exact ⟨getD_map f xs _ d (dgN c p h) e, rfl⟩
def facD (f : Fc) : D := .tup [.int f.1, .int f.2.1, .bl f.2.2]
def someF (a b near : Int) (fs : List Fc) : List Fc := fs.foldl (fun l f => l ++ [f, (f.1, f.2.1 + 1, f.2.2), (f.1, f.2.1 + f.1, f.2.2)]) [(a, b, false), (a, b, false), (a, b, false), (a, 1 + (near.natAbs : Int), true)]
def facM (fs : List Fc) (g : Int) : M Fc :=
  mseq (draw pc 40) fun x => mseq (pickM pc [1, 1, 1, 2, 3, 1 + x] 0) fun a =>
  mseq (draw pc 30) fun n => mseq (draw pc g) fun u => mseq (draw pc 7) fun v =>
  mseq (pickM pc [n - 6, n - 6, a * (n - 6), u * (g + v), a * (u * (g + v)) + 1, -(u * (g + v))] 0) fun b =>
  pickM pc (someF a b (n - 6) fs) (0, 0, false)
end K71
set_option maxRecDepth 100000
set_option maxHeartbeats 2000000
namespace K71
open PySem PySem.Spec PyProof.Rows L2 Evl Z ClX K75
theorem mul100 {x y : Int} (h1 : x.natAbs < 2 ^ 100) (h2 : y.natAbs < 2 ^ 100) : CMulW x y := mul2k (pow_le_big h1 (by decide)) (pow_le_big h2 (by decide))
theorem draw_bd (m : Int) (h : 0 < m) (p : Pot) : 0 ≤ (draw pc m p).1 ∧ (draw pc m p).1 < m := dg_bd pc p h
theorem some_len (a b near : Int) : ∀ (fs : List Fc), (someF a b near fs).length = 4 + 3 * fs.length := fun fs => by
  unfold someF
  have key : ∀ (fs l : List Fc), (fs.foldl (fun l f => l ++ [f, (f.1, f.2.1 + 1, f.2.2), (f.1, f.2.1 + f.1, f.2.2)]) l).length = l.length + 3 * fs.length := by
    intro fs
    induction fs with
    | nil => intro l; simp
    | cons f fs ih => intro l; rw [List.foldl_cons, ih, List.length_append, List.length_cons]; simp; omega
  rw [key]; rfl
theorem FcOk.mono {k l : Nat} {f : Fc} (h : FcOk k f) (hk : k ≤ l) : FcOk l f := ⟨h.a, Nat.lt_of_lt_of_le h.b (Nat.pow_le_pow_right (by decide) hk), h.q⟩
theorem some_ok {k : Nat} (hk : 7 ≤ k) {a b near : Int} (ha : 1 ≤ a ∧ a ≤ 40) (hb : b.natAbs < 2 ^ k) (hn : near.natAbs < 100) : ∀ {fs : List Fc}, (∀ f ∈ fs, FcOk k f) → ∀ f ∈ someF a b near fs, FcOk (k + 1) f := by
  have p7 : (2 : Nat) ^ 7 ≤ 2 ^ k := Nat.pow_le_pow_right (by decide) hk
  have e7 : (2 : Nat) ^ 7 = 128 := rfl
  have es : (2 : Nat) ^ (k + 1) = 2 ^ k * 2 := Nat.pow_succ 2 k
  have key : ∀ (fs l : List Fc), (∀ f ∈ fs, FcOk k f) → (∀ f ∈ l, FcOk (k + 1) f) → ∀ f ∈ fs.foldl (fun l f => l ++ [f, (f.1, f.2.1 + 1, f.2.2), (f.1, f.2.1 + f.1, f.2.2)]) l, FcOk (k + 1) f := by
    intro fs
    induction fs with
    | nil => intro l _ h; exact h
    | cons g fs ih =>
      intro l hf h
      refine ih _ (fun x hx => hf x (List.mem_cons_of_mem _ hx)) fun x hx => ?_
      rcases List.mem_append.mp hx with hx | hx
      · exact h x hx
      · have hg := hf g (by simp)
        obtain ⟨a', b', q'⟩ := g
        have h1 : 1 ≤ a' ∧ a' ≤ 40 := hg.a
        have h2 : b'.natAbs < 2 ^ k := hg.b
        have h3 : q' = true → 1 ≤ b' := hg.q
        simp only [List.mem_cons, List.not_mem_nil, or_false] at hx
        rcases hx with rfl | rfl | rfl
        · exact hg.mono (by omega)
        · exact ⟨h1, by show (b' + 1).natAbs < _; omega, fun z => by have := h3 z; show 1 ≤ b' + 1; omega⟩
        · exact ⟨h1, by show (b' + a').natAbs < _; omega, fun z => by have := h3 z; show 1 ≤ b' + a'; omega⟩
  intro fs hf
  refine key fs _ hf fun x hx => ?_
  simp only [List.mem_cons, List.not_mem_nil, or_false] at hx
  have h0 : FcOk (k + 1) (a, b, false) := ⟨ha, by show b.natAbs < _; omega, fun z => by cases z⟩
  rcases hx with rfl | rfl | rfl | rfl
  · exact h0
  · exact h0
  · exact h0
  · exact ⟨ha, by show (1 + (near.natAbs : Int)).natAbs < _; omega, fun _ => by show 1 ≤ 1 + (near.natAbs : Int); omega⟩
/-- the great number of a draw -/
def Gr (g : Int) : Prop := g = 10 ^ (9 : Int).toNat ∨ g = 1000
theorem Gr.bd {g : Int} (h : Gr g) : 0 < g ∧ g ≤ 1000000000 := by
  rcases h with rfl | rfl
  · decide
  · decide
theorem far_bd {g u v : Int} (h : Gr g) (hu : 0 ≤ u ∧ u < g) (hv : 0 ≤ v ∧ v < 7) : 0 ≤ u * (g + v) ∧ u * (g + v) < 2 ^ 61 := by
  have hg := h.bd
  have e : (2 : Int) ^ 61 = 2305843009213693952 := by decide
  have h1 : 0 ≤ u * (g + v) := Int.mul_nonneg hu.1 (by omega)
  have h2 : u * (g + v) ≤ 1000000000 * 1000000007 := Int.mul_le_mul (by omega) (by omega) (by omega) (by omega)
  omega
theorem b_bd {a near far : Int} (ha : 1 ≤ a ∧ a ≤ 40) (hn : -6 ≤ near ∧ near < 24) (hf : 0 ≤ far ∧ far < 2 ^ 61) : ∀ b ∈ [near, near, a * near, far, a * far + 1, -far], b.natAbs < 2 ^ 67 := by
  have e : (2 : Int) ^ 61 = 2305843009213693952 := by decide
  have e2 : (2 : Nat) ^ 67 = 147573952589676412928 := by decide
  have h1 : 0 ≤ a * far := Int.mul_nonneg (by omega) hf.1
  have h2 : a * far ≤ 40 * 2305843009213693952 := Int.mul_le_mul (by omega) (by omega) hf.1 (by omega)
  have h3 : (a * near).natAbs ≤ 40 * 30 := by rw [Int.natAbs_mul]; exact Nat.mul_le_mul (by omega) (by omega)
  intro b hb
  simp only [List.mem_cons, List.not_mem_nil, or_false] at hb
  rcases hb with rfl | rfl | rfl | rfl | rfl | rfl <;> omega
theorem fac_ok {k : Nat} (hk : 67 ≤ k) {g : Int} (hg : Gr g) {fs : List Fc} (hf : ∀ f ∈ fs, FcOk k f) : MP (facM fs g) (FcOk (k + 1)) := by
  unfold facM
  refine MP.seq (MP.draw pc (by decide)) fun x hx => ?_
  refine MP.seq (φ := fun a : Int => 1 ≤ a ∧ a ≤ 40) (MP.pick pc (by simp) fun a ha => ?_) fun a ha => ?_
  · simp only [List.mem_cons, List.not_mem_nil, or_false] at ha
    omega
  refine MP.seq (MP.draw pc (by decide)) fun n hn => ?_
  refine MP.seq (MP.draw pc hg.bd.1) fun u hu => ?_
  refine MP.seq (MP.draw pc (by decide)) fun v hv => ?_
  refine MP.seq (MP.pick pc (by simp) (b_bd ha (by omega) (far_bd hg hu hv))) fun b hb => ?_
  refine MP.pick pc (fun z => ?_) (some_ok (by omega) ha (Nat.lt_of_lt_of_le hb (Nat.pow_le_pow_right (by decide) hk)) (by omega) hf)
  have := some_len a b (n - 6) fs
  rw [z] at this
  simp at this
  omega
section
variable {P : Program} {w : World} {K : PySem.W.Frag} {mg : Str → Option Value} {base : Heap} {CP XP : Addr}
def S__law_factor (CP : Addr) (as : List SV) (r : R) (as' : List SV) : Prop := ∃ (p : Pot) (fs : List Fc) (g : Int), as = [.own (potD p), .own (.lst (fs.map facD)), .im (.int g)] ∧ r = .im (facD (facM fs g p).1) ∧ as' = [.own (potD (facM fs g p).2), .own (.lst (fs.map facD)), .im (.int g)] ∧ Gr g ∧ fs.length ≤ 5
theorem ok__law_factor (L : Lk P K mg CP XP) : GFn P w K mg base "_law_factor" 3 (spG K (S__law_factor CP)) := by
  refine gof L.f__law_factor fun f fd F => ?_
  refine def_G (N := ["rng", "others", "great", "a", "near", "far", "b", "some", "one"]) (ps := ["rng", "others", "great"]) F ⟨rfl, rfl, rfl, by decide +kernel, rfl, by decide +kernel, by decide +kernel⟩ (F.binds (ps := ["rng", "others", "great"]) fun _ _ _ _ _ _ us hl => match us, hl with | [_, _, _], _ => rfl) (fun as r as' h => by obtain ⟨_, _, _, rfl, _⟩ := h; rfl) ?_
  rintro cdv A outer s H E hg hr as r as' ⟨p, fs, g, rfl, rfl, rfl, ⟨hG, hl⟩⟩
  have nd : List.Nodup (["rng", "others", "great", "a", "near", "far", "b", "some", "one"] : List Str) := by decide +kernel
  have bi : Bi (CxB P w K mg base ["rng", "others", "great", "a", "near", "far", "b", "some", "one"] "_law_factor" (top 27) f cdv A outer s H E).mg := L.bi
  have c_Polynomial : ClsF (CxB P w K mg base ["rng", "others", "great", "a", "near", "far", "b", "some", "one"] "_law_factor" (top 27) f cdv A outer s H E).K CP ["own_row"] := L.c_Polynomial
  have q_Polynomial : KitF (CxB P w K mg base ["rng", "others", "great", "a", "near", "far", "b", "some", "one"] "_law_factor" (top 27) f cdv A outer s H E).K CP := L.q_Polynomial
  have h__law_choice : CallL (CxB P w K mg base ["rng", "others", "great", "a", "near", "far", "b", "some", "one"] "_law_factor" (top 27) f cdv A outer s H E) "_law_choice" [true, false] _ := ⟨(ok__law_choice L).call hg hr⟩
  have h__law_draw : CallL (CxB P w K mg base ["rng", "others", "great", "a", "near", "far", "b", "some", "one"] "_law_factor" (top 27) f cdv A outer s H E) "_law_draw" [true, false] _ := ⟨(ok__law_draw L).call hg hr⟩
  show WB _ [0, 1] _ [.own (potD p), .own (.lst (fs.map facD)), .im (.int g), .un, .un, .un, .un, .un, .un] _
  have sD : ∀ (q : Pot) (m : Int), 0 < m → m < 1073741824 → S__law_draw CP [.own (potD q), .im (.int m)] (.im (.int (draw pc m q).1)) [.own (potD (draw pc m q).2), .im (.int m)] := fun q m h1 h2 => ⟨q, m, rfl, rfl, rfl, h1, h2⟩
  have sC : ∀ (q : Pot) (ns : List Int), 0 < ns.length → ns.length < 1000 → S__law_choice CP [.own (potD q), .im (.lst (il ns))] (.im (.int (pickM pc ns 0 q).1)) [.own (potD (pickM pc ns 0 q).2), .im (.lst (il ns))] := fun q ns h1 h2 => by
    have e := pick_map pc D.int ns 0 .non q h1
    exact ⟨q, ns.map D.int, rfl, by rw [e.1], by rw [e.2], by rw [List.length_map]; exact h1, by rw [List.length_map]; exact h2⟩
  have gb := hG.bd
  obtain ⟨F, hF⟩ : ∃ F, facM fs g p = F := ⟨_, rfl⟩
  rw [hF]
  unfold facM at hF
  simp only [mseq] at hF
  have d1 := sD p 40 (by decide) (by decide)
  have b1 := draw_bd 40 (by decide) p
  generalize draw pc 40 p = r1 at d1 b1 hF
  have c1 := sC r1.2 [1, 1, 1, 2, 3, 1 + r1.1] (by simp) (by simp)
  have b2 : 1 ≤ (pickM pc [1, 1, 1, 2, 3, 1 + r1.1] 0 r1.2).1 ∧ (pickM pc [1, 1, 1, 2, 3, 1 + r1.1] 0 r1.2).1 ≤ 40 := MP.pick (φ := fun a : Int => 1 ≤ a ∧ a ≤ 40) pc (by simp) (fun a ha => by
    simp only [List.mem_cons, List.not_mem_nil, or_false] at ha
    omega) r1.2
  generalize pickM pc [1, 1, 1, 2, 3, 1 + r1.1] 0 r1.2 = r2 at c1 b2 hF
  walk_at "zs"
  show WB _ [0, 1] _ [.own (potD r2.2), .own (.lst (fs.map facD)), .im (.int g), .im (.int r2.1), .un, .un, .un, .un, .un] _
  have d3 := sD r2.2 30 (by decide) (by decide)
  have b3 := draw_bd 30 (by decide) r2.2
  generalize draw pc 30 r2.2 = r3 at d3 b3 hF
  have d4 := sD r3.2 g gb.1 (by omega)
  have b4 := draw_bd g gb.1 r3.2
  generalize draw pc g r3.2 = r4 at d4 b4 hF
  have d5 := sD r4.2 7 (by decide) (by decide)
  have b5 := draw_bd 7 (by decide) r4.2
  generalize draw pc 7 r4.2 = r5 at d5 b5 hF
  have fb := far_bd hG b4 b5
  have fn : r4.1.natAbs < 2 ^ 100 ∧ (g + r5.1).natAbs < 2 ^ 100 := by
    have e : (2 : Nat) ^ 100 = 1267650600228229401496703205376 := by decide
    omega
  have m1 : CMulW r4.1 (g + r5.1) := mul100 fn.1 fn.2
  walk_at "zs"
  show WB _ [0, 1] _ [.own (potD r5.2), .own (.lst (fs.map facD)), .im (.int g), .im (.int r2.1), .im (.int (r3.1 - 6)), .im (.int (r4.1 * (g + r5.1))), .un, .un, .un] _
  generalize r4.1 * (g + r5.1) = far at *
  have e61 : (2 : Int) ^ 61 = 2305843009213693952 := by decide
  have e100 : (2 : Nat) ^ 100 = 1267650600228229401496703205376 := by decide
  have m2 : CMulW r2.1 (r3.1 - 6) := mul100 (by omega) (by omega)
  have m3 : CMulW r2.1 far := mul100 (by omega) (by omega)
  have c6 := sC r5.2 [r3.1 - 6, r3.1 - 6, r2.1 * (r3.1 - 6), far, r2.1 * far + 1, -far] (by simp) (by simp)
  generalize pickM pc [r3.1 - 6, r3.1 - 6, r2.1 * (r3.1 - 6), far, r2.1 * far + 1, -far] 0 r5.2 = r6 at c6 hF
  walk_at "zs"
  show WB _ [0, 1] _ [.own (potD r6.2), .own (.lst (fs.map facD)), .im (.int g), .im (.int r2.1), .im (.int (r3.1 - 6)), .im (.int far), .im (.int r6.1), .un, .un] _
  walk_at "zs"
  have el := some_len r2.1 r6.1 (r3.1 - 6) fs
  refine wb_forT (as := fs) (cd := facD) (by walk_at "zWi") rfl (fun i ρ => ∃ s9, ∃ v, (v = .own (.lst ((someF r2.1 r6.1 (r3.1 - 6) (fs.take i)).map facD)) ∨ v = .im (.lst ((someF r2.1 r6.1 (r3.1 - 6) (fs.take i)).map facD))) ∧ ρ = [.own (potD r6.2), .own (.lst (fs.map facD)), .im (.int g), .im (.int r2.1), .im (.int (r3.1 - 6)), .im (.int far), .im (.int r6.1), v, s9]) ⟨_, _, .inl rfl, rfl⟩ ?_ ?_ ?_
  · rintro i f ρi hf ⟨s9, v, hv, rfl⟩
    refine ⟨_, wg_nm, ?_⟩
    have et : fs.take (i + 1) = fs.take i ++ [f] := by rw [List.take_add_one, hf]; rfl
    have ln := some_len r2.1 r6.1 (r3.1 - 6) (fs.take i)
    have lt : (fs.take i).length ≤ 5 := by rw [List.length_take]; omega
    have es : someF r2.1 r6.1 (r3.1 - 6) (fs.take (i + 1)) = someF r2.1 r6.1 (r3.1 - 6) (fs.take i) ++ [f, (f.1, f.2.1 + 1, f.2.2), (f.1, f.2.1 + f.1, f.2.2)] := by
      rw [et]
      unfold someF
      rw [List.foldl_append]
      rfl
    have hz : ((someF r2.1 r6.1 (r3.1 - 6) (fs.take i)).map facD).length + [facD f, facD (f.1, f.2.1 + 1, f.2.2), facD (f.1, f.2.1 + f.1, f.2.2)].length ≤ 100000 := by rw [List.length_map, ln]; simp; omega
    rw [es, List.map_append]
    unfold facD at *
    rcases hv with rfl | rfl
    · walk_at "zs"
      exact wb_nil ⟨_, _, .inl rfl, rfl⟩
    · walk_at "zs"
      exact wb_nil ⟨_, _, .inl rfl, rfl⟩
  · rintro ρ' ⟨s9, v, hv, rfl⟩
    rw [List.take_length] at hv
    have h0 : 0 < (someF r2.1 r6.1 (r3.1 - 6) fs).length := by omega
    have e := pick_map pc facD (someF r2.1 r6.1 (r3.1 - 6) fs) (0, 0, false) .non r6.2 h0
    have c7 : S__law_choice CP [.own (potD r6.2), .im (.lst ((someF r2.1 r6.1 (r3.1 - 6) fs).map facD))] (.im (facD F.1)) [.own (potD F.2), .im (.lst ((someF r2.1 r6.1 (r3.1 - 6) fs).map facD))] := ⟨r6.2, _, rfl, by rw [e.1, hF], by rw [e.2, hF], by rw [List.length_map]; omega, by rw [List.length_map]; omega⟩
    rcases hv with rfl | rfl
    · walk_at "zs"
    · walk_at "zs"
  · rintro i ρi ⟨s9, v, hv, rfl⟩ b hb
    rcases List.mem_cons.mp hb with rfl | hb
    · rfl
    · cases hb
end
end K71
set_option maxRecDepth 100000
set_option maxHeartbeats 2000000
namespace K71
open PySem PySem.Spec PyProof.Rows L2 Evl Z ClX K75
theorem sAt_bd (number : Int) (fs : List Fc) (d : Int) : -1 ≤ sAt number fs d ∧ sAt number fs d ≤ 1 := by
  have key : ∀ (fs : List Fc) (x : Int), (-1 ≤ x ∧ x ≤ 1) → -1 ≤ fs.foldl (fun x f => x * sgF f d) x ∧ fs.foldl (fun x f => x * sgF f d) x ≤ 1 := by
    intro fs
    induction fs with
    | nil => intro x h; exact h
    | cons f fs ih =>
      intro x h
      refine ih _ (show -1 ≤ x * sgF f d ∧ x * sgF f d ≤ 1 from ?_)
      have h2 : -1 ≤ sgF f d ∧ sgF f d ≤ 1 := by
        unfold sgF
        split
        · decide
        · rcases sgn_cases (f.1 * d - f.2.1) with ⟨_, e⟩ | ⟨_, e⟩ | ⟨_, e⟩ <;> rw [e] <;> decide
      have hx : x = -1 ∨ x = 0 ∨ x = 1 := by omega
      rcases hx with rfl | rfl | rfl <;> omega
  refine key fs _ ?_
  rcases sgn_cases number with ⟨_, e⟩ | ⟨_, e⟩ | ⟨_, e⟩ <;> rw [e] <;> decide
theorem sAt_snoc (number : Int) (fs : List Fc) (f : Fc) (d : Int) : sAt number (fs ++ [f]) d = sAt number fs d * sgF f d := by
  unfold sAt
  rw [List.foldl_append]
  rfl
theorem take_snoc {α : Type} {xs : List α} {i : Nat} {a : α} (h : xs[i]? = some a) : xs.take (i + 1) = xs.take i ++ [a] := by
  rw [List.take_add_one, h]; rfl
theorem trim_rowF {k : Nat} {f : Fc} (h : FcOk k f) : trim (rowF f) = rowF f := by
  obtain ⟨a, b, q⟩ := f
  have ha : 1 ≤ a := h.a.1
  unfold rowF
  cases q with
  | true => exact trim_snoc [b, 0] (show a ≠ 0 by omega)
  | false => exact trim_snoc [-b] (show a ≠ 0 by omega)
section
variable {P : Program} {w : World} {K : PySem.W.Frag} {mg : Str → Option Value} {base : Heap} {CP XP : Addr}
def S__law_polynomial (CP : Addr) (ds : List D) (r : R) : Prop := ∃ (fc : Fc), ds = [(facD fc)] ∧ r = .im (pol CP (rowF fc)) ∧ (∃ k, FcOk k fc)
theorem ok__law_polynomial (L : Lk P K mg CP XP) : GFn P w K mg base "_law_polynomial" 6 (spP K (S__law_polynomial CP)) := by
  refine gof L.f__law_polynomial fun f fd F => ?_
  refine def_P (N := ["factor", "a", "b", "is_square"]) (ps := ["factor"]) F ⟨rfl, rfl, rfl, by decide +kernel, rfl, by decide +kernel, by decide +kernel⟩ (F.binds (ps := ["factor"]) fun _ _ _ _ _ _ us hl => match us, hl with | [_], _ => rfl) (fun ds r h => by obtain ⟨_, rfl, _⟩ := h; rfl) ?_
  rintro cdv A outer s H E hg hr ds r ⟨fc, rfl, rfl, ⟨k, hf⟩⟩
  have nd : List.Nodup (["factor", "a", "b", "is_square"] : List Str) := by decide +kernel
  have bi : Bi (CxB P w K mg base ["factor", "a", "b", "is_square"] "_law_polynomial" (top 28) f cdv A outer s H E).mg := L.bi
  have c_Polynomial : ClsF (CxB P w K mg base ["factor", "a", "b", "is_square"] "_law_polynomial" (top 28) f cdv A outer s H E).K CP ["own_row"] := L.c_Polynomial
  have q_Polynomial : KitF (CxB P w K mg base ["factor", "a", "b", "is_square"] "_law_polynomial" (top 28) f cdv A outer s H E).K CP := L.q_Polynomial
  have h_Polynomial___init__ := (ok_Polynomial___init__ L).kc L.mg_Polynomial hg hr (CxB P w K mg base ["factor", "a", "b", "is_square"] "_law_polynomial" (top 28) f cdv A outer s H E)
  show WB _ [] _ [.im (facD fc), .un, .un, .un] _
  obtain ⟨a, b, q⟩ := fc
  have e := trim_rowF hf
  unfold facD
  cases q with
  | true =>
    have s1 : S_Polynomial___init__ CP (.ins CP []) [.int b, .int 0, .int a] (.im .non) (pol CP (rowF (a, b, true))) := ⟨[b, 0, a], rfl, rfl, rfl, by rw [← e]; rfl, by simp⟩
    walk_at "zs"
    refine wb_ret (we_im (by walk_at "zE")) (.im _)
  | false =>
    have s1 : S_Polynomial___init__ CP (.ins CP []) [.int (-b), .int a] (.im .non) (pol CP (rowF (a, b, false))) := ⟨[-b, a], rfl, rfl, rfl, by rw [← e]; rfl, by simp⟩
    walk_at "zs"
    refine wb_ret (we_im (by walk_at "zE")) (.im _)
end
section
variable {P : Program} {w : World} {K : PySem.W.Frag} {mg : Str → Option Value} {base : Heap} {CP XP : Addr}
def S__law_sign_at (CP : Addr) (ds : List D) (r : R) : Prop := ∃ (number : Int) (fs : List Fc) (place : Int), ds = [(.int number), (.lst (fs.map facD)), (.int place)] ∧ r = .im (.int (sAt number fs place)) ∧ (∀ f ∈ fs, FcOk 72 f) ∧ place.natAbs < 2 ^ 90
theorem ok__law_sign_at (L : Lk P K mg CP XP) : GFn P w K mg base "_law_sign_at" 2 (spP K (S__law_sign_at CP)) := by
  refine gof L.f__law_sign_at fun f fd F => ?_
  refine def_P (N := ["number", "factors", "place", "found", "a", "b", "is_square"]) (ps := ["number", "factors", "place"]) F ⟨rfl, rfl, rfl, by decide +kernel, rfl, by decide +kernel, by decide +kernel⟩ (F.binds (ps := ["number", "factors", "place"]) fun _ _ _ _ _ _ us hl => match us, hl with | [_, _, _], _ => rfl) (fun ds r h => by obtain ⟨_, _, _, rfl, _⟩ := h; rfl) ?_
  rintro cdv A outer s H E hg hr ds r ⟨number, fs, place, rfl, rfl, ⟨hf, hp⟩⟩
  have nd : List.Nodup (["number", "factors", "place", "found", "a", "b", "is_square"] : List Str) := by decide +kernel
  have bi : Bi (CxB P w K mg base ["number", "factors", "place", "found", "a", "b", "is_square"] "_law_sign_at" (top 29) f cdv A outer s H E).mg := L.bi
  have c_Polynomial : ClsF (CxB P w K mg base ["number", "factors", "place", "found", "a", "b", "is_square"] "_law_sign_at" (top 29) f cdv A outer s H E).K CP ["own_row"] := L.c_Polynomial
  have q_Polynomial : KitF (CxB P w K mg base ["number", "factors", "place", "found", "a", "b", "is_square"] "_law_sign_at" (top 29) f cdv A outer s H E).K CP := L.q_Polynomial
  have h__law_sign : Call (CxB P w K mg base ["number", "factors", "place", "found", "a", "b", "is_square"] "_law_sign_at" (top 29) f cdv A outer s H E) "_law_sign" _ := (ok__law_sign L).call hg hr
  show WB _ [] _ [.im (.int number), .im (.lst (fs.map facD)), .im (.int place), .un, .un, .un, .un] _
  walk_at "zs"
  refine wb_forT (as := fs) (cd := facD) (by walk_at "zWi") rfl (fun i ρ => ∃ s1 s2 s3, ρ = [.im (.int number), .im (.lst (fs.map facD)), .im (.int place), .im (.int (sAt number (fs.take i) place)), s1, s2, s3]) ⟨_, _, _, rfl⟩ ?_ ?_
  · rintro i ⟨a, b, q⟩ ρi ha ⟨s1, s2, s3, rfl⟩
    have ho := hf _ (List.mem_of_getElem? ha)
    have ha1 : 1 ≤ a ∧ a ≤ 40 := ho.a
    have e90 : (2 : Nat) ^ 90 = 1237940039285380274899124224 := by decide
    have e100 : (2 : Nat) ^ 100 = 1267650600228229401496703205376 := by decide
    have m1 : CMulW a place := mul100 (by omega) (by omega)
    have bd := sAt_bd number (fs.take i) place
    have sb := sgn_cases (a * place - b)
    refine ⟨_, by walk_at "zTg", ?_⟩
    rw [take_snoc ha, sAt_snoc]
    generalize sAt number (fs.take i) place = x at *
    cases q with
    | true =>
      have m2 : CMulW x 1 := mul100 (by omega) (by omega)
      walk_at "zs"
      exact wb_nil ⟨_, _, _, rfl⟩
    | false =>
      have m2 : CMulW x (sgn (a * place - b)) := mul100 (by omega) (by omega)
      walk_at "zs"
      exact wb_nil ⟨_, _, _, rfl⟩
  · rintro ρ' ⟨s1, s2, s3, rfl⟩
    rw [List.take_length]
    walk_at "zs"
end
theorem plc_snoc (fs : List Fc) (f : Fc) : plc (fs ++ [f]) = plc fs ++ plcF f := by
  unfold plc
  rw [List.foldl_append]
  rfl
section
variable {P : Program} {w : World} {K : PySem.W.Frag} {mg : Str → Option Value} {base : Heap} {CP XP : Addr}
def S__law_places (CP : Addr) (ds : List D) (r : R) : Prop := ∃ (fs : List Fc), ds = [(.lst (fs.map facD))] ∧ r = .fr (.lst (il (placesR fs))) ∧ (∀ f ∈ fs, FcOk 72 f) ∧ fs.length ≤ 5
theorem ok__law_places (L : Lk P K mg CP XP) : GFn P w K mg base "_law_places" 1 (spP K (S__law_places CP)) := by
  refine gof L.f__law_places fun f fd F => ?_
  refine def_P (N := ["factors", "found", "a", "b", "is_square", "place"]) (ps := ["factors"]) F ⟨rfl, rfl, rfl, by decide +kernel, rfl, by decide +kernel, by decide +kernel⟩ (F.binds (ps := ["factors"]) fun _ _ _ _ _ _ us hl => match us, hl with | [_], _ => rfl) (fun ds r h => by obtain ⟨_, rfl, _⟩ := h; rfl) ?_
  rintro cdv A outer s H E hg hr ds r ⟨fs, rfl, rfl, ⟨hf, hl⟩⟩
  have nd : List.Nodup (["factors", "found", "a", "b", "is_square", "place"] : List Str) := by decide +kernel
  have bi : Bi (CxB P w K mg base ["factors", "found", "a", "b", "is_square", "place"] "_law_places" (top 30) f cdv A outer s H E).mg := L.bi
  have c_Polynomial : ClsF (CxB P w K mg base ["factors", "found", "a", "b", "is_square", "place"] "_law_places" (top 30) f cdv A outer s H E).K CP ["own_row"] := L.c_Polynomial
  have q_Polynomial : KitF (CxB P w K mg base ["factors", "found", "a", "b", "is_square", "place"] "_law_places" (top 30) f cdv A outer s H E).K CP := L.q_Polynomial
  show WB _ [] _ [.im (.lst (fs.map facD)), .un, .un, .un, .un, .un] _
  walk_at "zs"
  have pl : ∀ i, (plc (fs.take i)).length ≤ 16 := fun i => by
    have := plc_len (fs.take i) [1]
    rw [List.length_take] at this
    unfold plc
    have e : ([1] : List Int).length = 1 := rfl
    omega
  refine wb_forT (as := fs) (cd := facD) (by walk_at "zWi") rfl (fun i ρ => ∃ s2 s3 s4, ρ = [.im (.lst (fs.map facD)), .own (.lst (il (plc (fs.take i)))), s2, s3, s4, .un]) ⟨_, _, _, rfl⟩ ?_ ?_
  · rintro i ⟨a, b, q⟩ ρi ha ⟨s2, s3, s4, rfl⟩
    have ho := hf _ (List.mem_of_getElem? ha)
    have ha1 : 1 ≤ a ∧ a ≤ 40 := ho.a
    refine ⟨_, by walk_at "zTg", ?_⟩
    have p1 := pl i
    rw [take_snoc ha, plc_snoc]
    generalize plc (fs.take i) = l at *
    cases q with
    | true =>
      have ee : l ++ plcF (a, b, true) = l := List.append_nil _
      rw [ee]
      walk_at "zs"
      exact wb_nil ⟨_, _, _, rfl⟩
    | false =>
      have hd : CDiv b a := ⟨by omega, by omega⟩
      have hz : (il l).length + [D.int (b / a), D.int (b / a + 1), D.int (b / a + 2)].length ≤ 100000 := by rw [List.length_map]; simp; omega
      walk_at "zs"
      walk_at "zs"
      exact wb_nil (wb_nil ⟨_, _, _, by
        rw [show il (l ++ plcF (a, b, false)) = il l ++ [D.int (b / a), D.int (b / a + 1), D.int (b / a + 2)] by unfold il; rw [List.map_append]; rfl]
        rfl⟩)
  · rintro ρ' ⟨s2, s3, s4, rfl⟩
    rw [List.take_length]
    have p1 := pl fs.length
    rw [List.take_length] at p1
    have e0 : placesR fs = usort ((plc fs).filter fun p => decide (0 < p)) := rfl
    rw [e0]
    generalize plc fs = l at *
    have ss : SSet (l.filter fun p => decide (0 < p)) (usort (l.filter fun p => decide (0 < p))) := ⟨by have := List.length_filter_le (fun p => decide ((0 : Int) < p)) l; omega, usort_up _, fun k => usort_mem _ k⟩
    refine wb_ret (we_ss bi (we_lcI l .int .int (fun p => decide (0 < p)) [("place", 5)] (by walk_at "zWi") rfl rfl (fun i x hx => ?_) (blkOk_by rfl) (by omega) (by intro b hb; rcases List.mem_cons.mp hb with rfl | hb; exact ⟨of_decide_eq_true rfl, rfl⟩; cases hb)) rfl ss) (.fr _)
    walk_at "zLi"
end
end K71
set_option maxRecDepth 100000
set_option maxHeartbeats 2000000
namespace K71
open PySem PySem.Spec PyProof.Rows L2 Evl Z ClX K75
theorem placesR_up (fs : List Fc) : ∀ p ∈ placesR fs, 0 < p ∧ p ∈ plc fs := fun p hp => by
  unfold placesR at hp
  rw [usort_mem, List.mem_filter] at hp
  exact ⟨of_decide_eq_true hp.2, hp.1⟩
theorem placesR_len (fs : List Fc) (hl : fs.length ≤ 5) : (placesR fs).length ≤ 16 := by
  have h1 := usort_len ((plc fs).filter fun p => decide (0 < p))
  have h2 := List.length_filter_le (fun p => decide ((0 : Int) < p)) (plc fs)
  have h3 := plc_len fs [1]
  have e : ([1] : List Int).length = 1 := rfl
  unfold placesR
  unfold plc at *
  omega
section
variable {P : Program} {w : World} {K : PySem.W.Frag} {mg : Str → Option Value} {base : Heap} {CP XP : Addr}
def S__law_due (CP : Addr) (ds : List D) (r : R) : Prop := ∃ (number : Int) (fs : List Fc), ds = [(.int number), (.lst (fs.map facD))] ∧ r = .fr (.lst ((dueR number fs).map prD)) ∧ (∀ f ∈ fs, FcOk 72 f) ∧ fs.length ≤ 5
theorem ok__law_due (L : Lk P K mg CP XP) : GFn P w K mg base "_law_due" 3 (spP K (S__law_due CP)) := by
  refine gof L.f__law_due fun f fd F => ?_
  refine def_P (N := ["number", "factors", "found", "place", "sign"]) (ps := ["number", "factors"]) F ⟨rfl, rfl, rfl, by decide +kernel, rfl, by decide +kernel, by decide +kernel⟩ (F.binds (ps := ["number", "factors"]) fun _ _ _ _ _ _ us hl => match us, hl with | [_, _], _ => rfl) (fun ds r h => by obtain ⟨_, _, rfl, _⟩ := h; rfl) ?_
  rintro cdv A outer s H E hg hr ds r ⟨number, fs, rfl, rfl, ⟨hf, hl⟩⟩
  have nd : List.Nodup (["number", "factors", "found", "place", "sign"] : List Str) := by decide +kernel
  have bi : Bi (CxB P w K mg base ["number", "factors", "found", "place", "sign"] "_law_due" (top 31) f cdv A outer s H E).mg := L.bi
  have c_Polynomial : ClsF (CxB P w K mg base ["number", "factors", "found", "place", "sign"] "_law_due" (top 31) f cdv A outer s H E).K CP ["own_row"] := L.c_Polynomial
  have q_Polynomial : KitF (CxB P w K mg base ["number", "factors", "found", "place", "sign"] "_law_due" (top 31) f cdv A outer s H E).K CP := L.q_Polynomial
  have h__law_places : Call (CxB P w K mg base ["number", "factors", "found", "place", "sign"] "_law_due" (top 31) f cdv A outer s H E) "_law_places" _ := (ok__law_places L).call hg hr
  have h__law_sign_at : Call (CxB P w K mg base ["number", "factors", "found", "place", "sign"] "_law_due" (top 31) f cdv A outer s H E) "_law_sign_at" _ := (ok__law_sign_at L).call hg hr
  show WB _ [] _ [.im (.int number), .im (.lst (fs.map facD)), .un, .un, .un] _
  have s0 : S__law_places CP [.lst (fs.map facD)] (.fr (.lst (il (placesR fs)))) := ⟨fs, rfl, rfl, hf, hl⟩
  have sS : ∀ d, d ∈ placesR fs → S__law_sign_at CP [.int number, .lst (fs.map facD), .int d] (.im (.int (sAt number fs d))) := fun d hd => ⟨number, fs, d, rfl, rfl, hf, by
    obtain ⟨h1, h2⟩ := placesR_up fs d hd
    have h3 := plc_lt (k := 72) (by decide) hf d h2
    have e73 : (2 : Int) ^ (72 + 1) = 9444732965739290427392 := by decide
    have e90 : (2 : Nat) ^ 90 = 1237940039285380274899124224 := by decide
    omega⟩
  have pl := placesR_len fs hl
  have e0 : dueR number fs = joinR none ((placesR fs).map fun p => (p, sAt number fs p)) := rfl
  rw [e0]
  generalize placesR fs = l at *
  walk_at "zs"
  refine wb_forT (as := l) (cd := .int) (by walk_at "zWi") rfl (fun i ρ => ∃ (f : List (Int × Int)) (s3 s4 : SV), f.length ≤ i ∧ joinR none (l.map fun p => (p, sAt number fs p)) = f ++ joinR (lastQ f) ((l.drop i).map fun p => (p, sAt number fs p)) ∧ ρ = [.im (.int number), .im (.lst (fs.map facD)), .own (.lst (f.map prD)), s3, s4]) ⟨[], _, _, Nat.le_refl _, rfl, rfl⟩ ?_ ?_
  · rintro i a ρi ha ⟨f, s3, s4, hfl, hj, rfl⟩
    refine ⟨_, by walk_at "zTg", ?_⟩
    have hi := (List.getElem?_eq_some_iff.mp ha).1
    have hdrop : l.drop i = a :: l.drop (i + 1) := by
      have := List.drop_eq_getElem_cons hi
      rw [this]
      congr 1
      exact (List.getElem?_eq_some_iff.mp ha).2
    have s1 := sS a (List.mem_of_getElem? ha)
    rw [hdrop, List.map_cons] at hj
    generalize sAt number fs a = σ at *
    have hz : (f.map prD).length < 100000 := by rw [List.length_map]; omega
    walk_at "zs"
    rcases List.eq_nil_or_concat f with rfl | ⟨g, ⟨b, τ⟩, rfl⟩
    · have n1 := eqk_runs []
      refine wb_ifTe (kk := true || true) (wt_of (ww_or (k := true) (l := true) (by walk_at "zT") fun z => by cases z)) rfl ?_
      walk_at "zs"
      refine wb_nil (wb_nil ⟨[(a, σ)], _, _, by simp, ?_, rfl⟩)
      rw [hj]
      rfl
    · rw [List.concat_eq_append] at *
      have n1 : EqK (.lst ((g ++ [(b, τ)]).map prD)) (.lst []) false := by
        have := eqk_runs (g ++ [(b, τ)])
        simpa using this
      have a1 : atI ((g ++ [(b, τ)]).map prD) (-1) = some (prD (b, τ)) := by rw [List.map_append]; exact at_lastD
      have hlq : lastQ (g ++ [(b, τ)]) = some τ := lastQ_snoc g (b, τ)
      rw [hlq] at hj
      by_cases z : τ = σ
      · have q0 : (false || !decide (τ = σ)) = false := by simp [z]
        walk_at "zIF"
        refine wb_nil ⟨g ++ [(b, τ)], _, _, by omega, ?_, rfl⟩
        rw [hlq, hj]
        congr 1
        show (if some σ = some τ then _ else _) = _
        rw [if_pos (by rw [z])]
      · have q0 : (false || !decide (τ = σ)) = true := by simp [z]
        walk_at "zIT"
        walk_at "zs"
        have em : (g ++ [(b, τ)]).map prD ++ [prD (a, σ)] = (g ++ [(b, τ)] ++ [(a, σ)]).map prD := by simp
        refine wb_nil (wb_nil ⟨g ++ [(b, τ)] ++ [(a, σ)], _, _, by simp at hfl ⊢; omega, ?_, by rw [← em]; rfl⟩)
        rw [lastQ_snoc, hj]
        show _ ++ (if some σ = some τ then _ else _) = _
        rw [if_neg (by intro q; exact z (Option.some.inj q).symm)]
        simp
  · rintro ρ' ⟨f, s3, s4, hfl, hj, rfl⟩
    rw [List.drop_length] at hj
    have e : joinR none (l.map fun p => (p, sAt number fs p)) = f := by rw [hj]; simp [joinR]
    rw [e]
    walk_at "zs"
end
end K71
set_option maxRecDepth 100000
set_option maxHeartbeats 2000000
namespace K71
open PySem PySem.Spec PyProof.Rows L2 Evl Z ClX K75
def iTx (i : Int) : Str := toString i
def polTxt (row : List Int) : Str := (["Polynomial(", Str.join ", " (row.map iTx), ")"] : List Str).foldl (· ++ ·) Str.empty
def intsOf : List D → Option (List Int)
  | [] => some []
  | .int i :: r => (intsOf r).map (i :: ·)
  | _ => none
theorem intsOf_eq : ∀ {xs : List D} {row : List Int}, intsOf xs = some row → xs = row.map .int
  | [], row, h => by cases h; rfl
  | .int i :: r, row, h => by
    simp only [intsOf, Option.map_eq_some_iff] at h
    obtain ⟨q, h1, rfl⟩ := h
    rw [intsOf_eq h1]
    rfl
  | .non :: _, _, h | .bl _ :: _, _, h | .str _ :: _, _, h | .ty _ :: _, _, h | .obj _ :: _, _, h | .lst _ :: _, _, h | .tup _ :: _, _, h | .ins _ _ :: _, _, h | .set _ :: _, _, h | .dct _ :: _, _, h | .exc _ _ _ :: _, _, h => by cases h
theorem intsOf_map : ∀ (row : List Int), intsOf (row.map .int) = some row
  | [] => rfl
  | i :: r => by
    show (intsOf (r.map .int)).map (i :: ·) = _
    rw [intsOf_map r]
    rfl
def rowOk (row : List Int) : Bool := decide (row.length ≤ 20) && row.all fun a => decide (a.natAbs.log2 < 1920)
theorem rowOk_iff {row : List Int} : rowOk row = true ↔ row.length ≤ 20 ∧ ∀ a ∈ row, a.natAbs.log2 < 1920 := by
  unfold rowOk
  rw [Bool.and_eq_true, List.all_eq_true, decide_eq_true_iff]
  constructor
  · rintro ⟨h1, h2⟩; exact ⟨h1, fun a ha => of_decide_eq_true (h2 a ha)⟩
  · rintro ⟨h1, h2⟩; exact ⟨h1, fun a ha => decide_eq_true (h2 a ha)⟩
def ownR (CP C : Addr) (gs : List (Str × D)) : Option Str :=
  if C = CP then match gs with
    | [(f, .tup xs)] => if f = "own_row" then match intsOf xs with
      | some row => if rowOk row = true then some (polTxt row) else none
      | none => none else none
    | _ => none
  else none
theorem ownR_pol (CP : Addr) {row : List Int} (h1 : row.length ≤ 20) (h2 : ∀ a ∈ row, a.natAbs.log2 < 1920) : ownR CP CP [("own_row", .tup (row.map .int))] = some (polTxt row) := by
  unfold ownR
  rw [if_pos rfl]
  show (if ("own_row" : Str) = "own_row" then _ else none) = _
  rw [if_pos rfl, intsOf_map]
  show (if rowOk row = true then _ else none) = _
  rw [if_pos (rowOk_iff.mpr ⟨h1, h2⟩)]
section
variable {P : Program} {w : World} {K : PySem.W.Frag} {mg : Str → Option Value} {base : Heap} {CP XP : Addr}
def S_Polynomial___repr__ (CP : Addr) (ds : List D) (r : R) : Prop := ∃ (row : List Int), ds = [(pol CP row)] ∧ r = .im (.str (polTxt row)) ∧ row.length ≤ 20 ∧ (∀ a ∈ row, a.natAbs.log2 < 1920)
theorem ok_Polynomial___repr__ (L : Lk P K mg CP XP) : GRp P w K mg base CP 1 (S_Polynomial___repr__ CP) := by
  refine grp L.m_Polynomial___repr__ fun f fd F => ?_
  refine def_R (N := ["self", "inner", "one"]) (ps := ["self"]) F ⟨rfl, rfl, rfl, by decide +kernel, rfl, by decide +kernel, by decide +kernel⟩ (F.binds (ps := ["self"]) fun _ _ _ _ _ _ us hl => match us, hl with | [_], _ => rfl) (fun ds r h => by obtain ⟨_, rfl, _⟩ := h; rfl) ?_
  rintro cdv A outer s H E hr ds r ⟨row, rfl, rfl, ⟨hl, hb⟩⟩
  have nd : List.Nodup (["self", "inner", "one"] : List Str) := by decide +kernel
  have bi : Bi (CxB P w K mg base ["self", "inner", "one"] "Polynomial.__repr__" (inClass (top 13) 10) f cdv A outer s H E).mg := L.bi
  have c_Polynomial : ClsF (CxB P w K mg base ["self", "inner", "one"] "Polynomial.__repr__" (inClass (top 13) 10) f cdv A outer s H E).K CP ["own_row"] := L.c_Polynomial
  have q_Polynomial : KitF (CxB P w K mg base ["self", "inner", "one"] "Polynomial.__repr__" (inClass (top 13) 10) f cdv A outer s H E).K CP := L.q_Polynomial
  show WB _ [] _ [.im (pol CP row), .un, .un] _
  have tl : ∀ y ∈ row.map iTx, y.length ≤ 1921 := fun y hy => by
    obtain ⟨i, hi, rfl⟩ := List.mem_map.mp hy
    exact int_text_len_1921 (hb i hi)
  have jl := Z.join_len (a := ", ") tl
  have sl := len_sum tl
  rw [List.length_map] at jl sl
  have jl : (Str.join ", " (row.map iTx)).length ≤ row.length * (1921 + 2) := jl
  refine wb_go (ws_st (r := .im (.str (Str.join ", " (row.map iTx)))) (ρ1 := [.im (pol CP row), .un, .un]) (we_join we_str (we_lcL row .int (fun i => .str (iTx i)) [("one", 2)] (by walk_at "zWi") rfl rfl (fun i x hx => ?_) (blkOk_by rfl) (by omega) (by intro b hb; cases hb)) rfl (by rw [List.map_map]; rfl) ?_) (.im _ _)) ?_
  · walk_at "zLe"
    · exact we_sI bi we_nm (hb x (List.mem_of_getElem? hx))
    walk_at "zLz"
  · rw [List.length_map]
    have e2 : (", " : Str).length = 2 := rfl
    rw [e2]
    omega
  · refine wb_ret (we_joined (wj_cons we_str (wj_cons (we_fmtS we_nm ?_) (wj_cons we_str wj_nil))) (hz := ?_)) (.im _)
    · omega
    · show 11 + ((Str.join ", " (row.map iTx)).length + (1 + 0)) ≤ 100000
      omega
end
theorem ownR_inv {CP C : Addr} {gs : List (Str × D)} {t : Str} (h : ownR CP C gs = some t) : ∃ row : List Int, C = CP ∧ gs = ([("own_row", .tup (row.map .int))] : List (Str × D)) ∧ t = polTxt row ∧ row.length ≤ 20 ∧ ∀ a ∈ row, a.natAbs.log2 < 1920 := by
  unfold ownR at h
  by_cases hC : C = CP
  · rw [if_pos hC] at h
    rcases gs with _ | ⟨⟨f', d'⟩, gs'⟩
    · cases h
    · rcases gs' with _ | ⟨g, gs'⟩
      · cases d' with
        | tup xs =>
          have h2 : (if f' = (("own_row" : String) : Str) then (match intsOf xs with | some row => if rowOk row = true then some (polTxt row) else none | none => none) else none) = some t := h
          by_cases hf : f' = (("own_row" : String) : Str)
          · rw [if_pos hf] at h2
            clear h
            subst hf
            cases hi : intsOf xs with
            | none => rw [hi] at h2; cases h2
            | some row =>
              rw [hi] at h2
              have h3 : (if rowOk row = true then some (polTxt row) else none) = some t := h2
              by_cases hk : rowOk row = true
              · rw [if_pos hk] at h3
                cases h3
                have hx := intsOf_eq hi
                subst hx
                exact ⟨row, hC, rfl, rfl, rowOk_iff.mp hk⟩
              · rw [if_neg hk] at h3; cases h3
          · rw [if_neg hf] at h2; cases h2
        | _ => cases h
      · cases d' <;> cases h
  · rw [if_neg hC] at h; cases h
theorem rpg {P : Program} {w : World} {K : PySem.W.Frag} {mg : Str → Option Value} {base : Heap} {CP XP : Addr} (L : Lk P K mg CP XP) : RpG P w K mg base (ownR CP) 1 := fun C gs t h => by
  obtain ⟨f, h1, h2, F⟩ := (ok_Polynomial___repr__ L).ex
  obtain ⟨row, rfl, rfl, rfl, h3, h4⟩ := ownR_inv h
  exact ⟨f, _, h1, h2, F, row, rfl, rfl, h3, h4⟩
theorem rpgh {P : Program} {w : World} {K : PySem.W.Frag} {mg : Str → Option Value} {base : Heap} {CP XP : Addr} (L : Lk P K mg CP XP) : RpGH P w K mg base (ownR CP) 1 := fun C gs t h => by
  obtain ⟨row, rfl, rfl, rfl, hl0, hb0⟩ := ownR_inv h
  obtain ⟨f, fd, F, m⟩ := L.m_Polynomial___repr__.ex
  refine ⟨f, fd, ["self"], S_Polynomial___repr__ C, m.at_, m.fn, ?_, (F.binds (ps := ["self"]) fun _ _ _ _ _ _ us hl => match us, hl with | [_], _ => rfl), row, rfl, rfl, hl0, hb0⟩
  refine def_RH (N := ["self", "inner", "one"]) (ps := ["self"]) F ⟨rfl, rfl, rfl, by decide +kernel, rfl, by decide +kernel, by decide +kernel⟩ (fun ds r h => by obtain ⟨_, rfl, _⟩ := h; rfl) ?_
  rintro cdv A outer s H E p hot hr ds r ⟨row, rfl, rfl, hl, hb⟩
  have nd : List.Nodup (["self", "inner", "one"] : List Str) := by decide +kernel
  have bi : Bi mg := L.bi
  have c_Polynomial : ClsF K C ["own_row"] := L.c_Polynomial
  show WB _ [] _ [.im (pol C row), .un, .un] _
  have tl : ∀ y ∈ row.map iTx, y.length ≤ 1921 := fun y hy => by
    obtain ⟨i, hi, rfl⟩ := List.mem_map.mp hy
    exact int_text_len_1921 (hb i hi)
  have jl := Z.join_len (a := ", ") tl
  have sl := len_sum tl
  rw [List.length_map] at jl sl
  have jl : (Str.join ", " (row.map iTx)).length ≤ row.length * (1921 + 2) := jl
  refine wb_go (ws_st (r := .im (.str (Str.join ", " (row.map iTx)))) (ρ1 := [.im (pol C row), .un, .un]) (we_join we_str (we_lcH hot (List.mem_singleton.mpr rfl) row .int (fun i => .str (iTx i)) [("one", 2)] (by walk_at "zE") rfl rfl (fun i x hx => ?_) (blkOk_by rfl) (by omega)) rfl (by rw [List.map_map]; rfl) ?_) (.im _ _)) ?_
  · walk_at "zLe"
    · exact we_sI bi we_nm (hb x (List.mem_of_getElem? hx))
    walk_at "zLz"
  · rw [List.length_map]
    have e2 : (", " : Str).length = 2 := rfl
    rw [e2]
    omega
  · refine wb_ret (we_joined (wj_cons we_str (wj_cons (we_fmtS we_nm ?_) (wj_cons we_str wj_nil))) (hz := ?_)) (.im _)
    · omega
    · show 11 + ((Str.join ", " (row.map iTx)).length + (1 + 0)) ≤ 100000
      omega
theorem ok_er_InvalidPolynomial {P : Program} {w : World} {K : PySem.W.Frag} {mg : Str → Option Value} {base : Heap} {CP XP : Addr} {own : Addr → List (Str × D) → Option Str} {n m : Nat} (L : Lk P K mg CP XP) (rp : RpG P w K mg base own n) : GEr P w K mg base "InvalidPolynomial" XP (n + m + 3) (SErr own m "value") :=
  err1 (v := "value") (ar := ⟨"self", none, _⟩) L.er_InvalidPolynomial (L.bi.h _ (by decide +kernel)) rp rfl (NdefX.nscope_by (by decide +kernel)) (fun _ _ _ _ _ _ _ us hl => match us, hl with | [_, _], _ => rfl) rfl rfl rfl rfl rfl rfl (by decide) (by decide) (Nat.le_of_ble_eq_true rfl) (by intro env; rfl) (by intro env; rfl) (by intro env; rfl)
section
variable {P : Program} {w : World} {K : PySem.W.Frag} {mg : Str → Option Value} {base : Heap} {CP XP : Addr}
def SX_row_of (CP XP : Addr) (ds : List D) (C : Addr) (gs : List (Str × D)) : Prop := ∃ (d : D) (T : String) (t : Str), ds = [d] ∧ XP = C ∧ gs = ([("value", d)] : List (Str × D)) ∧ d.kind = some T ∧ TxD (ownR CP) 3 d t
theorem okX_row_of (L : Lk P K mg CP XP) : GFnN P w K mg base "row_of" 9 (spXv K (SX_row_of CP XP)) := by
  refine gofN L.f_row_of fun f fd F => ?_
  refine def_XvN (N := ["value"]) (ps := ["value"]) F ⟨rfl, rfl, rfl, by decide +kernel, rfl, by decide +kernel, by decide +kernel⟩ (F.binds (ps := ["value"]) fun _ _ _ _ _ _ us hl => match us, hl with | [_], _ => rfl) (fun ds C gs h => by obtain ⟨_, _, _, rfl, _⟩ := h; rfl) ?_
  rintro cdv A outer s H E W tk hg hr ds C gs ⟨d, T, t, rfl, rfl, rfl, ⟨hk, ht⟩⟩
  have nd : List.Nodup (["value"] : List Str) := by decide +kernel
  have bi : Bi (CxN P w K mg base ["value"] "row_of" (top 14) f cdv A outer s H E).mg := L.bi
  have c_Polynomial : ClsF (CxN P w K mg base ["value"] "row_of" (top 14) f cdv A outer s H E).K CP ["own_row"] := L.c_Polynomial; have mg_Polynomial := L.mg_Polynomial
  have q_Polynomial : KitF (CxN P w K mg base ["value"] "row_of" (top 14) f cdv A outer s H E).K CP := L.q_Polynomial
  have e_InvalidPolynomial : ErrC (CxN P w K mg base ["value"] "row_of" (top 14) f cdv A outer s H E) "InvalidPolynomial" XP (SErr (ownR CP) 3 "value") := (ok_er_InvalidPolynomial (m := 3) L (rpg L)).ec hg hr
  have ea_InvalidPolynomial : ErrA (CxN P w K mg base ["value"] "row_of" (top 14) f cdv A outer s H E).K XP ["value"] := L.er_InvalidPolynomial.a
  show ∃ ρ', RBv (CxN P w K mg base ["value"] "row_of" (top 14) f cdv A outer s H E) W [] _ [.im d] _ _ ρ'
  exact ⟨_, rv_ifT (k := !false) (wt_not (wt_val (we_isF bi (by walk_at "zA") q_Polynomial hk))) rfl (rv_errN rfl tk e_InvalidPolynomial (by walk_at "zA") ⟨d, t, rfl, rfl, ht⟩)⟩
end
section
variable {P : Program} {w : World} {K : PySem.W.Frag} {mg : Str → Option Value} {base : Heap} {CP XP : Addr}
def SX_sign_runs (CP XP : Addr) (ds : List D) (C : Addr) (gs : List (Str × D)) : Prop := ∃ (d : D) (T : String) (t : Str), ds = [d] ∧ XP = C ∧ gs = ([("value", d)] : List (Str × D)) ∧ d.kind = some T ∧ TxD (ownR CP) 3 d t
theorem okX_sign_runs (L : Lk P K mg CP XP) : GFnN P w K mg base "sign_runs" 10 (spXv K (SX_sign_runs CP XP)) := by
  refine gofN L.f_sign_runs fun f fd F => ?_
  refine def_XvN (N := ["polynomial", "sign", "chain", "runs", "one", "found", "number", "start", "end"]) (ps := ["polynomial"]) F ⟨rfl, rfl, rfl, by decide +kernel, rfl, by decide +kernel, by decide +kernel⟩ (F.binds (ps := ["polynomial"]) fun _ _ _ _ _ _ us hl => match us, hl with | [_], _ => rfl) (fun ds C gs h => by obtain ⟨_, _, _, rfl, _⟩ := h; rfl) ?_
  rintro cdv A outer s H E W tk hg hr ds C gs ⟨d, T, t, rfl, rfl, rfl, ⟨hk, ht⟩⟩
  have nd : List.Nodup (["polynomial", "sign", "chain", "runs", "one", "found", "number", "start", "end"] : List Str) := by decide +kernel
  have bi : Bi (CxN P w K mg base ["polynomial", "sign", "chain", "runs", "one", "found", "number", "start", "end"] "sign_runs" (top 21) f cdv A outer s H E).mg := L.bi
  have c_Polynomial : ClsF (CxN P w K mg base ["polynomial", "sign", "chain", "runs", "one", "found", "number", "start", "end"] "sign_runs" (top 21) f cdv A outer s H E).K CP ["own_row"] := L.c_Polynomial; have mg_Polynomial := L.mg_Polynomial
  have q_Polynomial : KitF (CxN P w K mg base ["polynomial", "sign", "chain", "runs", "one", "found", "number", "start", "end"] "sign_runs" (top 21) f cdv A outer s H E).K CP := L.q_Polynomial
  have h_one_sign : CallN (CxN P w K mg base ["polynomial", "sign", "chain", "runs", "one", "found", "number", "start", "end"] "sign_runs" (top 21) f cdv A outer s H E) "one_sign" _ := (ok_one_sign L).toN.call hg hr
  have x_row_of : CallN (CxN P w K mg base ["polynomial", "sign", "chain", "runs", "one", "found", "number", "start", "end"] "sign_runs" (top 21) f cdv A outer s H E) "row_of" _ := (okX_row_of L).call hg hr
  show ∃ ρ', RBv (CxN P w K mg base ["polynomial", "sign", "chain", "runs", "one", "found", "number", "start", "end"] "sign_runs" (top 21) f cdv A outer s H E) W [] _ [.im d, .un, .un, .un, .un, .un, .un, .un, .un] _ _ ρ'
  exact ⟨_, rv_st (rv_set (i := 1) (rv_callAN tk h_one_sign (rv_one (rv_callN tk x_row_of (by walk_at "zA") ⟨d, T, t, rfl, rfl, rfl, hk, ht⟩))) rfl)⟩
end
section
variable {P : Program} {w : World} {K : PySem.W.Frag} {mg : Str → Option Value} {base : Heap} {CP XP : Addr}
def S__law_refused (CP : Addr) (ds : List D) (r : R) : Prop := ∃ (d : D) (T : String) (t : Str), ds = [d] ∧ r = .im (.bl true) ∧ d.kind = some T ∧ TxD (ownR CP) 3 d t
theorem ok__law_refused (L : Lk P K mg CP XP) : GFn P w K mg base "_law_refused" 12 (spP K (S__law_refused CP)) := by
  refine gof L.f__law_refused fun f fd F => ?_
  refine def_P (N := ["value", "e"]) (ps := ["value"]) F ⟨rfl, rfl, rfl, by decide +kernel, rfl, by decide +kernel, by decide +kernel⟩ (F.binds (ps := ["value"]) fun _ _ _ _ _ _ us hl => match us, hl with | [_], _ => rfl) (fun ds r h => by obtain ⟨_, _, _, rfl, _⟩ := h; rfl) ?_
  rintro cdv A outer s H E hg hr ds r ⟨d, T, t, rfl, rfl, ⟨hk, ht⟩⟩
  have nd : List.Nodup (["value", "e"] : List Str) := by decide +kernel
  have bi : Bi (CxB P w K mg base ["value", "e"] "_law_refused" (top 32) f cdv A outer s H E).mg := L.bi
  have c_Polynomial : ClsF (CxB P w K mg base ["value", "e"] "_law_refused" (top 32) f cdv A outer s H E).K CP ["own_row"] := L.c_Polynomial
  have q_Polynomial : KitF (CxB P w K mg base ["value", "e"] "_law_refused" (top 32) f cdv A outer s H E).K CP := L.q_Polynomial
  have h_sign_runs : Call (CxB P w K mg base ["value", "e"] "_law_refused" (top 32) f cdv A outer s H E) "sign_runs" _ := (ok_sign_runs L).call hg hr
  have ea_InvalidPolynomial : ErrA (CxB P w K mg base ["value", "e"] "_law_refused" (top 32) f cdv A outer s H E).K XP ["value"] := L.er_InvalidPolynomial.a
  show WB _ [] _ [.im d, .un] _
  refine wb_try_asN (C := XP) (gs := [("value", d)]) (ρ1 := [.im d, .un]) (n := "e") (i := 1) (fun W pnp xe tk => rv_st (rv_expr (rv_callN tk ((okX_sign_runs L).call hg hr) (by walk_at "zA") ⟨d, T, t, rfl, rfl, rfl, hk, ht⟩))) L.xm_InvalidPolynomial (by simp) (by simp) (fun a dd oe pl ca hot => ?_) ⟨rfl, by decide, .inl L.er_InvalidPolynomial.mg⟩ rfl (by simp) (by simp) rfl
  have hrp2 := RpGH.inS (m := 3) (rpgh (w := w) (base := base) L) hot hg hr
  refine wb_ret (we_is (r := .im (.bl (decide (t = t)))) (we_cx (we_rpTH bi hrp2 (we_xa ca ea_InvalidPolynomial we_nm rfl (by simp)) rfl ht) (we_rpTH bi hrp2 we_nm rfl ht) rfl rfl cv_eqS) (by simp)) (.im _)
end
end K71
set_option maxRecDepth 100000
set_option maxHeartbeats 2000000
namespace K71
open PySem PySem.Spec PyProof.Rows L2 Evl Z ClX K75
theorem intB {own : Addr → List (Str × D) → Option Str} {i : Int} {k : Nat} (hk : 0 < k) (h : i.natAbs.log2 < k) (h2 : k ≤ 1920) : TxB own 0 (k + 1) (.int i) := ⟨_, by simp only [D.txt]; exact if_pos (Nat.lt_of_lt_of_le h h2), by
  show (PySem.Str.ofString (toString i)).length ≤ k + 1
  have := PySem.int_text_length_le hk h
  rw [PySem.ofString_length]
  exact this, Nat.le_refl _⟩
theorem log_lt {i : Int} {k : Nat} (hk : 0 < k) (h : i.natAbs < 2 ^ k) : i.natAbs.log2 < k := by
  by_cases e : i.natAbs = 0
  · rw [e]; exact hk
  · exact (Nat.log2_lt e).mpr h
theorem joinR_mem {q : Int × Int} : ∀ {l : List (Int × Int)} {p : Option Int}, q ∈ joinR p l → q ∈ l
  | [], _, h => by cases h
  | (a, σ) :: r, p, h => by
    have h : q ∈ (if some σ = p then joinR p r else (a, σ) :: joinR (some σ) r) := h
    split at h
    · exact List.mem_cons_of_mem _ (joinR_mem h)
    · rcases List.mem_cons.mp h with h | h
      · rw [h]; simp
      · exact List.mem_cons_of_mem _ (joinR_mem h)
/-- runs as they can be shown -/
def RnOk (L : List (Int × Int)) : Prop := L.length ≤ 16 ∧ ∀ q ∈ L, q.1.natAbs < 2 ^ 74 ∧ q.2.natAbs < 2 ^ 74
theorem due_ok {number : Int} {fs : List Fc} (hf : ∀ f ∈ fs, FcOk 72 f) (hl : fs.length ≤ 5) : RnOk (dueR number fs) := by
  have h1 := K75.join_len none ((placesR fs).map fun p => (p, sAt number fs p))
  have h2 := placesR_len fs hl
  rw [List.length_map] at h1
  refine ⟨Nat.le_trans h1 h2, fun q hq => ?_⟩
  obtain ⟨p, hp, rfl⟩ := List.mem_map.mp (joinR_mem hq)
  obtain ⟨h3, h4⟩ := placesR_up fs p hp
  have h5 := plc_lt (k := 72) (by decide) hf p h4
  have h6 := sAt_bd number fs p
  have e73 : (2 : Int) ^ (72 + 1) = 9444732965739290427392 := by decide
  have e74 : (2 : Nat) ^ 74 = 18889465931478580854784 := by decide
  exact ⟨by show p.natAbs < _; omega, by show (sAt number fs p).natAbs < _; omega⟩
theorem RnOk.flip {L : List (Int × Int)} (h : RnOk L) : RnOk (L.map neg2) := ⟨by rw [List.length_map]; exact h.1, fun q hq => by
  obtain ⟨p, hp, rfl⟩ := List.mem_map.mp hq
  have := h.2 p hp
  exact ⟨this.1, by show (0 - p.2).natAbs < _; omega⟩⟩
theorem txRuns {own : Addr → List (Str × D) → Option Str} {L : List (Int × Int)} (h : RnOk L) : TxB own 2 4000 (.lst (L.map prD)) := by
  refine (TxB.lst (m := 1) (n := 157) fun d hd => ?_).mono (Nat.le_refl _) (by rw [List.length_map]; have := h.1; omega)
  obtain ⟨q, hq, rfl⟩ := List.mem_map.mp hd
  have hb := h.2 q hq
  refine (TxB.tup (m := 0) (n := 75) fun d hd => ?_)
  rcases List.mem_cons.mp hd with rfl | hd
  · exact intB (by decide) (log_lt (by decide) hb.1) (by decide)
  · rw [List.mem_singleton.mp hd]
    exact intB (by decide) (log_lt (by decide) hb.2) (by decide)
theorem txTwo {own : Addr → List (Str × D) → Option Str} {L M : List (Int × Int)} (h : RnOk L) (g : RnOk M) : TxB own 3 9000 (.lst [.lst (L.map prD), .lst (M.map prD)]) := by
  refine (TxB.lst (m := 2) (n := 4000) fun d hd => ?_).mono (Nat.le_refl _) (by simp)
  rcases List.mem_cons.mp hd with rfl | hd
  · exact txRuns h
  · rw [List.mem_singleton.mp hd]; exact txRuns g
def neg2' (q : Int × Int) : Int × Int := (q.1, -q.2)
def t9 : Int := 10 ^ (9 : Int).toNat
def t15 : Int := 10 ^ (15 : Int).toNat
def numM : M Int := mseq (draw pc t9) fun x => pickM pc [1, -1, 0, 2, -3, t15, -1 - x] 0
def gOf (m : Int) : Int := if m < 3 then t9 else 1000
def facsM (g : Int) (n : Nat) : M (List Fc) := loopM (fun _ fs => mseq (facM fs g) fun f => mret (fs ++ [f])) [] n
def prodM : M Unit := mseq numM fun _ => mseq (draw pc 6) fun m => mseq (facsM (gOf m) m.toNat) fun _ => mseq (draw pc 9) fun _ => mseq (draw pc 9) fun _ => mret ()
theorem num_bd : MP numM fun x => x.natAbs < 2 ^ 50 := by
  refine MP.seq (MP.draw pc (by decide)) fun x hx => MP.pick pc (by simp) fun a ha => ?_
  have e9 : t9 = 1000000000 := by decide
  have e15 : t15 = 1000000000000000 := by decide
  have e50 : (2 : Nat) ^ 50 = 1125899906842624 := by decide
  rw [e15] at ha
  rw [e9] at hx
  simp only [List.mem_cons, List.not_mem_nil, or_false] at ha
  omega
theorem whole_snoc (number : Int) (fs : List Fc) (f : Fc) : wholeR number (fs ++ [f]) = trim (mulR (wholeR number fs) (rowF f)) := by
  unfold wholeR
  rw [List.foldl_append]
  rfl
theorem ten (own : Addr → List (Str × D) → Option Str) : D.txt own (.lst [prD (1, 1)]) = some "[(1, 1)]" := by
  simp only [D.txt, D.txts, prD]
  rfl
section
variable {P : Program} {w : World} {K : PySem.W.Frag} {mg : Str → Option Value} {base : Heap} {CP XP : Addr}
def S__law_product_right (CP : Addr) (as : List SV) (r : R) (as' : List SV) : Prop := ∃ (p : Pot), as = [.own (potD p)] ∧ r = .im (.bl true) ∧ as' = [.own (potD (prodM p).2)]
theorem ok__law_product_right (L : Lk P K mg CP XP) : GFn P w K mg base "_law_product_right" 12 (spG K (S__law_product_right CP)) := by
  refine gof L.f__law_product_right fun f fd F => ?_
  refine def_G (N := ["rng", "number", "factors", "many", "turn", "whole", "due", "factor", "told", "flipped", "place", "sign", "further"]) (ps := ["rng"]) F ⟨rfl, rfl, rfl, by decide +kernel, rfl, by decide +kernel, by decide +kernel⟩ (F.binds (ps := ["rng"]) fun _ _ _ _ _ _ us hl => match us, hl with | [_], _ => rfl) (fun as r as' h => by obtain ⟨_, rfl, _⟩ := h; rfl) ?_
  rintro cdv A outer s H E hg hr as r as' ⟨p, rfl, rfl, rfl⟩
  have nd : List.Nodup (["rng", "number", "factors", "many", "turn", "whole", "due", "factor", "told", "flipped", "place", "sign", "further"] : List Str) := by decide +kernel
  have bi : Bi (CxB P w K mg base ["rng", "number", "factors", "many", "turn", "whole", "due", "factor", "told", "flipped", "place", "sign", "further"] "_law_product_right" (top 33) f cdv A outer s H E).mg := L.bi
  have c_Polynomial : ClsF (CxB P w K mg base ["rng", "number", "factors", "many", "turn", "whole", "due", "factor", "told", "flipped", "place", "sign", "further"] "_law_product_right" (top 33) f cdv A outer s H E).K CP ["own_row"] := L.c_Polynomial
  have q_Polynomial : KitF (CxB P w K mg base ["rng", "number", "factors", "many", "turn", "whole", "due", "factor", "told", "flipped", "place", "sign", "further"] "_law_product_right" (top 33) f cdv A outer s H E).K CP := L.q_Polynomial
  have h__law_choice : CallL (CxB P w K mg base ["rng", "number", "factors", "many", "turn", "whole", "due", "factor", "told", "flipped", "place", "sign", "further"] "_law_product_right" (top 33) f cdv A outer s H E) "_law_choice" [true, false] _ := ⟨(ok__law_choice L).call hg hr⟩
  have h_sign_runs : Call (CxB P w K mg base ["rng", "number", "factors", "many", "turn", "whole", "due", "factor", "told", "flipped", "place", "sign", "further"] "_law_product_right" (top 33) f cdv A outer s H E) "sign_runs" _ := (ok_sign_runs L).call hg hr
  have h_Polynomial___init__ := (ok_Polynomial___init__ L).kc L.mg_Polynomial hg hr (CxB P w K mg base ["rng", "number", "factors", "many", "turn", "whole", "due", "factor", "told", "flipped", "place", "sign", "further"] "_law_product_right" (top 33) f cdv A outer s H E)
  have h__law_draw : CallL (CxB P w K mg base ["rng", "number", "factors", "many", "turn", "whole", "due", "factor", "told", "flipped", "place", "sign", "further"] "_law_product_right" (top 33) f cdv A outer s H E) "_law_draw" [true, false] _ := ⟨(ok__law_draw L).call hg hr⟩
  have h__law_due : Call (CxB P w K mg base ["rng", "number", "factors", "many", "turn", "whole", "due", "factor", "told", "flipped", "place", "sign", "further"] "_law_product_right" (top 33) f cdv A outer s H E) "_law_due" _ := (ok__law_due L).call hg hr
  have h__law_factor : CallL (CxB P w K mg base ["rng", "number", "factors", "many", "turn", "whole", "due", "factor", "told", "flipped", "place", "sign", "further"] "_law_product_right" (top 33) f cdv A outer s H E) "_law_factor" [true, true, false] _ := ⟨(ok__law_factor L).call hg hr⟩
  have h__law_polynomial : Call (CxB P w K mg base ["rng", "number", "factors", "many", "turn", "whole", "due", "factor", "told", "flipped", "place", "sign", "further"] "_law_product_right" (top 33) f cdv A outer s H E) "_law_polynomial" _ := (ok__law_polynomial L).call hg hr
  have h_Polynomial___mul__ := GMt.oc (n := "mul") (ok_Polynomial___mul__ L) L.sf_Polynomial hg hr (CxB P w K mg base ["rng", "number", "factors", "many", "turn", "whole", "due", "factor", "told", "flipped", "place", "sign", "further"] "_law_product_right" (top 33) f cdv A outer s H E)
  have h_Polynomial___neg__ := (ok_Polynomial___neg__ L).nc hg hr (CxB P w K mg base ["rng", "number", "factors", "many", "turn", "whole", "due", "factor", "told", "flipped", "place", "sign", "further"] "_law_product_right" (top 33) f cdv A outer s H E)
  have h_Polynomial___add__ := GMt.oc (n := "add") (ok_Polynomial___add__ L) L.sf_Polynomial hg hr (CxB P w K mg base ["rng", "number", "factors", "many", "turn", "whole", "due", "factor", "told", "flipped", "place", "sign", "further"] "_law_product_right" (top 33) f cdv A outer s H E)
  have h_Polynomial___sub__ := GMt.oc (n := "sub") (ok_Polynomial___sub__ L) L.sf_Polynomial hg hr (CxB P w K mg base ["rng", "number", "factors", "many", "turn", "whole", "due", "factor", "told", "flipped", "place", "sign", "further"] "_law_product_right" (top 33) f cdv A outer s H E)
  have hrp : RpX (CxB P w K mg base ["rng", "number", "factors", "many", "turn", "whole", "due", "factor", "told", "flipped", "place", "sign", "further"] "_law_product_right" (top 33) f cdv A outer s H E) (ownR CP) 3 := (rpg L).x hg hr
  have k_sign_runs : CallK (CxB P w K mg base ["rng", "number", "factors", "many", "turn", "whole", "due", "factor", "told", "flipped", "place", "sign", "further"] "_law_product_right" (top 33) f cdv A outer s H E) "sign_runs" ["polynomial"] _ := (okK_sign_runs L).ck hg hr
  show WB _ [0] _ [.own (potD p), .un, .un, .un, .un, .un, .un, .un, .un, .un, .un, .un, .un] _
  have sD : ∀ (q : Pot) (m : Int), 0 < m → m < 1073741824 → S__law_draw CP [.own (potD q), .im (.int m)] (.im (.int (draw pc m q).1)) [.own (potD (draw pc m q).2), .im (.int m)] := fun q m h1 h2 => ⟨q, m, rfl, rfl, rfl, h1, h2⟩
  have sC : ∀ (q : Pot) (ns : List Int), 0 < ns.length → ns.length < 1000 → S__law_choice CP [.own (potD q), .im (.lst (il ns))] (.im (.int (pickM pc ns 0 q).1)) [.own (potD (pickM pc ns 0 q).2), .im (.lst (il ns))] := fun q ns h1 h2 => by
    have e := pick_map pc D.int ns 0 .non q h1
    exact ⟨q, ns.map D.int, rfl, by rw [e.1], by rw [e.2], by rw [List.length_map]; exact h1, by rw [List.length_map]; exact h2⟩
  obtain ⟨PP, hPP⟩ : ∃ PP, (prodM p).2 = PP := ⟨_, rfl⟩
  rw [hPP]
  have nb := num_bd p
  unfold prodM numM at hPP
  unfold numM at nb
  simp only [mseq, mret] at hPP nb
  have d1 := sD p t9 (by decide) (by decide)
  generalize draw pc t9 p = r1 at d1 hPP nb
  have c1 := sC r1.2 [1, -1, 0, 2, -3, t15, -1 - r1.1] (by simp) (by simp)
  generalize pickM pc [1, -1, 0, 2, -3, t15, -1 - r1.1] 0 r1.2 = r2 at c1 hPP nb
  walk_at "zs"
  show WB _ [0] _ [.own (potD r2.2), .im (.int r2.1), .un, .un, .un, .un, .un, .un, .un, .un, .un, .un, .un] _
  have d3 := sD r2.2 6 (by decide) (by decide)
  have b3 := draw_bd 6 (by decide) r2.2
  generalize draw pc 6 r2.2 = r3 at d3 b3 hPP
  walk_at "zs"
  show WB _ [0] _ [.own (potD r3.2), .im (.int r2.1), .own (.lst []), .im (.int r3.1), .un, .un, .un, .un, .un, .un, .un, .un, .un] _
  have g1 : Gr (gOf r3.1) := by
    unfold gOf
    split
    · exact .inl rfl
    · exact .inr rfl
  have er : rng 0 r3.1.toNat = (List.range r3.1.toNat).map fun i => D.int (0 + (i : Nat)) := rfl
  refine wb_forT (as := List.range r3.1.toNat) (cd := fun i => D.int (0 + (i : Nat))) (by walk_at "zWi") er (fun i ρ => ∃ (fs : List Fc) (q : Pot) (s4 : SV), facsM (gOf r3.1) i r3.2 = (fs, q) ∧ fs.length = i ∧ (∀ f ∈ fs, FcOk (67 + i) f) ∧ ρ = [.own (potD q), .im (.int r2.1), .own (.lst (fs.map facD)), .im (.int r3.1), s4, .un, .un, .un, .un, .un, .un, .un, .un]) ⟨[], r3.2, _, rfl, rfl, by simp, rfl⟩ ?_ ?_
  · rintro i x ρi hx ⟨fs, q, s4, e1, e2, e3, rfl⟩
    have hi : i < r3.1.toNat := by
      have := (List.getElem?_eq_some_iff.mp hx).1
      simpa using this
    refine ⟨_, wg_nm, ?_⟩
    have k1 : S__law_factor CP [.own (potD q), .own (.lst (fs.map facD)), .im (.int (gOf r3.1))] (.im (facD (facM fs (gOf r3.1) q).1)) [.own (potD (facM fs (gOf r3.1) q).2), .own (.lst (fs.map facD)), .im (.int (gOf r3.1))] := ⟨q, fs, _, rfl, rfl, rfl, g1, by omega⟩
    have ok := fac_ok (k := 67 + i) (by omega) g1 e3 q
    have es : facsM (gOf r3.1) (i + 1) r3.2 = (fs ++ [(facM fs (gOf r3.1) q).1], (facM fs (gOf r3.1) q).2) := by
      have : facsM (gOf r3.1) (i + 1) r3.2 = mseq (facM (facsM (gOf r3.1) i r3.2).1 (gOf r3.1)) (fun f => mret ((facsM (gOf r3.1) i r3.2).1 ++ [f])) (facsM (gOf r3.1) i r3.2).2 := rfl
      rw [this, e1]
      rfl
    generalize facM fs (gOf r3.1) q = fr at *
    have hz : (fs.map facD).length < 100000 := by rw [List.length_map]; omega
    have nxt : ∃ (fs' : List Fc) (q' : Pot) (s4 : SV), facsM (gOf r3.1) (i + 1) r3.2 = (fs', q') ∧ fs'.length = i + 1 ∧ (∀ f ∈ fs', FcOk (67 + (i + 1)) f) ∧ [.own (potD fr.2), .im (.int r2.1), .own (.lst (fs.map facD ++ [facD fr.1])), .im (.int r3.1), .im (.int (0 + (x : Nat))), .un, .un, .un, .un, .un, .un, .un, .un] = [.own (potD q'), .im (.int r2.1), .own (.lst (fs'.map facD)), .im (.int r3.1), s4, SV.un, .un, .un, .un, .un, .un, .un, .un] := ⟨fs ++ [fr.1], fr.2, _, es, by rw [List.length_append, e2]; rfl, fun f hf => by
      rcases List.mem_append.mp hf with hf | hf
      · exact (e3 f hf).mono (by omega)
      · rw [List.mem_singleton.mp hf]; exact ok, by rw [List.map_append]; rfl⟩
    by_cases h3 : r3.1 < 3
    · have z : decide (r3.1 < 3) = true := decide_eq_true h3
      have eg : gOf r3.1 = t9 := if_pos h3
      rw [eg] at k1
      walk_at "zs"
      exact wb_nil nxt
    · have z : decide (r3.1 < 3) = false := decide_eq_false h3
      have eg : gOf r3.1 = 1000 := if_neg h3
      rw [eg] at k1
      walk_at "zs"
      exact wb_nil nxt
  · rintro ρ' ⟨fs, q, s4, e1, e2, e3, rfl⟩
    rw [List.length_range] at e1 e2 e3
    have hl : fs.length ≤ 5 := by omega
    have hf : ∀ f ∈ fs, FcOk 72 f := fun f hf => (e3 f hf).mono (by omega)
    rw [e1] at hPP
    have s0 : S_Polynomial___init__ CP (.ins CP []) [.int r2.1] (.im .non) (pol CP (trim [r2.1])) := ⟨[r2.1], rfl, rfl, rfl, rfl, by simp⟩
    have k2 : S__law_due CP [.int r2.1, .lst (fs.map facD)] (.fr (.lst ((dueR r2.1 fs).map prD))) := ⟨r2.1, fs, rfl, rfl, hf, hl⟩
    have rn := due_ok (number := r2.1) hf hl
    have hdue := due_eq (number := r2.1) hf (by decide) (by decide)
    walk_at "zs"
    show WB _ [0] _ [.own (potD q), .im (.int r2.1), .im (.lst (fs.map facD)), .im (.int r3.1), s4, .own (pol CP (trim [r2.1])), .own (.lst ((dueR r2.1 fs).map prD)), .un, .un, .un, .un, .un, .un] _
    refine wb_frz 5 rfl ?_
    show WB _ [0] _ [.own (potD q), .im (.int r2.1), .im (.lst (fs.map facD)), .im (.int r3.1), s4, .im (pol CP (trim [r2.1])), .own (.lst ((dueR r2.1 fs).map prD)), .un, .un, .un, .un, .un, .un] _
    have hw : ∀ i, Bd 11 440 (wholeR r2.1 (fs.take i)) := fun i => by
      have := whole_Bd (k := 72) (l := 50) (number := r2.1) (fs := fs.take i) (by decide) nb (fun f h => hf f (List.mem_of_mem_take h)) (by rw [List.length_take]; omega)
      have ht : (fs.take i).length ≤ 5 := by rw [List.length_take]; omega
      exact this.mono (by omega) (by have := Nat.mul_le_mul_right (72 + 6) ht; omega)
    refine wb_forT (as := fs) (cd := facD) (by walk_at "zWi") rfl (fun i ρ => ∃ s7, ρ = [.own (potD q), .im (.int r2.1), .im (.lst (fs.map facD)), .im (.int r3.1), s4, .im (pol CP (wholeR r2.1 (fs.take i))), .own (.lst ((dueR r2.1 fs).map prD)), s7, .un, .un, .un, .un, .un]) ⟨_, rfl⟩ ?_ ?_
    · rintro i fc ρi hx ⟨s7, rfl⟩
      have ho := hf _ (List.mem_of_getElem? hx)
      have k3 : S__law_polynomial CP [facD fc] (.im (pol CP (rowF fc))) := ⟨fc, rfl, rfl, 72, ho⟩
      have k4 : S_Polynomial___mul__ CP [pol CP (wholeR r2.1 (fs.take i)), pol CP (rowF fc)] (.im (pol CP (wholeR r2.1 (fs.take (i + 1))))) := ⟨_, _, rfl, by rw [take_snoc hx, whole_snoc], (hw i).mono (by decide) (by decide), (row_Bd ho (by decide)).mono (by decide) (by decide)⟩
      refine ⟨_, wg_nm, ?_⟩
      walk_at "zs"
      exact wb_nil ⟨_, rfl⟩
    · rintro ρ' ⟨s7, rfl⟩
      have hwB := hw fs.length
      rw [List.take_length] at hwB ⊢
      have hTR := whole_TR r2.1 fs
      have hsg : sg (wholeR r2.1 fs) = sAt r2.1 fs := funext fun d => sg_whole d hf
      rw [← hsg] at hdue
      generalize wholeR r2.1 fs = W at *
      generalize dueR r2.1 fs = L at *
      have r1' : S_sign_runs CP [pol CP W] (.fr (.lst (L.map prD))) := ⟨W, rfl, by rw [hdue], hTR, hwB.mono (by decide) (by decide), hwB.1⟩
      obtain ⟨t1, ht1⟩ := (txRuns (own := ownR CP) rn).ex (m := 3) (by decide) (by decide)
      walk_at "zs"
      show WB _ [0] _ [.own (potD q), .im (.int r2.1), .im (.lst (fs.map facD)), .im (.int r3.1), s4, .im (pol CP W), .own (.lst (L.map prD)), s7, .own (.lst (L.map prD)), .un, .un, .un, .un] _
      have q1 : (!decide (t1 = t1) || !true) = false := by simp
      walk_at "zIF"
      have hz : (L.map prD).length < 100000 := by rw [List.length_map]; have := rn.1; omega
      walk_at "zs"
      show WB _ [0] _ [.own (potD q), .im (.int r2.1), .im (.lst (fs.map facD)), .im (.int r3.1), s4, .im (pol CP W), .own (.lst (L.map prD)), s7, .own (.lst (L.map prD ++ [.tup [.int 0, .int 0]])), .un, .un, .un, .un] _
      refine wb_go (ws_setL L prD (fun q => prD (neg2' q)) [("place", 10), ("sign", 11)] (by walk_at "zWi") rfl rfl (fun i x hx => ?_) (blkOk_by rfl) (by have := rn.1; omega) rfl rfl (Nat.le_of_ble_eq_true rfl) (by intro b hb; rcases List.mem_cons.mp hb with rfl | hb; exact ⟨of_decide_eq_true rfl, rfl⟩; cases hb)) ?_
      · walk_at "zLs"
      · have em : L.map (fun q => prD (neg2' q)) = (L.map neg2).map prD := by
          rw [List.map_map]
          exact List.map_congr_left fun q _ => by unfold neg2'; show prD (q.1, -q.2) = prD (q.1, 0 - q.2); rw [Int.zero_sub]
        rw [em]
        show WB _ [0] _ [.own (potD q), .im (.int r2.1), .im (.lst (fs.map facD)), .im (.int r3.1), s4, .im (pol CP W), .own (.lst (L.map prD)), s7, .own (.lst (L.map prD ++ [.tup [.int 0, .int 0]])), .own (.lst ((L.map neg2).map prD)), .un, .un, .un] _
        have r2' : S_Polynomial___neg__ CP [pol CP W] (.im (pol CP (trim (oppR W)))) := ⟨W, rfl, rfl, by have := hwB.1; omega⟩
        have r3' : S_sign_runs CP [pol CP (trim (oppR W))] (.fr (.lst ((L.map neg2).map prD))) := ⟨trim (oppR W), rfl, by
          rw [hdue, ← scan_neg]
          have e : sg (trim (oppR W)) = fun d => 0 - sg W d := funext fun d => by
            unfold sg
            rw [eval_trim, eval_opp, sgn_opp]
          rw [e]
          rfl, TR_trim _, (hwB.mono (m := 12) (l := 500) (by decide) (by decide)).opp.trim, by have := trim_len (oppR W); unfold oppR at *; rw [List.length_map] at this; have := hwB.1; omega⟩
        obtain ⟨t2, ht2⟩ := (txTwo (own := ownR CP) rn rn.flip).ex (m := 3) (by decide) (by decide)
        have q2 : (!decide (t2 = t2)) = false := by simp
        walk_at "zIF"
        show WB _ [0] _ [.own (potD q), .im (.int r2.1), .im (.lst (fs.map facD)), .im (.int r3.1), s4, .im (pol CP W), .im (.lst (L.map prD)), s7, .own (.lst (L.map prD ++ [.tup [.int 0, .int 0]])), .im (.lst ((L.map neg2).map prD)), .un, .un, .un] _
        have d5 := sD q 9 (by decide) (by decide)
        have b5 := draw_bd 9 (by decide) q
        generalize draw pc 9 q = r5 at d5 b5 hPP
        have d6 := sD r5.2 9 (by decide) (by decide)
        have b6 := draw_bd 9 (by decide) r5.2
        generalize draw pc 9 r5.2 = r6 at d6 b6 hPP
        have k5 : S_Polynomial___init__ CP (.ins CP []) [.int r5.1, .int 5, .int r6.1] (.im .non) (pol CP (trim [r5.1, 5, r6.1])) := ⟨[r5.1, 5, r6.1], rfl, rfl, rfl, rfl, by simp⟩
        walk_at "zs"
        subst hPP
        show WB _ [0] _ [.own (potD r6.2), .im (.int r2.1), .im (.lst (fs.map facD)), .im (.int r3.1), s4, .im (pol CP W), .im (.lst (L.map prD)), s7, .own (.lst (L.map prD ++ [.tup [.int 0, .int 0]])), .im (.lst ((L.map neg2).map prD)), .un, .un, .own (pol CP (trim [r5.1, 5, r6.1]))] _
        have hF : Bd 11 440 (trim [r5.1, 5, r6.1]) := Bd.trim ⟨by simp, fun a ha => by
          have e1 : (16 : Nat) ≤ 2 ^ 440 := Nat.le_trans (by decide : 16 ≤ 2 ^ 4) (Nat.pow_le_pow_right (by decide) (by decide))
          simp only [List.mem_cons, List.not_mem_nil, or_false] at ha
          rcases ha with rfl | rfl | rfl
          · omega
          · exact Nat.lt_of_lt_of_le (by decide) e1
          · omega⟩
        have hsF : scan (sg (trim [r5.1, 5, r6.1])) 1 NN none = [(1, 1)] := scan_all fun d hd => by
          unfold sg
          rw [eval_trim]
          show sgn (((0 * d + r6.1) * d + 5) * d + r5.1) = 1
          rw [Int.zero_mul, Int.zero_add]
          have m1 : 0 ≤ r6.1 * d := Int.mul_nonneg b6.1 (by omega)
          have m2 : 0 ≤ (r6.1 * d + 5) * d := Int.mul_nonneg (by omega) (by omega)
          have m3 : 5 * 1 ≤ (r6.1 * d + 5) * d := Int.mul_le_mul (by omega) hd (by decide) (by omega)
          exact sgn_pos (by omega)
        have hlF : (trim [r5.1, 5, r6.1]).length ≤ 11 := hF.1
        have hTF := TR_trim [r5.1, 5, r6.1]
        generalize trim [r5.1, 5, r6.1] = Fu at *
        have hA := (hwB.add hF).trim
        have hB := (hA.add ((hF.opp).mono (Nat.le_refl _) (by decide))).trim
        have w1 : S_Polynomial___add__ CP [pol CP W, pol CP Fu] (.im (pol CP (trim (addR W Fu)))) := ⟨W, Fu, rfl, rfl, by have := hwB.1; omega, by omega⟩
        have w2 : S_Polynomial___sub__ CP [pol CP (trim (addR W Fu)), pol CP Fu] (.im (pol CP (trim (addR (trim (addR W Fu)) (oppR Fu))))) := ⟨_, Fu, rfl, rfl, by have := hA.1; omega, by omega⟩
        have w3 : S_sign_runs CP [pol CP (trim (addR (trim (addR W Fu)) (oppR Fu)))] (.fr (.lst (L.map prD))) := ⟨_, rfl, by
          rw [hdue]
          have e : sg (trim (addR (trim (addR W Fu)) (oppR Fu))) = sg W := funext fun d => by
            unfold sg
            rw [eval_trim, eval_add, eval_trim, eval_add, eval_opp]
            congr 1
            omega
          rw [e], TR_trim _, hB.mono (by decide) (by decide), hB.1⟩
        have w4 : S_sign_runs CP [pol CP Fu] (.fr (.lst ([((1 : Int), (1 : Int))].map prD))) := ⟨Fu, rfl, by rw [hsF], hTF, hF.mono (by decide) (by decide), hlF⟩
        have ht7 : TxD (ownR CP) 3 (.lst ([((1 : Int), (1 : Int))].map prD)) "[(1, 1)]" := ⟨ten _, by decide, by decide⟩
        refine' wb_ret (r := .im (.bl true)) ?tt ?gg
        case' tt => refine' we_is (r := .im (.bl (decide (t1 = t1) && decide (("[(1, 1)]" : Str) = "[(1, 1)]")))) ?te (by simp)
        case' te => walk_at "zE"
        case' gg => walk_at "zG"
end
end K71
set_option maxRecDepth 100000
set_option maxHeartbeats 2000000
namespace K71
open PySem PySem.Spec PyProof.Rows L2 Evl Z ClX K75
def valsD (CP : Addr) : List D := [.non, .int 0, .bl true, .str "d", .lst [], .tup [.int 1, .int 2], .dct [], .lst [pol CP [1]]]
theorem vals_ok (CP : Addr) : ∀ d ∈ valsD CP, ∃ T t, d.kind = some T ∧ TxD (ownR CP) 3 d t := by
  have key : ∀ (d : D) (T : String), d.kind = some T → TxB (ownR CP) 3 90000 d → ∃ T t, d.kind = some T ∧ TxD (ownR CP) 3 d t := fun d T h1 h2 => by
    obtain ⟨t, ht⟩ := h2.ex (m := 3) (Nat.le_refl _) (Nat.le_refl _)
    exact ⟨T, t, h1, ht⟩
  have i1 : ∀ i : Int, i.natAbs < 2 ^ 10 → TxB (ownR CP) 0 11 (.int i) := fun i h => intB (by decide) (log_lt (by decide) h) (by decide)
  intro d hd
  unfold valsD at hd
  simp only [List.mem_cons, List.not_mem_nil, or_false] at hd
  rcases hd with rfl | rfl | rfl | rfl | rfl | rfl | rfl | rfl
  · exact key _ _ rfl (TxB.non.mono (by decide) (by decide))
  · exact key _ _ rfl ((i1 0 (by decide)).mono (by decide) (by decide))
  · exact key _ _ rfl ((TxB.bl true).mono (by decide) (by decide))
  · exact key _ _ rfl ⟨_, rfl, by decide +kernel, by decide⟩
  · exact key _ _ rfl ((TxB.lst (m := 0) (n := 0) (by simp)).mono (by decide) (by simp))
  · exact key _ _ rfl ((TxB.tup (m := 0) (n := 11) fun d hd => by
      rcases List.mem_cons.mp hd with rfl | hd
      · exact i1 1 (by decide)
      · rw [List.mem_singleton.mp hd]; exact i1 2 (by decide)).mono (by decide) (by simp))
  · exact key _ _ rfl (TxB.dct0.mono (by decide) (by decide))
  · refine key _ _ rfl ((TxB.lst (m := 0) (n := 4000) fun d hd => ?_).mono (by decide) (by simp))
    rw [List.mem_singleton.mp hd]
    have h1 := ownR_pol CP (row := [1]) (by simp) (by intro a ha; rw [List.mem_singleton.mp ha]; decide)
    refine ⟨polTxt [1], by simp only [D.txt]; exact h1, by decide +kernel, by simp only [D.deep]; exact Nat.le_refl _⟩
def turnsP (p : Pot) (i : Nat) : Pot := (loopM (fun _ (_ : Unit) => prodM) () i p).2
def rightP (p : Pot) : Pot := (draw pc 8 (turnsP p 3)).2
section
variable {P : Program} {w : World} {K : PySem.W.Frag} {mg : Str → Option Value} {base : Heap} {CP XP : Addr}
def S__law_right (CP : Addr) (as : List SV) (r : R) (as' : List SV) : Prop := ∃ (p : Pot), as = [.own (potD p)] ∧ r = .im (.bl true) ∧ as' = [.own (potD (rightP p))]
theorem ok__law_right (L : Lk P K mg CP XP) : GFn P w K mg base "_law_right" 13 (spG K (S__law_right CP)) := by
  refine gof L.f__law_right fun f fd F => ?_
  refine def_G (N := ["rng", "turn"]) (ps := ["rng"]) F ⟨rfl, rfl, rfl, by decide +kernel, rfl, by decide +kernel, by decide +kernel⟩ (F.binds (ps := ["rng"]) fun _ _ _ _ _ _ us hl => match us, hl with | [_], _ => rfl) (fun as r as' h => by obtain ⟨_, rfl, _⟩ := h; rfl) ?_
  rintro cdv A outer s H E hg hr as r as' ⟨p, rfl, rfl, rfl⟩
  have nd : List.Nodup (["rng", "turn"] : List Str) := by decide +kernel
  have bi : Bi (CxB P w K mg base ["rng", "turn"] "_law_right" (top 34) f cdv A outer s H E).mg := L.bi
  have c_Polynomial : ClsF (CxB P w K mg base ["rng", "turn"] "_law_right" (top 34) f cdv A outer s H E).K CP ["own_row"] := L.c_Polynomial
  have q_Polynomial : KitF (CxB P w K mg base ["rng", "turn"] "_law_right" (top 34) f cdv A outer s H E).K CP := L.q_Polynomial
  have h__law_refused : Call (CxB P w K mg base ["rng", "turn"] "_law_right" (top 34) f cdv A outer s H E) "_law_refused" _ := (ok__law_refused L).call hg hr
  have h__law_choice : CallL (CxB P w K mg base ["rng", "turn"] "_law_right" (top 34) f cdv A outer s H E) "_law_choice" [true, false] _ := ⟨(ok__law_choice L).call hg hr⟩
  have h__law_product_right : CallL (CxB P w K mg base ["rng", "turn"] "_law_right" (top 34) f cdv A outer s H E) "_law_product_right" [true] _ := ⟨(ok__law_product_right L).call hg hr⟩
  have h_Polynomial___init__ := (ok_Polynomial___init__ L).kc L.mg_Polynomial hg hr (CxB P w K mg base ["rng", "turn"] "_law_right" (top 34) f cdv A outer s H E)
  show WB _ [0] _ [.own (potD p), .un] _
  have er : rng 0 (3 : Int).toNat = (List.range 3).map fun i => D.int (0 + (i : Nat)) := rfl
  refine wb_forT (as := List.range 3) (cd := fun i => D.int (0 + (i : Nat))) (by walk_at "zWi") er (fun i ρ => ∃ s1, ρ = [.own (potD (turnsP p i)), s1]) ⟨_, rfl⟩ ?_ ?_
  · rintro i x ρi hx ⟨s1, rfl⟩
    refine ⟨_, wg_nm, ?_⟩
    have k1 : S__law_product_right CP [.own (potD (turnsP p i))] (.im (.bl true)) [.own (potD (turnsP p (i + 1)))] := ⟨turnsP p i, rfl, rfl, rfl⟩
    walk_at "zIF"
    exact wb_nil ⟨_, rfl⟩
  · rintro ρ' ⟨s1, rfl⟩
    rw [List.length_range]
    have k2 : S_Polynomial___init__ CP (.ins CP []) [.int 1] (.im .non) (pol CP [1]) := ⟨[1], rfl, rfl, rfl, rfl, by simp⟩
    have k3 : S__law_choice CP [.own (potD (turnsP p 3)), .im (.lst (valsD CP))] (.im (pickM pc (valsD CP) .non (turnsP p 3)).1) [.own (potD (rightP p)), .im (.lst (valsD CP))] := ⟨turnsP p 3, valsD CP, rfl, rfl, rfl, by show 0 < 8; decide, by show 8 < 1000; decide⟩
    have hm : (pickM pc (valsD CP) .non (turnsP p 3)).1 ∈ valsD CP := MP.pick (φ := fun d => d ∈ valsD CP) pc (by unfold valsD; simp) (fun d hd => hd) (turnsP p 3)
    obtain ⟨T, t, h1, h2⟩ := vals_ok CP _ hm
    have k4 : S__law_refused CP [(pickM pc (valsD CP) .non (turnsP p 3)).1] (.im (.bl true)) := ⟨_, T, t, rfl, rfl, h1, h2⟩
    generalize (pickM pc (valsD CP) .non (turnsP p 3)).1 = d at *
    walk_at "zs"
end
section
variable {P : Program} {w : World} {K : PySem.W.Frag} {mg : Str → Option Value} {base : Heap} {CP XP : Addr}
def S_law (CP : Addr) (ds : List D) (r : R) : Prop := ∃ (ns : List Int), ds = [(.lst (il ns))] ∧ r = .im (.bl true)
theorem ok_law (L : Lk P K mg CP XP) : GFn P w K mg base "law" 14 (spP K (S_law CP)) := by
  refine gof L.f_law fun f fd F => ?_
  refine def_P (N := ["script", "k"]) (ps := ["script"]) F ⟨rfl, rfl, rfl, by decide +kernel, rfl, by decide +kernel, by decide +kernel⟩ (F.binds (ps := ["script"]) fun _ _ _ _ _ _ us hl => match us, hl with | [_], _ => rfl) (fun ds r h => by obtain ⟨_, rfl, _⟩ := h; rfl) ?_
  rintro cdv A outer s H E hg hr ds r ⟨ns, rfl, rfl⟩
  have nd : List.Nodup (["script", "k"] : List Str) := by decide +kernel
  have bi : Bi (CxB P w K mg base ["script", "k"] "law" (top 35) f cdv A outer s H E).mg := L.bi
  have c_Polynomial : ClsF (CxB P w K mg base ["script", "k"] "law" (top 35) f cdv A outer s H E).K CP ["own_row"] := L.c_Polynomial
  have q_Polynomial : KitF (CxB P w K mg base ["script", "k"] "law" (top 35) f cdv A outer s H E).K CP := L.q_Polynomial
  have h__law_right : CallL (CxB P w K mg base ["script", "k"] "law" (top 35) f cdv A outer s H E) "_law_right" [true] _ := ⟨(ok__law_right L).call hg hr⟩
  have h__law_rng : Call (CxB P w K mg base ["script", "k"] "law" (top 35) f cdv A outer s H E) "_law_rng" _ := (ok__law_rng L).call hg hr
  show WB _ [] _ [.im (.lst (il ns)), .un] _
  have l1 : (((il ns).length : Nat) : Int) = ns.length := by unfold il; rw [List.length_map]
  obtain ⟨n, hn, hn4⟩ : ∃ n : Nat, max 1 (min (((il ns).length : Nat) : Int) 4) = (n : Int) ∧ n ≤ 4 := ⟨(max 1 (min (((il ns).length : Nat) : Int) 4)).toNat, by omega, by omega⟩
  have er : rng 0 (max 1 (min (((il ns).length : Nat) : Int) 4)).toNat = (List.range n).map fun i => D.int (i : Nat) := by rw [hn]; simp [rng]
  refine' wb_ret (r := .im (.bl true)) ?tt (.im _)
  case' tt => refine' we_is (r := .im (.bl (((List.range n).map fun _ => true).all id))) ?ta (by simp)
  case' ta => refine' we_all_ (r1 := .fr (.lst ((List.range n).map fun _ => D.bl true))) bi ?lc rfl (by rw [List.map_map]; rfl)
  case' lc => refine' we_lcL (List.range n) (fun i => D.int (i : Nat)) (fun _ => .bl true) [("k", 1)] ?wi er ?rw (fun i k hk => ?el) (blkOk_by rfl) (by rw [List.length_range]; omega) ?nb
  case' wi => refine' Z.wi_r1 ?gg ?aa ?cc
  case gg => assumption
  case' aa => refine' Z.we_mx ?gx ?ax
  case gx => assumption
  case' ax => walk_at "zA"
  case cc => omega
  case rw => rfl
  case nb => intro b hb; cases hb
  have hk2 : k < 4 := by
    obtain ⟨h1, h2⟩ := List.getElem?_eq_some_iff.mp hk
    simp at h1 h2
    omega
  have s1 : S__law_rng CP [.lst (il ns), .int k] (.fr (potD (potOf ns k))) := ⟨ns, k, rfl, rfl, by omega⟩
  have s2 : S__law_right CP [.own (potD (potOf ns k))] (.im (.bl true)) [.own (potD (rightP (potOf ns k)))] := ⟨_, rfl, rfl, rfl⟩
  walk_at "zLs"
end
end K71
open PySem PySem.W PyProof.Rows
set_option maxRecDepth 100000 in
set_option maxHeartbeats 0 in
theorem PySem.Challenge.cw_slotmeans_k71_sign_runs_holds : PySem.Challenge.rw_slotmeans_k71_sign_runs.Holds := by
  w_on; o_law; k_head; (case hw => w_witness2)
  k_fill
  refine Z.walk_G (l := PySem.Challenge.rw_slotmeans_k71_sign_runs) (n := 63) (k := 14) (S := fun ds r => ∃ ns : List Int, ds = [Z.D.lst (ns.map Z.D.int)] ∧ r = Z.R.im (Z.D.bl true)) rfl (by decide) rfl ⟨rfl, by decide, by decide⟩ (fun w h Y => PySem.W.kIn_of Y) ?F fun ns hl hb => ⟨ns, rfl, rfl⟩
  case F =>
    intro w mg fa h KX G hfa base _ _
    refine' Z.GFn.fn (K := _) (K71.ok_law (P := _) (w := _) (base := base) (K := _) (mg := mg) (CP := _) (XP := _) { bi := ?k_bi, c_Polynomial := ?k_c_Polynomial, mg_Polynomial := ?k_mg_Polynomial, sf_Polynomial := ?k_sf_Polynomial, q_Polynomial := ?k_q_Polynomial, er_InvalidPolynomial := ?k_er_InvalidPolynomial, xm_InvalidPolynomial := ?k_xm_InvalidPolynomial, f_is_integer := ?k_f_is_integer, f_added_rows := ?k_f_added_rows, f_multiplied_rows := ?k_f_multiplied_rows, f_opposite_row := ?k_f_opposite_row, i_Polynomial := ?k_i_Polynomial, p_Polynomial_degree := ?k_p_Polynomial_degree, m_Polynomial_coefficients := ?k_m_Polynomial_coefficients, m_Polynomial_at := ?k_m_Polynomial_at, m_Polynomial___add__ := ?k_m_Polynomial___add__, m_Polynomial___sub__ := ?k_m_Polynomial___sub__, m_Polynomial___mul__ := ?k_m_Polynomial___mul__, m_Polynomial___neg__ := ?k_m_Polynomial___neg__, m_Polynomial___eq__ := ?k_m_Polynomial___eq__, m_Polynomial___repr__ := ?k_m_Polynomial___repr__, f_row_of := ?k_f_row_of, f_sign_at := ?k_f_sign_at, f_step_of := ?k_f_step_of, f_first_other := ?k_f_first_other, f_runs_in := ?k_f_runs_in, f_joined_runs := ?k_f_joined_runs, f_one_sign := ?k_f_one_sign, f_sign_runs := ?k_f_sign_runs, f__law_rng := ?k_f__law_rng, f__law_draw := ?k_f__law_draw, f__law_choice := ?k_f__law_choice, f__law_sign := ?k_f__law_sign, f__law_factor := ?k_f__law_factor, f__law_polynomial := ?k_f__law_polynomial, f__law_sign_at := ?k_f__law_sign_at, f__law_places := ?k_f__law_places, f__law_due := ?k_f__law_due, f__law_refused := ?k_f__law_refused, f__law_product_right := ?k_f__law_product_right, f__law_right := ?k_f__law_right, f_law := ?k_f_law, k_PP := ?k_k_PP }) hfa
    (case k_mg_Polynomial => exact PySem.W.mg_of KX G (by k_is))
    (case k_er_InvalidPolynomial => refine' ⟨⟨_, _, _, "ValueError", "ValueError.__init__", "ValueError.__new__", [.type "ValueError", .type "Exception", .type "BaseException", .type "object"], ?zT, ?zS, ?zF⟩, ?zo, ?za, ?zm⟩; (case zm => exact PySem.W.mg_of KX G (by k_is)); (case zT => refine' { FB := PySem.F.excBase_ValueError, q := ?xq, init := ?xinit, tI := ?xtI, kp := ?xkp, exC := ?xexC, tyC := ?xtyC }; (case xq => kx_is); (case xinit => first | k_is | kx_is | rfl); (case xtI => first | k_is | kx_is | rfl); (case xkp => first | k_is | kx_is | rfl); (case xexC => first | k_is | kx_is | rfl); (case xtyC => first | k_is | kx_is | rfl)); (case zS => refine' { FB := PySem.F.excBase_ValueError, KF := PySem.W.kxs_ValueError, q := ?yq, sub := ?ysub, opq := ?yopq, init := ?yinit, isB := ?yisB }; (case yq => kx_is); (case ysub => first | k_is | kx_is | rfl); (case yopq => first | k_is | kx_is | rfl); (case yinit => first | k_is | kx_is | rfl); (case yisB => first | k_is | kx_is | rfl)); (case zF => refine' Z.sup_mk ?zl ?zco ?zfl ?zhv ?zhf ?zce ?zcD ?ztp; (case zl => first | k_is | kx_is | rfl); (case zco => first | k_is | kx_is | rfl); (case zfl => first | k_is | kx_is | rfl); (case zhv => rfl); (case zhf => rfl); (case zce => first | k_is | kx_is | rfl); (case zcD => first | k_is | kx_is | rfl); (case ztp => rfl)); (case zo => refine' Z.oex_of ?oq ?od ?osa ?oex ?oty ?okc; (case oq => kx_is); (case od => first | k_is | kx_is | rfl); (case osa => first | k_is | kx_is | rfl); (case oex => first | k_is | kx_is | rfl); (case oty => first | k_is | kx_is | rfl); (case okc => first | k_is | kx_is | rfl)); (case za => refine' ⟨⟨?ag, ?ah, ?ax, ?ad⟩, ?an⟩; (case ag => first | k_is | kx_is | rfl); (case ah => first | k_is | kx_is | rfl); (case ax => first | k_is | kx_is | rfl); (case ad => first | k_is | kx_is | rfl); (case an => intro f hf; rw [List.mem_singleton.mp hf]; show PySem.W.findIn _ _ _ = some none; k_is)))
    (case k_bi => refine' ⟨fun x hx => ?kx⟩; simp only [Z.bltnNames, List.mem_cons, List.not_mem_nil, or_false] at hx; (repeat' (rcases hx with rfl | hx)); (all_goals (try subst hx)); (all_goals exact PySem.W.mg_none_of KX G (by k_is)))
    (case k_c_Polynomial => refine' ⟨?cl, ?na, ?isc⟩; (case cl => exact ⟨by k_is, by k_is, by k_is, by k_is⟩); (case na => (intro f hf; simp only [List.mem_cons, List.not_mem_nil, or_false] at hf; (repeat' (rcases hf with rfl | hf)); (all_goals (try subst hf)); (all_goals (show PySem.W.findIn _ _ _ = some none; k_is)))); (case isc => exact ⟨⟨by k_is, by k_is, by k_is, by k_is⟩, by k_is, by k_is, by k_is, by k_is, Z.kit_self⟩))
    (case k_sf_Polynomial => first | k_is | kx_is | rfl)
    (case k_q_Polynomial => refine' ⟨?ot, ?to⟩; (case ot => (intro T hT; simp only [Z.kitNames, List.mem_cons, List.not_mem_nil, or_false] at hT; (repeat' (rcases hT with rfl | hT)); (all_goals (try subst hT)); (all_goals (first | k_is | kx_is | rfl)))); (case to => (intro T hT; simp only [Z.kitNames, List.mem_cons, List.not_mem_nil, or_false] at hT; (repeat' (rcases hT with rfl | hT)); (all_goals (try subst hT)); (all_goals (first | k_is | kx_is | rfl)))))
    (case k_xm_InvalidPolynomial => exact PySem.W.exm_ref (by k_is) (by k_is) (by k_is) (by k_is))
    (case k_f_is_integer => (refine' Z.fat_mk KX G ?a ?l ?c ?k; (case a => first | k_is | kx_is | rfl); (case l => first | k_is | kx_is | rfl); (case c => first | k_is | kx_is | rfl); (case k => first | k_is | kx_is | rfl)))
    (case k_f_added_rows => (refine' Z.fat_mk KX G ?a ?l ?c ?k; (case a => first | k_is | kx_is | rfl); (case l => first | k_is | kx_is | rfl); (case c => first | k_is | kx_is | rfl); (case k => first | k_is | kx_is | rfl)))
    (case k_f_multiplied_rows => (refine' Z.fat_mk KX G ?a ?l ?c ?k; (case a => first | k_is | kx_is | rfl); (case l => first | k_is | kx_is | rfl); (case c => first | k_is | kx_is | rfl); (case k => first | k_is | kx_is | rfl)))
    (case k_f_opposite_row => (refine' Z.fat_mk KX G ?a ?l ?c ?k; (case a => first | k_is | kx_is | rfl); (case l => first | k_is | kx_is | rfl); (case c => first | k_is | kx_is | rfl); (case k => first | k_is | kx_is | rfl)))
    (case k_i_Polynomial => (refine' Z.iat_mk ?a ?i ?l ?c ?k ?mk ?kc; (case a => first | k_is | kx_is | rfl); (case i => first | k_is | kx_is | rfl); (case l => first | k_is | kx_is | rfl); (case c => first | k_is | kx_is | rfl); (case k => first | k_is | kx_is | rfl); (case mk => first | k_is | kx_is | rfl); (case kc => first | k_is | kx_is | rfl)))
    (case k_p_Polynomial_degree => (refine' Z.pat_mk ?a ?g ?t ?rc ?l ?c ?k; (case a => first | k_is | kx_is | rfl); (case g => first | k_is | kx_is | rfl); (case t => first | k_is | kx_is | rfl); (case rc => first | k_is | kx_is | rfl); (case l => first | k_is | kx_is | rfl); (case c => first | k_is | kx_is | rfl); (case k => first | k_is | kx_is | rfl)))
    (case k_m_Polynomial_coefficients => (refine' Z.mat_mk ?a ?i ?l ?c ?k; (case a => first | k_is | kx_is | rfl); (case i => first | k_is | kx_is | rfl); (case l => first | k_is | kx_is | rfl); (case c => first | k_is | kx_is | rfl); (case k => first | k_is | kx_is | rfl)))
    (case k_m_Polynomial_at => (refine' Z.mat_mk ?a ?i ?l ?c ?k; (case a => first | k_is | kx_is | rfl); (case i => first | k_is | kx_is | rfl); (case l => first | k_is | kx_is | rfl); (case c => first | k_is | kx_is | rfl); (case k => first | k_is | kx_is | rfl)))
    (case k_m_Polynomial___add__ => (refine' Z.mat_mk ?a ?i ?l ?c ?k; (case a => first | k_is | kx_is | rfl); (case i => first | k_is | kx_is | rfl); (case l => first | k_is | kx_is | rfl); (case c => first | k_is | kx_is | rfl); (case k => first | k_is | kx_is | rfl)))
    (case k_m_Polynomial___sub__ => (refine' Z.mat_mk ?a ?i ?l ?c ?k; (case a => first | k_is | kx_is | rfl); (case i => first | k_is | kx_is | rfl); (case l => first | k_is | kx_is | rfl); (case c => first | k_is | kx_is | rfl); (case k => first | k_is | kx_is | rfl)))
    (case k_m_Polynomial___mul__ => (refine' Z.mat_mk ?a ?i ?l ?c ?k; (case a => first | k_is | kx_is | rfl); (case i => first | k_is | kx_is | rfl); (case l => first | k_is | kx_is | rfl); (case c => first | k_is | kx_is | rfl); (case k => first | k_is | kx_is | rfl)))
    (case k_m_Polynomial___neg__ => (refine' Z.mat_mk ?a ?i ?l ?c ?k; (case a => first | k_is | kx_is | rfl); (case i => first | k_is | kx_is | rfl); (case l => first | k_is | kx_is | rfl); (case c => first | k_is | kx_is | rfl); (case k => first | k_is | kx_is | rfl)))
    (case k_m_Polynomial___eq__ => (refine' Z.mat_mk ?a ?i ?l ?c ?k; (case a => first | k_is | kx_is | rfl); (case i => first | k_is | kx_is | rfl); (case l => first | k_is | kx_is | rfl); (case c => first | k_is | kx_is | rfl); (case k => first | k_is | kx_is | rfl)))
    (case k_m_Polynomial___repr__ => (refine' Z.mat_mk ?a ?i ?l ?c ?k; (case a => first | k_is | kx_is | rfl); (case i => first | k_is | kx_is | rfl); (case l => first | k_is | kx_is | rfl); (case c => first | k_is | kx_is | rfl); (case k => first | k_is | kx_is | rfl)))
    (case k_f_row_of => (refine' Z.fat_mk KX G ?a ?l ?c ?k; (case a => first | k_is | kx_is | rfl); (case l => first | k_is | kx_is | rfl); (case c => first | k_is | kx_is | rfl); (case k => first | k_is | kx_is | rfl)))
    (case k_f_sign_at => (refine' Z.fat_mk KX G ?a ?l ?c ?k; (case a => first | k_is | kx_is | rfl); (case l => first | k_is | kx_is | rfl); (case c => first | k_is | kx_is | rfl); (case k => first | k_is | kx_is | rfl)))
    (case k_f_step_of => (refine' Z.fat_mk KX G ?a ?l ?c ?k; (case a => first | k_is | kx_is | rfl); (case l => first | k_is | kx_is | rfl); (case c => first | k_is | kx_is | rfl); (case k => first | k_is | kx_is | rfl)))
    (case k_f_first_other => (refine' Z.fat_mk KX G ?a ?l ?c ?k; (case a => first | k_is | kx_is | rfl); (case l => first | k_is | kx_is | rfl); (case c => first | k_is | kx_is | rfl); (case k => first | k_is | kx_is | rfl)))
    (case k_f_runs_in => (refine' Z.fat_mk KX G ?a ?l ?c ?k; (case a => first | k_is | kx_is | rfl); (case l => first | k_is | kx_is | rfl); (case c => first | k_is | kx_is | rfl); (case k => first | k_is | kx_is | rfl)))
    (case k_f_joined_runs => (refine' Z.fat_mk KX G ?a ?l ?c ?k; (case a => first | k_is | kx_is | rfl); (case l => first | k_is | kx_is | rfl); (case c => first | k_is | kx_is | rfl); (case k => first | k_is | kx_is | rfl)))
    (case k_f_one_sign => (refine' Z.fat_mk KX G ?a ?l ?c ?k; (case a => first | k_is | kx_is | rfl); (case l => first | k_is | kx_is | rfl); (case c => first | k_is | kx_is | rfl); (case k => first | k_is | kx_is | rfl)))
    (case k_f_sign_runs => (refine' Z.fat_mk KX G ?a ?l ?c ?k; (case a => first | k_is | kx_is | rfl); (case l => first | k_is | kx_is | rfl); (case c => first | k_is | kx_is | rfl); (case k => first | k_is | kx_is | rfl)))
    (case k_f__law_rng => (refine' Z.fat_mk KX G ?a ?l ?c ?k; (case a => first | k_is | kx_is | rfl); (case l => first | k_is | kx_is | rfl); (case c => first | k_is | kx_is | rfl); (case k => first | k_is | kx_is | rfl)))
    (case k_f__law_draw => (refine' Z.fat_mk KX G ?a ?l ?c ?k; (case a => first | k_is | kx_is | rfl); (case l => first | k_is | kx_is | rfl); (case c => first | k_is | kx_is | rfl); (case k => first | k_is | kx_is | rfl)))
    (case k_f__law_choice => (refine' Z.fat_mk KX G ?a ?l ?c ?k; (case a => first | k_is | kx_is | rfl); (case l => first | k_is | kx_is | rfl); (case c => first | k_is | kx_is | rfl); (case k => first | k_is | kx_is | rfl)))
    (case k_f__law_sign => (refine' Z.fat_mk KX G ?a ?l ?c ?k; (case a => first | k_is | kx_is | rfl); (case l => first | k_is | kx_is | rfl); (case c => first | k_is | kx_is | rfl); (case k => first | k_is | kx_is | rfl)))
    (case k_f__law_factor => (refine' Z.fat_mk KX G ?a ?l ?c ?k; (case a => first | k_is | kx_is | rfl); (case l => first | k_is | kx_is | rfl); (case c => first | k_is | kx_is | rfl); (case k => first | k_is | kx_is | rfl)))
    (case k_f__law_polynomial => (refine' Z.fat_mk KX G ?a ?l ?c ?k; (case a => first | k_is | kx_is | rfl); (case l => first | k_is | kx_is | rfl); (case c => first | k_is | kx_is | rfl); (case k => first | k_is | kx_is | rfl)))
    (case k_f__law_sign_at => (refine' Z.fat_mk KX G ?a ?l ?c ?k; (case a => first | k_is | kx_is | rfl); (case l => first | k_is | kx_is | rfl); (case c => first | k_is | kx_is | rfl); (case k => first | k_is | kx_is | rfl)))
    (case k_f__law_places => (refine' Z.fat_mk KX G ?a ?l ?c ?k; (case a => first | k_is | kx_is | rfl); (case l => first | k_is | kx_is | rfl); (case c => first | k_is | kx_is | rfl); (case k => first | k_is | kx_is | rfl)))
    (case k_f__law_due => (refine' Z.fat_mk KX G ?a ?l ?c ?k; (case a => first | k_is | kx_is | rfl); (case l => first | k_is | kx_is | rfl); (case c => first | k_is | kx_is | rfl); (case k => first | k_is | kx_is | rfl)))
    (case k_f__law_refused => (refine' Z.fat_mk KX G ?a ?l ?c ?k; (case a => first | k_is | kx_is | rfl); (case l => first | k_is | kx_is | rfl); (case c => first | k_is | kx_is | rfl); (case k => first | k_is | kx_is | rfl)))
    (case k_f__law_product_right => (refine' Z.fat_mk KX G ?a ?l ?c ?k; (case a => first | k_is | kx_is | rfl); (case l => first | k_is | kx_is | rfl); (case c => first | k_is | kx_is | rfl); (case k => first | k_is | kx_is | rfl)))
    (case k_f__law_right => (refine' Z.fat_mk KX G ?a ?l ?c ?k; (case a => first | k_is | kx_is | rfl); (case l => first | k_is | kx_is | rfl); (case c => first | k_is | kx_is | rfl); (case k => first | k_is | kx_is | rfl)))
    (case k_f_law => (refine' Z.fat_mk KX G ?a ?l ?c ?k; (case a => first | k_is | kx_is | rfl); (case l => first | k_is | kx_is | rfl); (case c => first | k_is | kx_is | rfl); (case k => first | k_is | kx_is | rfl)))
    (case k_k_PP => exact Z.kit_self)
