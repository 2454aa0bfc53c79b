import PyProof.Rows.All
import Wide.All
import OpenK.AllK
import Wide.FinOn
import HandS.ForMost
import HandS.ForExc
import HandS.Wide
import HandS.Defaults
import HandS.Conv
import HandS.Star
import HandS.IsInst
import HandS.Gcd
import PySem.Challenge.RW_peermend_k03_counts
section
set_option Elab.async false
set_option maxRecDepth 100000
set_option maxHeartbeats 4000000
/-! M0: data, owned trees, what they stand for in the abstract heap. -/
namespace ML
open PySem L2

/-- frozen data -/
inductive D where
  | non | bl (b : Bool) | int (i : Int) | str (s : Str)
  | lst (xs : List D) | tup (xs : List D) | wl (xs : List D)

/-- what a slot holds: nothing known; frozen data; an owned list, an owned tuple; a list that is owned, but read only for now -/
inductive T where
  | un | fz (d : D) | lst (ts : List T) | tup (ts : List T) | rl (ds : List D)

abbrev Env := List T

/-- the zones: frozen; kept as it is (the frozen among it); lent: read only for now -/
structure Zn where
  F : Hp
  B : Hp
  R : Hp

section
variable (K : PySem.W.Frag)
mutual
def RepD (F : Hp) : D → V → Prop
  | .non, v => v = .non
  | .bl b, v => v = .bl b
  | .int i, v => v = .int i
  | .str s, v => v = .str s
  | .lst xs, v => ∃ p vs, v = .ref p ∧ F p = some (.lst vs) ∧ RepDs F xs vs
  | .tup xs, v => ∃ p vs, v = .ref p ∧ SqT K F p vs ∧ RepDs F xs vs
  | .wl xs, v => ∃ p vs, v = .ref p ∧ SqL K F p vs ∧ RepDs F xs vs
def RepDs (F : Hp) : List D → List V → Prop
  | [], vs => vs = []
  | d :: ds, vs => ∃ v vs', vs = v :: vs' ∧ RepD F d v ∧ RepDs F ds vs'
end
mutual
def RepT (Z : Zn) (H : Hp) : T → V → List Addr → Prop
  | .un, _, fp => fp = []
  | .fz d, v, fp => RepD K Z.F d v ∧ fp = []
  | .lst ts, v, fp => ∃ p vs fs, v = .ref p ∧ H p = some (.lst vs) ∧ (Z.B p = none ∧ Z.R p = none) ∧ RepTs Z H ts vs fs ∧ fp = p :: fs
  | .tup ts, v, fp => ∃ p vs fs, v = .ref p ∧ H p = some (.tup vs) ∧ (Z.B p = none ∧ Z.R p = none) ∧ RepTs Z H ts vs fs ∧ fp = p :: fs
  | .rl ds, v, fp => ∃ p vs, v = .ref p ∧ Z.R p = some (.lst vs) ∧ (Z.B p = none ∧ H p = some (.lst vs)) ∧ RepDs K Z.F ds vs ∧ fp = [p]
def RepTs (Z : Zn) (H : Hp) : List T → List V → List Addr → Prop
  | [], vs, fp => vs = [] ∧ fp = []
  | t :: ts, vs, fp => ∃ v vs' f1 f2, vs = v :: vs' ∧ RepT Z H t v f1 ∧ RepTs Z H ts vs' f2 ∧ fp = f1 ++ f2
end
end

section
variable {K : PySem.W.Frag} {F F' H H' : Hp} {Z Z' : Zn}
theorem sqT_mono {a : Addr} {xs : List V} (e : Same F F') (h : SqT K F a xs) : SqT K F' a xs := by
  rcases h with (h | ⟨o, h⟩) | h
  · exact .inl (.inl (e _ _ h))
  · exact .inl (.inr ⟨o, e _ _ h⟩)
  · exact .inr h
mutual
theorem RepD.mono (e : Same F F') : ∀ (d : D) (v : V), RepD K F d v → RepD K F' d v
  | .non, _, h => by simpa [RepD] using h
  | .bl _, _, h => by simpa [RepD] using h
  | .int _, _, h => by simpa [RepD] using h
  | .str _, _, h => by simpa [RepD] using h
  | .lst xs, v, h => by
    simp only [RepD] at h ⊢
    obtain ⟨p, vs, h1, h2, h3⟩ := h
    exact ⟨p, vs, h1, e _ _ h2, RepDs.mono e xs vs h3⟩
  | .tup xs, v, h => by
    simp only [RepD] at h ⊢
    obtain ⟨p, vs, h1, h2, h3⟩ := h
    exact ⟨p, vs, h1, sqT_mono e h2, RepDs.mono e xs vs h3⟩
  | .wl xs, v, h => by
    simp only [RepD] at h ⊢
    obtain ⟨p, vs, h1, h2, h3⟩ := h
    exact ⟨p, vs, h1, e.seq h2, RepDs.mono e xs vs h3⟩
theorem RepDs.mono (e : Same F F') : ∀ (ds : List D) (vs : List V), RepDs K F ds vs → RepDs K F' ds vs
  | [], _, h => by simpa [RepDs] using h
  | d :: ds, vs, h => by
    simp only [RepDs] at h ⊢
    obtain ⟨v, vs', h1, h2, h3⟩ := h
    exact ⟨v, vs', h1, RepD.mono e d v h2, RepDs.mono e ds vs' h3⟩
end
mutual
theorem RepT.frame (e : Same Z.F Z'.F) : ∀ (t : T) (v : V) (fp : List Addr), RepT K Z H t v fp → (∀ a ∈ fp, Z'.B a = Z.B a ∧ Z'.R a = Z.R a) → (∀ a ∈ fp, H' a = H a) → RepT K Z' H' t v fp
  | .un, _, _, h, _, _ => by simpa [RepT] using h
  | .fz d, v, fp, h, _, _ => by
    simp only [RepT] at h ⊢
    exact ⟨h.1.mono e, h.2⟩
  | .lst ts, v, fp, h, hb, hh => by
    simp only [RepT] at h ⊢
    obtain ⟨p, vs, fs, h1, h2, h3, h4, h5⟩ := h
    subst h5
    refine ⟨p, vs, fs, h1, ?_, ?_, RepTs.frame e ts vs fs h4 (fun a ha => hb a (List.mem_cons_of_mem _ ha)) (fun a ha => hh a (List.mem_cons_of_mem _ ha)), rfl⟩
    · rw [hh p List.mem_cons_self]; exact h2
    · rw [(hb p List.mem_cons_self).1, (hb p List.mem_cons_self).2]; exact h3
  | .tup ts, v, fp, h, hb, hh => by
    simp only [RepT] at h ⊢
    obtain ⟨p, vs, fs, h1, h2, h3, h4, h5⟩ := h
    subst h5
    refine ⟨p, vs, fs, h1, ?_, ?_, RepTs.frame e ts vs fs h4 (fun a ha => hb a (List.mem_cons_of_mem _ ha)) (fun a ha => hh a (List.mem_cons_of_mem _ ha)), rfl⟩
    · rw [hh p List.mem_cons_self]; exact h2
    · rw [(hb p List.mem_cons_self).1, (hb p List.mem_cons_self).2]; exact h3
  | .rl ds, v, fp, h, hb, hh => by
    simp only [RepT] at h ⊢
    obtain ⟨p, vs, h1, h2, h3, h4, h5⟩ := h
    subst h5
    refine ⟨p, vs, h1, ?_, ?_, h4.mono e, rfl⟩
    · rw [(hb p List.mem_cons_self).2]; exact h2
    · rw [(hb p List.mem_cons_self).1, hh p List.mem_cons_self]; exact h3
theorem RepTs.frame (e : Same Z.F Z'.F) : ∀ (ts : List T) (vs : List V) (fp : List Addr), RepTs K Z H ts vs fp → (∀ a ∈ fp, Z'.B a = Z.B a ∧ Z'.R a = Z.R a) → (∀ a ∈ fp, H' a = H a) → RepTs K Z' H' ts vs fp
  | [], _, _, h, _, _ => by simpa [RepTs] using h
  | t :: ts, vs, fp, h, hb, hh => by
    simp only [RepTs] at h ⊢
    obtain ⟨v, vs', f1, f2, h1, h2, h3, h4⟩ := h
    subst h4
    exact ⟨v, vs', f1, f2, h1, RepT.frame e t v f1 h2 (fun a ha => hb a (List.mem_append_left _ ha)) (fun a ha => hh a (List.mem_append_left _ ha)),
      RepTs.frame e ts vs' f2 h3 (fun a ha => hb a (List.mem_append_right _ ha)) (fun a ha => hh a (List.mem_append_right _ ha)), rfl⟩
end
mutual
/-- what is owned stands in the heap -/
theorem RepT.there : ∀ (t : T) (v : V) (fp : List Addr), RepT K Z H t v fp → ∀ a ∈ fp, ∃ o, H a = some o
  | .un, _, _, h, a, ha => by simp only [RepT] at h; subst h; cases ha
  | .fz _, _, _, h, a, ha => by simp only [RepT] at h; rw [h.2] at ha; cases ha
  | .lst ts, v, fp, h, a, ha => by
    simp only [RepT] at h
    obtain ⟨p, vs, fs, h1, h2, h3, h4, h5⟩ := h
    subst h5
    rcases List.mem_cons.mp ha with rfl | ha
    · exact ⟨_, h2⟩
    · exact RepTs.there ts vs fs h4 a ha
  | .tup ts, v, fp, h, a, ha => by
    simp only [RepT] at h
    obtain ⟨p, vs, fs, h1, h2, h3, h4, h5⟩ := h
    subst h5
    rcases List.mem_cons.mp ha with rfl | ha
    · exact ⟨_, h2⟩
    · exact RepTs.there ts vs fs h4 a ha
  | .rl ds, v, fp, h, a, ha => by
    simp only [RepT] at h
    obtain ⟨p, vs, h1, h2, h3, h4, h5⟩ := h
    subst h5
    rcases List.mem_cons.mp ha with rfl | ha
    · exact ⟨_, h3.2⟩
    · cases ha
theorem RepTs.there : ∀ (ts : List T) (vs : List V) (fp : List Addr), RepTs K Z H ts vs fp → ∀ a ∈ fp, ∃ o, H a = some o
  | [], _, _, h, a, ha => by simp only [RepTs] at h; rw [h.2] at ha; cases ha
  | t :: ts, vs, fp, h, a, ha => by
    simp only [RepTs] at h
    obtain ⟨v, vs', f1, f2, h1, h2, h3, h4⟩ := h
    subst h4
    rcases List.mem_append.mp ha with ha | ha
    · exact RepT.there t v f1 h2 a ha
    · exact RepTs.there ts vs' f2 h3 a ha
end
theorem RepTs.len : ∀ {ts : List T} {vs : List V} {fp : List Addr}, RepTs K Z H ts vs fp → vs.length = ts.length
  | [], _, _, h => by simp only [RepTs] at h; rw [h.1]; rfl
  | t :: ts, vs, fp, h => by
    simp only [RepTs] at h
    obtain ⟨v, vs', f1, f2, h1, h2, h3, h4⟩ := h
    subst h1
    simp [RepTs.len h3]
theorem RepDs.len : ∀ {ds : List D} {vs : List V}, RepDs K F ds vs → vs.length = ds.length
  | [], _, h => by simp only [RepDs] at h; rw [h]; rfl
  | d :: ds, vs, h => by
    simp only [RepDs] at h
    obtain ⟨v, vs', h1, h2, h3⟩ := h
    subst h1
    simp [RepDs.len h3]
theorem RepDs.get : ∀ {ds : List D} {vs : List V} {i : Nat} {d : D}, RepDs K F ds vs → ds[i]? = some d → ∃ v, vs[i]? = some v ∧ RepD K F d v
  | [], _, _, _, _, e => by simp at e
  | d :: ds, vs, 0, x, h, e => by
    simp only [RepDs] at h
    obtain ⟨v, vs', h1, h2, h3⟩ := h
    subst h1
    simp at e
    subst e
    exact ⟨v, by simp, h2⟩
  | d :: ds, vs, i + 1, x, h, e => by
    simp only [RepDs] at h
    obtain ⟨v, vs', h1, h2, h3⟩ := h
    subst h1
    obtain ⟨w, e1, e2⟩ := RepDs.get (i := i) h3 (by simpa using e)
    exact ⟨w, by simpa using e1, e2⟩
theorem RepDs.append : ∀ {ds es : List D} {vs us : List V}, RepDs K F ds vs → RepDs K F es us → RepDs K F (ds ++ es) (vs ++ us)
  | [], _, _, _, h, h' => by simp only [RepDs] at h; subst h; exact h'
  | d :: ds, es, vs, us, h, h' => by
    simp only [RepDs] at h
    obtain ⟨v, vs', h1, h2, h3⟩ := h
    subst h1
    show RepDs K F (d :: (ds ++ es)) _
    simp only [RepDs]
    exact ⟨v, vs' ++ us, rfl, h2, RepDs.append h3 h'⟩
theorem RepDs.take : ∀ {ds : List D} {vs : List V} (n : Nat), RepDs K F ds vs → RepDs K F (ds.take n) (vs.take n)
  | _, _, 0, _ => by simp [RepDs]
  | [], _, n + 1, h => by simp only [RepDs] at h; subst h; simp [RepDs]
  | d :: ds, vs, n + 1, h => by
    simp only [RepDs] at h
    obtain ⟨v, vs', h1, h2, h3⟩ := h
    subst h1
    simp only [List.take_succ_cons, RepDs]
    exact ⟨v, _, rfl, h2, RepDs.take n h3⟩
theorem RepDs.drop : ∀ {ds : List D} {vs : List V} (n : Nat), RepDs K F ds vs → RepDs K F (ds.drop n) (vs.drop n)
  | _, _, 0, h => h
  | [], _, n + 1, h => by simp only [RepDs] at h; subst h; simp [RepDs]
  | d :: ds, vs, n + 1, h => by
    simp only [RepDs] at h
    obtain ⟨v, vs', h1, h2, h3⟩ := h
    subst h1
    exact RepDs.drop n h3
/-- frozen items are owned items without a footprint -/
theorem RepDs.fz : ∀ {ds : List D} {vs : List V}, RepDs K Z.F ds vs → RepTs K Z H (ds.map T.fz) vs []
  | [], _, h => by simp only [RepDs] at h; subst h; simp [RepTs]
  | d :: ds, vs, h => by
    simp only [RepDs] at h
    obtain ⟨v, vs', h1, h2, h3⟩ := h
    subst h1
    simp only [List.map_cons, RepTs]
    exact ⟨v, vs', [], [], rfl, by simp [RepT, h2], RepDs.fz h3, rfl⟩
theorem RepTs.append : ∀ {ts us : List T} {vs ws : List V} {f g : List Addr}, RepTs K Z H ts vs f → RepTs K Z H us ws g → RepTs K Z H (ts ++ us) (vs ++ ws) (f ++ g)
  | [], _, _, _, _, _, h, h' => by simp only [RepTs] at h; rw [h.1, h.2]; exact h'
  | t :: ts, us, vs, ws, f, g, h, h' => by
    simp only [RepTs] at h
    obtain ⟨v, vs', f1, f2, h1, h2, h3, h4⟩ := h
    subst h1 h4
    show RepTs K Z H (t :: (ts ++ us)) _ _
    simp only [RepTs]
    exact ⟨v, vs' ++ ws, f1, f2 ++ g, rfl, h2, RepTs.append h3 h', by simp⟩
theorem RepTs.split : ∀ {ts us : List T} {vs : List V} {f : List Addr}, RepTs K Z H (ts ++ us) vs f → ∃ v1 v2 f1 f2, vs = v1 ++ v2 ∧ f = f1 ++ f2 ∧ RepTs K Z H ts v1 f1 ∧ RepTs K Z H us v2 f2
  | [], us, vs, f, h => ⟨[], vs, [], f, rfl, rfl, by simp [RepTs], h⟩
  | t :: ts, us, vs, f, h => by
    have h' : RepTs K Z H (t :: (ts ++ us)) vs f := h
    simp only [RepTs] at h'
    obtain ⟨v, vs', f1, f2, h1, h2, h3, h4⟩ := h'
    obtain ⟨a, b, c, d, e1, e2, e3, e4⟩ := RepTs.split h3
    subst h1 h4 e1 e2
    refine ⟨v :: a, b, f1 ++ c, d, rfl, by simp, ?_, e4⟩
    simp only [RepTs]
    exact ⟨v, a, f1, c, rfl, h2, e3, rfl⟩
end

/-! ### the slots -/
def RepS (K : PySem.W.Frag) (Z : Zn) (H : Hp) (t : T) (o : Option V) (f : List Addr) : Prop := (t = .un ∧ f = []) ∨ ∃ v, o = some v ∧ RepT K Z H t v f
def RepE (K : PySem.W.Frag) (Z : Zn) (H : Hp) : Env → St → List Addr → Prop
  | [], σ, fp => σ = [] ∧ fp = []
  | t :: η, σ, fp => ∃ o σ' f1 f2, σ = o :: σ' ∧ RepS K Z H t o f1 ∧ RepE K Z H η σ' f2 ∧ fp = f1 ++ f2
structure Good (K : PySem.W.Frag) (Z : Zn) (H : Hp) (σ : St) (η : Env) : Prop where
  fb : Same Z.F Z.B
  bh : Same Z.B H
  rh : Same Z.R H
  rb : ∀ a, Z.R a ≠ none → Z.B a = none
  ex : ∃ fp, RepE K Z H η σ fp ∧ fp.Nodup ∧ ∀ a ∈ fp, Z.B a = none
/-- a step: frozen things stay, what was there is kept, and nothing that was there and not frozen is frozen; nothing new is lent -/
structure Stp (Z Z' : Zn) : Prop where
  f : Same Z.F Z'.F
  b : Same Z.B Z'.B
  n : ∀ a, Z.F a = none → Z.B a ≠ none → Z'.F a = none
  r : Same Z'.R Z.R
section
variable {K : PySem.W.Frag} {Z Z' Z1 Z2 : Zn} {H H' : Hp} {σ σ1 σ2 : St} {η η1 η2 : Env} {t : T} {v : V} {o : Option V} {fp f : List Addr}
theorem Stp.refl : Stp Z Z := ⟨Same.refl _, Same.refl _, fun _ h _ => h, Same.refl _⟩
theorem Stp.trans (a : Stp Z Z1) (b : Stp Z1 Z2) : Stp Z Z2 :=
  ⟨a.f.trans b.f, a.b.trans b.b, fun x h h' => b.n x (a.n x h h') (by
    cases e : Z.B x with
    | none => exact absurd e h'
    | some o => rw [a.b x o e]; exact fun q => nomatch q), b.r.trans a.r⟩
theorem RepS.frame (e : Same Z.F Z'.F) (h : RepS K Z H t o f) (hb : ∀ a ∈ f, Z'.B a = Z.B a ∧ Z'.R a = Z.R a) (hh : ∀ a ∈ f, H' a = H a) : RepS K Z' H' t o f := by
  rcases h with h | ⟨v, h1, h2⟩
  · exact .inl h
  · exact .inr ⟨v, h1, h2.frame e _ _ _ hb hh⟩
theorem RepE.frame (e : Same Z.F Z'.F) : ∀ {η : Env} {σ : St} {f : List Addr}, RepE K Z H η σ f → (∀ a ∈ f, Z'.B a = Z.B a ∧ Z'.R a = Z.R a) → (∀ a ∈ f, H' a = H a) → RepE K Z' H' η σ f
  | [], _, _, h, _, _ => by simpa [RepE] using h
  | t :: η, σ, f, h, hb, hh => by
    simp only [RepE] at h ⊢
    obtain ⟨o, σ', f1, f2, h1, h2, h3, h4⟩ := h
    subst h4
    exact ⟨o, σ', f1, f2, h1, h2.frame e (fun a ha => hb a (List.mem_append_left _ ha)) (fun a ha => hh a (List.mem_append_left _ ha)),
      h3.frame e (fun a ha => hb a (List.mem_append_right _ ha)) (fun a ha => hh a (List.mem_append_right _ ha)), rfl⟩
theorem RepS.there (h : RepS K Z H t o f) : ∀ a ∈ f, ∃ x, H a = some x := by
  rcases h with ⟨_, h⟩ | ⟨v, h1, h2⟩
  · rw [h]; intro a ha; cases ha
  · exact RepT.there _ _ _ h2
theorem RepE.there : ∀ {η : Env} {σ : St} {f : List Addr}, RepE K Z H η σ f → ∀ a ∈ f, ∃ x, H a = some x
  | [], _, _, h, a, ha => by simp only [RepE] at h; rw [h.2] at ha; cases ha
  | t :: η, σ, f, h, a, ha => by
    simp only [RepE] at h
    obtain ⟨o, σ', f1, f2, h1, h2, h3, h4⟩ := h
    subst h4
    rcases List.mem_append.mp ha with ha | ha
    · exact h2.there a ha
    · exact RepE.there h3 a ha
theorem RepE.len : ∀ {η : Env} {σ : St} {f : List Addr}, RepE K Z H η σ f → σ.length = η.length
  | [], _, _, h => by simp only [RepE] at h; rw [h.1]; rfl
  | t :: η, σ, f, h => by
    simp only [RepE] at h
    obtain ⟨o, σ', f1, f2, h1, h2, h3, h4⟩ := h
    subst h1
    simp [RepE.len h3]
theorem RepE.append : ∀ {η1 η2 : Env} {σ1 σ2 : St} {f g : List Addr}, RepE K Z H η1 σ1 f → RepE K Z H η2 σ2 g → RepE K Z H (η1 ++ η2) (σ1 ++ σ2) (f ++ g)
  | [], _, _, _, _, _, h, h' => by simp only [RepE] at h; rw [h.1, h.2]; exact h'
  | t :: η1, η2, σ1, σ2, f, g, h, h' => by
    simp only [RepE] at h
    obtain ⟨o, σ', f1, f2, h1, h2, h3, h4⟩ := h
    subst h1 h4
    show RepE K Z H (t :: (η1 ++ η2)) _ _
    simp only [RepE]
    exact ⟨o, σ' ++ σ2, f1, f2 ++ g, rfl, h2, RepE.append h3 h', by simp⟩
theorem RepE.split : ∀ {η1 η2 : Env} {σ1 σ2 : St} {f : List Addr}, σ1.length = η1.length → RepE K Z H (η1 ++ η2) (σ1 ++ σ2) f → ∃ f1 f2, f = f1 ++ f2 ∧ RepE K Z H η1 σ1 f1 ∧ RepE K Z H η2 σ2 f2
  | [], _, [], _, f, _, h => ⟨[], f, rfl, by simp [RepE], h⟩
  | [], _, _ :: _, _, _, hl, _ => by simp at hl
  | _ :: _, _, [], _, _, hl, _ => by simp at hl
  | t :: η1, η2, o :: σ1, σ2, f, hl, h => by
    have h' : RepE K Z H (t :: (η1 ++ η2)) (o :: (σ1 ++ σ2)) f := h
    simp only [RepE] at h'
    obtain ⟨o', σ', f1, f2, h1, h2, h3, h4⟩ := h'
    simp only [List.cons.injEq] at h1
    obtain ⟨rfl, rfl⟩ := h1
    obtain ⟨a, b, e1, e2, e3⟩ := RepE.split (by simpa using hl) h3
    subst h4 e1
    refine ⟨f1 ++ a, b, by simp, ?_, e3⟩
    simp only [RepE]
    exact ⟨o, σ1, f1, a, rfl, h2, e2, rfl⟩
/-- a slot taken out -/
theorem RepE.at_ : ∀ {η : Env} {σ : St} {f : List Addr} {i : Nat} {t : T}, RepE K Z H η σ f → η[i]? = some t →
    ∃ o f1 g f2, σ[i]? = some o ∧ f = f1 ++ g ++ f2 ∧ RepS K Z H t o g ∧
      ∀ (Z' : Zn) (H' : Hp) (t' : T) (o' : Option V) (g' : List Addr), Same Z.F Z'.F → (∀ a ∈ f1 ++ f2, Z'.B a = Z.B a ∧ Z'.R a = Z.R a) → (∀ a ∈ f1 ++ f2, H' a = H a) → RepS K Z' H' t' o' g' → RepE K Z' H' (η.set i t') (σ.set i o') (f1 ++ g' ++ f2)
  | [], _, _, _, _, _, e => by simp at e
  | t :: η, σ, f, 0, u, h, e => by
    simp only [RepE] at h
    obtain ⟨o, σ', f1, f2, h1, h2, h3, h4⟩ := h
    subst h1 h4
    simp at e
    subst e
    refine ⟨o, [], f1, f2, rfl, rfl, h2, fun Z' H' t' o' g' hF hb hh hs => ?_⟩
    simp only [List.nil_append] at hb hh
    simp only [List.set_cons_zero, RepE, List.nil_append]
    exact ⟨o', σ', g', f2, rfl, hs, h3.frame hF hb hh, rfl⟩
  | t :: η, σ, f, i + 1, u, h, e => by
    simp only [RepE] at h
    obtain ⟨o, σ', f1, f2, h1, h2, h3, h4⟩ := h
    subst h1 h4
    obtain ⟨o1, a, g, b, e1, e2, e3, e4⟩ := RepE.at_ (i := i) (t := u) h3 (by simpa using e)
    subst e2
    refine ⟨o1, f1 ++ a, g, b, by simpa using e1, by simp, e3, fun Z' H' t' o' g' hF hb hh hs => ?_⟩
    have hb' : ∀ x ∈ a ++ b, Z'.B x = Z.B x ∧ Z'.R x = Z.R x := fun x hx => hb x (by simp at hx ⊢; rcases hx with hx | hx <;> simp [hx])
    have hh' : ∀ x ∈ a ++ b, H' x = H x := fun x hx => hh x (by simp at hx ⊢; rcases hx with hx | hx <;> simp [hx])
    have := e4 Z' H' t' o' g' hF hb' hh' hs
    simp only [List.set_cons_succ, RepE]
    exact ⟨o, σ'.set i o', f1, a ++ g' ++ b, rfl, h2.frame hF (fun x hx => hb x (by simp [hx])) (fun x hx => hh x (by simp [hx])), this, by simp⟩
theorem Good.len (g : Good K Z H σ η) : σ.length = η.length := by
  obtain ⟨_, _, _, _, fp, h, _⟩ := g
  exact h.len
theorem fresh_B (g : Good K Z H σ η) {p : Addr} (h : H p = none) : Z.B p = none := g.bh.free h
theorem fresh_F (g : Good K Z H σ η) {p : Addr} (h : H p = none) : Z.F p = none := g.fb.free (g.bh.free h)
end
end ML
end
section
set_option Elab.async false
set_option maxRecDepth 100000
set_option maxHeartbeats 4000000
/-! M1: how the knowledge of the slots moves. -/
namespace ML
open PySem L2

theorem nd1 {f a g b : List Addr} (h : (f ++ (a ++ g ++ b)).Nodup) : (a ++ f ++ b).Nodup := by
  simp only [List.nodup_append, List.mem_append] at h ⊢; grind
theorem nd2 {a g b : List Addr} (h : (a ++ g ++ b).Nodup) : (g ++ (a ++ [] ++ b)).Nodup := by
  simp only [List.nodup_append, List.mem_append] at h ⊢; grind

section
variable {K : PySem.W.Frag} {F H H' : Hp} {Z Z' Z1 Z2 : Zn} {σ σ1 σ2 : St} {η η1 η2 : Env} {t : T} {v : V} {o : Option V} {fp f : List Addr} {i : Nat} {p : Addr}

theorem set_self {α : Type} {l : List α} {i : Nat} {x : α} (h : l[i]? = some x) : l.set i x = l := by
  apply List.ext_getElem?
  intro j
  by_cases e : i = j
  · subst e; rw [h, List.getElem?_set_self (List.getElem?_eq_some_iff.mp h).1]
  · rw [List.getElem?_set_ne e]

/-- how the zones lie -/
structure Inn (Z : Zn) (H : Hp) : Prop where
  fb : Same Z.F Z.B
  bh : Same Z.B H
  rh : Same Z.R H
  rb : ∀ a, Z.R a ≠ none → Z.B a = none
theorem Good.inn (g : Good K Z H σ η) : Inn Z H := ⟨g.fb, g.bh, g.rh, g.rb⟩
theorem Good.mk' (i : Inn Z H) (h : RepE K Z H η σ f) (nd : f.Nodup) (hf : ∀ a ∈ f, Z.B a = none) : Good K Z H σ η := ⟨i.fb, i.bh, i.rh, i.rb, f, h, nd, hf⟩
theorem Good.ex' (g : Good K Z H σ η) : Inn Z H ∧ ∃ f, RepE K Z H η σ f ∧ f.Nodup ∧ ∀ a ∈ f, Z.B a = none := ⟨g.inn, g.ex⟩
theorem Good.cons_ex (g : Good K Z H (o :: σ) (t :: η)) : Inn Z H ∧ ∃ f1 f2, RepS K Z H t o f1 ∧ RepE K Z H η σ f2 ∧ (f1 ++ f2).Nodup ∧ ∀ a ∈ f1 ++ f2, Z.B a = none := by
  obtain ⟨inn, fp, h, nd, hf⟩ := g.ex'
  simp only [RepE] at h
  obtain ⟨o', σ', f1, f2, h1, h2, h3, h4⟩ := h
  simp only [List.cons.injEq] at h1
  obtain ⟨rfl, rfl⟩ := h1
  subst h4
  exact ⟨inn, f1, f2, h2, h3, nd, hf⟩
theorem Good.cons_mk (inn : Inn Z H) {f1 f2 : List Addr} (h1 : RepS K Z H t o f1) (h2 : RepE K Z H η σ f2) (nd : (f1 ++ f2).Nodup) (hf : ∀ a ∈ f1 ++ f2, Z.B a = none) : Good K Z H (o :: σ) (t :: η) :=
  Good.mk' (f := f1 ++ f2) inn (by simp only [RepE]; exact ⟨o, σ, f1, f2, rfl, h1, h2, rfl⟩) nd hf
theorem Good.drop (g : Good K Z H (o :: σ) (t :: η)) : Good K Z H σ η := by
  obtain ⟨inn, f1, f2, h1, h2, nd, hf⟩ := g.cons_ex
  exact .mk' inn h2 (List.nodup_append.mp nd).2.1 fun a ha => hf a (List.mem_append_right _ ha)
/-- what stands in front is stored in a slot -/
theorem Good.assign (g : Good K Z H (o :: σ) (t :: η)) (hi : i < η.length) : Good K Z H (σ.set i o) (η.set i t) := by
  obtain ⟨inn, f1, f2, h1, h2, nd, hf⟩ := g.cons_ex
  obtain ⟨o', a, gg, b, e1, e2, e3, e4⟩ := h2.at_ (List.getElem?_eq_getElem hi)
  subst e2
  refine .mk' inn (e4 Z H t o f1 (Same.refl _) (fun _ _ => ⟨rfl, rfl⟩) (fun _ _ => rfl) h1) (nd1 nd) (fun x hx => hf x ?_)
  simp only [List.mem_append] at hx ⊢
  grind
theorem Good.get (g : Good K Z H σ η) (h : η[i]? = some t) (hn : t ≠ .un) : ∃ v f, σ[i]? = some (some v) ∧ RepT K Z H t v f := by
  obtain ⟨inn, fp, hr, nd, hf⟩ := g.ex'
  obtain ⟨o, a, gg, b, e1, e2, e3, e4⟩ := hr.at_ h
  rcases e3 with e3 | ⟨v, rfl, e3⟩
  · exact absurd e3.1 hn
  · exact ⟨v, gg, e1, e3⟩
/-- a slot is taken in front -/
theorem Good.mov (g : Good K Z H σ η) (h : η[i]? = some t) (hn : t ≠ .un) : ∃ v, σ[i]? = some (some v) ∧ Good K Z H (some v :: σ) (t :: η.set i .un) := by
  obtain ⟨inn, fp, hr, nd, hf⟩ := g.ex'
  obtain ⟨o, a, gg, b, e1, e2, e3, e4⟩ := hr.at_ h
  subst e2
  rcases e3 with e3 | ⟨v, rfl, e3⟩
  · exact absurd e3.1 hn
  · refine ⟨v, e1, ?_⟩
    have e5 := e4 Z H .un (some v) [] (Same.refl _) (fun _ _ => ⟨rfl, rfl⟩) (fun _ _ => rfl) (.inl ⟨rfl, rfl⟩)
    rw [set_self e1] at e5
    refine Good.cons_mk inn (.inr ⟨v, rfl, e3⟩) e5 (nd2 nd) (fun x hx => hf x ?_)
    simp only [List.mem_append] at hx ⊢
    grind
theorem Good.back (g : Good K Z H (some v :: σ) (t :: η)) (h : σ[i]? = some (some v)) : Good K Z H σ (η.set i t) := by
  have hi : i < η.length := by
    have := g.len
    have h2 := (List.getElem?_eq_some_iff.mp h).1
    simp at this
    omega
  have := g.assign hi
  rwa [set_self h] at this
/-- a slot is forgotten -/
theorem Good.forget (g : Good K Z H σ η) (i : Nat) : Good K Z H σ (η.set i .un) := by
  by_cases hi : i < η.length
  · obtain ⟨inn, fp, hr, nd, hf⟩ := g.ex'
    obtain ⟨o, a, gg, b, e1, e2, e3, e4⟩ := hr.at_ (List.getElem?_eq_getElem hi)
    subst e2
    have e5 := e4 Z H .un o [] (Same.refl _) (fun _ _ => ⟨rfl, rfl⟩) (fun _ _ => rfl) (.inl ⟨rfl, rfl⟩)
    rw [set_self e1] at e5
    refine .mk' inn e5 ?_ (fun x hx => hf x ?_)
    · simp only [List.nodup_append, List.mem_append] at nd ⊢; grind
    · simp only [List.mem_append] at hx ⊢; grind
  · rw [List.set_eq_of_length_le (by omega)]; exact g
theorem Good.push (g : Good K Z H σ η) {d : D} (h : RepD K Z.F d v) : Good K Z H (some v :: σ) (.fz d :: η) := by
  obtain ⟨inn, fp, hr, nd, hf⟩ := g.ex'
  exact Good.cons_mk (f1 := []) inn (.inr ⟨v, rfl, by simp [RepT, h]⟩) hr (by simpa using nd) (by simpa using hf)
theorem Good.pushUn (g : Good K Z H σ η) : Good K Z H (o :: σ) (.un :: η) := by
  obtain ⟨inn, fp, hr, nd, hf⟩ := g.ex'
  exact Good.cons_mk (f1 := []) inn (.inl ⟨rfl, rfl⟩) hr (by simpa using nd) (by simpa using hf)
/-- a slot's frozen data in front -/
theorem Good.copy (g : Good K Z H σ η) {d : D} (h : η[i]? = some (.fz d)) : ∃ v, σ[i]? = some (some v) ∧ RepD K Z.F d v ∧ Good K Z H (some v :: σ) (.fz d :: η) := by
  obtain ⟨v, f, e, r⟩ := g.get h (fun q => nomatch q)
  simp only [RepT] at r
  exact ⟨v, e, r.1, g.push r.1⟩
theorem RepE.toTs : ∀ {ts : List T} {vs : List V} {f : List Addr}, RepE K Z H ts (vs.map some) f → RepTs K Z H ts vs f
  | [], vs, f, h => by
    simp only [RepE, List.map_eq_nil_iff] at h
    simp only [RepTs]; exact h
  | t :: ts, vs, f, h => by
    simp only [RepE] at h
    obtain ⟨o, σ', f1, f2, h1, h2, h3, h4⟩ := h
    cases vs with
    | nil => simp at h1
    | cons v vs =>
      simp only [List.map_cons, List.cons.injEq] at h1
      obtain ⟨rfl, rfl⟩ := h1
      simp only [RepTs]
      refine ⟨v, vs, f1, f2, rfl, ?_, RepE.toTs h3, h4⟩
      rcases h2 with ⟨rfl, h2⟩ | ⟨v', e, h2⟩
      · simp only [RepT]; exact h2
      · cases e; exact h2
theorem RepTs.toE : ∀ {ts : List T} {vs : List V} {f : List Addr}, RepTs K Z H ts vs f → RepE K Z H ts (vs.map some) f
  | [], vs, f, h => by
    simp only [RepTs] at h
    simp only [RepE, List.map_eq_nil_iff]; exact h
  | t :: ts, vs, f, h => by
    simp only [RepTs] at h
    obtain ⟨v, vs', f1, f2, h1, h2, h3, h4⟩ := h
    subst h1
    simp only [RepE, List.map_cons]
    exact ⟨some v, vs'.map some, f1, f2, rfl, .inr ⟨v, rfl, h2⟩, h3.toE, h4⟩
theorem Good.split (g : Good K Z H (σ1 ++ σ2) (η1 ++ η2)) (hl : σ1.length = η1.length) : Inn Z H ∧ ∃ f1 f2, RepE K Z H η1 σ1 f1 ∧ RepE K Z H η2 σ2 f2 ∧ (f1 ++ f2).Nodup ∧ ∀ a ∈ f1 ++ f2, Z.B a = none := by
  obtain ⟨inn, fp, h, nd, hf⟩ := g.ex'
  obtain ⟨f1, f2, rfl, h1, h2⟩ := h.split hl
  exact ⟨inn, f1, f2, h1, h2, nd, hf⟩
theorem upd_of {o : HO} {a : Addr} (ha : ∃ x, H a = some x) (hp : H p = none) : upd H p o a = H a := upd_ne (by rintro rfl; obtain ⟨x, e⟩ := ha; rw [hp] at e; cases e)
theorem Inn.upd {o : HO} (i : Inn Z H) (hp : H p = none) : Inn Z (upd H p o) :=
  ⟨i.fb, fun a x e => by rw [upd_of ⟨x, i.bh a x e⟩ hp]; exact i.bh a x e, fun a x e => by rw [upd_of ⟨x, i.rh a x e⟩ hp]; exact i.rh a x e, i.rb⟩
/-- a new list of what stands in front -/
theorem Good.newLst {vs : List V} {ts : List T} (g : Good K Z H (vs.map some ++ σ) (ts ++ η)) (hl : vs.length = ts.length) (hp : H p = none) : Good K Z (upd H p (.lst vs)) (some (.ref p) :: σ) (.lst ts :: η) := by
  obtain ⟨inn, f1, f2, h1, h2, nd, hf⟩ := g.split (by simpa using hl)
  have hB := inn.bh.free hp
  have hR := inn.rh.free hp
  have n1 : ∀ a ∈ f1 ++ f2, a ≠ p := fun a ha e => by
    subst e
    have : ∃ x, H a = some x := by
      rcases List.mem_append.mp ha with h | h
      · exact h1.there a h
      · exact h2.there a h
    obtain ⟨x, e⟩ := this
    rw [hp] at e; cases e
  refine Good.cons_mk (f1 := p :: f1) (f2 := f2) (inn.upd hp) (.inr ⟨_, rfl, ?_⟩) (h2.frame (Same.refl _) (fun _ _ => ⟨rfl, rfl⟩) (fun a ha => upd_of (h2.there a ha) hp)) ?_ ?_
  · simp only [RepT]
    exact ⟨p, vs, f1, rfl, upd_same, ⟨hB, hR⟩, RepTs.frame (Same.refl _) _ _ _ h1.toTs (fun _ _ => ⟨rfl, rfl⟩) (fun a ha => upd_of (h1.there a ha) hp), rfl⟩
  · show (p :: (f1 ++ f2)).Nodup
    exact List.nodup_cons.mpr ⟨fun h => n1 p h rfl, nd⟩
  · intro a ha
    rcases List.mem_cons.mp (show a ∈ p :: (f1 ++ f2) from ha) with rfl | ha
    · exact hB
    · exact hf a ha
/-- a new tuple of what stands in front -/
theorem Good.newTup {vs : List V} {ts : List T} (g : Good K Z H (vs.map some ++ σ) (ts ++ η)) (hl : vs.length = ts.length) (hp : H p = none) : Good K Z (upd H p (.tup vs)) (some (.ref p) :: σ) (.tup ts :: η) := by
  obtain ⟨inn, f1, f2, h1, h2, nd, hf⟩ := g.split (by simpa using hl)
  have hB := inn.bh.free hp
  have hR := inn.rh.free hp
  have n1 : ∀ a ∈ f1 ++ f2, a ≠ p := fun a ha e => by
    subst e
    have : ∃ x, H a = some x := by
      rcases List.mem_append.mp ha with h | h
      · exact h1.there a h
      · exact h2.there a h
    obtain ⟨x, e⟩ := this
    rw [hp] at e; cases e
  refine Good.cons_mk (f1 := p :: f1) (f2 := f2) (inn.upd hp) (.inr ⟨_, rfl, ?_⟩) (h2.frame (Same.refl _) (fun _ _ => ⟨rfl, rfl⟩) (fun a ha => upd_of (h2.there a ha) hp)) ?_ ?_
  · simp only [RepT]
    exact ⟨p, vs, f1, rfl, upd_same, ⟨hB, hR⟩, RepTs.frame (Same.refl _) _ _ _ h1.toTs (fun _ _ => ⟨rfl, rfl⟩) (fun a ha => upd_of (h1.there a ha) hp), rfl⟩
  · show (p :: (f1 ++ f2)).Nodup
    exact List.nodup_cons.mpr ⟨fun h => n1 p h rfl, nd⟩
  · intro a ha
    rcases List.mem_cons.mp (show a ∈ p :: (f1 ++ f2) from ha) with rfl | ha
    · exact hB
    · exact hf a ha

/-! ### freezing -/
mutual
def frz : T → Option D
  | .un => none
  | .fz d => some d
  | .lst ts => (frzs ts).map D.lst
  | .tup ts => (frzs ts).map D.tup
  | .rl _ => none
def frzs : List T → Option (List D)
  | [] => some []
  | t :: ts => match frz t, frzs ts with
    | some d, some ds => some (d :: ds)
    | _, _ => none
end
/-- a part of the heap beside another -/
def plus (F H : Hp) (f : List Addr) : Hp := fun a => if a ∈ f then H a else F a
def minus (B : Hp) (f : List Addr) : Hp := fun a => if a ∈ f then none else B a
theorem plus_in {f : List Addr} {a : Addr} (h : a ∈ f) : plus F H f a = H a := if_pos h
theorem plus_out {f : List Addr} {a : Addr} (h : a ∉ f) : plus F H f a = F a := if_neg h
theorem minus_in {f : List Addr} {a : Addr} (h : a ∈ f) : minus F f a = none := if_pos h
theorem minus_out {f : List Addr} {a : Addr} (h : a ∉ f) : minus F f a = F a := if_neg h
theorem plus_same {f : List Addr} (h : ∀ a ∈ f, F a = none) : Same F (plus F H f) := fun a x e => by
  rw [plus_out (fun q => by rw [h a q] at e; cases e)]; exact e
mutual
theorem RepT.freeze : ∀ (t : T) (v : V) (f g : List Addr) (d : D), RepT K Z H t v f → frz t = some d → (∀ a ∈ f, a ∈ g) → (∀ a ∈ g, Z.F a = none) → RepD K (plus Z.F H g) d v
  | .un, _, _, _, _, _, e, _, _ => by simp [frz] at e
  | .rl _, _, _, _, _, _, e, _, _ => by simp [frz] at e
  | .fz d, v, f, g, d', h, e, hs, hn => by
    simp only [RepT] at h
    simp only [frz, Option.some.injEq] at e
    subst e
    exact h.1.mono (plus_same hn)
  | .lst ts, v, f, g, d', h, e, hs, hn => by
    simp only [RepT] at h
    obtain ⟨p, vs, fs, h1, h2, h3, h4, h5⟩ := h
    subst h5
    simp only [frz] at e
    cases q : frzs ts with
    | none => rw [q] at e; simp at e
    | some ds =>
      rw [q] at e
      simp only [Option.map_some, Option.some.injEq] at e
      subst e
      simp only [RepD]
      exact ⟨p, vs, h1, by rw [plus_in (hs p List.mem_cons_self)]; exact h2, RepTs.freeze ts vs fs g ds h4 q (fun a ha => hs a (List.mem_cons_of_mem _ ha)) hn⟩
  | .tup ts, v, f, g, d', h, e, hs, hn => by
    simp only [RepT] at h
    obtain ⟨p, vs, fs, h1, h2, h3, h4, h5⟩ := h
    subst h5
    simp only [frz] at e
    cases q : frzs ts with
    | none => rw [q] at e; simp at e
    | some ds =>
      rw [q] at e
      simp only [Option.map_some, Option.some.injEq] at e
      subst e
      simp only [RepD]
      exact ⟨p, vs, h1, SqT.of (by rw [plus_in (hs p List.mem_cons_self)]; exact h2), RepTs.freeze ts vs fs g ds h4 q (fun a ha => hs a (List.mem_cons_of_mem _ ha)) hn⟩
theorem RepTs.freeze : ∀ (ts : List T) (vs : List V) (f g : List Addr) (ds : List D), RepTs K Z H ts vs f → frzs ts = some ds → (∀ a ∈ f, a ∈ g) → (∀ a ∈ g, Z.F a = none) → RepDs K (plus Z.F H g) ds vs
  | [], vs, f, g, ds, h, e, hs, hn => by
    simp only [RepTs] at h
    simp only [frzs, Option.some.injEq] at e
    subst e
    simp only [RepDs]
    exact h.1
  | t :: ts, vs, f, g, ds, h, e, hs, hn => by
    simp only [RepTs] at h
    obtain ⟨v, vs', f1, f2, h1, h2, h3, h4⟩ := h
    subst h1 h4
    simp only [frzs] at e
    cases q1 : frz t with
    | none => rw [q1] at e; simp at e
    | some d =>
      cases q2 : frzs ts with
      | none => rw [q1, q2] at e; simp at e
      | some ds' =>
        rw [q1, q2] at e
        simp only [Option.some.injEq] at e
        subst e
        simp only [RepDs]
        exact ⟨v, vs', rfl, RepT.freeze t v f1 g d h2 q1 (fun a ha => hs a (List.mem_append_left _ ha)) hn, RepTs.freeze ts vs' f2 g ds' h3 q2 (fun a ha => hs a (List.mem_append_right _ ha)) hn⟩
end
mutual
theorem RepT.noB : ∀ (t : T) (v : V) (f : List Addr) (d : D), RepT K Z H t v f → frz t = some d → ∀ a ∈ f, Z.B a = none ∧ Z.R a = none
  | .un, _, _, _, _, e => by simp [frz] at e
  | .rl _, _, _, _, _, e => by simp [frz] at e
  | .fz d, v, f, d', h, e => by simp only [RepT] at h; rw [h.2]; intro a ha; cases ha
  | .lst ts, v, f, d', h, e => by
    simp only [RepT] at h
    obtain ⟨p, vs, fs, h1, h2, h3, h4, h5⟩ := h
    subst h5
    simp only [frz] at e
    cases q : frzs ts with
    | none => rw [q] at e; simp at e
    | some ds =>
      intro a ha
      rcases List.mem_cons.mp ha with rfl | ha
      · exact h3
      · exact RepTs.noB ts vs fs ds h4 q a ha
  | .tup ts, v, f, d', h, e => by
    simp only [RepT] at h
    obtain ⟨p, vs, fs, h1, h2, h3, h4, h5⟩ := h
    subst h5
    simp only [frz] at e
    cases q : frzs ts with
    | none => rw [q] at e; simp at e
    | some ds =>
      intro a ha
      rcases List.mem_cons.mp ha with rfl | ha
      · exact h3
      · exact RepTs.noB ts vs fs ds h4 q a ha
theorem RepTs.noB : ∀ (ts : List T) (vs : List V) (f : List Addr) (ds : List D), RepTs K Z H ts vs f → frzs ts = some ds → ∀ a ∈ f, Z.B a = none ∧ Z.R a = none
  | [], vs, f, ds, h, e => by simp only [RepTs] at h; rw [h.2]; intro a ha; cases ha
  | t :: ts, vs, f, ds, h, e => by
    simp only [RepTs] at h
    obtain ⟨v, vs', f1, f2, h1, h2, h3, h4⟩ := h
    subst h1 h4
    simp only [frzs] at e
    cases q1 : frz t with
    | none => rw [q1] at e; simp at e
    | some d =>
      cases q2 : frzs ts with
      | none => rw [q1, q2] at e; simp at e
      | some ds' =>
        intro a ha
        rcases List.mem_append.mp ha with ha | ha
        · exact RepT.noB t v f1 d h2 q1 a ha
        · exact RepTs.noB ts vs' f2 ds' h3 q2 a ha
end
/-- what stands in front is frozen -/
theorem Good.freeze {d : D} (g : Good K Z H (some v :: σ) (t :: η)) (e : frz t = some d) : ∃ Z', Stp Z Z' ∧ Good K Z' H (some v :: σ) (.fz d :: η) := by
  obtain ⟨inn, f1, f2, h1, h2, nd, hf⟩ := g.cons_ex
  have h1' : RepT K Z H t v f1 := by
    rcases h1 with ⟨rfl, _⟩ | ⟨v', e', h1⟩
    · simp [frz] at e
    · cases e'; exact h1
  have nB := RepT.noB _ _ _ _ h1' e
  have nF : ∀ a ∈ f1, Z.F a = none := fun a ha => inn.fb.free (nB a ha).1
  have dj : ∀ a ∈ f2, a ∉ f1 := fun a ha hb => (List.nodup_append.mp nd).2.2 a hb a ha rfl
  refine ⟨⟨plus Z.F H f1, plus Z.B H f1, Z.R⟩, ⟨plus_same nF, plus_same fun a ha => (nB a ha).1, fun a h1 h2 => ?_, Same.refl _⟩, ?_⟩
  · show plus Z.F H f1 a = none
    rw [plus_out (fun q => h2 (nB a q).1)]; exact h1
  · have : RepE K ⟨plus Z.F H f1, plus Z.B H f1, Z.R⟩ H η σ f2 := h2.frame (plus_same nF) (fun a ha => ⟨plus_out (dj a ha), rfl⟩) (fun _ _ => rfl)
    refine Good.cons_mk (f1 := []) (f2 := f2) ⟨fun a x q => ?_, fun a x q => ?_, inn.rh, fun a ha => ?_⟩ (.inr ⟨v, rfl, ?_⟩) this (by simpa using (List.nodup_append.mp nd).2.1) (fun a ha => ?_)
    · simp only at q ⊢
      by_cases m : a ∈ f1
      · rw [plus_in m] at q ⊢; exact q
      · rw [plus_out m] at q ⊢; exact inn.fb a x q
    · simp only at q
      by_cases m : a ∈ f1
      · rw [plus_in m] at q; exact q
      · rw [plus_out m] at q; exact inn.bh a x q
    · simp only at ha ⊢
      rw [plus_out (fun q => ha (nB a q).2)]
      exact inn.rb a ha
    · simp only [RepT]
      exact ⟨RepT.freeze _ _ _ _ _ h1' e (fun _ h => h) nF, trivial⟩
    · simp only [List.nil_append] at ha
      simp only
      rw [plus_out (dj a ha)]
      exact hf a (List.mem_append_right _ ha)

/-! ### the frame: what stands in front is laid aside -/
theorem Good.hide {τ : St} {ζ : Env} (g : Good K Z H (τ ++ σ) (ζ ++ η)) (hl : τ.length = ζ.length) : ∃ Z1, Good K Z1 H σ η ∧ Same Z.B Z1.B ∧ Z1.F = Z.F ∧
    ∀ Z2 H' σ' η', Stp Z1 Z2 → Good K Z2 H' σ' η' → ∃ Z3, Stp Z Z3 ∧ Z3.F = Z2.F ∧ Good K Z3 H' (τ ++ σ') (ζ ++ η') := by
  obtain ⟨inn, f1, f2, h1, h2, nd, hf⟩ := g.split hl
  have dj : ∀ a ∈ f2, a ∉ f1 := fun a ha hb => (List.nodup_append.mp nd).2.2 a hb a ha rfl
  have nB : ∀ a ∈ f1, Z.B a = none := fun a ha => hf a (List.mem_append_left _ ha)
  have nF : ∀ a ∈ f1, Z.F a = none := fun a ha => inn.fb.free (nB a ha)
  have hB1 : Same Z.B (plus Z.B H f1) := plus_same nB
  refine ⟨⟨Z.F, plus Z.B H f1, minus Z.R f1⟩, .mk' ⟨inn.fb.trans hB1, fun a x q => ?_, fun a x q => ?_, fun a q => ?_⟩ (RepE.frame (Z := Z) (Z' := ⟨Z.F, plus Z.B H f1, minus Z.R f1⟩) (Same.refl _) h2 (fun a ha => ⟨plus_out (dj a ha), minus_out (dj a ha)⟩) (fun _ _ => rfl)) (List.nodup_append.mp nd).2.1 (fun a ha => ?_), hB1, rfl, ?_⟩
  · simp only at q
    by_cases m : a ∈ f1
    · rw [plus_in m] at q; exact q
    · rw [plus_out m] at q; exact inn.bh a x q
  · simp only at q
    by_cases m : a ∈ f1
    · rw [minus_in m] at q; cases q
    · rw [minus_out m] at q; exact inn.rh a x q
  · simp only at q ⊢
    by_cases m : a ∈ f1
    · exact absurd (minus_in m) q
    · rw [minus_out m] at q; rw [plus_out m]; exact inn.rb a q
  · simp only
    rw [plus_out (dj a ha)]; exact hf a (List.mem_append_right _ ha)
  intro Z2 H' σ' η' st g'
  obtain ⟨inn', fp', r', nd', hf'⟩ := g'.ex'
  have inB2 : ∀ a ∈ f1, Z2.B a = H a := fun a ha => by
    obtain ⟨x, e⟩ := h1.there a ha
    rw [st.b a x (by simp only; rw [plus_in ha]; exact e), e]
  have inH : ∀ a ∈ f1, H' a = H a := fun a ha => by
    obtain ⟨x, e⟩ := h1.there a ha
    rw [inn'.bh a x (by rw [inB2 a ha]; exact e), e]
  have inF : ∀ a ∈ f1, Z2.F a = none := fun a ha => st.n a (nF a ha) (by
    simp only
    rw [plus_in ha]
    obtain ⟨x, e⟩ := h1.there a ha
    rw [e]; exact fun q => nomatch q)
  have dj' : ∀ a ∈ fp', a ∉ f1 := fun a ha hb => by
    obtain ⟨x, e⟩ := h1.there a hb
    have := hf' a ha
    rw [inB2 a hb, e] at this
    cases this
  refine ⟨⟨Z2.F, minus Z2.B f1, plus Z2.R Z.R f1⟩, ⟨st.f, fun a x e => ?_, fun a e e' => st.n a e ?_, fun a x e => ?_⟩, rfl, .mk' (f := f1 ++ fp') ⟨fun a x e => ?_, fun a x e => ?_, fun a x e => ?_, fun a e => ?_⟩ (RepE.append ?_ ?_) ?_ ?_⟩
  · simp only
    have m : a ∉ f1 := fun m => by rw [nB a m] at e; cases e
    rw [minus_out m]
    exact st.b a x (by simp only; rw [plus_out m]; exact e)
  · simp only
    by_cases m : a ∈ f1
    · exact absurd (nB a m) e'
    · rw [plus_out m]; exact e'
  · simp only at e
    by_cases m : a ∈ f1
    · rw [plus_in m] at e; exact e
    · rw [plus_out m] at e
      have := st.r a x e
      simp only at this
      rw [minus_out m] at this
      exact this
  · simp only at e ⊢
    have m : a ∉ f1 := fun m => by rw [inF a m] at e; cases e
    rw [minus_out m]
    exact inn'.fb a x e
  · simp only at e
    by_cases m : a ∈ f1
    · rw [minus_in m] at e; cases e
    · rw [minus_out m] at e; exact inn'.bh a x e
  · simp only at e
    by_cases m : a ∈ f1
    · rw [plus_in m] at e
      rw [inH a m]
      exact inn.rh a x e
    · rw [plus_out m] at e; exact inn'.rh a x e
  · simp only at e ⊢
    by_cases m : a ∈ f1
    · exact minus_in m
    · rw [plus_out m] at e
      rw [minus_out m]
      exact inn'.rb a e
  · exact RepE.frame (Z := Z) (Z' := ⟨Z2.F, minus Z2.B f1, plus Z2.R Z.R f1⟩) st.f h1 (fun a ha => ⟨by simp only; rw [minus_in ha, nB a ha], by simp only; rw [plus_in ha]⟩) inH
  · exact RepE.frame (Z := Z2) (Z' := ⟨Z2.F, minus Z2.B f1, plus Z2.R Z.R f1⟩) (Same.refl _) r' (fun a ha => ⟨by simp only; rw [minus_out (dj' a ha)], by simp only; rw [plus_out (dj' a ha)]⟩) (fun _ _ => rfl)
  · exact List.nodup_append.mpr ⟨(List.nodup_append.mp nd).1, nd', fun a ha b hb e => dj' b hb (e ▸ ha)⟩
  · intro a ha
    simp only
    by_cases m : a ∈ f1
    · exact minus_in m
    · rw [minus_out m]
      rcases List.mem_append.mp ha with h | h
      · exact absurd h m
      · exact hf' a h
/-- what stands behind is laid aside -/
theorem Good.hideR {τ : St} {ζ : Env} (g : Good K Z H (τ ++ σ) (ζ ++ η)) (hl : τ.length = ζ.length) : ∃ Z1, Good K Z1 H τ ζ ∧ Same Z.B Z1.B ∧ Z1.F = Z.F ∧
    ∀ Z2 H' τ' ζ', Stp Z1 Z2 → Good K Z2 H' τ' ζ' → ∃ Z3, Stp Z Z3 ∧ Z3.F = Z2.F ∧ Good K Z3 H' (τ' ++ σ) (ζ' ++ η) := by
  obtain ⟨inn, f1, f2, h1, h2, nd, hf⟩ := g.split hl
  have g' : Good K Z H (σ ++ τ) (η ++ ζ) := .mk' inn (h2.append h1) (by simp only [List.nodup_append] at nd ⊢; grind) (fun a ha => hf a (by simp only [List.mem_append] at ha ⊢; grind))
  obtain ⟨Z1, g1, s1, e1, k⟩ := g'.hide h2.len
  refine ⟨Z1, g1, s1, e1, fun Z2 H' τ' ζ' st gg => ?_⟩
  obtain ⟨Z3, s3, e3, g3⟩ := k Z2 H' τ' ζ' st gg
  refine ⟨Z3, s3, e3, ?_⟩
  obtain ⟨inn, f1, f2, h1, h2, nd, hf⟩ := g3.split h2.len
  exact .mk' inn (h2.append h1) (by simp only [List.nodup_append] at nd ⊢; grind) (fun a ha => hf a (by simp only [List.mem_append] at ha ⊢; grind))
end
end ML
end
section
set_option Elab.async false
set_option maxRecDepth 100000
set_option maxHeartbeats 4000000
/-! M2: the judgements: an expression, a test, a block against its mirror. -/
namespace ML
open PySem L2

structure Exc where
  c : Nat
  args : List D
inductive Res (α : Type) where
  | bad | ok (a : α) (η : Env) | ex (e : Exc) (η : Env)
abbrev M (α : Type) := Env → Res α
abbrev Pu (α : Type) := Env → Option α

/-- what surrounds a body: the wish of exceptions, how they show, the slots that stay -/
structure Wc where
  W : WX
  XR : Exc → Zn → Hp → Value → Option Addr → Prop
  pn : List Nat

section
variable (K : PySem.W.Frag) (C : Wc)
/-- pure: nothing changes; the value stands for t where it stands -/
def SP (te : TE) (p : Pu T) : Prop := ∀ Z H σ η t (Q : VK), Good K Z H σ η → p η = some t → (∀ v, (∃ f, RepT K Z H t v f) → Q v H) → te σ H Q
def SPt (tt : TT) (p : Pu Bool) : Prop := ∀ Z H σ η b (Q : Bool → Hp → Prop), Good K Z H σ η → p η = some b → Q b H → tt σ H Q
def PostX (Z : Zn) (σ : St) (e : Exc) (η' : Env) : Prop := ∀ cls d Z' H', Stp Z Z' → Good K Z' H' σ η' → C.XR e Z' H' cls d → C.W cls d σ H'
def PostE (Z : Zn) (σ : St) (r : Res T) (Q : VK) : Prop := match r with
  | .bad => False
  | .ok t η' => ∀ v Z' H', Stp Z Z' → Good K Z' H' (some v :: σ) (t :: η') → Q v H'
  | .ex e η' => PostX K C Z σ e η'
def PostA (Z : Zn) (σ : St) (r : Res (List T)) (Q : List V → Hp → Prop) : Prop := match r with
  | .bad => False
  | .ok ts η' => ∀ vs Z' H', Stp Z Z' → vs.length = ts.length → Good K Z' H' (vs.map some ++ σ) (ts ++ η') → Q vs H'
  | .ex e η' => PostX K C Z σ e η'
def PostT (Z : Zn) (σ : St) (r : Res Bool) (Q : Bool → Hp → Prop) : Prop := match r with
  | .bad => False
  | .ok b η' => ∀ Z' H', Stp Z Z' → Good K Z' H' σ η' → Q b H'
  | .ex e η' => PostX K C Z σ e η'
def SM (te : TE) (m : M T) : Prop := ∀ Z H σ η (Q : VK), Good K Z H σ η → PostE K C Z σ (m η) Q → te σ H Q
def SA (ta : TA) (m : M (List T)) : Prop := ∀ Z H σ η (Q : List V → Hp → Prop), Good K Z H σ η → PostA K C Z σ (m η) Q → ta σ H Q
def ST (tt : TT) (m : M Bool) : Prop := ∀ Z H σ η (Q : Bool → Hp → Prop), Good K Z H σ η → PostT K C Z σ (m η) Q → tt σ H Q

inductive Fl where
  | nx | rt (t : T) | bk | ct
def Pin (σ σ' : St) : Prop := ∀ i ∈ C.pn, σ'[i]? = σ[i]?
def PostS (Z : Zn) (σ : St) (r : Res Fl) (D : Ends) : Prop := match r with
  | .bad => False
  | .ok .nx η' => ∀ σ' Z' H', Stp Z Z' → Good K Z' H' σ' η' → Pin C σ σ' → D.nx σ' H'
  | .ok .bk η' => ∀ σ' Z' H', Stp Z Z' → Good K Z' H' σ' η' → Pin C σ σ' → D.bk σ' H'
  | .ok .ct η' => ∀ σ' Z' H', Stp Z Z' → Good K Z' H' σ' η' → Pin C σ σ' → D.ct σ' H'
  | .ok (.rt t) η' => ∀ v σ' Z' H', Stp Z Z' → Good K Z' H' (some v :: σ') (t :: η') → Pin C σ σ' → D.rt v H'
  | .ex e η' => ∀ cls d σ' Z' H', Stp Z Z' → Good K Z' H' σ' η' → Pin C σ σ' → C.XR e Z' H' cls d → C.W cls d σ' H'
def SS (ts : TS) (m : M Fl) : Prop := ∀ Z H σ η D, Good K Z H σ η → PostS K C Z σ (m η) D → ts D σ H
end

/-! ### posts -/
section
variable {K : PySem.W.Frag} {C : Wc} {Z Z' Z1 : Zn} {H H' : Hp} {σ σ' : St} {η η' : Env} {t : T} {v : V}
theorem Pin.refl : Pin C σ σ := fun _ _ => rfl
theorem Pin.trans {σ2 : St} (a : Pin C σ σ') (b : Pin C σ' σ2) : Pin C σ σ2 := fun i hi => (b i hi).trans (a i hi)
theorem PostX.after {e : Exc} (s : Stp Z Z1) (h : PostX K C Z σ e η) : PostX K C Z1 σ e η := fun cls d Z' H' s' g x => h cls d Z' H' (s.trans s') g x
/-- under what is laid aside -/
theorem PostX.under {τ : St} {ζ : Env} {e : Exc} (back : ∀ Z2 H' σ' η', Stp Z1 Z2 → Good K Z2 H' σ' η' → ∃ Z3, Stp Z Z3 ∧ Z3.F = Z2.F ∧ Good K Z3 H' (τ ++ σ') (ζ ++ η')) (hX : ∀ e Z Z' H cls d, Z.F = Z'.F → C.XR e Z H cls d → C.XR e Z' H cls d)
    (hl : τ.length = ζ.length) (h : PostX K C Z σ e η) : PostX K C Z1 σ e η := fun cls d Z' H' s' g x => by
  obtain ⟨Z3, s3, e3, g3⟩ := back Z' H' σ η s' g
  refine h cls d Z3 H' s3 ?_ (hX _ _ _ _ _ _ e3.symm x)
  clear h x back
  induction τ generalizing ζ with
  | nil => cases ζ with
    | nil => exact g3
    | cons _ _ => simp at hl
  | cons o τ ih => cases ζ with
    | nil => simp at hl
    | cons t ζ => exact ih (by simpa using hl) (Good.drop g3)
end
theorem Good.dropN {K : PySem.W.Frag} {Z : Zn} {H : Hp} {σ : St} {η : Env} : ∀ {τ : St} {ζ : Env}, τ.length = ζ.length → Good K Z H (τ ++ σ) (ζ ++ η) → Good K Z H σ η
  | [], [], _, g => g
  | [], _ :: _, hl, _ => by simp at hl
  | _ :: _, [], hl, _ => by simp at hl
  | _ :: τ, _ :: ζ, hl, g => Good.dropN (τ := τ) (ζ := ζ) (by simpa using hl) (Good.drop g)

/-- exceptions show by the frozen part alone -/
def Wc.Reg (C : Wc) : Prop := ∀ e Z Z' H cls d, Z.F = Z'.F → C.XR e Z H cls d → C.XR e Z' H cls d

/-! ### mirrors -/
def mBind {α β : Type} (m : M α) (f : α → M β) : M β := fun η => match m η with
  | .bad => .bad
  | .ok a η' => f a η'
  | .ex e η' => .ex e η'
def mRet {α : Type} (a : α) : M α := fun η => .ok a η
def mOpt {α : Type} (o : Option α) : M α := fun η => match o with
  | some a => .ok a η
  | none => .bad
/-- a pure value that is frozen -/
def mPu (p : Pu T) : M T := fun η => match p η with
  | some (.fz d) => .ok (.fz d) η
  | _ => .bad
def mPuT (p : Pu Bool) : M Bool := fun η => match p η with
  | some b => .ok b η
  | none => .bad
def mFz (m : M T) : M T := mBind m fun t η => match frz t with
  | some d => .ok (.fz d) η
  | none => .bad
/-- a name, its slot taken -/
def mMov (i : Nat) : M T := fun η => match η[i]? with
  | some (.fz d) => .ok (.fz d) η
  | some (.lst ts) => .ok (.lst ts) (η.set i .un)
  | some (.tup ts) => .ok (.tup ts) (η.set i .un)
  | _ => .bad
/-- a name, its slot frozen -/
def mFrz (i : Nat) : M T := fun η => match η[i]? with
  | some t => (match frz t with
    | some d => .ok (.fz d) (η.set i (.fz d))
    | none => .bad)
  | none => .bad
def pV (i : Nat) : Pu T := fun η => match η[i]? with
  | some .un => none
  | r => r
def pC (d : D) : Pu T := fun _ => some (.fz d)
def p2 (f : T → T → Option T) (a b : Pu T) : Pu T := fun η => match a η, b η with
  | some x, some y => f x y
  | _, _ => none
def m2 (f : T → T → Option T) (a b : M T) : M T := mBind a fun x => mBind b fun y η => match f x y with
  | some (.fz d) => .ok (.fz d) η
  | _ => .bad
/-- the second one pure -/
def m2p (f : T → T → Option T) (a : M T) (b : Pu T) : M T := mBind a fun x η => match b η with
  | some y => (match f x y with
    | some (.fz d) => .ok (.fz d) η
    | _ => .bad)
  | none => .bad
/-- the first one a name -/
def m2n (f : T → T → Option T) (i : Nat) (b : M T) : M T := fun η => match pV i η with
  | none => .bad
  | some _ => mBind b (fun y η => match pV i η with
    | some x => (match f x y with
      | some (.fz d) => .ok (.fz d) η
      | _ => .bad)
    | none => .bad) η
def p1 (f : T → Option T) (a : Pu T) : Pu T := fun η => match a η with
  | some x => f x
  | none => none
def m1 (f : T → Option T) (a : M T) : M T := mBind a fun x η => match f x with
  | some (.fz d) => .ok (.fz d) η
  | _ => .bad

section
variable {K : PySem.W.Frag} {C : Wc} {ta tb te : TE} {tA : TA}
/-- the relation of an operation on values -/
def Rd2 (K : PySem.W.Frag) (r : R2) (f : T → T → Option T) : Prop := ∀ Z H x y tx ty fx fy t (Q : VK), Inn Z H → RepT K Z H tx x fx → RepT K Z H ty y fy → f tx ty = some t → (∀ v, (∃ g, RepT K Z H t v g) → Q v H) → r x y H Q
def Rd1 (K : PySem.W.Frag) (r : V → Hp → VK → Prop) (f : T → Option T) : Prop := ∀ Z H x tx fx t (Q : VK), Inn Z H → RepT K Z H tx x fx → f tx = some t → (∀ v, (∃ g, RepT K Z H t v g) → Q v H) → r x H Q

theorem sp_var (i : Nat) : SP K (tVar i) (pV i) := fun Z H σ η t Q g e k => by
  unfold pV at e
  cases q : η[i]? with
  | none => rw [q] at e; cases e
  | some u =>
    rw [q] at e
    cases u with
    | un => cases e
    | _ =>
      cases e
      obtain ⟨v, f, e1, r⟩ := g.get q (fun z => nomatch z)
      exact ⟨v, e1, k v ⟨f, r⟩⟩
theorem sp_c {x : V} {d : D} (h : ∀ F, RepD K F d x) : SP K (tC x) (pC d) := fun Z H σ η t Q g e k => by
  cases e
  exact k x ⟨[], by simp only [RepT]; exact ⟨h _, trivial⟩⟩
theorem sp_op {r : R2} {f : T → T → Option T} {a b : Pu T} (hr : Rd2 K r f) (ha : SP K ta a) (hb : SP K tb b) : SP K (tOp r ta tb) (p2 f a b) := fun Z H σ η t Q g e k => by
  unfold p2 at e
  cases qa : a η with
  | none => rw [qa] at e; cases e
  | some x =>
    cases qb : b η with
    | none => rw [qa, qb] at e; cases e
    | some y =>
      rw [qa, qb] at e
      refine ha Z H σ η x _ g qa fun v ⟨f1, h1⟩ => ?_
      refine hb Z H σ η y _ g qb fun u ⟨f2, h2⟩ => ?_
      exact hr Z H v u x y f1 f2 t Q g.inn h1 h2 e k
theorem sp_un {r : V → Hp → VK → Prop} {f : T → Option T} {a : Pu T} (hr : Rd1 K r f) (ha : SP K ta a) : SP K (tUn r ta) (p1 f a) := fun Z H σ η t Q g e k => by
  unfold p1 at e
  cases qa : a η with
  | none => rw [qa] at e; cases e
  | some x =>
    rw [qa] at e
    refine ha Z H σ η x _ g qa fun v ⟨f1, h1⟩ => ?_
    exact hr Z H v x f1 t Q g.inn h1 e k
theorem sm_pu {p : Pu T} (h : SP K te p) : SM K C te (mPu p) := fun Z H σ η Q g k => by
  unfold mPu at k
  cases q : p η with
  | none => rw [q] at k; exact k.elim
  | some t =>
    rw [q] at k
    cases t with
    | fz d =>
      refine h Z H σ η _ Q g q fun v ⟨f, r⟩ => ?_
      simp only [RepT] at r
      exact k v Z H .refl (g.push r.1)
    | _ => exact k.elim
theorem sm_fz {m : M T} (h : SM K C te m) : SM K C te (mFz m) := fun Z H σ η Q g k => by
  unfold mFz mBind at k
  refine h Z H σ η Q g ?_
  cases q : m η with
  | bad => rw [q] at k; exact k.elim
  | ex e η' => rw [q] at k; exact k
  | ok t η' =>
    rw [q] at k
    simp only at k
    cases qf : frz t with
    | none => rw [qf] at k; exact k.elim
    | some d =>
      rw [qf] at k
      intro v Z' H' s g'
      obtain ⟨Z2, s2, g2⟩ := g'.freeze qf
      exact k v Z2 H' (s.trans s2) g2
theorem sm_mov (i : Nat) : SM K C (tVar i) (mMov i) := fun Z H σ η Q g k => by
  unfold mMov at k
  cases q : η[i]? with
  | none => rw [q] at k; exact k.elim
  | some u =>
    rw [q] at k
    cases u with
    | un => exact k.elim
    | rl _ => exact k.elim
    | fz d =>
      obtain ⟨v, e, r, g'⟩ := g.copy q
      exact ⟨v, e, k v Z H .refl g'⟩
    | lst ts =>
      obtain ⟨v, e, g'⟩ := g.mov q (fun z => nomatch z)
      exact ⟨v, e, k v Z H .refl g'⟩
    | tup ts =>
      obtain ⟨v, e, g'⟩ := g.mov q (fun z => nomatch z)
      exact ⟨v, e, k v Z H .refl g'⟩
theorem sm_frz (i : Nat) : SM K C (tVar i) (mFrz i) := fun Z H σ η Q g k => by
  unfold mFrz at k
  cases q : η[i]? with
  | none => rw [q] at k; exact k.elim
  | some u =>
    rw [q] at k
    simp only at k
    cases qf : frz u with
    | none => rw [qf] at k; exact k.elim
    | some d =>
      rw [qf] at k
      have hu : u ≠ .un := fun z => by subst z; simp [frz] at qf
      obtain ⟨v, e, g'⟩ := g.mov q hu
      obtain ⟨Z2, s2, g2⟩ := g'.freeze qf
      have g3 := g2.back e
      rw [List.set_set] at g3
      have hi := (List.getElem?_eq_some_iff.mp q).1
      obtain ⟨v2, e2, r2, g4⟩ := g3.copy (i := i) (by rw [List.getElem?_set_self hi])
      rw [e] at e2
      cases e2
      exact ⟨v, e, k v Z2 H s2 g4⟩
end

/-! ### two in a row -/
section
variable {K : PySem.W.Frag} {C : Wc} {ta tb te : TE} {tA : TA}
theorem Good.swap2 {Z : Zn} {H : Hp} {σ : St} {η : Env} {a b : Option V} {t u : T} (g : Good K Z H (a :: b :: σ) (t :: u :: η)) : Good K Z H (b :: a :: σ) (u :: t :: η) := by
  obtain ⟨inn, f1, f2, h1, h2, nd, hf⟩ := g.cons_ex
  simp only [RepE] at h2
  obtain ⟨o', σ', f3, f4, e1, r2, r3, e4⟩ := h2
  simp only [List.cons.injEq] at e1
  obtain ⟨rfl, rfl⟩ := e1
  subst e4
  refine Good.cons_mk (f1 := f3) (f2 := f1 ++ f4) inn r2 (by simp only [RepE]; exact ⟨a, _, f1, f4, rfl, h1, r3, rfl⟩) ?_ (fun x hx => hf x (by simp only [List.mem_append] at hx ⊢; grind))
  simp only [List.nodup_append, List.mem_append] at nd ⊢; grind
theorem Good.alias {Z : Zn} {H : Hp} {σ : St} {η : Env} {v : V} {t : T} (g : Good K Z H (some v :: σ) (t :: η)) : ∃ f, RepT K Z H t v f := by
  obtain ⟨_, f, _, h, _, _, _⟩ := g.cons_ex
  rcases h with ⟨rfl, _⟩ | ⟨v', e', h⟩
  · exact ⟨[], by simp [RepT]⟩
  · cases e'; exact ⟨_, h⟩
theorem sm_op {r : R2} {f : T → T → Option T} {a b : M T} (hC : C.Reg) (hr : Rd2 K r f) (ha : SM K C ta a) (hb : SM K C tb b) : SM K C (tOp r ta tb) (m2 f a b) := fun Z H σ η Q g k => by
  unfold m2 mBind at k
  refine ha Z H σ η _ g ?_
  cases qa : a η with
  | bad => rw [qa] at k; exact k.elim
  | ex e η' => rw [qa] at k; exact k
  | ok x η1 =>
    rw [qa] at k
    simp only at k
    intro v Z1 H1 s1 g1
    obtain ⟨Z1', g1', hB, eF, back⟩ := Good.hide (τ := [some v]) (ζ := [x]) g1 rfl
    refine hb Z1' H1 σ η1 _ g1' ?_
    cases qb : b η1 with
    | bad => rw [qb] at k; exact k.elim
    | ex e η' =>
      rw [qb] at k
      exact PostX.under back hC rfl (PostX.after s1 k)
    | ok y η2 =>
      rw [qb] at k
      simp only at k
      intro u Z2 H2 s2 g2
      obtain ⟨Z3, s3, e3, g3⟩ := back Z2 H2 (some u :: σ) (y :: η2) s2 g2
      cases qf : f x y with
      | none => rw [qf] at k; exact k.elim
      | some t =>
        rw [qf] at k
        cases t with
        | fz d =>
          have g4 := Good.drop g3
          obtain ⟨f1, rx⟩ := g3.alias
          obtain ⟨f2, ry⟩ := g4.alias
          refine hr Z3 H2 v u x y f1 f2 _ Q g3.inn rx ry qf fun w ⟨fw, rw'⟩ => ?_
          simp only [RepT] at rw'
          exact k w Z3 H2 (s1.trans s3) ((Good.drop g4).push rw'.1)
        | _ => exact k.elim
theorem sm_opP {r : R2} {f : T → T → Option T} {a : M T} {b : Pu T} (hr : Rd2 K r f) (ha : SM K C ta a) (hb : SP K tb b) : SM K C (tOp r ta tb) (m2p f a b) := fun Z H σ η Q g k => by
  unfold m2p mBind at k
  refine ha Z H σ η _ g ?_
  cases qa : a η with
  | bad => rw [qa] at k; exact k.elim
  | ex e η' => rw [qa] at k; exact k
  | ok x η1 =>
    rw [qa] at k
    simp only at k
    intro v Z1 H1 s1 g1
    cases qb : b η1 with
    | none => rw [qb] at k; exact k.elim
    | some y =>
      rw [qb] at k
      simp only at k
      refine hb Z1 H1 σ η1 y _ (Good.drop g1) qb fun u ⟨f2, ry⟩ => ?_
      cases qf : f x y with
      | none => rw [qf] at k; exact k.elim
      | some t =>
        rw [qf] at k
        cases t with
        | fz d =>
          obtain ⟨f1, rx⟩ := g1.alias
          refine hr Z1 H1 v u x y f1 f2 _ Q g1.inn rx ry qf fun w ⟨fw, rw'⟩ => ?_
          simp only [RepT] at rw'
          exact k w Z1 H1 s1 ((Good.drop g1).push rw'.1)
        | _ => exact k.elim
theorem pV_some {i : Nat} {η : Env} {t : T} (h : pV i η = some t) : η[i]? = some t ∧ t ≠ .un := by
  unfold pV at h
  cases q : η[i]? with
  | none => rw [q] at h; cases h
  | some u =>
    rw [q] at h
    cases u <;> first | (cases h; done) | (cases h; exact ⟨rfl, fun z => nomatch z⟩)
theorem sm_opN {r : R2} {f : T → T → Option T} {i : Nat} {b : M T} (hr : Rd2 K r f) (hb : SM K C tb b) : SM K C (tOp r (tVar i) tb) (m2n f i b) := fun Z H σ η Q g k => by
  unfold m2n mBind at k
  cases qi : pV i η with
  | none => rw [qi] at k; exact k.elim
  | some x0 =>
    rw [qi] at k
    obtain ⟨v, _, ev, _⟩ := g.get (pV_some qi).1 (pV_some qi).2
    refine ⟨v, ev, hb Z H σ η _ g ?_⟩
    cases qb : b η with
    | bad => rw [qb] at k; exact k.elim
    | ex e η' => rw [qb] at k; exact k
    | ok y η1 =>
      rw [qb] at k
      simp only at k
      intro u Z1 H1 s1 g1
      cases q2 : pV i η1 with
      | none => rw [q2] at k; exact k.elim
      | some x =>
        rw [q2] at k
        simp only at k
        cases qf : f x y with
        | none => rw [qf] at k; exact k.elim
        | some t =>
          rw [qf] at k
          cases t with
          | fz d =>
            obtain ⟨f2, ry⟩ := g1.alias
            obtain ⟨v', f1, ev', rx⟩ := (Good.drop g1).get (pV_some q2).1 (pV_some q2).2
            rw [ev] at ev'
            cases ev'
            refine hr Z1 H1 v u x y f1 f2 _ Q g1.inn rx ry qf fun w ⟨fw, rw'⟩ => ?_
            simp only [RepT] at rw'
            exact k w Z1 H1 s1 ((Good.drop g1).push rw'.1)
          | _ => exact k.elim
theorem sm_un {r : V → Hp → VK → Prop} {f : T → Option T} {a : M T} (hr : Rd1 K r f) (ha : SM K C ta a) : SM K C (tUn r ta) (m1 f a) := fun Z H σ η Q g k => by
  unfold m1 mBind at k
  refine ha Z H σ η _ g ?_
  cases qa : a η with
  | bad => rw [qa] at k; exact k.elim
  | ex e η' => rw [qa] at k; exact k
  | ok x η1 =>
    rw [qa] at k
    simp only at k
    intro v Z1 H1 s1 g1
    cases qf : f x with
    | none => rw [qf] at k; exact k.elim
    | some t =>
      rw [qf] at k
      cases t with
      | fz d =>
        obtain ⟨f1, rx⟩ := g1.alias
        refine hr Z1 H1 v x f1 _ Q g1.inn rx qf fun w ⟨fw, rw'⟩ => ?_
        simp only [RepT] at rw'
        exact k w Z1 H1 s1 ((Good.drop g1).push rw'.1)
      | _ => exact k.elim
end
end ML
end
section
set_option Elab.async false
set_option maxRecDepth 100000
set_option maxHeartbeats 4000000
/-! Comb: math.comb of two ints. -/
namespace PySem.W
open PySem PySem.Calls
namespace MGC
theorem entry_comb : entryFor table "math.comb" = some Builtin.«math.comb» := entryFor_of_tree (by kernel_rfl)
theorem kind_comb : builtinKind "math.comb" = none := by kernel_rfl
theorem plain_comb : plainId "math.comb" = true := by decide +kernel
theorem args_comb (a b : Value) : argsOk "math.comb" ⟨[a, b], []⟩ := by unfold argsOk; kernel_rfl
end MGC
def combV (n k : Int) : Int := Builtin.Math.fallingProduct n (min k (n - k)).toNat / Builtin.Math.fallingProduct (min k (n - k)) (min k (n - k)).toNat
theorem run_comb (a : Int) (t : Tok) (b : Int) (u : Tok) (h0 : ¬ a < 0) (h1 : ¬ b < 0) (h2 : ¬ b > a) (h3 : ¬ min b (a - b) > Builtin.Math.maxSsize) (h4 : ¬ min b (a - b) > Builtin.Math.manyFactors) (h5 : ¬ min b (a - b) > 9000)
    (hsz : (combV a b).natAbs.log2 < bitsLine) :
    Gives (Builtin.«math.comb» ⟨[.int a t, .int b u], []⟩) (.int (combV a b)) :=
  .of_wp fun M A E s Q h => by
    unfold combV at hsz h
    obtain ⟨hp, g, d, tk, os⟩ := s; wp_walk; (try (refine wpAny_ite_false (decide_eq_false (Nat.not_le.mpr hsz)) ?_; wp_walk)); exact ⟨_, rfl, h⟩
end PySem.W
namespace ML
open PySem L2
def rComb : List V → Hp → VK → Prop := fun vs H Q => ∃ a b : Int, vs = [.int a, .int b] ∧ (0 ≤ b ∧ b ≤ a ∧ a ≤ 9000 ∧ (PySem.W.combV a b).natAbs.log2 < 1000000) ∧ Q (.int (PySem.W.combV a b)) H
theorem cr_comb {X : Cx} : CallR X (.builtin "math.comb") rComb := by
  intro pins s σ H vs us Q I r h
  obtain ⟨a, b, rfl, ⟨h1, h2, h3, h4⟩, q⟩ := h
  obtain ⟨t, u, rfl⟩ := Vals.int2 r
  have e : bitsLine = 134217728 := by decide
  have em : Builtin.Math.maxSsize = 2 ^ 63 - 1 := rfl
  have ef : Builtin.Math.manyFactors = 20000 := rfl
  exact PySem.call_function_meets PySem.W.MGC.kind_comb PySem.W.MGC.plain_comb PySem.W.MGC.entry_comb (PySem.W.MGC.args_comb _ _) (PySem.W.run_comb a t b u (by omega) (by omega) (by omega) (by rw [em]; omega) (by rw [ef]; omega) (by omega) (by rw [e]; omega)).meets ⟨.int _, H, I.tok _, ⟨_, rfl⟩, q⟩
end ML
end
section
set_option Elab.async false
set_option maxRecDepth 100000
set_option maxHeartbeats 4000000
/-! M3: arguments, displays, built-ins, operations on values. -/
namespace ML
open PySem L2 StX

/-! ### what a value's items are -/
/-- the items, as they are owned -/
def itemsO : T → Option (List T)
  | .lst ts => some ts
  | .tup ts => some ts
  | .fz (.lst ds) => some (ds.map .fz)
  | .fz (.wl ds) => some (ds.map .fz)
  | .fz (.tup ds) => some (ds.map .fz)
  | _ => none
/-- the items, all of them frozen -/
def unfz : List T → Option (List D)
  | [] => some []
  | .fz d :: ts => (unfz ts).map (d :: ·)
  | _ :: _ => none
def kids : T → Option (List D)
  | .lst ts => unfz ts
  | .tup ts => unfz ts
  | .fz (.lst ds) => some ds
  | .fz (.wl ds) => some ds
  | .fz (.tup ds) => some ds
  | .rl ds => some ds
  | _ => none
/-- .. of a list that stands as such -/
def kidsS : T → Option (List D)
  | .lst ts => unfz ts
  | .fz (.lst ds) => some ds
  | .rl ds => some ds
  | _ => none
/-- the items for reading -/
def itemsR : T → Option (List T)
  | .lst ts => some ts
  | .tup ts => some ts
  | .fz (.lst ds) => some (ds.map .fz)
  | .fz (.wl ds) => some (ds.map .fz)
  | .fz (.tup ds) => some (ds.map .fz)
  | .rl ds => some (ds.map .fz)
  | _ => none

section
variable {K : PySem.W.Frag} {C : Wc} {Z Z' : Zn} {H : Hp} {σ : St} {η : Env} {t : T} {v : V} {f : List Addr}
theorem unfz_map (ds : List D) : unfz (ds.map .fz) = some ds := by
  induction ds with
  | nil => rfl
  | cons d ds ih => simp only [List.map_cons, unfz, ih, Option.map_some]
theorem unfz_eq : ∀ {ts : List T} {ds : List D}, unfz ts = some ds → ts = ds.map .fz
  | [], ds, h => by simp only [unfz, Option.some.injEq] at h; subst h; rfl
  | .fz d :: ts, ds, h => by
    simp only [unfz] at h
    cases q : unfz ts with
    | none => rw [q] at h; cases h
    | some es =>
      rw [q] at h
      simp only [Option.map_some, Option.some.injEq] at h
      subst h
      rw [unfz_eq q]; rfl
  | .un :: _, _, h => by simp [unfz] at h
  | .lst _ :: _, _, h => by simp [unfz] at h
  | .tup _ :: _, _, h => by simp [unfz] at h
  | .rl _ :: _, _, h => by simp [unfz] at h
theorem RepTs.ofFz : ∀ {ds : List D} {vs : List V} {f : List Addr}, RepTs K Z H (ds.map .fz) vs f → RepDs K Z.F ds vs
  | [], vs, f, h => by simp only [List.map_nil, RepTs] at h; simp only [RepDs]; exact h.1
  | d :: ds, vs, f, h => by
    simp only [List.map_cons, RepTs, RepT] at h
    obtain ⟨v, vs', f1, f2, h1, h2, h3, h4⟩ := h
    simp only [RepDs]
    exact ⟨v, vs', h1, h2.1, h3.ofFz⟩
theorem sqL_to (i : Inn Z H) {p : Addr} {vs : List V} (h : SqL K Z.F p vs) : SqL K H p vs := (i.fb.trans i.bh).seq h
theorem sqT_to (i : Inn Z H) {p : Addr} {vs : List V} (h : SqT K Z.F p vs) : SqT K H p vs := sqT_mono (i.fb.trans i.bh) h
theorem RepT.kids {ds : List D} (i : Inn Z H) (r : RepT K Z H t v f) (e : kids t = some ds) : ∃ p vs, v = .ref p ∧ (SqL K H p vs ∨ SqT K H p vs) ∧ RepDs K Z.F ds vs := by
  cases t with
  | un => cases e
  | lst ts =>
    simp only [ML.kids] at e
    rw [unfz_eq e] at r
    simp only [RepT] at r
    obtain ⟨p, vs, fs, h1, h2, h3, h4, h5⟩ := r
    exact ⟨p, vs, h1, .inl (.of h2), h4.ofFz⟩
  | tup ts =>
    simp only [ML.kids] at e
    rw [unfz_eq e] at r
    simp only [RepT] at r
    obtain ⟨p, vs, fs, h1, h2, h3, h4, h5⟩ := r
    exact ⟨p, vs, h1, .inr (.of h2), h4.ofFz⟩
  | rl es =>
    simp only [ML.kids, Option.some.injEq] at e
    subst e
    simp only [RepT] at r
    obtain ⟨p, vs, h1, h2, h3, h4, h5⟩ := r
    exact ⟨p, vs, h1, .inl (.of h3.2), h4⟩
  | fz d =>
    simp only [RepT] at r
    cases d with
    | lst es =>
      simp only [ML.kids, Option.some.injEq] at e
      subst e
      simp only [RepD] at r
      obtain ⟨⟨p, vs, h1, h2, h3⟩, _⟩ := r
      exact ⟨p, vs, h1, .inl (sqL_to i (.of h2)), h3⟩
    | wl es =>
      simp only [ML.kids, Option.some.injEq] at e
      subst e
      simp only [RepD] at r
      obtain ⟨⟨p, vs, h1, h2, h3⟩, _⟩ := r
      exact ⟨p, vs, h1, .inl (sqL_to i h2), h3⟩
    | tup es =>
      simp only [ML.kids, Option.some.injEq] at e
      subst e
      simp only [RepD] at r
      obtain ⟨⟨p, vs, h1, h2, h3⟩, _⟩ := r
      exact ⟨p, vs, h1, .inr (sqT_to i h2), h3⟩
    | _ => cases e
theorem RepT.kidsS {ds : List D} (i : Inn Z H) (r : RepT K Z H t v f) (e : kidsS t = some ds) : ∃ p vs, v = .ref p ∧ H p = some (.lst vs) ∧ RepDs K Z.F ds vs := by
  cases t with
  | un => cases e
  | tup ts => cases e
  | lst ts =>
    simp only [ML.kidsS] at e
    rw [unfz_eq e] at r
    simp only [RepT] at r
    obtain ⟨p, vs, fs, h1, h2, h3, h4, h5⟩ := r
    exact ⟨p, vs, h1, h2, h4.ofFz⟩
  | rl es =>
    simp only [ML.kidsS, Option.some.injEq] at e
    subst e
    simp only [RepT] at r
    obtain ⟨p, vs, h1, h2, h3, h4, h5⟩ := r
    exact ⟨p, vs, h1, h3.2, h4⟩
  | fz d =>
    simp only [RepT] at r
    cases d with
    | lst es =>
      simp only [ML.kidsS, Option.some.injEq] at e
      subst e
      simp only [RepD] at r
      obtain ⟨⟨p, vs, h1, h2, h3⟩, _⟩ := r
      exact ⟨p, vs, h1, i.bh _ _ (i.fb _ _ h2), h3⟩
    | _ => cases e
theorem RepT.items {ts : List T} (i : Inn Z H) (r : RepT K Z H t v f) (e : itemsR t = some ts) : ∃ p vs g, v = .ref p ∧ (SqL K H p vs ∨ SqT K H p vs) ∧ RepTs K Z H ts vs g := by
  cases t with
  | un => cases e
  | lst us =>
    simp only [itemsR, Option.some.injEq] at e
    subst e
    simp only [RepT] at r
    obtain ⟨p, vs, fs, h1, h2, h3, h4, h5⟩ := r
    exact ⟨p, vs, fs, h1, .inl (.of h2), h4⟩
  | tup us =>
    simp only [itemsR, Option.some.injEq] at e
    subst e
    simp only [RepT] at r
    obtain ⟨p, vs, fs, h1, h2, h3, h4, h5⟩ := r
    exact ⟨p, vs, fs, h1, .inr (.of h2), h4⟩
  | rl es =>
    obtain ⟨p, vs, h1, h2, h3⟩ := r.kids (ds := es) i rfl
    simp only [itemsR, Option.some.injEq] at e
    subst e
    exact ⟨p, vs, [], h1, h2, h3.fz⟩
  | fz d =>
    cases d with
    | lst es =>
      obtain ⟨p, vs, h1, h2, h3⟩ := r.kids (ds := es) i rfl
      simp only [itemsR, Option.some.injEq] at e
      subst e
      exact ⟨p, vs, [], h1, h2, h3.fz⟩
    | wl es =>
      obtain ⟨p, vs, h1, h2, h3⟩ := r.kids (ds := es) i rfl
      simp only [itemsR, Option.some.injEq] at e
      subst e
      exact ⟨p, vs, [], h1, h2, h3.fz⟩
    | tup es =>
      obtain ⟨p, vs, h1, h2, h3⟩ := r.kids (ds := es) i rfl
      simp only [itemsR, Option.some.injEq] at e
      subst e
      exact ⟨p, vs, [], h1, h2, h3.fz⟩
    | _ => cases e
def kidsL : T → Option (List D)
  | .fz (.tup _) => none
  | .tup _ => none
  | t => kids t
theorem RepT.kidsL {Z : Zn} {H : Hp} {t : T} {v : V} {f : List Addr} {ds : List D} (i : Inn Z H) (r : RepT K Z H t v f) (e : kidsL t = some ds) : ∃ p vs, v = .ref p ∧ SqL K H p vs ∧ RepDs K Z.F ds vs := by
  cases t with
  | un => cases e
  | tup ts => cases e
  | lst ts => obtain ⟨p, ws, a1, a2, a3⟩ := r.kidsS (ds := ds) i e; exact ⟨p, ws, a1, .of a2, a3⟩
  | rl es => obtain ⟨p, ws, a1, a2, a3⟩ := r.kidsS (ds := ds) i e; exact ⟨p, ws, a1, .of a2, a3⟩
  | fz d =>
    cases d with
    | lst es => obtain ⟨p, ws, a1, a2, a3⟩ := r.kidsS (ds := ds) i e; exact ⟨p, ws, a1, .of a2, a3⟩
    | wl es =>
      simp only [RepT, RepD] at r
      obtain ⟨⟨p, ws, a1, a2, a3⟩, _⟩ := r
      cases e
      exact ⟨p, ws, a1, sqL_to i a2, a3⟩
    | _ => cases e
theorem RepTs.get : ∀ {ts : List T} {vs : List V} {f : List Addr} {i : Nat} {t : T}, RepTs K Z H ts vs f → ts[i]? = some t → ∃ v g, vs[i]? = some v ∧ RepT K Z H t v g
  | [], _, _, _, _, _, e => by simp at e
  | t :: ts, vs, f, 0, u, h, e => by
    simp only [RepTs] at h
    obtain ⟨v, vs', f1, f2, h1, h2, h3, h4⟩ := h
    subst h1
    simp at e
    subst e
    exact ⟨v, f1, by simp, h2⟩
  | t :: ts, vs, f, i + 1, u, h, e => by
    simp only [RepTs] at h
    obtain ⟨v, vs', f1, f2, h1, h2, h3, h4⟩ := h
    subst h1
    obtain ⟨w, g, e1, e2⟩ := RepTs.get (i := i) h3 (by simpa using e)
    exact ⟨w, g, by simpa using e1, e2⟩
theorem RepTs.atI {ts : List T} {vs : List V} {f : List Addr} {i : Int} {t : T} (h : RepTs K Z H ts vs f) (e : atI ts i = some t) : ∃ v g, L2.atI vs i = some v ∧ RepT K Z H t v g := by
  unfold L2.atI at e ⊢
  rw [h.len]
  cases q : ixN ts.length i with
  | none => rw [q] at e; cases e
  | some j =>
    rw [q] at e
    obtain ⟨v, g, e1, e2⟩ := h.get (i := j) e
    exact ⟨v, g, e1, e2⟩

/-! ### operations on values -/
def onI (c : Int → Int → Bool) (g : Int → Int → D) : T → T → Option T
  | .fz (.int i), .fz (.int j) => if c i j then some (.fz (g i j)) else none
  | _, _ => none
theorem rd_I {C : Int → Int → Prop} {g : Int → Int → V} {c : Int → Int → Bool} {d : Int → Int → D} (hc : ∀ i j, c i j = true → C i j) (hd : ∀ i j F, RepD K F (d i j) (g i j)) : Rd2 K (rI C g) (onI c d) := by
  intro Z H x y tx ty fx fy t Q inn hx hy e k
  unfold onI at e
  split at e
  · rename_i i j
    split at e
    · rename_i hij
      cases e
      simp only [RepT, RepD] at hx hy
      refine ⟨i, j, hx.1, hy.1, hc i j hij, k _ ⟨[], ?_⟩⟩
      simp only [RepT]
      exact ⟨hd i j _, trivial⟩
    · cases e
  · cases e
theorem rd_I0 {g : Int → Int → V} {d : Int → Int → D} (hd : ∀ i j F, RepD K F (d i j) (g i j)) : Rd2 K (rI0 g) (onI (fun _ _ => true) d) := by
  intro Z H x y tx ty fx fy t Q inn hx hy e k
  unfold onI at e
  split at e
  · rename_i i j
    rw [if_pos rfl] at e
    cases e
    simp only [RepT, RepD] at hx hy
    refine ⟨i, j, hx.1, hy.1, k _ ⟨[], ?_⟩⟩
    simp only [RepT]
    exact ⟨hd i j _, trivial⟩
  · cases e
def oAdd : T → T → Option T := onI (fun _ _ => true) fun i j => .int (i + j)
def oSub : T → T → Option T := onI (fun _ _ => true) fun i j => .int (i - j)
def cMul (i j : Int) : Bool := (decide (-(2 ^ 64) < j) && decide (j < 2 ^ 64)) || (decide (-(2 ^ 64) < i) && decide (i < 2 ^ 64)) || decide (i.natAbs.log2 + j.natAbs.log2 < 1000000)
def oMul : T → T → Option T := onI cMul fun i j => .int (i * j)
def oDiv : T → T → Option T := onI (fun _ j => decide (0 < j) && decide (j.natAbs.log2 < 9000)) fun i j => .int (i / j)
def oMod : T → T → Option T := onI (fun _ j => decide (0 < j)) fun i j => .int (i % j)
def oPow : T → T → Option T := onI (fun i j => decide (0 ≤ j) && decide (j ≤ 1000000) && decide (i.natAbs < 2 ^ 64)) fun i j => .int (i ^ j.toNat)
def oLt : T → T → Option T := onI (fun _ _ => true) fun i j => .bl (decide (i < j))
def oLe : T → T → Option T := onI (fun _ _ => true) fun i j => .bl (decide (i ≤ j))
def oGt : T → T → Option T := onI (fun _ _ => true) fun i j => .bl (decide (j < i))
def oGe : T → T → Option T := onI (fun _ _ => true) fun i j => .bl (decide (j ≤ i))
/-- the product's rule, for either kind of bound -/
def rMul : R2 := fun x y H Q => rI CMul (fun i j => .int (i * j)) x y H Q ∨ rI CMulW (fun i j => .int (i * j)) x y H Q
theorem OpR.or {X : Cx} {g : Value → Value → Sem Value} {r r' : R2} (h : OpR X g r) (h' : OpR X g r') : OpR X g (fun x y H Q => r x y H Q ∨ r' x y H Q) := by
  intro pins s σ H x y v u Q I rx ry q
  rcases q with q | q
  · exact h pins s σ H x y v u Q I rx ry q
  · exact h' pins s σ H x y v u Q I rx ry q
theorem op_mulA {X : Cx} : OpR X (binaryOp .Mult) rMul := OpR.or op_mul op_mulW
theorem rd_add : Rd2 K (rI0 fun i j => .int (i + j)) oAdd := rd_I0 fun i j F => by simp only [RepD]
theorem rd_sub : Rd2 K (rI0 fun i j => .int (i - j)) oSub := rd_I0 fun i j F => by simp only [RepD]
theorem rd_mul : Rd2 K rMul oMul := by
  intro Z H x y tx ty fx fy t Q inn hx hy e k
  unfold oMul onI at e
  split at e
  · rename_i i j
    split at e
    · rename_i hij
      cases e
      simp only [RepT, RepD] at hx hy
      have kk : Q (.int (i * j)) H := k _ ⟨[], by simp [RepT, RepD]⟩
      simp only [cMul, Bool.or_eq_true, Bool.and_eq_true, decide_eq_true_eq] at hij
      rcases hij with (h | h) | h
      · exact .inl ⟨i, j, hx.1, hy.1, .inr h, kk⟩
      · exact .inl ⟨i, j, hx.1, hy.1, .inl h, kk⟩
      · exact .inr ⟨i, j, hx.1, hy.1, h, kk⟩
    · cases e
  · cases e
theorem rd_div : Rd2 K (rI CDivW fun i j => .int (i / j)) oDiv := rd_I (fun i j h => by simpa [CDivW] using h) fun i j F => by simp only [RepD]
theorem rd_mod : Rd2 K (rI (fun _ j => 0 < j) fun i j => .int (i % j)) oMod := rd_I (fun i j h => by simpa using h) fun i j F => by simp only [RepD]
theorem rd_pow : Rd2 K (rI CPow fun i j => .int (i ^ j.toNat)) oPow := rd_I (fun i j h => by simpa [CPow, and_assoc] using h) fun i j F => by simp only [RepD]
theorem rd_lt : Rd2 K (rI0 fun i j => .bl (decide (i < j))) oLt := rd_I0 fun i j F => by simp only [RepD]
theorem rd_le : Rd2 K (rI0 fun i j => .bl (decide (i ≤ j))) oLe := rd_I0 fun i j F => by simp only [RepD]
theorem rd_gt : Rd2 K (rI0 fun i j => .bl (decide (j < i))) oGt := rd_I0 fun i j F => by simp only [RepD]
theorem rd_ge : Rd2 K (rI0 fun i j => .bl (decide (j ≤ i))) oGe := rd_I0 fun i j F => by simp only [RepD]
def tNeg : T → Option T
  | .fz (.int i) => some (.fz (.int (-i)))
  | _ => none
theorem rd_neg : Rd1 K (rU fun i => .int (-i)) tNeg := by
  intro Z H x tx fx t Q inn hx e k
  unfold tNeg at e
  split at e
  · rename_i i
    cases e
    simp only [RepT, RepD] at hx
    exact ⟨i, hx.1, k _ ⟨[], by simp [RepT, RepD]⟩⟩
  · cases e
/-- the scalars -/
def sv : T → Option V
  | .fz .non => some .non
  | .fz (.bl b) => some (.bl b)
  | .fz (.int i) => some (.int i)
  | .fz (.str s) => some (.str s)
  | _ => none
theorem sv_rep {x : V} (e : sv t = some x) (r : RepT K Z H t v f) : v = x := by
  unfold sv at e
  split at e <;> first | (cases e; simp only [RepT, RepD] at r; exact r.1) | cases e
def oEqS (neg : Bool) (a b : T) : Option T := match sv a, sv b with
  | some x, some y => if scal x y then some (.fz (.bl (if neg then !decide (x = y) else decide (x = y)))) else none
  | _, _ => none
theorem rd_eqS : Rd2 K rEq (oEqS false) := by
  intro Z H x y tx ty fx fy t Q inn hx hy e k
  unfold oEqS at e
  split at e
  · rename_i a b ea eb
    split at e
    · rename_i hs
      cases e
      rw [sv_rep ea hx, sv_rep eb hy]
      exact ⟨hs, k _ ⟨[], by simp [RepT, RepD]⟩⟩
    · cases e
  · cases e
theorem rd_neS : Rd2 K rNe (oEqS true) := by
  intro Z H x y tx ty fx fy t Q inn hx hy e k
  unfold oEqS at e
  split at e
  · rename_i a b ea eb
    split at e
    · rename_i hs
      cases e
      rw [sv_rep ea hx, sv_rep eb hy]
      exact ⟨hs, k _ ⟨[], by simp [RepT, RepD]⟩⟩
    · cases e
  · cases e
/-- None or not -/
def isN : T → Option Bool
  | .un => none
  | .fz .non => some true
  | _ => some false
theorem isN_rep {b : Bool} (e : isN t = some b) (r : RepT K Z H t v f) : decide (v = .non) = b := by
  cases t with
  | un => cases e
  | lst ts => cases e; simp only [RepT] at r; obtain ⟨p, _, _, rfl, _⟩ := r; simp
  | tup ts => cases e; simp only [RepT] at r; obtain ⟨p, _, _, rfl, _⟩ := r; simp
  | rl ts => cases e; simp only [RepT] at r; obtain ⟨p, _, rfl, _⟩ := r; simp
  | fz d =>
    simp only [RepT] at r
    have r1 := r.1
    cases d <;> cases e <;> simp only [RepD] at r1 <;> first | (subst r1; simp; done) | (obtain ⟨p, _, rfl, _⟩ := r1; simp)
def oIsN (neg : Bool) (a b : T) : Option T := match b with
  | .fz .non => (isN a).map fun c => .fz (.bl (if neg then !c else c))
  | _ => none
theorem rd_isN : Rd2 K (fun x y H Q => y = .non ∧ Q (.bl (decide (x = .non))) H) (oIsN false) := by
  intro Z H x y tx ty fx fy t Q inn hx hy e k
  unfold oIsN at e
  split at e
  · cases q : isN tx with
    | none => rw [q] at e; cases e
    | some c =>
      rw [q] at e; cases e
      simp only [RepT, RepD] at hy
      refine ⟨hy.1, k _ ⟨[], ?_⟩⟩
      rw [isN_rep q hx]
      simp [RepT, RepD]
  · cases e
theorem rd_notN : Rd2 K (fun x y H Q => y = .non ∧ Q (.bl (!decide (x = .non))) H) (oIsN true) := by
  intro Z H x y tx ty fx fy t Q inn hx hy e k
  unfold oIsN at e
  split at e
  · cases q : isN tx with
    | none => rw [q] at e; cases e
    | some c =>
      rw [q] at e; cases e
      simp only [RepT, RepD] at hy
      refine ⟨hy.1, k _ ⟨[], ?_⟩⟩
      rw [isN_rep q hx]
      simp [RepT, RepD]
  · cases e
/-- x[i] -/
def oIx (a b : T) : Option T := match itemsR a, b with
  | some ts, .fz (.int i) => (match atI ts i with
    | some .un => none
    | r => r)
  | _, _ => none
theorem rd_ix : Rd2 K (rIx K) oIx := by
  intro Z H x y tx ty fx fy t Q inn hx hy e k
  unfold oIx at e
  split at e
  · rename_i ts i ea
    have e' : atI ts i = some t := by
      cases q : atI ts i with
      | none => rw [q] at e; cases e
      | some u => rw [q] at e; cases u <;> first | (cases e; done) | exact e
    obtain ⟨p, vs, g, rfl, hq, hr⟩ := hx.items inn ea
    obtain ⟨w, g', e1, e2⟩ := hr.atI e'
    simp only [RepT, RepD] at hy
    rcases hq with hq | hq
    · exact .inl ⟨p, vs, i, w, rfl, hy.1, hq, e1, k w ⟨g', e2⟩⟩
    · exact .inr (.inl ⟨p, vs, i, w, rfl, hy.1, hq, e1, k w ⟨g', e2⟩⟩)
  · cases e
end

/-! ### arguments -/
section
variable {K : PySem.W.Frag} {C : Wc} {ta tb te : TE} {tA tB : TA}
def SPA (K : PySem.W.Frag) (ta : TA) (p : Pu (List T)) : Prop := ∀ Z H σ η ts (Q : List V → Hp → Prop), Good K Z H σ η → p η = some ts → (∀ vs, (∃ f, RepTs K Z H ts vs f) → Q vs H) → ta σ H Q
def pNil : Pu (List T) := fun _ => some []
def pCons (a : Pu T) (r : Pu (List T)) : Pu (List T) := fun η => match a η, r η with
  | some t, some ts => some (t :: ts)
  | _, _ => none
theorem spa_nil : SPA K tNil pNil := fun Z H σ η ts Q g e k => by
  cases e
  exact k [] ⟨[], by simp [RepTs]⟩
theorem spa_cons {a : Pu T} {r : Pu (List T)} (ha : SP K te a) (hr : SPA K tA r) : SPA K (tCons te tA) (pCons a r) := fun Z H σ η ts Q g e k => by
  unfold pCons at e
  cases qa : a η with
  | none => rw [qa] at e; cases e
  | some x =>
    cases qb : r η with
    | none => rw [qa, qb] at e; cases e
    | some xs =>
      rw [qa, qb] at e
      cases e
      refine ha Z H σ η x _ g qa fun v ⟨f1, h1⟩ => ?_
      refine hr Z H σ η xs _ g qb fun us ⟨f2, h2⟩ => ?_
      exact k (v :: us) ⟨f1 ++ f2, by simp only [RepTs]; exact ⟨v, us, f1, f2, rfl, h1, h2, rfl⟩⟩
def mNil : M (List T) := fun η => .ok [] η
def mCons (a : M T) (r : M (List T)) : M (List T) := mBind a fun t => mBind r fun ts η => .ok (t :: ts) η
theorem sa_nil : SA K C tNil mNil := fun Z H σ η Q g k => k [] Z H .refl rfl g
theorem sa_cons {a : M T} {r : M (List T)} (hC : C.Reg) (ha : SM K C te a) (hr : SA K C tA r) : SA K C (tCons te tA) (mCons a r) := fun Z H σ η Q g k => by
  unfold mCons mBind at k
  refine ha Z H σ η _ g ?_
  cases qa : a η with
  | bad => rw [qa] at k; exact k.elim
  | ex e η' => rw [qa] at k; exact k
  | ok x η1 =>
    rw [qa] at k
    simp only at k
    intro v Z1 H1 s1 g1
    obtain ⟨Z1', g1', hB, eF, back⟩ := Good.hide (τ := [some v]) (ζ := [x]) g1 rfl
    refine hr Z1' H1 σ η1 _ g1' ?_
    cases qb : r η1 with
    | bad => rw [qb] at k; exact k.elim
    | ex e η' =>
      rw [qb] at k
      exact PostX.under back hC rfl (PostX.after s1 k)
    | ok xs η2 =>
      rw [qb] at k
      intro us Z2 H2 s2 hl g2
      obtain ⟨Z3, s3, e3, g3⟩ := back Z2 H2 _ _ s2 g2
      exact k (v :: us) Z3 H2 (s1.trans s3) (by simp [hl]) g3
/-- *e in a display -/
def mStar (a : M T) (r : M (List T)) : M (List T) := mBind a fun t η => match itemsO t with
  | some ts => mBind r (fun us η => .ok (ts ++ us) η) η
  | none => .bad
theorem Good.openL {Z : Zn} {H : Hp} {σ : St} {η : Env} {v : V} {t : T} {ts : List T} (g : Good K Z H (some v :: σ) (t :: η)) (e : itemsO t = some ts) :
    ∃ p vs, v = .ref p ∧ (SqL K H p vs ∨ SqT K H p vs) ∧ vs.length = ts.length ∧ Good K Z H (vs.map some ++ σ) (ts ++ η) := by
  obtain ⟨inn, f1, f2, h1, h2, nd, hf⟩ := g.cons_ex
  have h1' : RepT K Z H t v f1 := by
    rcases h1 with ⟨rfl, _⟩ | ⟨v', e', h1⟩
    · cases e
    · cases e'; exact h1
  have fzd : ∀ (ds : List D), ts = ds.map .fz → kids t = some ds → ∃ p vs, v = .ref p ∧ (SqL K H p vs ∨ SqT K H p vs) ∧ vs.length = ts.length ∧ Good K Z H (vs.map some ++ σ) (ts ++ η) := fun ds ets ek => by
    obtain ⟨p, vs, e1, e2, e3⟩ := h1'.kids inn ek
    subst ets
    refine ⟨p, vs, e1, e2, by rw [e3.len]; simp, .mk' inn (f := [] ++ f2) (RepE.append (RepTs.toE e3.fz) h2) (by simpa using (List.nodup_append.mp nd).2.1) (fun a ha => hf a (List.mem_append_right _ (by simpa using ha)))⟩
  have own : ∀ (p : Addr) (vs : List V) (fs : List Addr), v = .ref p → (SqL K H p vs ∨ SqT K H p vs) → RepTs K Z H ts vs fs → f1 = p :: fs → ∃ p vs, v = .ref p ∧ (SqL K H p vs ∨ SqT K H p vs) ∧ vs.length = ts.length ∧ Good K Z H (vs.map some ++ σ) (ts ++ η) := fun p vs fs e1 e2 e3 e4 => by
    subst e4
    refine ⟨p, vs, e1, e2, e3.len, .mk' inn (f := fs ++ f2) (RepE.append e3.toE h2) (List.nodup_cons.mp nd).2 (fun a ha => hf a (List.mem_cons_of_mem _ ha))⟩
  cases t with
  | un => cases e
  | rl _ => cases e
  | lst us =>
    simp only [itemsO, Option.some.injEq] at e
    subst e
    simp only [RepT] at h1'
    obtain ⟨p, vs, fs, e1, e2, e3, e4, e5⟩ := h1'
    exact own p vs fs e1 (.inl (.of e2)) e4 e5
  | tup us =>
    simp only [itemsO, Option.some.injEq] at e
    subst e
    simp only [RepT] at h1'
    obtain ⟨p, vs, fs, e1, e2, e3, e4, e5⟩ := h1'
    exact own p vs fs e1 (.inr (.of e2)) e4 e5
  | fz d =>
    cases d with
    | lst ds => simp only [itemsO, Option.some.injEq] at e; exact fzd ds e.symm rfl
    | wl ds => simp only [itemsO, Option.some.injEq] at e; exact fzd ds e.symm rfl
    | tup ds => simp only [itemsO, Option.some.injEq] at e; exact fzd ds e.symm rfl
    | _ => cases e
theorem sa_star {a : M T} {r : M (List T)} (hC : C.Reg) (ha : SM K C te a) (hr : SA K C tA r) : SA K C (tStar K te tA) (mStar a r) := fun Z H σ η Q g k => by
  unfold mStar mBind at k
  refine ha Z H σ η _ g ?_
  cases qa : a η with
  | bad => rw [qa] at k; exact k.elim
  | ex e η' => rw [qa] at k; exact k
  | ok x η1 =>
    rw [qa] at k
    simp only at k
    intro v Z1 H1 s1 g1
    cases qi : itemsO x with
    | none => rw [qi] at k; exact k.elim
    | some ts =>
      rw [qi] at k
      simp only at k
      obtain ⟨p, ws, e1, e2, e3, g1⟩ := g1.openL qi
      refine ⟨p, ws, e1, e2.symm, ?_⟩
      obtain ⟨Z1', g1', hB, eF, back⟩ := Good.hide g1 (by simpa using e3)
      refine hr Z1' H1 σ η1 _ g1' ?_
      cases qb : r η1 with
      | bad => rw [qb] at k; exact k.elim
      | ex e η' =>
        rw [qb] at k
        exact PostX.under back hC (by simpa using e3) (PostX.after s1 k)
      | ok xs η2 =>
        rw [qb] at k
        intro us Z2 H2 s2 hl g2
        obtain ⟨Z3, s3, _, g3⟩ := back Z2 H2 _ _ s2 g2
        refine k (ws ++ us) Z3 H2 (s1.trans s3) (by simp [hl, e3]) ?_
        rw [List.map_append, List.append_assoc, List.append_assoc]
        exact g3

/-! ### displays -/
def LIM : Nat := 100000
def mLst (a : M (List T)) : M T := mBind a fun ts η => if ts.length ≤ LIM then .ok (.lst ts) η else .bad
def mTup (a : M (List T)) : M T := mBind a fun ts η => if ts.length ≤ LIM then .ok (.tup ts) η else .bad
theorem lim_le {n : Nat} (h : n ≤ LIM) : n ≤ sizeLine := Nat.le_trans h (by decide)
theorem lim_lt {n : Nat} (h : n < LIM) : n < sizeLine := Nat.lt_of_lt_of_le h (by decide)
theorem sm_lst {a : M (List T)} (ha : SA K C tA a) : SM K C (tLst tA) (mLst a) := fun Z H σ η Q g k => by
  unfold mLst mBind at k
  refine ha Z H σ η _ g ?_
  cases qa : a η with
  | bad => rw [qa] at k; exact k.elim
  | ex e η' => rw [qa] at k; exact k
  | ok ts η1 =>
    rw [qa] at k
    simp only at k
    intro vs Z1 H1 s1 hl g1
    split at k
    · rename_i hz
      exact ⟨lim_le (hl ▸ hz), fun p hp => k _ Z1 _ s1 (g1.newLst hl hp)⟩
    · exact k.elim
theorem sm_tup {a : M (List T)} (ha : SA K C tA a) : SM K C (tTup tA) (mTup a) := fun Z H σ η Q g k => by
  unfold mTup mBind at k
  refine ha Z H σ η _ g ?_
  cases qa : a η with
  | bad => rw [qa] at k; exact k.elim
  | ex e η' => rw [qa] at k; exact k
  | ok ts η1 =>
    rw [qa] at k
    simp only at k
    intro vs Z1 H1 s1 hl g1
    split at k
    · rename_i hz
      exact ⟨lim_le (hl ▸ hz), fun p hp => k _ Z1 _ s1 (g1.newTup hl hp)⟩
    · exact k.elim

/-! ### calls of built-ins -/
def RdC (K : PySem.W.Frag) (r : List V → Hp → VK → Prop) (f : List T → Option T) : Prop := ∀ Z H vs ts g t (Q : VK), Inn Z H → RepTs K Z H ts vs g → f ts = some t → (∀ v, (∃ g, RepT K Z H t v g) → Q v H) → r vs H Q
/-- .. that give a new list of frozen items -/
def RdA (K : PySem.W.Frag) (r : List V → Hp → VK → Prop) (f : List T → Option (List D)) : Prop := ∀ Z H vs ts g ds (Q : VK), Inn Z H → RepTs K Z H ts vs g → f ts = some ds → (∀ ws p, RepDs K Z.F ds ws → H p = none → Q (.ref p) (upd H p (.lst ws))) → r vs H Q
def pCall (f : List T → Option T) (p : Pu (List T)) : Pu T := fun η => match p η with
  | some ts => f ts
  | none => none
def mCall (f : List T → Option T) (m : M (List T)) : M T := mBind m fun ts η => match f ts with
  | some (.fz d) => .ok (.fz d) η
  | _ => .bad
def mCallA (f : List T → Option (List D)) (m : M (List T)) : M T := mBind m fun ts η => match f ts with
  | some ds => .ok (.lst (ds.map .fz)) η
  | none => .bad
/-- the arguments pure -/
def mCallAP (f : List T → Option (List D)) (p : Pu (List T)) : M T := fun η => match p η with
  | some ts => (match f ts with
    | some ds => .ok (.lst (ds.map .fz)) η
    | none => .bad)
  | none => .bad
theorem sp_call {r : List V → Hp → VK → Prop} {f : List T → Option T} {p : Pu (List T)} (hr : RdC K r f) (ha : SPA K tA p) : SP K (tCB r tA) (pCall f p) := fun Z H σ η t Q g e k => by
  unfold pCall at e
  cases q : p η with
  | none => rw [q] at e; cases e
  | some ts =>
    rw [q] at e
    exact ha Z H σ η ts _ g q fun vs ⟨f1, h1⟩ => hr Z H vs ts f1 t Q g.inn h1 e k
theorem Good.aliases {Z : Zn} {H : Hp} {σ : St} {η : Env} {vs : List V} {ts : List T} (g : Good K Z H (vs.map some ++ σ) (ts ++ η)) (hl : vs.length = ts.length) : ∃ f, RepTs K Z H ts vs f := by
  obtain ⟨_, f1, _, h1, _⟩ := g.split (by simpa using hl)
  exact ⟨f1, h1.toTs⟩
theorem sm_call {r : List V → Hp → VK → Prop} {f : List T → Option T} {m : M (List T)} (hr : RdC K r f) (ha : SA K C tA m) : SM K C (tCB r tA) (mCall f m) := fun Z H σ η Q g k => by
  unfold mCall mBind at k
  refine ha Z H σ η _ g ?_
  cases qa : m η with
  | bad => rw [qa] at k; exact k.elim
  | ex e η' => rw [qa] at k; exact k
  | ok ts η1 =>
    rw [qa] at k
    simp only at k
    intro vs Z1 H1 s1 hl g1
    cases qf : f ts with
    | none => rw [qf] at k; exact k.elim
    | some t =>
      rw [qf] at k
      cases t with
      | fz d =>
        obtain ⟨f1, h1⟩ := g1.aliases hl
        refine hr Z1 H1 vs ts f1 _ Q g1.inn h1 qf fun w ⟨fw, rw'⟩ => ?_
        simp only [RepT] at rw'
        exact k w Z1 H1 s1 ((Good.dropN (by simpa using hl) g1).push rw'.1)
      | _ => exact k.elim
theorem Good.newFz {Z : Zn} {H : Hp} {σ : St} {η : Env} {ds : List D} {ws : List V} {p : Addr} (g : Good K Z H σ η) (r : RepDs K Z.F ds ws) (hp : H p = none) : Good K Z (upd H p (.lst ws)) (some (.ref p) :: σ) (.lst (ds.map .fz) :: η) := by
  have g' : Good K Z H (ws.map some ++ σ) (ds.map .fz ++ η) := by
    obtain ⟨inn, f, h, nd, hf⟩ := g.ex'
    exact .mk' inn (f := [] ++ f) (RepE.append (RepTs.toE r.fz) h) (by simpa using nd) (by simpa using hf)
  exact g'.newLst (by rw [r.len]; simp) hp
theorem sm_callA {r : List V → Hp → VK → Prop} {f : List T → Option (List D)} {m : M (List T)} (hr : RdA K r f) (ha : SA K C tA m) : SM K C (tCB r tA) (mCallA f m) := fun Z H σ η Q g k => by
  unfold mCallA mBind at k
  refine ha Z H σ η _ g ?_
  cases qa : m η with
  | bad => rw [qa] at k; exact k.elim
  | ex e η' => rw [qa] at k; exact k
  | ok ts η1 =>
    rw [qa] at k
    simp only at k
    intro vs Z1 H1 s1 hl g1
    cases qf : f ts with
    | none => rw [qf] at k; exact k.elim
    | some ds =>
      rw [qf] at k
      obtain ⟨f1, h1⟩ := g1.aliases hl
      exact hr Z1 H1 vs ts f1 _ Q g1.inn h1 qf fun ws p rw' hp => k _ Z1 _ s1 ((Good.dropN (by simpa using hl) g1).newFz rw' hp)
theorem sm_callAP {r : List V → Hp → VK → Prop} {f : List T → Option (List D)} {p : Pu (List T)} (hr : RdA K r f) (ha : SPA K tA p) : SM K C (tCB r tA) (mCallAP f p) := fun Z H σ η Q g k => by
  unfold mCallAP at k
  cases qa : p η with
  | none => rw [qa] at k; exact k.elim
  | some ts =>
    rw [qa] at k
    simp only at k
    cases qf : f ts with
    | none => rw [qf] at k; exact k.elim
    | some ds =>
      rw [qf] at k
      exact ha Z H σ η ts _ g qa fun vs ⟨f1, h1⟩ => hr Z H vs ts f1 _ Q g.inn h1 qf fun ws p rw' hp => k _ Z _ .refl (g.newFz rw' hp)

/-! the built-ins -/
def fLen : List T → Option T
  | [t] => (itemsR t).map fun ts => .fz (.int ts.length)
  | _ => none
theorem rd_len : RdC K (fun xs H Q => ∃ p ys, xs = [.ref p] ∧ (SqL K H p ys ∨ SqT K H p ys) ∧ Q (.int ys.length) H) fLen := by
  intro Z H vs ts g t Q inn h e k
  unfold fLen at e
  split at e
  · rename_i u
    simp only [RepTs] at h
    obtain ⟨v, vs', f1, f2, rfl, h2, ⟨rfl, _⟩, _⟩ := h
    cases q : itemsR u with
    | none => rw [q] at e; cases e
    | some us =>
      rw [q] at e; cases e
      obtain ⟨p, ws, g', e1, e2, e3⟩ := h2.items inn q
      subst e1
      exact ⟨p, ws, rfl, e2, k _ ⟨[], by simp [RepT, RepD, e3.len]⟩⟩
  · cases e
def fInt : List T → Option T
  | [.fz (.int i)] => some (.fz (.int i))
  | [.fz (.bl b)] => some (.fz (.int (if b then 1 else 0)))
  | _ => none
theorem rd_int : RdC K (fun xs H Q => (∃ i, xs = [.int i] ∧ Q (.int i) H) ∨ ∃ k, xs = [.bl k] ∧ Q (.int (if k then 1 else 0)) H) fInt := by
  intro Z H vs ts g t Q inn h e k
  unfold fInt at e
  split at e
  · rename_i i
    cases e
    simp only [RepTs, RepT, RepD] at h
    obtain ⟨v, vs', f1, f2, rfl, h2, ⟨rfl, _⟩, _⟩ := h
    exact .inl ⟨i, by rw [h2.1], k _ ⟨[], by simp [RepT, RepD]⟩⟩
  · rename_i b
    cases e
    simp only [RepTs, RepT, RepD] at h
    obtain ⟨v, vs', f1, f2, rfl, h2, ⟨rfl, _⟩, _⟩ := h
    exact .inr ⟨b, by rw [h2.1], k _ ⟨[], by simp [RepT, RepD]⟩⟩
  · cases e
/-- isinstance of a built-in type: the value's type by its form -/
def tyN : T → Option String
  | .fz .non => some "NoneType"
  | .fz (.bl _) => some "bool"
  | .fz (.int _) => some "int"
  | .fz (.str _) => some "str"
  | .fz (.lst _) => some "list"
  | .fz (.tup _) => some "tuple"
  | .lst _ => some "list"
  | .tup _ => some "tuple"
  | .rl _ => some "list"
  | _ => none
theorem ty_list {p : Addr} {vs : List V} (inn : Inn Z H) (h : H p = some (.lst vs)) : TyX K H (.ref p) (.type "list") := .base (.lst h)
theorem ty_rep {n : String} (inn : Inn Z H) (e : tyN t = some n) (r : RepT K Z H t v f) : TyX K H v (.type n) := by
  unfold tyN at e
  split at e
  · cases e; simp only [RepT, RepD] at r; rw [r.1]; exact .base .non
  · cases e; simp only [RepT, RepD] at r; rw [r.1]; exact .base (.bl _)
  · cases e; simp only [RepT, RepD] at r; rw [r.1]; exact .base (.int _)
  · cases e; simp only [RepT, RepD] at r; rw [r.1]; exact .base (.str _)
  · cases e
    simp only [RepT, RepD] at r
    obtain ⟨⟨p, vs, rfl, h2, h3⟩, _⟩ := r
    exact .base (.lst (inn.bh _ _ (inn.fb _ _ h2)))
  · cases e
    simp only [RepT, RepD] at r
    obtain ⟨⟨p, vs, rfl, h2, h3⟩, _⟩ := r
    rcases sqT_to inn h2 with (h | ⟨o, h⟩) | ⟨o, its, m, h, hc, _⟩
    · exact .base (.tup h)
    · exact .fTuple h
    · exact .kTuple h hc
  · cases e
    simp only [RepT] at r
    obtain ⟨p, vs, fs, rfl, h2, _⟩ := r
    exact .base (.lst h2)
  · cases e
    simp only [RepT] at r
    obtain ⟨p, vs, fs, rfl, h2, _⟩ := r
    exact .base (.tup h2)
  · cases e
    simp only [RepT] at r
    obtain ⟨p, vs, rfl, h2, h3, _⟩ := r
    exact .base (.lst h3.2)
  · cases e
def oIsi (k : String) (t : T) : Option T := match tyN t with
  | some n => (match kitB n k with
    | some b => some (.fz (.bl b))
    | none => none)
  | none => none
/-- isinstance(x, T) with T a built-in type: its second argument a class -/
theorem sp_isi {n : String} {x : TE} {p : Pu T} (hx : SP K x p) : SP K (tCB (rIsi K) (tCons x (tCons (tC (.ty n)) tNil))) (p1 (oIsi n) p) := fun Z H σ η t Q g e k => by
  unfold p1 oIsi at e
  cases q1 : p η with
  | none => rw [q1] at e; cases e
  | some u =>
    rw [q1] at e
    simp only at e
    split at e
    · rename_i m q2
      split at e
      · rename_i b q3
        cases e
        refine hx Z H σ η u _ g q1 fun v ⟨f, r⟩ => ?_
        exact ⟨v, .ty n, .type m, .type n, b, rfl, .ty n, ty_rep g.inn q2 r, kit_ty q3, k _ ⟨[], by simp [RepT, RepD]⟩⟩
      · cases e
    · cases e
def unI : List D → Option (List Int)
  | [] => some []
  | .int i :: ds => (unI ds).map (i :: ·)
  | _ :: _ => none
theorem unI_rep : ∀ {ds : List D} {ns : List Int} {vs : List V} {F : Hp}, unI ds = some ns → RepDs K F ds vs → vs = ns.map V.int
  | [], ns, vs, F, e, h => by
    simp only [unI, Option.some.injEq] at e
    subst e
    simp only [RepDs] at h
    exact h
  | d :: ds, ns, vs, F, e, h => by
    simp only [RepDs] at h
    obtain ⟨v, vs', rfl, h2, h3⟩ := h
    cases d with
    | int i =>
      simp only [unI] at e
      cases q : unI ds with
      | none => rw [q] at e; cases e
      | some ms =>
        rw [q] at e; cases e
        simp only [RepD] at h2
        rw [h2, unI_rep q h3]; rfl
    | _ => simp [unI] at e
def fSum : List T → Option T
  | [t] => (match kidsL t with
    | some ds => (match unI ds with
      | some ns => some (.fz (.int ns.sum))
      | none => none)
    | none => none)
  | _ => none
theorem rd_sum : RdC K (rSum K) fSum := by
  intro Z H vs ts g t Q inn h e k
  unfold fSum at e
  split at e
  · rename_i u
    simp only [RepTs] at h
    obtain ⟨v, vs', f1, f2, rfl, h2, ⟨rfl, _⟩, _⟩ := h
    split at e
    · rename_i ds q
      split at e
      · rename_i ns q2
        cases e
        obtain ⟨p, ws, e1, e2, e3⟩ := h2.kidsL inn q
        subst e1
        rw [unI_rep q2 e3] at e2
        exact ⟨p, ns, rfl, e2, k _ ⟨[], by simp [RepT, RepD]⟩⟩
      · cases e
    · cases e
  · cases e
def fMin2 : List T → Option T
  | [.fz (.int i), .fz (.int j)] => some (.fz (.int (if j < i then j else i)))
  | _ => none
def fMax2 : List T → Option T
  | [.fz (.int i), .fz (.int j)] => some (.fz (.int (if j > i then j else i)))
  | _ => none
theorem rd_min2 : RdC K (fun xs H Q => ∃ i j, xs = [.int i, .int j] ∧ Q (.int (if j < i then j else i)) H) fMin2 := by
  intro Z H vs ts g t Q inn h e k
  unfold fMin2 at e
  split at e
  · rename_i i j
    cases e
    simp only [RepTs, RepT, RepD] at h
    obtain ⟨v, vs', f1, f2, rfl, h2, ⟨v2, vs2, g1, g2, rfl, h3, ⟨rfl, _⟩, _⟩, _⟩ := h
    exact ⟨i, j, by rw [h2.1, h3.1], k _ ⟨[], by simp [RepT, RepD]⟩⟩
  · cases e
theorem rd_max2 : RdC K (fun xs H Q => ∃ i j, xs = [.int i, .int j] ∧ Q (.int (if j > i then j else i)) H) fMax2 := by
  intro Z H vs ts g t Q inn h e k
  unfold fMax2 at e
  split at e
  · rename_i i j
    cases e
    simp only [RepTs, RepT, RepD] at h
    obtain ⟨v, vs', f1, f2, rfl, h2, ⟨v2, vs2, g1, g2, rfl, h3, ⟨rfl, _⟩, _⟩, _⟩ := h
    exact ⟨i, j, by rw [h2.1, h3.1], k _ ⟨[], by simp [RepT, RepD]⟩⟩
  · cases e
def fAbs : List T → Option T
  | [.fz (.int i)] => some (.fz (.int (if i < 0 then -i else i)))
  | _ => none
theorem rd_abs : RdC K (fun xs H Q => ∃ i, xs = [.int i] ∧ Q (.int (if i < 0 then -i else i)) H) fAbs := by
  intro Z H vs ts g t Q inn h e k
  unfold fAbs at e
  split at e
  · rename_i i
    cases e
    simp only [RepTs, RepT, RepD] at h
    obtain ⟨v, vs', f1, f2, rfl, h2, ⟨rfl, _⟩, _⟩ := h
    exact ⟨i, by rw [h2.1], k _ ⟨[], by simp [RepT, RepD]⟩⟩
  · cases e
def fComb : List T → Option T
  | [.fz (.int i), .fz (.int j)] => if 0 ≤ j ∧ j ≤ i ∧ i ≤ 9000 ∧ (PySem.W.combV i j).natAbs.log2 < 1000000 then some (.fz (.int (PySem.W.combV i j))) else none
  | _ => none
theorem rd_comb : RdC K rComb fComb := by
  intro Z H vs ts g t Q inn h e k
  unfold fComb at e
  split at e
  · rename_i i j
    split at e
    · rename_i hc
      cases e
      simp only [RepTs, RepT, RepD] at h
      obtain ⟨v, vs', f1, f2, rfl, h2, ⟨v2, vs2, g1, g2, rfl, h3, ⟨rfl, _⟩, _⟩, _⟩ := h
      exact ⟨i, j, by rw [h2.1, h3.1], hc, k _ ⟨[], by simp [RepT, RepD]⟩⟩
    · cases e
  · cases e
def fList : List T → Option (List D)
  | [t] => kids t
  | _ => none
theorem rd_list : RdA K (fun xs H Q => ∃ p ys, xs = [.ref p] ∧ (SqL K H p ys ∨ SqT K H p ys) ∧ ∀ l, H l = none → Q (.ref l) (upd H l (.lst ys))) fList := by
  intro Z H vs ts g ds Q inn h e k
  unfold fList at e
  split at e
  · rename_i u
    simp only [RepTs] at h
    obtain ⟨v, vs', f1, f2, rfl, h2, ⟨rfl, _⟩, _⟩ := h
    obtain ⟨p, ws, e1, e2, e3⟩ := h2.kids inn e
    subst e1
    exact ⟨p, ws, rfl, e2, fun l hl => k ws l e3 hl⟩
  · cases e
end

/-! ### xs * n, xs + ys, slices -/
section
variable {K : PySem.W.Frag} {C : Wc} {ta tb te : TE} {tA tB : TA}
def RdA2 (K : PySem.W.Frag) (r : R2) (f : T → T → Option (List D)) : Prop := ∀ Z H x y tx ty fx fy ds (Q : VK), Inn Z H → RepT K Z H tx x fx → RepT K Z H ty y fy → f tx ty = some ds → (∀ ws p, RepDs K Z.F ds ws → H p = none → Q (.ref p) (upd H p (.lst ws))) → r x y H Q
def m2A (f : T → T → Option (List D)) (a b : M T) : M T := mBind a fun x => mBind b fun y η => match f x y with
  | some ds => .ok (.lst (ds.map .fz)) η
  | none => .bad
/-- the second one pure; both pure -/
def m2Ap (f : T → T → Option (List D)) (a : M T) (b : Pu T) : M T := mBind a fun x η => match b η with
  | some y => (match f x y with
    | some ds => .ok (.lst (ds.map .fz)) η
    | none => .bad)
  | none => .bad
def p2A (f : T → T → Option (List D)) (a b : Pu T) : M T := fun η => match a η, b η with
  | some x, some y => (match f x y with
    | some ds => .ok (.lst (ds.map .fz)) η
    | none => .bad)
  | _, _ => .bad
theorem sm_op2A {r : R2} {f : T → T → Option (List D)} {a b : M T} (hC : C.Reg) (hr : RdA2 K r f) (ha : SM K C ta a) (hb : SM K C tb b) : SM K C (tOp r ta tb) (m2A f a b) := fun Z H σ η Q g k => by
  unfold m2A mBind at k
  refine ha Z H σ η _ g ?_
  cases qa : a η with
  | bad => rw [qa] at k; exact k.elim
  | ex e η' => rw [qa] at k; exact k
  | ok x η1 =>
    rw [qa] at k
    simp only at k
    intro v Z1 H1 s1 g1
    obtain ⟨Z1', g1', hB, eF, back⟩ := Good.hide (τ := [some v]) (ζ := [x]) g1 rfl
    refine hb Z1' H1 σ η1 _ g1' ?_
    cases qb : b η1 with
    | bad => rw [qb] at k; exact k.elim
    | ex e η' =>
      rw [qb] at k
      exact PostX.under back hC rfl (PostX.after s1 k)
    | ok y η2 =>
      rw [qb] at k
      simp only at k
      intro u Z2 H2 s2 g2
      obtain ⟨Z3, s3, e3, g3⟩ := back Z2 H2 (some u :: σ) (y :: η2) s2 g2
      cases qf : f x y with
      | none => rw [qf] at k; exact k.elim
      | some ds =>
        rw [qf] at k
        have g4 := Good.drop g3
        obtain ⟨f1, rx⟩ := g3.alias
        obtain ⟨f2, ry⟩ := g4.alias
        exact hr Z3 H2 v u x y f1 f2 _ Q g3.inn rx ry qf fun ws p rw' hp => k _ Z3 _ (s1.trans s3) ((Good.drop g4).newFz rw' hp)
theorem sm_op2Ap {r : R2} {f : T → T → Option (List D)} {a : M T} {b : Pu T} (hr : RdA2 K r f) (ha : SM K C ta a) (hb : SP K tb b) : SM K C (tOp r ta tb) (m2Ap f a b) := fun Z H σ η Q g k => by
  unfold m2Ap mBind at k
  refine ha Z H σ η _ g ?_
  cases qa : a η with
  | bad => rw [qa] at k; exact k.elim
  | ex e η' => rw [qa] at k; exact k
  | ok x η1 =>
    rw [qa] at k
    simp only at k
    intro v Z1 H1 s1 g1
    cases qb : b η1 with
    | none => rw [qb] at k; exact k.elim
    | some y =>
      rw [qb] at k
      simp only at k
      refine hb Z1 H1 σ η1 y _ (Good.drop g1) qb fun u ⟨f2, ry⟩ => ?_
      cases qf : f x y with
      | none => rw [qf] at k; exact k.elim
      | some ds =>
        rw [qf] at k
        obtain ⟨f1, rx⟩ := g1.alias
        exact hr Z1 H1 v u x y f1 f2 _ Q g1.inn rx ry qf fun ws p rw' hp => k _ Z1 _ s1 ((Good.drop g1).newFz rw' hp)
theorem sm_opPA {r : R2} {f : T → T → Option (List D)} {a b : Pu T} (hr : RdA2 K r f) (ha : SP K ta a) (hb : SP K tb b) : SM K C (tOp r ta tb) (p2A f a b) := fun Z H σ η Q g k => by
  unfold p2A at k
  cases qa : a η with
  | none => rw [qa] at k; exact k.elim
  | some x =>
    cases qb : b η with
    | none => rw [qa, qb] at k; exact k.elim
    | some y =>
      rw [qa, qb] at k
      simp only at k
      refine ha Z H σ η x _ g qa fun v ⟨f1, rx⟩ => ?_
      refine hb Z H σ η y _ g qb fun u ⟨f2, ry⟩ => ?_
      cases qf : f x y with
      | none => rw [qf] at k; exact k.elim
      | some ds =>
        rw [qf] at k
        exact hr Z H v u x y f1 f2 _ Q g.inn rx ry qf fun ws p rw' hp => k _ Z _ .refl (g.newFz rw' hp)
def oRep (a b : T) : Option (List D) := match kidsS a, b with
  | some ds, .fz (.int k) => if -(2 ^ 63) ≤ k ∧ k < 2 ^ 63 ∧ ds.length * k.toNat ≤ LIM then some (List.replicate k.toNat ds).flatten else none
  | _, _ => none
theorem RepDs.rep {F : Hp} {ds : List D} {vs : List V} (h : RepDs K F ds vs) : ∀ n : Nat, RepDs K F (List.replicate n ds).flatten (List.replicate n vs).flatten
  | 0 => by simp [RepDs]
  | n + 1 => by
    rw [List.replicate_succ, List.replicate_succ, List.flatten_cons, List.flatten_cons]
    exact h.append (h.rep n)
theorem rd_rep : RdA2 K rRep oRep := by
  intro Z H x y tx ty fx fy ds Q inn hx hy e k
  unfold oRep at e
  split at e
  · rename_i es n ea
    split at e
    · rename_i hc
      cases e
      obtain ⟨p, ws, e1, e2, e3⟩ := hx.kidsS inn ea
      simp only [RepT, RepD] at hy
      exact ⟨p, n, ws, e1, hy.1, e2, hc.1, hc.2.1, lim_le (by rw [e3.len]; exact hc.2.2), fun q hq => k _ q (e3.rep _) hq⟩
    · cases e
  · cases e
def oCat (a b : T) : Option (List D) := match kidsS a, kidsS b with
  | some ds, some es => if ds.length + es.length ≤ LIM then some (ds ++ es) else none
  | _, _ => none
theorem rd_cat : RdA2 K rCat oCat := by
  intro Z H x y tx ty fx fy ds Q inn hx hy e k
  unfold oCat at e
  split at e
  · rename_i es gs ea eb
    split at e
    · rename_i hc
      cases e
      obtain ⟨p, ws, e1, e2, e3⟩ := hx.kidsS inn ea
      obtain ⟨p', ws', e1', e2', e3'⟩ := hy.kidsS inn eb
      exact ⟨p, p', ws, ws', e1, e1', e2, e2', lim_le (by rw [e3.len, e3'.len]; exact hc), fun q hq => k _ q (e3.append e3') hq⟩
    · cases e
  · cases e
/-- a slice's parts -/
def SPO (K : PySem.W.Frag) (to : TO) (p : Pu (Option Int)) : Prop := ∀ Z H σ η o (Q : Option Int → Hp → Prop), Good K Z H σ η → p η = some o → Q o H → to σ H Q
def pONone : Pu (Option Int) := fun _ => some none
def pOSome (p : Pu T) : Pu (Option Int) := fun η => match p η with
  | some (.fz (.int i)) => some (some i)
  | _ => none
theorem spo_none : SPO K tNoPart pONone := fun Z H σ η o Q g e k => by
  cases e; exact k
theorem spo_some {p : Pu T} (h : SP K te p) : SPO K (tPart te) (pOSome p) := fun Z H σ η o Q g e k => by
  unfold pOSome at e
  cases q : p η with
  | none => rw [q] at e; cases e
  | some t =>
    rw [q] at e
    split at e
    · rename_i i ei
      cases ei
      cases e
      refine h Z H σ η _ _ g q fun v ⟨f, r⟩ => ?_
      simp only [RepT, RepD] at r
      exact ⟨i, r.1, k⟩
    · cases e
def cutD {α : Type} (xs : List α) (lo hi : Option Int) : List α := (xs.drop (HT.sIx xs.length 0 lo)).take (HT.sIx xs.length xs.length hi - HT.sIx xs.length 0 lo)
theorem RepDs.cut {F : Hp} {ds : List D} {vs : List V} (h : RepDs K F ds vs) (lo hi : Option Int) : RepDs K F (cutD ds lo hi) (cutV vs lo hi) := by
  unfold cutD cutV
  rw [h.len]
  exact (h.drop _).take _
/-- x[lo:hi] of a list, all pure -/
def mCut (a : Pu T) (l h : Pu (Option Int)) : M T := fun η => match a η, l η, h η with
  | some x, some lo, some hi => (match kidsL x with
    | some ds => .ok (.lst ((cutD ds lo hi).map .fz)) η
    | none => .bad)
  | _, _, _ => .bad
theorem sm_cut {a : Pu T} {l h : Pu (Option Int)} {tl th : TO} (ha : SP K ta a) (hl : SPO K tl l) (hh : SPO K th h) : SM K C (tSl (rSlL K) ta tl th) (mCut a l h) := fun Z H σ η Q g k => by
  unfold mCut at k
  cases qa : a η with
  | none => rw [qa] at k; exact k.elim
  | some x =>
    cases ql : l η with
    | none => rw [qa, ql] at k; exact k.elim
    | some lo =>
      cases qh : h η with
      | none => rw [qa, ql, qh] at k; exact k.elim
      | some hi =>
        rw [qa, ql, qh] at k
        simp only at k
        refine ha Z H σ η x _ g qa fun v ⟨f1, rx⟩ => ?_
        refine hl Z H σ η lo _ g ql (hh Z H σ η hi _ g qh ?_)
        cases qk : kidsL x with
        | none => rw [qk] at k; exact k.elim
        | some ds =>
          rw [qk] at k
          obtain ⟨p, ws, e1, e2, e3⟩ := rx.kidsL g.inn qk
          exact ⟨p, ws, e1, e2, fun q hq => k _ Z _ .refl (g.newFz (e3.cut lo hi) hq)⟩
end
end ML
end
section
set_option Elab.async false
set_option maxRecDepth 100000
set_option maxHeartbeats 4000000
/-! M4: tests, statements, loops. -/
namespace ML
open PySem L2 StX

section
variable {K : PySem.W.Frag} {C : Wc} {ta tb te : TE} {tA tB' : TA} {tt tu : TT} {t u : TS}
/-! ### tests -/
def pB (p : Pu T) : Pu Bool := fun η => match p η with
  | some (.fz (.bl b)) => some b
  | _ => none
def mB (m : M T) : M Bool := mBind m fun t η => match t with
  | .fz (.bl b) => .ok b η
  | _ => .bad
theorem spt_b {p : Pu T} (h : SP K te p) : SPt K (tB te) (pB p) := fun Z H σ η b Q g e k => by
  unfold pB at e
  split at e
  · rename_i c q
    cases e
    refine h Z H σ η _ _ g q fun v ⟨f, r⟩ => ?_
    simp only [RepT, RepD] at r
    exact ⟨b, r.1, k⟩
  · cases e
theorem st_b {m : M T} (h : SM K C te m) : ST K C (tB te) (mB m) := fun Z H σ η Q g k => by
  unfold mB mBind at k
  refine h Z H σ η _ g ?_
  cases q : m η with
  | bad => rw [q] at k; exact k.elim
  | ex e η' => rw [q] at k; exact k
  | ok x η1 =>
    rw [q] at k
    simp only at k
    intro v Z1 H1 s1 g1
    split at k
    · rename_i b
      obtain ⟨f, r⟩ := g1.alias
      simp only [RepT, RepD] at r
      exact ⟨b, r.1, k Z1 H1 s1 (Good.drop g1)⟩
    · exact k.elim
theorem st_pu {p : Pu Bool} (h : SPt K tt p) : ST K C tt (mPuT p) := fun Z H σ η Q g k => by
  unfold mPuT at k
  cases q : p η with
  | none => rw [q] at k; exact k.elim
  | some b => rw [q] at k; exact h Z H σ η b _ g q (k Z H .refl g)
def pNotT (p : Pu Bool) : Pu Bool := fun η => (p η).map (!·)
def pAndT (a b : Pu Bool) : Pu Bool := fun η => match a η with
  | some true => b η
  | some false => some false
  | none => none
def pOrT (a b : Pu Bool) : Pu Bool := fun η => match a η with
  | some true => some true
  | some false => b η
  | none => none
theorem spt_not {p : Pu Bool} (h : SPt K tt p) : SPt K (tNot tt) (pNotT p) := fun Z H σ η b Q g e k => by
  unfold pNotT at e
  cases q : p η with
  | none => rw [q] at e; cases e
  | some c => rw [q] at e; cases e; exact h Z H σ η c _ g q k
theorem spt_and {a b : Pu Bool} (ha : SPt K tt a) (hb : SPt K tu b) : SPt K (tAnd tt tu) (pAndT a b) := fun Z H σ η c Q g e k => by
  unfold pAndT at e
  cases q : a η with
  | none => rw [q] at e; cases e
  | some x =>
    rw [q] at e
    refine ha Z H σ η x _ g q ?_
    cases x with
    | true => exact iteT (hb Z H σ η c _ g e k)
    | false => cases e; exact iteF k
theorem spt_or {a b : Pu Bool} (ha : SPt K tt a) (hb : SPt K tu b) : SPt K (tOr tt tu) (pOrT a b) := fun Z H σ η c Q g e k => by
  unfold pOrT at e
  cases q : a η with
  | none => rw [q] at e; cases e
  | some x =>
    rw [q] at e
    refine ha Z H σ η x _ g q ?_
    cases x with
    | true => cases e; exact iteT k
    | false => exact iteF (hb Z H σ η c _ g e k)
def mNotT (m : M Bool) : M Bool := mBind m fun b η => .ok (!b) η
def mAndT (a b : M Bool) : M Bool := mBind a fun c => if c then b else fun η => .ok false η
def mOrT (a b : M Bool) : M Bool := mBind a fun c => if c then (fun η => .ok true η) else b
theorem st_not {m : M Bool} (h : ST K C tt m) : ST K C (tNot tt) (mNotT m) := fun Z H σ η Q g k => by
  unfold mNotT mBind at k
  refine h Z H σ η _ g ?_
  cases q : m η with
  | bad => rw [q] at k; exact k.elim
  | ex e η' => rw [q] at k; exact k
  | ok x η1 => rw [q] at k; exact k
theorem PostX.then {Z Z1 : Zn} {σ : St} {e : Exc} {η : Env} (s : Stp Z Z1) (h : PostX K C Z σ e η) : PostX K C Z1 σ e η := PostX.after s h
theorem PostT.after {Z Z1 : Zn} {σ : St} {r : Res Bool} {Q : Bool → Hp → Prop} (s : Stp Z Z1) (h : PostT K C Z σ r Q) : PostT K C Z1 σ r Q := by
  cases r with
  | bad => exact h
  | ok b η => exact fun Z' H' s' g => h Z' H' (s.trans s') g
  | ex e η => exact PostX.after s h
theorem st_and {a b : M Bool} (ha : ST K C tt a) (hb : ST K C tu b) : ST K C (tAnd tt tu) (mAndT a b) := fun Z H σ η Q g k => by
  unfold mAndT mBind at k
  refine ha Z H σ η _ g ?_
  cases q : a η with
  | bad => rw [q] at k; exact k.elim
  | ex e η' => rw [q] at k; exact k
  | ok x η1 =>
    rw [q] at k
    intro Z1 H1 s1 g1
    cases x with
    | true => exact iteT (hb Z1 H1 σ η1 _ g1 (PostT.after s1 k))
    | false => exact iteF (k Z1 H1 s1 g1)
theorem st_or {a b : M Bool} (ha : ST K C tt a) (hb : ST K C tu b) : ST K C (tOr tt tu) (mOrT a b) := fun Z H σ η Q g k => by
  unfold mOrT mBind at k
  refine ha Z H σ η _ g ?_
  cases q : a η with
  | bad => rw [q] at k; exact k.elim
  | ex e η' => rw [q] at k; exact k
  | ok x η1 =>
    rw [q] at k
    intro Z1 H1 s1 g1
    cases x with
    | true => exact iteT (k Z1 H1 s1 g1)
    | false => exact iteF (hb Z1 H1 σ η1 _ g1 (PostT.after s1 k))
/-! and, or, not as values -/
def pAndV (a b : Pu T) : Pu T := fun η => match a η with
  | some (.fz (.bl true)) => b η
  | some (.fz (.bl false)) => some (.fz (.bl false))
  | _ => none
def pOrV (a b : Pu T) : Pu T := fun η => match a η with
  | some (.fz (.bl true)) => some (.fz (.bl true))
  | some (.fz (.bl false)) => b η
  | _ => none
def pNotV (a : Pu T) : Pu T := fun η => match a η with
  | some (.fz (.bl b)) => some (.fz (.bl (!b)))
  | _ => none
theorem sp_and {a b : Pu T} (ha : SP K ta a) (hb : SP K tb b) : SP K (tAndV ta tb) (pAndV a b) := fun Z H σ η t Q g e k => by
  unfold pAndV at e
  split at e
  · rename_i q
    refine ha Z H σ η _ _ g q fun v ⟨f, r⟩ => ?_
    simp only [RepT, RepD] at r
    exact ⟨true, r.1, iteT (hb Z H σ η t _ g e k)⟩
  · rename_i q
    cases e
    refine ha Z H σ η _ _ g q fun v ⟨f, r⟩ => ?_
    simp only [RepT, RepD] at r
    exact ⟨false, r.1, iteF (k _ ⟨[], by simp [RepT, RepD]⟩)⟩
  · cases e
theorem sp_or {a b : Pu T} (ha : SP K ta a) (hb : SP K tb b) : SP K (tOrV ta tb) (pOrV a b) := fun Z H σ η t Q g e k => by
  unfold pOrV at e
  split at e
  · rename_i q
    cases e
    refine ha Z H σ η _ _ g q fun v ⟨f, r⟩ => ?_
    simp only [RepT, RepD] at r
    exact ⟨true, r.1, iteT (k _ ⟨[], by simp [RepT, RepD]⟩)⟩
  · rename_i q
    refine ha Z H σ η _ _ g q fun v ⟨f, r⟩ => ?_
    simp only [RepT, RepD] at r
    exact ⟨false, r.1, iteF (hb Z H σ η t _ g e k)⟩
  · cases e
theorem sp_not {a : Pu T} (ha : SP K ta a) : SP K (tNotV ta) (pNotV a) := fun Z H σ η t Q g e k => by
  unfold pNotV at e
  split at e
  · rename_i b q
    cases e
    refine ha Z H σ η _ _ g q fun v ⟨f, r⟩ => ?_
    simp only [RepT, RepD] at r
    exact ⟨b, r.1, k _ ⟨[], by simp [RepT, RepD]⟩⟩
  · cases e
def mAndV (a b : M T) : M T := mBind a fun t => match t with
  | .fz (.bl true) => b
  | .fz (.bl false) => fun η => .ok (.fz (.bl false)) η
  | _ => fun _ => .bad
def mOrV (a b : M T) : M T := mBind a fun t => match t with
  | .fz (.bl true) => fun η => .ok (.fz (.bl true)) η
  | .fz (.bl false) => b
  | _ => fun _ => .bad
theorem PostE.after {Z Z1 : Zn} {σ : St} {r : Res T} {Q : VK} (s : Stp Z Z1) (h : PostE K C Z σ r Q) : PostE K C Z1 σ r Q := by
  cases r with
  | bad => exact h
  | ok b η => exact fun v Z' H' s' g => h v Z' H' (s.trans s') g
  | ex e η => exact PostX.after s h
theorem sm_and {a b : M T} (ha : SM K C ta a) (hb : SM K C tb b) : SM K C (tAndV ta tb) (mAndV a b) := fun Z H σ η Q g k => by
  unfold mAndV mBind at k
  refine ha Z H σ η _ g ?_
  cases q : a η with
  | bad => rw [q] at k; exact k.elim
  | ex e η' => rw [q] at k; exact k
  | ok x η1 =>
    rw [q] at k
    simp only at k
    intro v Z1 H1 s1 g1
    split at k
    · obtain ⟨f, r⟩ := g1.alias
      simp only [RepT, RepD] at r
      exact ⟨true, r.1, iteT (hb Z1 H1 σ η1 _ (Good.drop g1) (PostE.after s1 k))⟩
    · obtain ⟨f, r⟩ := g1.alias
      simp only [RepT, RepD] at r
      exact ⟨false, r.1, iteF (k _ Z1 H1 s1 ((Good.drop g1).push (by simp [RepD])))⟩
    · exact k.elim
theorem sm_or {a b : M T} (ha : SM K C ta a) (hb : SM K C tb b) : SM K C (tOrV ta tb) (mOrV a b) := fun Z H σ η Q g k => by
  unfold mOrV mBind at k
  refine ha Z H σ η _ g ?_
  cases q : a η with
  | bad => rw [q] at k; exact k.elim
  | ex e η' => rw [q] at k; exact k
  | ok x η1 =>
    rw [q] at k
    simp only at k
    intro v Z1 H1 s1 g1
    split at k
    · obtain ⟨f, r⟩ := g1.alias
      simp only [RepT, RepD] at r
      exact ⟨true, r.1, iteT (k _ Z1 H1 s1 ((Good.drop g1).push (by simp [RepD])))⟩
    · obtain ⟨f, r⟩ := g1.alias
      simp only [RepT, RepD] at r
      exact ⟨false, r.1, iteF (hb Z1 H1 σ η1 _ (Good.drop g1) (PostE.after s1 k))⟩
    · exact k.elim
/-! a if t else b -/
def mIfE (c : M Bool) (a b : M T) : M T := mBind c fun x => if x then a else b
theorem sm_if {c : M Bool} {a b : M T} (hc : ST K C tt c) (ha : SM K C ta a) (hb : SM K C tb b) : SM K C (tIf tt ta tb) (mIfE c a b) := fun Z H σ η Q g k => by
  unfold mIfE mBind at k
  refine hc Z H σ η _ g ?_
  cases q : c η with
  | bad => rw [q] at k; exact k.elim
  | ex e η' => rw [q] at k; exact k
  | ok x η1 =>
    rw [q] at k
    intro Z1 H1 s1 g1
    cases x with
    | true => exact iteT (ha Z1 H1 σ η1 _ g1 (PostE.after s1 k))
    | false => exact iteF (hb Z1 H1 σ η1 _ g1 (PostE.after s1 k))

/-! ### statements -/
def mNx : M Fl := fun η => .ok .nx η
def mSeq (a b : M Fl) : M Fl := fun η => match a η with
  | .ok .nx η' => b η'
  | r => r
theorem PostS.after {Z Z1 : Zn} {σ σ1 : St} {r : Res Fl} {D : Ends} (s : Stp Z Z1) (p : Pin C σ σ1) (h : PostS K C Z σ r D) : PostS K C Z1 σ1 r D := by
  cases r with
  | bad => exact h
  | ex e η => exact fun cls d σ' Z' H' s' g p' x => h cls d σ' Z' H' (s.trans s') g (p.trans p') x
  | ok f η =>
    cases f with
    | nx => exact fun σ' Z' H' s' g p' => h σ' Z' H' (s.trans s') g (p.trans p')
    | bk => exact fun σ' Z' H' s' g p' => h σ' Z' H' (s.trans s') g (p.trans p')
    | ct => exact fun σ' Z' H' s' g p' => h σ' Z' H' (s.trans s') g (p.trans p')
    | rt t => exact fun v σ' Z' H' s' g p' => h v σ' Z' H' (s.trans s') g (p.trans p')
theorem toX {Z : Zn} {σ : St} {e : Exc} {η : Env} (h : ∀ cls d σ' Z' H', Stp Z Z' → Good K Z' H' σ' η → Pin C σ σ' → C.XR e Z' H' cls d → C.W cls d σ' H') : PostX K C Z σ e η := fun cls d Z' H' s g x => h cls d σ Z' H' s g .refl x
theorem ss_nx : SS K C tNext mNx := fun Z H σ η D g k => k σ Z H .refl g .refl
theorem ss_bk : SS K C tBreak (fun η => .ok .bk η) := fun Z H σ η D g k => k σ Z H .refl g .refl
theorem ss_ct : SS K C tCont (fun η => .ok .ct η) := fun Z H σ η D g k => k σ Z H .refl g .refl
theorem ss_seq {a b : M Fl} (ha : SS K C t a) (hb : SS K C u b) : SS K C (tSeq t u) (mSeq a b) := fun Z H σ η D g k => by
  unfold mSeq at k
  refine ha Z H σ η _ g ?_
  cases q : a η with
  | bad => rw [q] at k; exact k
  | ex e η' => rw [q] at k; exact k
  | ok f η' =>
    rw [q] at k
    cases f with
    | nx => exact fun σ' Z' H' s g' p => hb Z' H' σ' η' D g' (PostS.after s p k)
    | bk => exact k
    | ct => exact k
    | rt _ => exact k
def mRet' (m : M T) : M Fl := mBind m fun t η => .ok (.rt t) η
theorem ss_ret {m : M T} (h : SM K C te m) : SS K C (tRet te) (mRet' m) := fun Z H σ η D g k => by
  unfold mRet' mBind at k
  refine h Z H σ η _ g ?_
  cases q : m η with
  | bad => rw [q] at k; exact k
  | ex e η' => rw [q] at k; exact toX k
  | ok x η1 =>
    rw [q] at k
    exact fun v Z1 H1 s1 g1 => k v σ Z1 H1 s1 g1 .refl
def mRetN : M Fl := fun η => .ok (.rt (.fz .non)) η
theorem ss_retN : SS K C tRetN mRetN := fun Z H σ η D g k => k .non σ Z H .refl (g.push (by simp [RepD])) .refl
def mIfS (c : M Bool) (a b : M Fl) : M Fl := mBind c fun x => if x then a else b
theorem ss_if {c : M Bool} {a b : M Fl} (hc : ST K C tt c) (ha : SS K C t a) (hb : SS K C u b) : SS K C (tIfS tt t u) (mIfS c a b) := fun Z H σ η D g k => by
  unfold mIfS mBind at k
  refine hc Z H σ η _ g ?_
  cases q : c η with
  | bad => rw [q] at k; exact k
  | ex e η' => rw [q] at k; exact toX k
  | ok x η1 =>
    rw [q] at k
    intro Z1 H1 s1 g1
    cases x with
    | true => exact iteT (ha Z1 H1 σ η1 _ g1 (PostS.after s1 .refl k))
    | false => exact iteF (hb Z1 H1 σ η1 _ g1 (PostS.after s1 .refl k))
def mDrop (m : M T) : M Fl := mBind m fun _ η => .ok .nx η
theorem ss_drop {m : M T} (h : SM K C te m) : SS K C (tDrop te) (mDrop m) := fun Z H σ η D g k => by
  unfold mDrop mBind at k
  refine h Z H σ η _ g ?_
  cases q : m η with
  | bad => rw [q] at k; exact k
  | ex e η' => rw [q] at k; exact toX k
  | ok x η1 =>
    rw [q] at k
    exact fun v Z1 H1 s1 g1 => k σ Z1 H1 s1 (Good.drop g1) .refl
theorem Pin.set {σ : St} {i : Nat} {o : Option V} (hi : i ∉ C.pn) : Pin C σ (σ.set i o) := fun j hj => by
  rw [List.getElem?_set_ne (by rintro rfl; exact hi hj)]
def mAsg (i : Nat) (m : M T) : M Fl := mBind m fun t η => if i < η.length then .ok .nx (η.set i t) else .bad
theorem ss_asg {i : Nat} {m : M T} (hi : i ∉ C.pn) (h : SM K C te m) : SS K C (tAsg te (gName i)) (mAsg i m) := fun Z H σ η D g k => by
  unfold mAsg mBind at k
  refine h Z H σ η _ g ?_
  cases q : m η with
  | bad => rw [q] at k; exact k
  | ex e η' => rw [q] at k; exact toX k
  | ok x η1 =>
    rw [q] at k
    simp only at k
    intro v Z1 H1 s1 g1
    split at k
    · rename_i hl
      exact k _ Z1 H1 s1 (g1.assign hl) (.set hi)
    · exact k.elim
/-! a, b, .. = a tuple -/
def itemsT : T → Option (List T)
  | .tup ts => some ts
  | .fz (.tup ds) => some (ds.map .fz)
  | _ => none
def setAll : List Nat → List T → Env → Option Env
  | [], [], η => some η
  | i :: is, t :: ts, η => if i < η.length then setAll is ts (η.set i t) else none
  | _, _, _ => none
def gNames : List Nat → TGs
  | [] => gNil
  | i :: is => gCons (gName i) (gNames is)
theorem setAll_ok {Z : Zn} {H : Hp} {D : St → Hp → Prop} : ∀ {is : List Nat} {ts : List T} {vs : List V} {σ : St} {η η' : Env}, (∀ i ∈ is, i ∉ C.pn) → vs.length = ts.length → Good K Z H (vs.map some ++ σ) (ts ++ η) → setAll is ts η = some η' →
    (∀ σ', Good K Z H σ' η' → Pin C σ σ' → D σ' H) → gNames is vs σ H D
  | [], [], vs, σ, η, η', hp, hl, g, e, k => by
    cases vs with
    | nil => cases e; exact ⟨rfl, k σ g .refl⟩
    | cons _ _ => simp at hl
  | [], _ :: _, _, _, _, _, _, _, _, e, _ => by simp [setAll] at e
  | _ :: _, [], _, _, _, _, _, _, _, e, _ => by simp [setAll] at e
  | i :: is, t :: ts, vs, σ, η, η', hp, hl, g, e, k => by
    cases vs with
    | nil => simp at hl
    | cons v vs =>
      simp only [setAll] at e
      split at e
      · rename_i hi
        refine ⟨v, vs, rfl, ?_⟩
        have hl' : vs.length = ts.length := by simpa using hl
        have g1 : Good K Z H ((vs.map some ++ σ).set (ts.length + i) (some v)) ((ts ++ η).set (ts.length + i) t) := Good.assign (i := ts.length + i) g (by simp; omega)
        rw [List.set_append_right _ _ (by simp [hl']), List.set_append_right _ _ (by simp)] at g1
        simp only [List.length_map, hl', Nat.add_sub_cancel_left] at g1
        refine setAll_ok (fun j hj => hp j (List.mem_cons_of_mem _ hj)) hl' g1 e fun σ' g' p => k σ' g' ?_
        exact (Pin.set (hp i List.mem_cons_self)).trans p
      · cases e
theorem Good.openT {Z : Zn} {H : Hp} {σ : St} {η : Env} {v : V} {t : T} {ts : List T} (g : Good K Z H (some v :: σ) (t :: η)) (e : itemsT t = some ts) :
    ∃ p vs, v = .ref p ∧ SqT K H p vs ∧ vs.length = ts.length ∧ Good K Z H (vs.map some ++ σ) (ts ++ η) := by
  obtain ⟨inn, f1, f2, h1, h2, nd, hf⟩ := g.cons_ex
  have h1' : RepT K Z H t v f1 := by
    rcases h1 with ⟨rfl, _⟩ | ⟨v', e', h1⟩
    · cases e
    · cases e'; exact h1
  cases t with
  | un => cases e
  | rl _ => cases e
  | lst _ => cases e
  | tup us =>
    simp only [itemsT, Option.some.injEq] at e
    subst e
    simp only [RepT] at h1'
    obtain ⟨p, vs, fs, e1, e2, e3, e4, e5⟩ := h1'
    subst e5
    exact ⟨p, vs, e1, .of e2, e4.len, .mk' inn (f := fs ++ f2) (RepE.append e4.toE h2) (List.nodup_cons.mp nd).2 (fun a ha => hf a (List.mem_cons_of_mem _ ha))⟩
  | fz d =>
    cases d with
    | tup ds =>
      simp only [itemsT, Option.some.injEq] at e
      subst e
      simp only [RepT, RepD] at h1'
      obtain ⟨⟨p, vs, e1, e2, e3⟩, _⟩ := h1'
      exact ⟨p, vs, e1, sqT_to inn e2, by rw [e3.len]; simp, .mk' inn (f := [] ++ f2) (RepE.append (RepTs.toE e3.fz) h2) (by simpa using (List.nodup_append.mp nd).2.1) (fun a ha => hf a (List.mem_append_right _ (by simpa using ha)))⟩
    | _ => cases e
def mAsgT (is : List Nat) (m : M T) : M Fl := mBind m fun t η => match itemsT t with
  | some ts => (match setAll is ts η with
    | some η' => .ok .nx η'
    | none => .bad)
  | none => .bad
theorem setAll_len : ∀ {is : List Nat} {ts : List T} {η η' : Env}, setAll is ts η = some η' → ts.length = is.length
  | [], [], _, _, _ => rfl
  | [], _ :: _, _, _, e => by simp [setAll] at e
  | _ :: _, [], _, _, e => by simp [setAll] at e
  | i :: is, t :: ts, η, η', e => by
    simp only [setAll] at e
    split at e
    · simp [setAll_len e]
    · cases e
theorem ss_asgT {is : List Nat} {n : Nat} {m : M T} (hn : is.length = n) (hi : ∀ i ∈ is, i ∉ C.pn) (h : SM K C te m) : SS K C (tAsg te (gTup K n (gNames is))) (mAsgT is m) := fun Z H σ η D g k => by
  unfold mAsgT mBind at k
  refine h Z H σ η _ g ?_
  cases q : m η with
  | bad => rw [q] at k; exact k
  | ex e η' => rw [q] at k; exact toX k
  | ok x η1 =>
    rw [q] at k
    simp only at k
    intro v Z1 H1 s1 g1
    cases q2 : itemsT x with
    | none => rw [q2] at k; exact k.elim
    | some ts =>
      rw [q2] at k
      simp only at k
      cases q3 : setAll is ts η1 with
      | none => rw [q3] at k; exact k.elim
      | some η2 =>
        rw [q3] at k
        obtain ⟨p, vs, e1, e2, e3, g2⟩ := g1.openT q2
        refine ⟨p, vs, e1, e2, by rw [e3, setAll_len q3, hn], setAll_ok (C := C) hi e3 g2 q3 fun σ' g' p' => k σ' Z1 H1 s1 g' p'⟩

/-! ### a list in a slot is changed -/
theorem Inn.updO {Z : Zn} {H : Hp} {p : Addr} {o : HO} (i : Inn Z H) (hB : Z.B p = none) (hR : Z.R p = none) : Inn Z (L2.upd H p o) :=
  ⟨i.fb, fun a x e => by rw [L2.upd_ne (by rintro rfl; rw [hB] at e; cases e)]; exact i.bh a x e, fun a x e => by rw [L2.upd_ne (by rintro rfl; rw [hR] at e; cases e)]; exact i.rh a x e, i.rb⟩
/-- the node at a slot, opened: what it takes to close it again -/
theorem RepE.node {Z : Zn} {H : Hp} {σ : St} {η : Env} {f : List Addr} {j : Nat} {ts : List T} (h : RepE K Z H η σ f) (e : η[j]? = some (.lst ts)) (nd : f.Nodup) :
    ∃ p vs fs f1 f2, σ[j]? = some (some (.ref p)) ∧ H p = some (.lst vs) ∧ Z.B p = none ∧ Z.R p = none ∧ RepTs K Z H ts vs fs ∧ f = f1 ++ (p :: fs) ++ f2 ∧
      ∀ ts' vs' fs', RepTs K Z H ts' vs' fs' → (f1 ++ (p :: fs') ++ f2).Nodup → RepE K Z (upd H p (.lst vs')) (η.set j (.lst ts')) σ (f1 ++ (p :: fs') ++ f2) := by
  obtain ⟨o, f1, g, f2, e1, e2, e3, e4⟩ := h.at_ e
  rcases e3 with ⟨e3, _⟩ | ⟨v, rfl, e3⟩
  · cases e3
  · simp only [RepT] at e3
    obtain ⟨p, vs, fs, rfl, h2, h3, h4, rfl⟩ := e3
    refine ⟨p, vs, fs, f1, f2, e1, h2, h3.1, h3.2, h4, e2, fun ts' vs' fs' hr nd' => ?_⟩
    have hp : p ∉ f1 ∧ p ∉ fs' ∧ p ∉ f2 := by
      simp only [List.nodup_append, List.mem_append, List.nodup_cons, List.mem_cons] at nd'
      grind
    have := e4 Z (upd H p (.lst vs')) (.lst ts') (some (.ref p)) (p :: fs') (Same.refl _) (fun _ _ => ⟨rfl, rfl⟩) (fun a ha => upd_ne (by
      rintro rfl
      rcases List.mem_append.mp ha with z | z
      · exact hp.1 z
      · exact hp.2.2 z)) (.inr ⟨_, rfl, by
      simp only [RepT]
      exact ⟨p, vs', fs', rfl, upd_same, h3, RepTs.frame (Same.refl _) _ _ _ hr (fun _ _ => ⟨rfl, rfl⟩) (fun a ha => upd_ne (by rintro rfl; exact hp.2.1 ha)), rfl⟩⟩)
    rwa [set_self e1] at this
theorem RepTs.setAt {Z : Zn} {H : Hp} : ∀ {ts : List T} {vs : List V} {f g : List Addr} {n : Nat} {t : T} {v : V}, RepTs K Z H ts vs f → RepT K Z H t v g → n < ts.length →
    ∃ f' , RepTs K Z H (ts.set n t) (vs.set n v) f' ∧ (∀ a ∈ f', a ∈ f ∨ a ∈ g) ∧ ((f ++ g).Nodup → f'.Nodup)
  | [], _, _, _, _, _, _, _, _, hn => by simp at hn
  | u :: ts, vs, f, g, 0, t, v, h, r, _ => by
    simp only [RepTs] at h
    obtain ⟨w, vs', f1, f2, rfl, h2, h3, rfl⟩ := h
    refine ⟨g ++ f2, by simp only [List.set_cons_zero, RepTs]; exact ⟨v, vs', g, f2, rfl, r, h3, rfl⟩, ?_, ?_⟩
    · intro a ha; simp only [List.mem_append] at ha ⊢; grind
    · intro nd; simp only [List.nodup_append, List.mem_append] at nd ⊢; grind
  | u :: ts, vs, f, g, n + 1, t, v, h, r, hn => by
    simp only [RepTs] at h
    obtain ⟨w, vs', f1, f2, rfl, h2, h3, rfl⟩ := h
    obtain ⟨f', a1, a2, a3⟩ := RepTs.setAt (n := n) h3 r (by simpa using hn)
    refine ⟨f1 ++ f', by simp only [List.set_cons_succ, RepTs]; exact ⟨w, vs'.set n v, f1, f', rfl, h2, a1, rfl⟩, ?_, ?_⟩
    · intro a ha
      simp only [List.mem_append] at ha ⊢
      rcases ha with ha | ha
      · exact .inl (.inl ha)
      · rcases a2 a ha with z | z
        · exact .inl (.inr z)
        · exact .inr z
    · intro nd
      have n1 : (f2 ++ g).Nodup := by simp only [List.nodup_append, List.mem_append] at nd ⊢; grind
      have := a3 n1
      simp only [List.nodup_append, List.mem_append] at nd ⊢
      refine ⟨nd.1.1, this, fun a ha b hb => ?_⟩
      rcases a2 b hb with z | z
      · exact nd.1.2.2 a ha b z
      · exact nd.2.2 a (.inl ha) b z
/-- x.append(v), v in front -/
theorem Good.append {Z : Zn} {H : Hp} {σ : St} {η : Env} {v : V} {t : T} {j : Nat} {ts : List T} (g : Good K Z H (some v :: σ) (t :: η)) (e : η[j]? = some (.lst ts)) :
    ∃ p vs, σ[j]? = some (some (.ref p)) ∧ H p = some (.lst vs) ∧ vs.length = ts.length ∧ Good K Z (upd H p (.lst (vs ++ [v]))) σ (η.set j (.lst (ts ++ [t]))) := by
  obtain ⟨inn, ft, f, h1, h2, nd, hf⟩ := g.cons_ex
  obtain ⟨f', r⟩ := g.alias
  have h1' : RepT K Z H t v ft := by
    rcases h1 with ⟨rfl, rfl⟩ | ⟨v', e', h1⟩
    · simp [RepT]
    · cases e'; exact h1
  obtain ⟨p, vs, fs, f1, f2, e1, e2, e3, e3', e4, rfl, k⟩ := h2.node e (List.nodup_append.mp nd).2.1
  have nd' : (f1 ++ (p :: (fs ++ ft)) ++ f2).Nodup := by
    simp only [List.nodup_append, List.mem_append, List.nodup_cons, List.mem_cons] at nd ⊢; grind
  refine ⟨p, vs, e1, e2, e4.len, .mk' (inn.updO e3 e3') (k (ts ++ [t]) (vs ++ [v]) (fs ++ ft) (e4.append (by simp only [RepTs]; exact ⟨v, [], ft, [], rfl, h1', ⟨rfl, rfl⟩, by simp⟩)) nd') nd' (fun a ha => hf a ?_)⟩
  simp only [List.mem_append, List.mem_cons] at ha ⊢; grind
/-- x[n] = v, v in front -/
theorem Good.setIx {Z : Zn} {H : Hp} {σ : St} {η : Env} {v : V} {t : T} {j n : Nat} {ts : List T} (g : Good K Z H (some v :: σ) (t :: η)) (e : η[j]? = some (.lst ts)) (hn : n < ts.length) :
    ∃ p vs, σ[j]? = some (some (.ref p)) ∧ H p = some (.lst vs) ∧ vs.length = ts.length ∧ Good K Z (upd H p (.lst (vs.set n v))) σ (η.set j (.lst (ts.set n t))) := by
  obtain ⟨inn, ft, f, h1, h2, nd, hf⟩ := g.cons_ex
  have h1' : RepT K Z H t v ft := by
    rcases h1 with ⟨rfl, rfl⟩ | ⟨v', e', h1⟩
    · simp [RepT]
    · cases e'; exact h1
  obtain ⟨p, vs, fs, f1, f2, e1, e2, e3, e3', e4, rfl, k⟩ := h2.node e (List.nodup_append.mp nd).2.1
  obtain ⟨f', a1, a2, a3⟩ := e4.setAt h1' hn
  have nf : f'.Nodup := a3 (by simp only [List.nodup_append, List.mem_append, List.nodup_cons, List.mem_cons] at nd ⊢; grind)
  have nd' : (f1 ++ (p :: f') ++ f2).Nodup := by
    simp only [List.nodup_append, List.mem_append, List.nodup_cons, List.mem_cons] at nd ⊢
    grind
  refine ⟨p, vs, e1, e2, e4.len, .mk' (inn.updO e3 e3') (k _ _ f' a1 nd') nd' (fun a ha => hf a ?_)⟩
  simp only [List.mem_append, List.mem_cons] at ha ⊢
  rcases ha with (ha | ha | ha) | ha
  · grind
  · grind
  · rcases a2 a ha with z | z <;> grind
  · grind
def mApp (j : Nat) (m : M T) : M Fl := fun η => match η[j]? with
  | some (.lst _) => mBind m (fun t η => match η[j]? with
    | some (.lst ts) => if ts.length < LIM then .ok .nx (η.set j (.lst (ts ++ [t]))) else .bad
    | _ => .bad) η
  | _ => .bad
theorem ss_app {j : Nat} {m : M T} (h : SM K C te m) : SS K C (tDrop (tBM K "list" rAppend (tVar j) (tCons te tNil))) (mApp j m) := fun Z H σ η D g k => by
  unfold mApp mBind at k
  split at k
  · rename_i ts0 e0
    obtain ⟨v0, f0, ev, r0⟩ := g.get e0 (fun z => nomatch z)
    simp only [RepT] at r0
    obtain ⟨p0, vs0, fs0, rfl, hp0, _⟩ := r0
    refine ⟨_, ev, .inl ⟨rfl, _, .of hp0⟩, h Z H σ η _ g ?_⟩
    cases q : m η with
    | bad => rw [q] at k; exact k
    | ex e η' => rw [q] at k; exact toX k
    | ok t η1 =>
      rw [q] at k
      simp only at k
      intro v Z1 H1 s1 g1
      split at k
      · rename_i ts e1
        split at k
        · rename_i hz
          obtain ⟨p, vs, a1, a2, a3, g2⟩ := g1.append e1
          rw [ev] at a1
          cases a1
          exact ⟨_, vs, v, rfl, rfl, a2, lim_lt (a3 ▸ hz), k σ Z1 _ s1 g2 .refl⟩
        · exact k.elim
      · exact k.elim
  · exact k.elim
/-- x[i] = e -/
def mSetIx (j : Nat) (ix : Pu T) (m : M T) : M Fl := mBind m fun t η => match η[j]?, ix η with
  | some (.lst ts), some (.fz (.int i)) => (match ixN ts.length i with
    | some n => .ok .nx (η.set j (.lst (ts.set n t)))
    | none => .bad)
  | _, _ => .bad
theorem ixN_lt {n : Nat} {i : Int} {j : Nat} (h : ixN n i = some j) : j < n := by
  unfold ixN at h
  split at h
  · split at h
    · cases h; omega
    · cases h
  · split at h
    · cases h; omega
    · cases h
theorem ss_setIx {j : Nat} {ix : Pu T} {ti : TE} {m : M T} (h : SM K C te m) (hi : SP K ti ix) : SS K C (tAsg te (gSub (tVar j) ti rSetL)) (mSetIx j ix m) := fun Z H σ η D g k => by
  unfold mSetIx mBind at k
  refine h Z H σ η _ g ?_
  cases q : m η with
  | bad => rw [q] at k; exact k
  | ex e η' => rw [q] at k; exact toX k
  | ok t η1 =>
    rw [q] at k
    simp only at k
    intro v Z1 H1 s1 g1
    split at k
    · rename_i ts i e1 e2
      split at k
      · rename_i n hn
        obtain ⟨p, vs, a1, a2, a3, g2⟩ := g1.setIx e1 (ixN_lt hn)
        refine ⟨_, a1, hi Z1 H1 σ η1 _ _ (Good.drop g1) e2 fun w ⟨fw, rw'⟩ => ?_⟩
        simp only [RepT, RepD] at rw'
        exact ⟨p, vs, i, n, rfl, rw'.1, a2, by rw [a3]; exact hn, k σ Z1 _ s1 g2 .refl⟩
      · exact k.elim
    · exact k.elim

/-! ### loops -/
def loopN (f : Nat → M Fl) : Nat → Nat → M Fl
  | _, 0 => mNx
  | i, n + 1 => fun η => match f i η with
    | .ok .nx η' => loopN f (i + 1) n η'
    | .ok .ct η' => loopN f (i + 1) n η'
    | .ok .bk η' => .ok .nx η'
    | r => r
/-- a turn: the target, then the body -/
def turnN (i : Nat) (x : T) (body : M Fl) : M Fl := fun η => if i < η.length then body (η.set i x) else .bad
theorem loop_turn {Z : Zn} {H : Hp} {σ : St} {η : Env} {D : Ends} {f : Nat → M Fl} {i n : Nat} {Pv : St → Hp → Prop} (g : Good K Z H σ η)
    (k : PostS K C Z σ (loopN f i (n + 1) η) D)
    (hPv : ∀ σ' H', (∃ Z' η', Stp Z Z' ∧ Good K Z' H' σ' η' ∧ Pin C σ σ' ∧ PostS K C Z' σ' (loopN f (i + 1) n η') D) → Pv σ' H') :
    PostS K C Z σ (f i η) { D with nx := Pv, ct := Pv, bk := D.nx } := by
  unfold loopN at k
  cases q : f i η with
  | bad => rw [q] at k; exact k
  | ex e η' => rw [q] at k; exact k
  | ok fl η' =>
    rw [q] at k
    cases fl with
    | nx => exact fun σ' Z' H' s g' p => hPv σ' H' ⟨Z', η', s, g', p, PostS.after s p k⟩
    | ct => exact fun σ' Z' H' s g' p => hPv σ' H' ⟨Z', η', s, g', p, PostS.after s p k⟩
    | bk => exact k
    | rt t => exact k
def mForR (i : Nat) (lo : Int) (n : Nat) (body : M Fl) : M Fl := loopN (fun j => turnN i (.fz (.int (lo + j))) body) 0 n
/-- for i in range(n) -/
def mForR1 (i : Nat) (a : M (List T)) (body : M Fl) : M Fl := mBind a fun ts => match ts with
  | [.fz (.int n)] => if -(2 ^ 62) ≤ n ∧ n < 2 ^ 62 then mForR i 0 n.toNat body else fun _ => .bad
  | _ => fun _ => .bad
def mForR2 (i : Nat) (a : M (List T)) (body : M Fl) : M Fl := mBind a fun ts => match ts with
  | [.fz (.int lo), .fz (.int n)] => if -(2 ^ 62) ≤ lo ∧ lo < 2 ^ 62 ∧ -(2 ^ 62) ≤ n ∧ n < 2 ^ 62 then mForR i lo (n - lo).toNat body else fun _ => .bad
  | _ => fun _ => .bad
theorem for_core {i : Nat} {lo : Int} {n : Nat} {Z : Zn} {H : Hp} {σ : St} {η : Env} {D : Ends} {body : M Fl} (hi : i ∉ C.pn) (hb : SS K C t body) (g : Good K Z H σ η) (k : PostS K C Z σ (mForR i lo n body η) D) :
    ∃ W : Nat → Nat → St → Hp → Prop, (∃ m, W 0 m σ H) ∧ ∀ i' m σ H, W i' m σ H →
      ((Itr lo n).stop i' H ∧ D.nx σ H) ∨ ((Itr lo n).go i' H ∧ ∃ N : St → Hp → Prop, (∀ σ' H', N σ' H' → ∃ m', m' < m ∧ W (i' + 1) m' σ' H') ∧ ∀ x H', (Itr lo n).yld i' H x H' → gName i x σ H' fun σ2 H2 => t { D with nx := N, ct := N, bk := D.nx } σ2 H2) := by
  refine for_range (fun j σ' H' => j ≤ n ∧ ∃ Z' η', Stp Z Z' ∧ Good K Z' H' σ' η' ∧ Pin C σ σ' ∧ PostS K C Z' σ' (loopN (fun j => turnN i (.fz (.int (lo + j))) body) j (n - j) η') D) ⟨Nat.zero_le _, Z, η, .refl, g, .refl, k⟩ ?_ ?_
  · rintro j σ1 H1 hj ⟨_, Z1, η1, s1, g1, p1, k1⟩
    obtain ⟨m, hm⟩ : ∃ m, n - j = m + 1 := ⟨n - j - 1, by omega⟩
    rw [hm] at k1
    have kt := loop_turn (Pv := fun σ' H' => j + 1 ≤ n ∧ ∃ Z' η', Stp Z Z' ∧ Good K Z' H' σ' η' ∧ Pin C σ σ' ∧ PostS K C Z' σ' (loopN (fun j => turnN i (.fz (.int (lo + j))) body) (j + 1) (n - (j + 1)) η') D) g1 k1 (fun σ' H' ⟨Z', η', a, b, c, d⟩ => ⟨hj, Z', η', s1.trans a, b, p1.trans c, by rw [show n - (j + 1) = m by omega]; exact d⟩)
    unfold turnN at kt
    split at kt
    · rename_i hl
      exact hb Z1 H1 _ _ _ ((g1.push (v := .int (lo + j)) (d := .int (lo + j)) (by simp [RepD])).assign hl) (PostS.after .refl (.set hi) kt)
    · exact kt.elim
  · rintro σ1 H1 ⟨_, Z1, η1, s1, g1, p1, k1⟩
    rw [Nat.sub_self] at k1
    exact k1 σ1 Z1 H1 .refl g1 .refl
theorem ss_forR1 {i : Nat} {a : M (List T)} {body : M Fl} (hi : i ∉ C.pn) (ha : SA K C tA a) (hb : SS K C t body) : SS K C (tFor (iRng1 tA) (gName i) t) (mForR1 i a body) := fun Z H σ η D g k => by
  unfold mForR1 mBind at k
  refine ha Z H σ η _ g ?_
  cases q : a η with
  | bad => rw [q] at k; exact k
  | ex e η' => rw [q] at k; exact toX k
  | ok ts η1 =>
    rw [q] at k
    simp only at k
    intro vs Z1 H1 s1 hl g1
    split at k
    · rename_i n
      split at k
      · rename_i hc
        obtain ⟨f, r⟩ := g1.aliases hl
        simp only [RepTs, RepT, RepD] at r
        obtain ⟨v, vs', f1, f2, rfl, h2, ⟨rfl, _⟩, _⟩ := r
        refine ⟨n, by rw [h2.1], hc.1, hc.2, ?_⟩
        exact for_core hi hb (Good.drop g1) (PostS.after s1 .refl k)
      · exact k.elim
    · exact k.elim
theorem ss_forR2 {i : Nat} {a : M (List T)} {body : M Fl} (hi : i ∉ C.pn) (ha : SA K C tA a) (hb : SS K C t body) : SS K C (tFor (iRng2 tA) (gName i) t) (mForR2 i a body) := fun Z H σ η D g k => by
  unfold mForR2 mBind at k
  refine ha Z H σ η _ g ?_
  cases q : a η with
  | bad => rw [q] at k; exact k
  | ex e η' => rw [q] at k; exact toX k
  | ok ts η1 =>
    rw [q] at k
    simp only at k
    intro vs Z1 H1 s1 hl g1
    split at k
    · rename_i lo n
      split at k
      · rename_i hc
        obtain ⟨f, r⟩ := g1.aliases hl
        simp only [RepTs, RepT, RepD] at r
        obtain ⟨v, vs', f1, f2, rfl, h2, ⟨v2, vs2, g1', g2, rfl, h3, ⟨rfl, _⟩, _⟩, _⟩ := r
        refine ⟨lo, n, by rw [h2.1, h3.1], hc, ?_⟩
        exact for_core hi hb (Good.drop (Good.drop g1)) (PostS.after s1 .refl k)
      · exact k.elim
    · exact k.elim
/-! a frozen list -/
def mForD (i : Nat) (ds : List D) (body : M Fl) : M Fl := loopN (fun j => match ds[j]? with
  | some d => turnN i (.fz d) body
  | none => fun _ => .bad) 0 ds.length
theorem forL_core {i : Nat} {a : Addr} {vs : List V} {ds : List D} {Z : Zn} {H : Hp} {σ : St} {η : Env} {D : Ends} {body : M Fl} (hi : i ∉ C.pn) (hb : SS K C t body) (g : Good K Z H σ η) (hs : SqL K Z.F a vs) (hr : RepDs K Z.F ds vs)
    (k : PostS K C Z σ (mForD i ds body η) D) :
    ∃ W : Nat → Nat → St → Hp → Prop, (∃ m, W 0 m σ H) ∧ ∀ i' m σ H, W i' m σ H →
      ((Itl K a).stop i' H ∧ D.nx σ H) ∨ ((Itl K a).go i' H ∧ ∃ N : St → Hp → Prop, (∀ σ' H', N σ' H' → ∃ m', m' < m ∧ W (i' + 1) m' σ' H') ∧ ∀ x H', (Itl K a).yld i' H x H' → gName i x σ H' fun σ2 H2 => t { D with nx := N, ct := N, bk := D.nx } σ2 H2) := by
  have hlen := hr.len
  refine for_list (xs := vs) (fun j σ' H' => j ≤ vs.length ∧ ∃ Z' η', Stp Z Z' ∧ Good K Z' H' σ' η' ∧ Pin C σ σ' ∧ PostS K C Z' σ' (loopN (fun j => match ds[j]? with
    | some d => turnN i (.fz d) body
    | none => fun _ => .bad) j (vs.length - j) η') D) ⟨Nat.zero_le _, Z, η, .refl, g, .refl, by rw [hlen]; exact k⟩ ?_ ?_ ?_
  · rintro j σ1 H1 _ ⟨_, Z1, η1, s1, g1, _⟩
    exact sqL_to g1.inn (s1.f.seq hs)
  · rintro j x σ1 H1 hx ⟨_, Z1, η1, s1, g1, p1, k1⟩
    have hj := (List.getElem?_eq_some_iff.mp hx).1
    obtain ⟨m, hm⟩ : ∃ m, vs.length - j = m + 1 := ⟨vs.length - j - 1, by omega⟩
    rw [hm] at k1
    have kt := loop_turn (Pv := fun σ' H' => j + 1 ≤ vs.length ∧ ∃ Z' η', Stp Z Z' ∧ Good K Z' H' σ' η' ∧ Pin C σ σ' ∧ PostS K C Z' σ' (loopN (fun j => match ds[j]? with
      | some d => turnN i (.fz d) body
      | none => fun _ => .bad) (j + 1) (vs.length - (j + 1)) η') D) g1 k1 (fun σ' H' ⟨Z', η', a, b, c, d⟩ => ⟨hj, Z', η', s1.trans a, b, p1.trans c, by rw [show vs.length - (j + 1) = m by omega]; exact d⟩)
    cases qd : ds[j]? with
    | none => simp only [qd] at kt; exact kt.elim
    | some d =>
      simp only [qd] at kt
      obtain ⟨v, e1, e2⟩ := hr.get qd
      rw [hx] at e1
      cases e1
      unfold turnN at kt
      split at kt
      · rename_i hl
        exact hb Z1 H1 _ _ _ ((g1.push (e2.mono s1.f)).assign hl) (PostS.after .refl (.set hi) kt)
      · exact kt.elim
  · rintro σ1 H1 ⟨_, Z1, η1, s1, g1, p1, k1⟩
    rw [Nat.sub_self] at k1
    exact k1 σ1 Z1 H1 .refl g1 .refl
def frozL : T → Option (List D)
  | .fz (.lst ds) => some ds
  | .fz (.wl ds) => some ds
  | _ => none
/-- for x in e, e a list, frozen ahead -/
def mForL (i : Nat) (m : M T) (body : M Fl) : M Fl := mBind m fun t => match frozL t with
  | some ds => mForD i ds body
  | none => fun _ => .bad
theorem ss_forL {i : Nat} {m : M T} {body : M Fl} (hi : i ∉ C.pn) (h : SM K C te m) (hb : SS K C t body) : SS K C (tFor (iList K te) (gName i) t) (mForL i m body) := fun Z H σ η D g k => by
  unfold mForL mBind at k
  refine h Z H σ η _ g ?_
  cases q : m η with
  | bad => rw [q] at k; exact k
  | ex e η' => rw [q] at k; exact toX k
  | ok x η1 =>
    rw [q] at k
    simp only at k
    intro v Z1 H1 s1 g1
    cases qf : frozL x with
    | none => rw [qf] at k; exact k.elim
    | some ds =>
      rw [qf] at k
      obtain ⟨f, r⟩ := g1.alias
      have : ∃ a vs, v = .ref a ∧ SqL K Z1.F a vs ∧ RepDs K Z1.F ds vs := by
        unfold frozL at qf
        split at qf
        · cases qf; simp only [RepT, RepD] at r; obtain ⟨⟨p, vs, a1, a2, a3⟩, _⟩ := r; exact ⟨p, vs, a1, .of a2, a3⟩
        · cases qf; simp only [RepT, RepD] at r; obtain ⟨⟨p, vs, a1, a2, a3⟩, _⟩ := r; exact ⟨p, vs, a1, a2, a3⟩
        · cases qf
      obtain ⟨a, vs, e1, e2, e3⟩ := this
      exact ⟨a, e1, ⟨vs, sqL_to g1.inn e2⟩, forL_core hi hb (Good.drop g1) e2 e3 (PostS.after s1 .refl k)⟩
/-! while -/
def loopW (c : M Bool) (body : M Fl) : Nat → M Fl
  | 0 => fun _ => .bad
  | n + 1 => fun η => match c η with
    | .bad => .bad
    | .ex e η' => .ex e η'
    | .ok false η' => .ok .nx η'
    | .ok true η' => (match body η' with
      | .ok .nx η2 => loopW c body n η2
      | .ok .ct η2 => loopW c body n η2
      | .ok .bk η2 => .ok .nx η2
      | r => r)
theorem ss_while {c : M Bool} {body : M Fl} {n : Nat} (hc : ST K C tt c) (hb : SS K C t body) : SS K C (tWhile tt t) (loopW c body n) := fun Z H σ η D g k => by
  refine ⟨fun m σ' H' => ∃ Z' η', Stp Z Z' ∧ Good K Z' H' σ' η' ∧ Pin C σ σ' ∧ PostS K C Z' σ' (loopW c body m η') D, ⟨n, Z, η, .refl, g, .refl, k⟩, ?_⟩
  rintro m σ1 H1 ⟨Z1, η1, s1, g1, p1, k1⟩
  cases m with
  | zero => exact k1.elim
  | succ m =>
    unfold loopW at k1
    refine hc Z1 H1 σ1 η1 _ g1 ?_
    cases q : c η1 with
    | bad => rw [q] at k1; exact k1
    | ex e η' => rw [q] at k1; exact toX k1
    | ok b η2 =>
      rw [q] at k1
      intro Z2 H2 s2 g2
      cases b with
      | false => exact iteF (k1 σ1 Z2 H2 s2 g2 .refl)
      | true =>
        refine iteT ⟨fun σ' H' => ∃ Z' η', Stp Z Z' ∧ Good K Z' H' σ' η' ∧ Pin C σ σ' ∧ PostS K C Z' σ' (loopW c body m η') D, fun σ' H' h => ⟨m, Nat.lt_succ_self m, h⟩, hb Z2 H2 σ1 η2 _ g2 ?_⟩
        simp only at k1
        cases q2 : body η2 with
        | bad => rw [q2] at k1; exact k1
        | ex e η' => rw [q2] at k1; exact PostS.after s2 .refl k1
        | ok fl η3 =>
          rw [q2] at k1
          cases fl with
          | nx => exact fun σ' Z' H' s g' p => ⟨Z', η3, (s1.trans s2).trans s, g', p1.trans p, PostS.after (s2.trans s) p k1⟩
          | ct => exact fun σ' Z' H' s g' p => ⟨Z', η3, (s1.trans s2).trans s, g', p1.trans p, PostS.after (s2.trans s) p k1⟩
          | bk => exact PostS.after s2 .refl k1
          | rt t => exact PostS.after s2 .refl k1
end
end ML
end
section
set_option Elab.async false
set_option maxRecDepth 100000
set_option maxHeartbeats 4000000
/-! M5: comprehensions, defs and their calls. -/
namespace ML
open PySem L2 StX

section
variable {K : PySem.W.Frag} {C : Wc} {ta tb te : TE} {tA tB' : TA} {tt tu : TT} {t u : TS}
/-! ### slots that a block wipes -/
def wipeE (η : Env) : List Nat → Env
  | [] => η
  | v :: vs => (wipeE η vs).set v .un
theorem wipeE_set (η : Env) (i : Nat) : ∀ vs : List Nat, wipeE (η.set i .un) vs = (wipeE η vs).set i .un
  | [] => rfl
  | v :: vs => by
    simp only [wipeE, wipeE_set η i vs]
    by_cases e : v = i
    · subst e; rfl
    · rw [List.set_comm _ _ (Ne.symm e)]
theorem RepE.setUn {Z : Zn} {H : Hp} {σ : St} {η : Env} {f : List Addr} (h : RepE K Z H η σ f) (i : Nat) (o : Option V) : ∃ f', RepE K Z H (η.set i .un) (σ.set i o) f' ∧ f'.Sublist f := by
  by_cases hi : i < η.length
  · obtain ⟨o', a, g, b, e1, e2, e3, e4⟩ := h.at_ (List.getElem?_eq_getElem hi)
    subst e2
    refine ⟨_, e4 Z H .un o [] (Same.refl _) (fun _ _ => ⟨rfl, rfl⟩) (fun _ _ => rfl) (.inl ⟨rfl, rfl⟩), ?_⟩
    exact ((List.Sublist.refl a).append (List.nil_sublist g)).append (List.Sublist.refl b)
  · have hl := h.len
    rw [List.set_eq_of_length_le (by omega), List.set_eq_of_length_le (by omega)]
    exact ⟨f, h, .refl _⟩
theorem RepE.wipe {Z : Zn} {H : Hp} {σ : St} {η : Env} {f : List Addr} (h : RepE K Z H η σ f) : ∀ vs : List Nat, ∃ f', RepE K Z H (wipeE η vs) (L2.wipe σ vs) f' ∧ f'.Sublist f
  | [] => ⟨f, h, .refl _⟩
  | v :: vs => by
    obtain ⟨f1, h1, s1⟩ := h.wipe vs
    obtain ⟨f2, h2, s2⟩ := h1.setUn v none
    exact ⟨f2, h2, s2.trans s1⟩
theorem RepE.unwipe {Z : Zn} {H : Hp} {σ : St} : ∀ {vs : List Nat} {η : Env} {f : List Addr}, RepE K Z H η (L2.wipe σ vs) f → ∃ f', RepE K Z H (wipeE η vs) σ f' ∧ f'.Sublist f
  | [], η, f, h => ⟨f, h, .refl _⟩
  | v :: vs, η, f, h => by
    by_cases hv : v < (L2.wipe σ vs).length
    · obtain ⟨f1, h1, s1⟩ := h.setUn v (L2.wipe σ vs)[v]
      have e : (L2.wipe σ (v :: vs)).set v (L2.wipe σ vs)[v] = L2.wipe σ vs := by
        show ((L2.wipe σ vs).set v none).set v _ = _
        rw [List.set_set]
        exact set_self (List.getElem?_eq_getElem hv)
      rw [e] at h1
      obtain ⟨f2, h2, s2⟩ := RepE.unwipe h1
      rw [wipeE_set] at h2
      exact ⟨f2, h2, s2.trans s1⟩
    · have e : L2.wipe σ (v :: vs) = L2.wipe σ vs := by
        show (L2.wipe σ vs).set v none = _
        exact List.set_eq_of_length_le (by omega)
      rw [e] at h
      have hl := h.len
      obtain ⟨f2, h2, s2⟩ := RepE.unwipe h
      have hl2 := h2.len
      refine ⟨f2, ?_, s2⟩
      show RepE K Z H ((wipeE η vs).set v .un) σ f2
      rw [List.set_eq_of_length_le (by have := L2.wipe_length σ vs; omega)]
      exact h2
theorem Good.wipe1 {Z : Zn} {H : Hp} {σ : St} {η : Env} {o : Option V} {x : T} (g : Good K Z H (o :: σ) (x :: η)) (vs : List Nat) : Good K Z H (o :: L2.wipe σ vs) (x :: wipeE η vs) := by
  obtain ⟨inn, f1, f2, h1, h2, nd, hf⟩ := g.cons_ex
  obtain ⟨f3, h3, s3⟩ := h2.wipe vs
  exact .cons_mk inn h1 h3 (((List.Sublist.refl f1).append s3).nodup nd) (fun a ha => hf a (((List.Sublist.refl f1).append s3).subset ha))
theorem Good.unwipe1 {Z : Zn} {H : Hp} {σ : St} {η : Env} {o : Option V} {x : T} {vs : List Nat} (g : Good K Z H (o :: L2.wipe σ vs) (x :: η)) : Good K Z H (o :: σ) (x :: wipeE η vs) := by
  obtain ⟨inn, f1, f2, h1, h2, nd, hf⟩ := g.cons_ex
  obtain ⟨f3, h3, s3⟩ := h2.unwipe
  exact .cons_mk inn h1 h3 (((List.Sublist.refl f1).append s3).nodup nd) (fun a ha => hf a (((List.Sublist.refl f1).append s3).subset ha))
theorem Good.wipe0 {Z : Zn} {H : Hp} {σ : St} {η : Env} (g : Good K Z H σ η) (vs : List Nat) : Good K Z H (L2.wipe σ vs) (wipeE η vs) := (g.pushUn (o := none)).wipe1 vs |>.drop
theorem wipe_setIn {σ : St} {j : Nat} {o : Option V} : ∀ {vs : List Nat}, j ∈ vs → L2.wipe (σ.set j o) vs = L2.wipe σ vs
  | [], h => by cases h
  | v :: vs, h => by
    by_cases e : j ∈ vs
    · simp only [L2.wipe, wipe_setIn e]
    · have ev : j = v := by
        rcases List.mem_cons.mp h with h | h
        · exact h
        · exact absurd h e
      subst ev
      have : ∀ (ws : List Nat), j ∉ ws → L2.wipe (σ.set j o) ws = (L2.wipe σ ws).set j o := by
        intro ws
        induction ws with
        | nil => intro _; rfl
        | cons w ws ih =>
          intro hw
          simp only [List.mem_cons, not_or] at hw
          simp only [L2.wipe, ih hw.2]
          rw [List.set_comm _ _ hw.1]
      simp only [L2.wipe, this vs e, List.set_set]
theorem wipe_wipe {σ : St} : ∀ {vs : List Nat} {ws : List Nat}, (∀ v ∈ vs, v ∈ ws) → L2.wipe (L2.wipe σ vs) ws = L2.wipe σ ws
  | [], _, _ => rfl
  | v :: vs, ws, h => by
    show L2.wipe ((L2.wipe σ vs).set v none) ws = _
    rw [wipe_setIn (h v List.mem_cons_self)]
    exact wipe_wipe fun x hx => h x (List.mem_cons_of_mem _ hx)

/-! ### comprehensions -/
/-- within a comprehension nothing is let out -/
def Wc.nox (C : Wc) : Wc := { C with W := fun _ _ _ _ => False, pn := [] }
def loopC (f : Nat → M (Option T)) : Nat → Nat → List T → M (List T)
  | _, 0, acc => fun η => .ok acc η
  | i, n + 1, acc => fun η => match f i η with
    | .ok (some t) η' => if acc.length < LIM then loopC f (i + 1) n (acc ++ [t]) η' else .bad
    | .ok none η' => loopC f (i + 1) n acc η'
    | _ => .bad
/-- a turn -/
def turnC (j : Nat) (vs : List Nat) (x : T) (c : M Bool) (e : M T) : M (Option T) := fun η => if j < η.length then
  (match c (η.set j x) with
    | .ok true η1 => (match e η1 with
      | .ok t η2 => .ok (some t) (wipeE η2 vs)
      | _ => .bad)
    | .ok false η1 => .ok none (wipeE η1 vs)
    | _ => .bad) else .bad
def mLc (f : Nat → M (Option T)) (n : Nat) (vs : List Nat) : M T := fun η => match loopC f 0 n [] (wipeE η vs) with
  | .ok acc η' => .ok (.lst acc) (wipeE η' vs)
  | _ => .bad
/-- what stands at a turn -/
def CInv (K : PySem.W.Frag) (C : Wc) (Z : Zn) (σ : St) (vs : List Nat) (D : Addr) (f : Nat → M (Option T)) (N : Nat) (Q : VK) (i : Nat) (H' : Hp) : Prop :=
  i ≤ N ∧ ∃ Z' η' acc, Stp Z Z' ∧ Good K Z' H' (some (.ref D) :: L2.wipe σ vs) (.lst acc :: η') ∧ (match loopC f i (N - i) acc η' with
    | .ok r η'' => ∀ Z2 H2, Stp Z Z2 → Good K Z2 H2 (some (.ref D) :: σ) (.lst r :: wipeE η'' vs) → Q (.ref D) H2
    | _ => False)
theorem cinv_start {Z : Zn} {H : Hp} {σ : St} {η : Env} {vs : List Nat} {D : Addr} {f : Nat → M (Option T)} {n : Nat} {Q : VK} (g : Good K Z H σ η) (hD : H D = none) (k : PostE K C Z σ (mLc f n vs η) Q) :
    CInv K C Z σ vs D f n Q 0 (upd H D (.lst [])) := by
  refine ⟨Nat.zero_le _, Z, wipeE η vs, [], .refl, (Good.newLst (vs := []) (ts := []) g rfl hD).wipe1 vs, ?_⟩
  unfold mLc at k
  rw [Nat.sub_zero]
  cases q : loopC f 0 n [] (wipeE η vs) with
  | bad => rw [q] at k; exact k
  | ex e η' => rw [q] at k; exact k.elim
  | ok r η'' => rw [q] at k; exact fun Z2 H2 s g2 => k _ Z2 H2 s g2
theorem cinv_end {Z : Zn} {H : Hp} {σ : St} {vs : List Nat} {D : Addr} {f : Nat → M (Option T)} {n : Nat} {Q : VK} (c : CInv K C Z σ vs D f n Q n H) : Q (.ref D) H := by
  obtain ⟨_, Z', η', acc, s, g, k⟩ := c
  rw [Nat.sub_self] at k
  exact k Z' H s g.unwipe1
/-- one turn, the item's slot set -/
theorem cinv_turn {Z : Zn} {H : Hp} {σ : St} {vs : List Nat} {D : Addr} {f : Nat → M (Option T)} {N i j : Nat} {Q : VK} {c : M Bool} {e : M T} {d : ML.D} {v : V} (hj : j ∈ vs) (hc : ST K C.nox tt c) (he : SM K C.nox te e) (hi : i < N)
    (hf : f i = turnC j vs (.fz d) c e) (ci : CInv K C Z σ vs D f N Q i H) (hd : ∀ Z', Stp Z Z' → RepD K Z'.F d v) :
    L2.wipe ((L2.wipe σ vs).set j (some v)) vs = L2.wipe σ vs ∧ tt ((L2.wipe σ vs).set j (some v)) H fun b H3 =>
      if b = true then te ((L2.wipe σ vs).set j (some v)) H3 fun y H4 => ∃ acc, H4 D = some (.lst acc) ∧ acc.length < sizeLine ∧ CInv K C Z σ vs D f N Q (i + 1) (upd H4 D (.lst (acc ++ [y]))) else CInv K C Z σ vs D f N Q (i + 1) H3 := by
  obtain ⟨_, Z1, η1, acc, s1, g1, k⟩ := ci
  have ew : L2.wipe ((L2.wipe σ vs).set j (some v)) vs = L2.wipe σ vs := by rw [wipe_setIn hj, wipe_wipe fun _ h => h]
  refine ⟨ew, ?_⟩
  obtain ⟨m, hm⟩ : ∃ m, N - i = m + 1 := ⟨N - i - 1, by omega⟩
  have hm' : N - (i + 1) = m := by omega
  rw [hm] at k
  unfold loopC at k
  rw [hf] at k
  unfold turnC at k
  by_cases hl : j < η1.length
  · simp only [if_pos hl] at k
    obtain ⟨Z1', g1', _, eF, back⟩ := Good.hide (τ := [some (.ref D)]) (ζ := [.lst acc]) g1 rfl
    have g2 := (g1'.push (v := v) (d := d) (by rw [eF]; exact hd Z1 s1)).assign hl
    refine hc Z1' H _ _ _ g2 ?_
    cases q : c (η1.set j (.fz d)) with
    | bad => rw [q] at k; exact k.elim
    | ex x η' => rw [q] at k; exact k.elim
    | ok b η2 =>
      rw [q] at k
      intro Z3 H3 s3 g3
      cases b with
      | false =>
        refine iteF ?_
        simp only at k
        have g4 : Good K Z3 H3 (L2.wipe σ vs) (wipeE η2 vs) := by
          have := g3.wipe0 vs
          rwa [ew] at this
        obtain ⟨Z4, s4, _, g5⟩ := back Z3 H3 _ _ s3 g4
        exact ⟨hi, Z4, _, acc, s1.trans s4, g5, by rw [hm']; exact k⟩
      | true =>
        refine iteT ?_
        simp only at k
        refine he Z3 H3 _ _ _ g3 ?_
        cases q2 : e η2 with
        | bad => rw [q2] at k; exact k.elim
        | ex x η' => rw [q2] at k; exact k.elim
        | ok y η3 =>
          rw [q2] at k
          simp only at k
          intro w Z4 H4 s4 g4
          have g5 : Good K Z4 H4 (some w :: L2.wipe σ vs) (y :: wipeE η3 vs) := by
            have := g4.wipe1 vs
            rwa [ew] at this
          obtain ⟨Z5, s5, _, g6⟩ := back Z4 H4 _ _ (s3.trans s4) g5
          by_cases hz : acc.length < LIM
          · simp only [if_pos hz] at k
            obtain ⟨p, ws, a1, a2, a3, g7⟩ := (Good.swap2 g6).append (j := 0) rfl
            simp only [List.getElem?_cons_zero, Option.some.injEq, V.ref.injEq] at a1
            subst a1
            exact ⟨ws, a2, lim_lt (a3 ▸ hz), hi, Z5, _, acc ++ [y], s1.trans s5, g7, by rw [hm']; exact k⟩
          · simp only [if_neg hz] at k
  · simp only [if_neg hl] at k
/-! over ranges, over a frozen list -/
def mLcR (j : Nat) (vs : List Nat) (lo : Int) (n : Nat) (c : M Bool) (e : M T) : M T := mLc (fun i => turnC j vs (.fz (.int (lo + i))) c e) n vs
def mLcR1 (j : Nat) (vs : List Nat) (a : M (List T)) (c : M Bool) (e : M T) : M T := mBind a fun ts => match ts with
  | [.fz (.int n)] => if -(2 ^ 62) ≤ n ∧ n < 2 ^ 62 then mLcR j vs 0 n.toNat c e else fun _ => .bad
  | _ => fun _ => .bad
def mLcR2 (j : Nat) (vs : List Nat) (a : M (List T)) (c : M Bool) (e : M T) : M T := mBind a fun ts => match ts with
  | [.fz (.int lo), .fz (.int n)] => if -(2 ^ 62) ≤ lo ∧ lo < 2 ^ 62 ∧ -(2 ^ 62) ≤ n ∧ n < 2 ^ 62 then mLcR j vs lo (n - lo).toNat c e else fun _ => .bad
  | _ => fun _ => .bad
def mLcL (j : Nat) (vs : List Nat) (m : M T) (c : M Bool) (e : M T) : M T := mBind m fun t => match frozL t with
  | some ds => mLc (fun i => match ds[i]? with
    | some d => turnC j vs (.fz d) c e
    | none => fun _ => .bad) ds.length vs
  | none => fun _ => .bad
def mYes : M Bool := fun η => .ok true η
theorem st_yes : ST K C tYes mYes := fun Z H σ η Q g k => k Z H .refl g
theorem lcR_core {Z : Zn} {H : Hp} {σ : St} {η : Env} {j : Nat} {vs : List Nat} {lo : Int} {n : Nat} {c : M Bool} {e : M T} {Q : VK} (hj : j ∈ vs) (hc : ST K C.nox tt c) (he : SM K C.nox te e) (g : Good K Z H σ η)
    (k : PostE K C Z σ (mLcR j vs lo n c e η) Q) : ∀ D, H D = none → ∃ W : Nat → Nat → Hp → Prop, (∃ m, W 0 m (upd H D (.lst []))) ∧ ∀ i m H, W i m H →
  ((Itr lo n).stop i H ∧ Q (.ref D) H) ∨ ((Itr lo n).go i H ∧ ∃ Nx : Hp → Prop, (∀ H', Nx H' → ∃ m', m' < m ∧ W (i + 1) m' H') ∧ ∀ x H', (Itr lo n).yld i H x H' → gName j x (L2.wipe σ vs) H' fun σ2 H2 => L2.wipe σ2 vs = L2.wipe σ vs ∧ tt σ2 H2 fun b H3 =>
    if b = true then te σ2 H3 fun y H4 => ∃ acc, H4 D = some (.lst acc) ∧ acc.length < sizeLine ∧ Nx (upd H4 D (.lst (acc ++ [y]))) else Nx H3) := fun D hD =>
  lc_range (CInv K C Z σ vs D (fun i => turnC j vs (.fz (.int (lo + i))) c e) n Q) (cinv_start g hD k)
    (fun i H' hi ci => cinv_turn hj hc he hi rfl ci fun _ _ => by simp [RepD]) (fun H' ci => cinv_end ci)
theorem sm_lcR1 {j : Nat} {vs : List Nat} {a : M (List T)} {c : M Bool} {e : M T} (hj : j ∈ vs) (ha : SA K C tA a) (hc : ST K C.nox tt c) (he : SM K C.nox te e) : SM K C (tLc (iRng1 tA) (gName j) tt te vs) (mLcR1 j vs a c e) := fun Z H σ η Q g k => by
  unfold mLcR1 mBind at k
  refine ha Z H σ η _ g ?_
  cases q : a η with
  | bad => rw [q] at k; exact k
  | ex e η' => rw [q] at k; exact k
  | ok ts η1 =>
    rw [q] at k
    simp only at k
    intro vs Z1 H1 s1 hl g1
    split at k
    · rename_i n
      split at k
      · rename_i hb
        obtain ⟨f, r⟩ := g1.aliases hl
        simp only [RepTs, RepT, RepD] at r
        obtain ⟨v, vs', f1, f2, rfl, h2, ⟨rfl, _⟩, _⟩ := r
        exact ⟨n, by rw [h2.1], hb.1, hb.2, lcR_core hj hc he (Good.drop g1) (PostE.after s1 k)⟩
      · exact k.elim
    · exact k.elim
theorem sm_lcR2 {j : Nat} {vs : List Nat} {a : M (List T)} {c : M Bool} {e : M T} (hj : j ∈ vs) (ha : SA K C tA a) (hc : ST K C.nox tt c) (he : SM K C.nox te e) : SM K C (tLc (iRng2 tA) (gName j) tt te vs) (mLcR2 j vs a c e) := fun Z H σ η Q g k => by
  unfold mLcR2 mBind at k
  refine ha Z H σ η _ g ?_
  cases q : a η with
  | bad => rw [q] at k; exact k
  | ex e η' => rw [q] at k; exact k
  | ok ts η1 =>
    rw [q] at k
    simp only at k
    intro vs Z1 H1 s1 hl g1
    split at k
    · rename_i lo n
      split at k
      · rename_i hb
        obtain ⟨f, r⟩ := g1.aliases hl
        simp only [RepTs, RepT, RepD] at r
        obtain ⟨v, vs', f1, f2, rfl, h2, ⟨v2, vs2, g1', g2, rfl, h3, ⟨rfl, _⟩, _⟩, _⟩ := r
        exact ⟨lo, n, by rw [h2.1, h3.1], hb, lcR_core hj hc he (Good.drop (Good.drop g1)) (PostE.after s1 k)⟩
      · exact k.elim
    · exact k.elim
theorem sm_lcL {j : Nat} {vs : List Nat} {m : M T} {c : M Bool} {e : M T} (hj : j ∈ vs) (ha : SM K C ta m) (hc : ST K C.nox tt c) (he : SM K C.nox te e) : SM K C (tLc (iList K ta) (gName j) tt te vs) (mLcL j vs m c e) := fun Z H σ η Q g k => by
  unfold mLcL mBind at k
  refine ha Z H σ η _ g ?_
  cases q : m η with
  | bad => rw [q] at k; exact k
  | ex e η' => rw [q] at k; exact k
  | ok x η1 =>
    rw [q] at k
    simp only at k
    intro v Z1 H1 s1 g1
    cases qf : frozL x with
    | none => rw [qf] at k; exact k.elim
    | some ds =>
      rw [qf] at k
      simp only at k
      obtain ⟨f, r⟩ := g1.alias
      have : ∃ a us, v = .ref a ∧ SqL K Z1.F a us ∧ RepDs K Z1.F ds us := by
        unfold frozL at qf
        split at qf
        · cases qf; simp only [RepT, RepD] at r; obtain ⟨⟨p, us, a1, a2, a3⟩, _⟩ := r; exact ⟨p, us, a1, .of a2, a3⟩
        · cases qf; simp only [RepT, RepD] at r; obtain ⟨⟨p, us, a1, a2, a3⟩, _⟩ := r; exact ⟨p, us, a1, a2, a3⟩
        · cases qf
      obtain ⟨a, us, e1, e2, e3⟩ := this
      refine ⟨a, e1, ⟨us, sqL_to g1.inn e2⟩, fun D hD => ?_⟩
      have hlen := e3.len
      rw [← hlen] at k
      refine lc_list (xs := us) (CInv K C Z1 σ vs D (fun i => match ds[i]? with
        | some d => turnC j vs (.fz d) c e
        | none => fun _ => .bad) us.length Q) (cinv_start (Good.drop g1) hD (PostE.after s1 k)) ?_ ?_ (fun H' ci => cinv_end ci)
      · rintro i H' _ ⟨_, Z', η', acc, s', g', _⟩
        exact sqL_to g'.inn (s'.f.seq e2)
      · intro i y H' hy ci
        have hi := (List.getElem?_eq_some_iff.mp hy).1
        cases qd : ds[i]? with
        | none => rw [List.getElem?_eq_none_iff] at qd; omega
        | some d =>
          obtain ⟨w, a1, a2⟩ := e3.get qd
          rw [hy] at a1
          cases a1
          exact cinv_turn hj hc he hi (by simp only [qd]) ci fun Z' s' => a2.mono s'.f
end

/-! ### defs -/
section
variable {K : PySem.W.Frag} {C : Wc} {ta tb te : TE} {tA tB' : TA} {tt tu : TT} {t u : TS}
def outs (np : Nat) (pn : List Nat) (η : Env) : List T := (List.range np).map fun k => if k ∈ pn then η.getD k .un else .un
/-- a def by its body: n slots, np parameters, pn those that are never stored -/
def runF (n np : Nat) (pn : List Nat) (body : M Fl) : List T → Res T := fun ts => if ts.length = np then (match body (ts ++ List.replicate (n - np) .un) with
  | .ok (.rt t) η' => if np ≤ η'.length then .ok t (outs np pn η') else .bad
  | .ok .nx η' => if np ≤ η'.length then .ok (.fz .non) (outs np pn η') else .bad
  | .ex e η' => if np ≤ η'.length then .ex e (outs np pn η') else .bad
  | _ => .bad) else .bad
/-- what a def promises by its mirror -/
def spM (K : PySem.W.Frag) (C : XK → Wc) (m : List T → Res T) : Sp := fun vs H Q E => ∃ Z ts, vs.length = ts.length ∧ Good K Z H (vs.map some) ts ∧ PostE K (C E) Z (vs.map some) (m ts) Q
/-- no exception -/
def C0 (pn : List Nat) (_ : XK) : Wc := ⟨fun _ _ _ _ => False, fun _ _ _ _ _ => False, pn⟩
theorem Good.takeE {Z : Zn} {H : Hp} : ∀ {σ : St} {η : Env} (n : Nat), Good K Z H σ η → Good K Z H (σ.take n) (η.take n) := fun {σ η} n g => by
  obtain ⟨inn, f, h, nd, hf⟩ := g.ex'
  have hl := h.len
  have e1 : σ.take n ++ σ.drop n = σ := List.take_append_drop n σ
  have e2 : η.take n ++ η.drop n = η := List.take_append_drop n η
  rw [← e1, ← e2] at h
  obtain ⟨f1, f2, rfl, h1, h2⟩ := h.split (by simp [hl])
  exact .mk' inn h1 (List.nodup_append.mp nd).1 (fun a ha => hf a (List.mem_append_left _ ha))
/-- the slots but those at pn are forgotten, whatever stands there -/
theorem RepE.only {Z : Zn} {H : Hp} {pn : List Nat} : ∀ {η : Env} {σ σ' : St} {f : List Addr} (b : Nat), RepE K Z H η σ f → σ'.length = σ.length → (∀ k, b + k ∈ pn → σ'[k]? = σ[k]?) →
    ∃ f', RepE K Z H ((List.range η.length).map fun k => if b + k ∈ pn then η.getD k .un else .un) σ' f' ∧ f'.Sublist f
  | [], σ, σ', f, b, h, hl, hs => by
    simp only [RepE] at h
    obtain ⟨rfl, rfl⟩ := h
    have : σ' = [] := List.length_eq_zero_iff.mp (by simpa using hl)
    subst this
    exact ⟨[], by simp [RepE], .refl _⟩
  | t :: η, σ, σ', f, b, h, hl, hs => by
    simp only [RepE] at h
    obtain ⟨o, σ1, f1, f2, rfl, h2, h3, rfl⟩ := h
    cases σ' with
    | nil => simp at hl
    | cons o' σ' =>
      obtain ⟨f', h4, s4⟩ := RepE.only (σ' := σ') (b + 1) h3 (by simpa using hl) (fun k hk => by
        have := hs (k + 1) (by rw [show b + (k + 1) = b + 1 + k by omega]; exact hk)
        simpa using this)
      have er : (List.range (t :: η).length).map (fun k => if b + k ∈ pn then (t :: η).getD k .un else .un) = (if b ∈ pn then t else .un) :: (List.range η.length).map (fun k => if b + 1 + k ∈ pn then η.getD k .un else .un) := by
        rw [List.length_cons, List.range_succ_eq_map, List.map_cons, List.map_map]
        simp only [Nat.add_zero, List.getD_cons_zero, List.cons.injEq, true_and]
        apply List.map_congr_left
        intro k _
        simp only [Function.comp, List.getD_cons_succ, show b + Nat.succ k = b + 1 + k by omega]
      rw [er]
      by_cases hb : b ∈ pn
      · have ho : o' = o := by
          have := hs 0 (by simpa using hb)
          simpa using this
        subst ho
        rw [if_pos hb]
        refine ⟨f1 ++ f', by simp only [RepE]; exact ⟨_, _, f1, f', rfl, h2, h4, rfl⟩, (List.Sublist.refl f1).append s4⟩
      · rw [if_neg hb]
        refine ⟨f', by simp only [RepE]; exact ⟨_, _, [], f', rfl, .inl ⟨rfl, rfl⟩, h4, rfl⟩, s4.trans (List.sublist_append_right f1 f2)⟩
theorem Good.only {Z : Zn} {H : Hp} {pn : List Nat} {σ σ' : St} {η : Env} (g : Good K Z H σ η) (hl : σ'.length = σ.length) (hs : ∀ k, k ∈ pn → σ'[k]? = σ[k]?) :
    Good K Z H σ' ((List.range η.length).map fun k => if k ∈ pn then η.getD k .un else .un) := by
  obtain ⟨inn, f, h, nd, hf⟩ := g.ex'
  obtain ⟨f', h', s⟩ := h.only (pn := pn) 0 hl (fun k hk => hs k (by simpa using hk))
  simp only [Nat.zero_add] at h'
  exact .mk' inn h' (s.nodup nd) (fun a ha => hf a (s.subset ha))
theorem Good.outs {Z : Zn} {H : Hp} {pn : List Nat} {vs : List V} {σ' : St} {η' : Env} {np : Nat} (hn : vs.length = np) (g : Good K Z H σ' η') (hl : np ≤ η'.length) (hp : ∀ k ∈ pn, k < np) (hs : ∀ k ∈ pn, σ'[k]? = (vs.map some)[k]?) :
    Good K Z H (vs.map some) (ML.outs np pn η') := by
  have g1 := g.takeE np
  have hl' := g.len
  have g2 := g1.only (σ' := vs.map some) (pn := pn) (by simp [hn]; omega) (fun k hk => by rw [List.getElem?_take_of_lt (hp k hk)]; exact (hs k hk).symm)
  have e : (List.range (η'.take np).length).map (fun k => if k ∈ pn then (η'.take np).getD k .un else .un) = ML.outs np pn η' := by
    unfold ML.outs
    rw [List.length_take, Nat.min_eq_left hl]
    apply List.map_congr_left
    intro k hk
    have hk' : k < np := List.mem_range.mp hk
    split
    · rw [List.getD_eq_getElem?_getD, List.getD_eq_getElem?_getD, List.getElem?_take_of_lt hk']
    · rfl
  rwa [e] at g2
theorem start_good {Z : Zn} {H : Hp} {N : List Str} {vs : List V} {ts : List T} (g : Good K Z H (vs.map some) ts) (hl : vs.length = ts.length) : Good K Z H (L2.start N vs) (ts ++ List.replicate (N.length - ts.length) .un) := by
  obtain ⟨inn, f, h, nd, hf⟩ := g.ex'
  unfold L2.start
  have : ∀ n, RepE K Z H (List.replicate n T.un) (List.replicate n (none : Option V)) [] := by
    intro n
    induction n with
    | zero => simp [RepE]
    | succ n ih =>
      simp only [List.replicate_succ, RepE]
      exact ⟨_, _, [], [], rfl, .inl ⟨rfl, rfl⟩, ih, rfl⟩
  rw [hl]
  exact .mk' inn (f := f ++ []) (RepE.append h (this _)) (by simpa using nd) (by simpa using hf)
/-- from the body's mirror to the def's reading -/
theorem body_run {N : List Str} {np : Nat} {pn : List Nat} {body : M Fl} {C : XK → Wc} {vs : List V} {H : Hp} {Q : VK} {E : XK} (hb : SS K (C E) t body) (hC : (C E).pn = pn) (hp : ∀ k ∈ pn, k < np) (hnp : np ≤ N.length) (h : spM K C (runF N.length np pn body) vs H Q E)
    (hW : ∀ cls d σ σ' H, (C E).W cls d σ H → (C E).W cls d σ' H) : t { nx := fun _ H' => Q .non H', rt := Q } (L2.start N vs) H := by
  obtain ⟨Z, ts, hl, g, k⟩ := h
  unfold runF at k
  split at k
  · rename_i hn
    have hvn : vs.length = np := hl.trans hn
    refine hb Z H _ _ _ (start_good (N := N) g hl) ?_
    have hst : ∀ k ∈ pn, (L2.start N vs)[k]? = (vs.map some)[k]? := fun k hk => by
      unfold L2.start
      rw [List.getElem?_append_left (by simp [hvn]; exact hp k hk)]
    have hout : ∀ {Z' : Zn} {H' : Hp} {σ' : St} {η' : Env}, Good K Z' H' σ' η' → Pin (C E) (L2.start N vs) σ' → np ≤ η'.length → Good K Z' H' (vs.map some) (ML.outs np pn η') := fun {Z' H' σ' η'} g' p hl' =>
      Good.outs hvn g' hl' hp fun k hk => by rw [p k (by rw [hC]; exact hk), hst k hk]
    rw [hn]
    cases q : body (ts ++ List.replicate (N.length - np) .un) with
    | bad => rw [q] at k; exact k
    | ex e η' =>
      rw [q] at k
      simp only at k
      split at k
      · rename_i hz
        exact fun cls d σ' Z' H' s' g' p x => hW cls d _ _ H' (k cls d Z' H' s' (hout g' p hz) x)
      · exact k.elim
    | ok f η' =>
      rw [q] at k
      cases f with
      | nx =>
        simp only at k
        split at k
        · rename_i hz
          exact fun σ' Z' H' s' g' p => k .non Z' H' s' ((hout g' p hz).push (by simp [RepD]))
        · exact k.elim
      | bk => exact k.elim
      | ct => exact k.elim
      | rt x =>
        simp only at k
        split at k
        · rename_i hz
          refine fun v σ' Z' H' s' g' p => k v Z' H' s' ?_
          obtain ⟨inn, f1, f2, h1, h2, nd, hf⟩ := g'.cons_ex
          have hl' : σ'.length = η'.length := by have := g'.len; simpa using this
          -- the value stays in front, the parameters behind it
          have go : Good K Z' H' (some v :: vs.map some) (x :: ML.outs np pn η') := by
            obtain ⟨f3, h3, s3⟩ := h2.only (σ' := (vs.map some) ++ σ'.drop np) (pn := pn) 0 (by simp [hvn]; omega) (fun k hk => by
              rw [Nat.zero_add] at hk
              rw [List.getElem?_append_left (by simp [hvn]; exact hp k hk), p k (by rw [hC]; exact hk), hst k hk])
            simp only [Nat.zero_add] at h3
            have e1 : (List.range η'.length).map (fun k => if k ∈ pn then η'.getD k .un else .un) = ML.outs np pn η' ++ ((List.range η'.length).map (fun k => if k ∈ pn then η'.getD k .un else .un)).drop np := by
              have : ML.outs np pn η' = ((List.range η'.length).map (fun k => if k ∈ pn then η'.getD k .un else .un)).take np := by
                unfold ML.outs
                rw [← List.map_take, List.take_range, Nat.min_eq_left hz]
              rw [this, List.take_append_drop]
            rw [e1] at h3
            obtain ⟨f4, f5, rfl, h4, h5⟩ := h3.split (by simp [hvn, ML.outs])
            have sf : (f1 ++ f4).Sublist (f1 ++ f2) := (List.Sublist.refl f1).append ((List.sublist_append_left f4 f5).trans s3)
            exact .cons_mk inn h1 h4 (sf.nodup nd) (fun a ha => hf a (sf.subset ha))
          exact go
        · exact k.elim
  · exact k.elim

/-! ### calls -/
/-- the names among the arguments stand where they stood -/
def Bk (σ : St) : List (Option Nat) → List V → Prop
  | [], vs => vs = []
  | b :: bs, vs => ∃ v vs', vs = v :: vs' ∧ (∀ j, b = some j → σ[j]? = some (some v)) ∧ Bk σ bs vs'
def PostB (K : PySem.W.Frag) (C : Wc) (Z : Zn) (σ : St) (bs : List (Option Nat)) (r : Res (List T)) (Q : List V → Hp → Prop) : Prop := match r with
  | .bad => False
  | .ok ts η' => ∀ vs Z' H', Stp Z Z' → vs.length = ts.length → Bk σ bs vs → Good K Z' H' (vs.map some ++ σ) (ts ++ η') → Q vs H'
  | .ex e η' => PostX K C Z σ e η'
def SB (K : PySem.W.Frag) (C : Wc) (ta : TA) (m : M (List T)) (bs : List (Option Nat)) : Prop := ∀ Z H σ η (Q : List V → Hp → Prop), Good K Z H σ η → PostB K C Z σ bs (m η) Q → ta σ H Q
theorem sb_nil : SB K C tNil mNil [] := fun Z H σ η Q g k => k [] Z H .refl rfl rfl g
theorem sb_cons {b : Option Nat} {bs : List (Option Nat)} {a : M T} {r : M (List T)} (hC : C.Reg) (ha : ∀ Z H σ η (Q : VK), Good K Z H σ η → (match a η with
    | .bad => False
    | .ok t η' => ∀ v Z' H', Stp Z Z' → (∀ j, b = some j → σ[j]? = some (some v)) → Good K Z' H' (some v :: σ) (t :: η') → Q v H'
    | .ex e η' => PostX K C Z σ e η') → te σ H Q) (hr : SB K C tA r bs) : SB K C (tCons te tA) (mCons a r) (b :: bs) := fun Z H σ η Q g k => by
  unfold mCons mBind at k
  refine ha Z H σ η _ g ?_
  cases qa : a η with
  | bad => rw [qa] at k; exact k.elim
  | ex e η' => rw [qa] at k; exact k
  | ok x η1 =>
    rw [qa] at k
    simp only at k
    intro v Z1 H1 s1 hv g1
    obtain ⟨Z1', g1', hB, eF, back⟩ := Good.hide (τ := [some v]) (ζ := [x]) g1 rfl
    refine hr Z1' H1 σ η1 _ g1' ?_
    cases qb : r η1 with
    | bad => rw [qb] at k; exact k.elim
    | ex e η' =>
      rw [qb] at k
      exact PostX.under back hC rfl (PostX.after s1 k)
    | ok xs η2 =>
      rw [qb] at k
      intro us Z2 H2 s2 hl hb g2
      obtain ⟨Z3, s3, e3, g3⟩ := back Z2 H2 _ _ s2 g2
      exact k (v :: us) Z3 H2 (s1.trans s3) (by simp [hl]) ⟨v, us, rfl, hv, hb⟩ g3
theorem sb_val {bs : List (Option Nat)} {a : M T} {r : M (List T)} (hC : C.Reg) (ha : SM K C te a) (hr : SB K C tA r bs) : SB K C (tCons te tA) (mCons a r) (none :: bs) := sb_cons hC (fun Z H σ η Q g k => by
  refine ha Z H σ η Q g ?_
  cases q : a η with
  | bad => rw [q] at k; exact k
  | ex e η' => rw [q] at k; exact k
  | ok t η' => rw [q] at k; exact fun v Z' H' s g' => k v Z' H' s (fun _ z => nomatch z) g') hr
theorem sb_slot {bs : List (Option Nat)} {j : Nat} {r : M (List T)} (hC : C.Reg) (hr : SB K C tA r bs) : SB K C (tCons (tVar j) tA) (mCons (mMov j) r) (some j :: bs) := sb_cons hC (fun Z H σ η Q g k => by
  unfold mMov at k
  cases q : η[j]? with
  | none => rw [q] at k; exact k.elim
  | some u =>
    rw [q] at k
    cases u with
    | un => exact k.elim
    | rl _ => exact k.elim
    | fz d =>
      obtain ⟨v, e, r, g'⟩ := g.copy q
      exact ⟨v, e, k v Z H .refl (fun _ z => by cases z; exact e) g'⟩
    | lst ts =>
      obtain ⟨v, e, g'⟩ := g.mov q (fun z => nomatch z)
      exact ⟨v, e, k v Z H .refl (fun _ z => by cases z; exact e) g'⟩
    | tup ts =>
      obtain ⟨v, e, g'⟩ := g.mov q (fun z => nomatch z)
      exact ⟨v, e, k v Z H .refl (fun _ z => by cases z; exact e) g'⟩) hr
/-- what comes back is put where it stood -/
def putB : List (Option Nat) → List T → Env → Option Env
  | [], [], η => some η
  | none :: bs, _ :: ts, η => putB bs ts η
  | some j :: bs, t :: ts, η => (match η[j]? with
    | some .un => putB bs ts (η.set j t)
    | some _ => putB bs ts η
    | none => none)
  | _, _, _ => none
theorem putB_ok {Z : Zn} {H : Hp} : ∀ {bs : List (Option Nat)} {ts : List T} {vs : List V} {σ : St} {η η' : Env}, vs.length = ts.length → Bk σ bs vs → Good K Z H (vs.map some ++ σ) (ts ++ η) → putB bs ts η = some η' → Good K Z H σ η'
  | [], [], vs, σ, η, η', hl, hb, g, e => by
    cases vs with
    | nil => cases e; exact g
    | cons _ _ => simp at hl
  | [], _ :: _, _, _, _, _, _, _, _, e => by simp [putB] at e
  | _ :: _, [], vs, _, _, _, hl, hb, _, e => by
    obtain ⟨v, vs', rfl, _⟩ := hb
    simp at hl
  | none :: bs, t :: ts, vs, σ, η, η', hl, hb, g, e => by
    obtain ⟨v, vs', rfl, h1, h2⟩ := hb
    exact putB_ok (by simpa using hl) h2 (Good.drop g) (by simpa [putB] using e)
  | some j :: bs, t :: ts, vs, σ, η, η', hl, hb, g, e => by
    obtain ⟨v, vs', rfl, h1, h2⟩ := hb
    have hl' : vs'.length = ts.length := by simpa using hl
    have hj := h1 j rfl
    simp only [putB] at e
    split at e
    · rename_i q
      have hjl := (List.getElem?_eq_some_iff.mp q).1
      have g1 : Good K Z H ((vs'.map some ++ σ).set (ts.length + j) (some v)) ((ts ++ η).set (ts.length + j) t) := Good.assign (i := ts.length + j) g (by simp; omega)
      rw [List.set_append_right _ _ (by simp [hl']), List.set_append_right _ _ (by simp)] at g1
      simp only [List.length_map, hl', Nat.add_sub_cancel_left] at g1
      rw [set_self hj] at g1
      exact putB_ok hl' h2 g1 e
    · exact putB_ok hl' h2 (Good.drop g) e
    · cases e
/-- f(..), f a def of the text that lets nothing out -/
def mCallD (mf : List T → Res T) (bs : List (Option Nat)) (a : M (List T)) : M T := mBind a fun ts η => match mf ts with
  | .ok t ts' => (match putB bs ts' η with
    | some η' => .ok t η'
    | none => .bad)
  | _ => .bad
/-- the call, by values -/
theorem call_core {mf : List T → Res T} {pn : List Nat} {Z : Zn} {H : Hp} {σ : St} {η : Env} {vs : List V} {ts : List T} {bs : List (Option Nat)} {Q : VK} {E : XK} (hl : vs.length = ts.length) (hb : Bk σ bs vs) (g : Good K Z H (vs.map some ++ σ) (ts ++ η))
    (k : PostE K C Z σ (match mf ts with
      | .ok t ts' => (match putB bs ts' η with
        | some η' => .ok t η'
        | none => .bad)
      | _ => .bad) Q) : spM K (C0 pn) mf vs H Q E := by
  obtain ⟨Z1, g1, _, eF, back⟩ := g.hideR (by simpa using hl)
  refine ⟨Z1, ts, hl, g1, ?_⟩
  cases q : mf ts with
  | bad => rw [q] at k; exact k
  | ex e η' => rw [q] at k; exact k.elim
  | ok t ts' =>
    rw [q] at k
    simp only at k
    intro v Z2 H2 s2 g2
    obtain ⟨Z3, s3, e3, g3⟩ := back Z2 H2 _ _ s2 g2
    cases q2 : putB bs ts' η with
    | none => rw [q2] at k; exact k.elim
    | some η' =>
      rw [q2] at k
      have hl2 : vs.length = ts'.length := by have := g2.len; simpa using this
      obtain ⟨Z4, g4, _, _, back4⟩ := Good.hide (τ := [some v]) (ζ := [t]) (σ := vs.map some ++ σ) (η := ts' ++ η) g3 rfl
      have g5 := putB_ok hl2 hb g4 q2
      obtain ⟨Z5, s5, e5, g6⟩ := back4 Z4 H2 σ η' .refl g5
      exact k v Z5 H2 (s3.trans s5) g6
theorem sm_callD {mf : List T → Res T} {pn : List Nat} {bs : List (Option Nat)} {a : M (List T)} (ha : SB K C tA a bs) : SM K C (tCall (spM K (C0 pn) mf) [] E0 tA) (mCallD mf bs a) := fun Z H σ η Q g k => by
  unfold mCallD mBind at k
  refine ha Z H σ η _ g ?_
  cases qa : a η with
  | bad => rw [qa] at k; exact k.elim
  | ex e η' => rw [qa] at k; exact k
  | ok ts η1 =>
    rw [qa] at k
    simp only at k
    intro vs Z1 H1 s1 hl hb g1
    rw [List.append_nil]
    exact call_core hl hb g1 (PostE.after s1 k)
end
end ML
end
section
set_option Elab.async false
set_option maxRecDepth 100000
set_option maxHeartbeats 4000000
/-! M6: what the printed walks name. -/
namespace ML
open PySem L2 StX

section
variable {K : PySem.W.Frag} {C : Wc} {ta tb te : TE} {tA tB' : TA} {tt tu : TT} {t u : TS}
theorem sp_int {i : Int} : SP K (tC (.int i)) (pC (.int i)) := sp_c fun _ => by simp [RepD]
theorem sp_non : SP K (tC .non) (pC .non) := sp_c fun _ => by simp [RepD]
theorem sp_bl {b : Bool} : SP K (tC (.bl b)) (pC (.bl b)) := sp_c fun _ => by simp [RepD]
theorem sp_str {s : Str} : SP K (tC (.str s)) (pC (.str s)) := sp_c fun _ => by simp [RepD]
theorem spt_t {p : Pu T} (h : SP K te p) : SPt K (tTest te) (pB p) := spt_b h
theorem st_t {m : M T} (h : SM K C te m) : ST K C (tTest te) (mB m) := st_b h
theorem hReg {C : Wc} (h : C.XR = fun _ _ _ _ _ => False) : C.Reg := fun e Z Z' H cls d _ x => by rw [h] at x; exact x.elim
def mBk : M Fl := fun η => .ok .bk η
def mCt : M Fl := fun η => .ok .ct η
theorem spM_len {n np : Nat} {pn : List Nat} {body : M Fl} {C : XK → Wc} {vs : List V} {H : Hp} {Q : VK} {E : XK} (h : spM K C (runF n np pn body) vs H Q E) : vs.length = np := by
  obtain ⟨Z, ts, hl, g, k⟩ := h
  unfold runF at k
  split at k
  · rename_i hn; exact hl.trans hn
  · exact k.elim
theorem fun_ok' {P : Program} {w : World} {mg : Str → Option Value} {base : Heap} {x qual : Str} {st : Stmt} {f : Addr} {fd : FuncData} {N ps : List Str} {k : Nat} {pn : List Nat} {body : M Fl} (F : Fun K x qual st f fd) (S : FnScope N ps (defScope st))
    (hp : ∀ i ∈ pn, i < ps.length) (hn : ps.length ≤ N.length)
    (hb : ∀ (cdv : Value) (A : Around) (outer : List PySem.Env) (s : Shared) (H : Hp) (E : XK), Room k (A.deeper (PyProof.Rows.envOfC qual (defScope st) s.heap.objs.size f cdv)) →
      ∃ t, PSs (cxOf CX0 P w K mg base N qual (defScope st) f cdv A outer s H E).nox (defBody st) t ∧ SS K (C0 pn E) t body) :
    FnOk P w K mg base CX0 (k + 1) f fd ps (spM K (C0 pn) (runF N.length ps.length pn body)) := by
  refine F.ok S (fun vs H Q E h => spM_len h) (fun cdv A outer s H vs Q E hr h => ?_)
  obtain ⟨t, h1, h2⟩ := hb cdv A outer s H E hr
  exact ⟨t, h1, body_run h2 rfl hp hn h (fun _ _ _ _ _ x => x)⟩
theorem fun_ok {P : Program} {w : World} {mg : Str → Option Value} {base : Heap} {x qual : Str} {st : Stmt} {f : Addr} {fd : FuncData} {N ps : List Str} {k : Nat} {pn : List Nat} {body : M Fl} {n np : Nat} {mf : List T → Res T} (F : Fun K x qual st f fd) (S : FnScope N ps (defScope st))
    (hN : N.length = n) (hP : ps.length = np) (hm : mf = runF n np pn body) (hp : ∀ i ∈ pn, i < np) (hn : np ≤ n)
    (hb : ∀ (cdv : Value) (A : Around) (outer : List PySem.Env) (s : Shared) (H : Hp) (E : XK), Room k (A.deeper (PyProof.Rows.envOfC qual (defScope st) s.heap.objs.size f cdv)) →
      ∃ t, PSs (cxOf CX0 P w K mg base N qual (defScope st) f cdv A outer s H E).nox (defBody st) t ∧ SS K (C0 pn E) t body) :
    FnOk P w K mg base CX0 (k + 1) f fd ps (spM K (C0 pn) mf) := by
  subst hN hP hm
  exact fun_ok' F S hp hn hb

/-! calls with a keyword, with a default -/
theorem Bk.append {σ : St} : ∀ {bs cs : List (Option Nat)} {vs us : List V}, Bk σ bs vs → Bk σ cs us → Bk σ (bs ++ cs) (vs ++ us)
  | [], _, _, _, h, h' => by cases (show _ = [] from h); exact h'
  | b :: bs, cs, vs, us, h, h' => by
    obtain ⟨v, vs', rfl, h1, h2⟩ := h
    exact ⟨v, vs' ++ us, rfl, h1, h2.append h'⟩
def mCallRaw (mf : List T → Res T) (bs : List (Option Nat)) (ts : List T) : M T := fun η => match mf ts with
  | .ok t ts' => (match putB bs ts' η with
    | some η' => .ok t η'
    | none => .bad)
  | _ => .bad
def mCallK (n m : Nat) (mf : List T → Res T) (bs bk : List (Option Nat)) (a ak : M (List T)) : M T := mBind a fun ts => mBind ak fun us => if ts.length = n ∧ us.length = m then mCallRaw mf (bs ++ bk) (ts ++ us) else fun _ => .bad
theorem sm_callK {n m : Nat} {mf : List T → Res T} {pn : List Nat} {bs bk : List (Option Nat)} {a ak : M (List T)} (hC : C.Reg) (ha : SB K C tA a bs) (hk : SB K C tB' ak bk) :
    SM K C (tCallN n m (spM K (C0 pn) mf) (fun vs zs => vs ++ zs) E0 tA tB') (mCallK n m mf bs bk a ak) := fun Z H σ η Q g k => by
  unfold mCallK mBind at k
  refine ha Z H σ η _ g ?_
  cases qa : a η with
  | bad => rw [qa] at k; exact k.elim
  | ex e η' => rw [qa] at k; exact k
  | ok ts η1 =>
    rw [qa] at k
    simp only at k
    intro vs Z1 H1 s1 hl hb g1
    obtain ⟨Z1', g1', hB, eF, back⟩ := Good.hide g1 (by simpa using hl)
    refine hk Z1' H1 σ η1 _ g1' ?_
    cases qb : ak η1 with
    | bad => rw [qb] at k; exact k.elim
    | ex e η' =>
      rw [qb] at k
      exact PostX.under back hC (by simpa using hl) (PostX.after s1 k)
    | ok us η2 =>
      rw [qb] at k
      simp only at k
      intro zs Z2 H2 s2 hl2 hb2 g2
      obtain ⟨Z3, s3, e3, g3⟩ := back Z2 H2 _ _ s2 g2
      by_cases hnm : ts.length = n ∧ us.length = m
      · rw [if_pos hnm] at k
        refine ⟨hl.trans hnm.1, hl2.trans hnm.2, call_core (bs := bs ++ bk) (ts := ts ++ us) (η := η2) (by simp [hl, hl2]) (hb.append hb2) ?_ (PostE.after (s1.trans s3) k)⟩
        rw [List.map_append, List.append_assoc, List.append_assoc]
        exact g3
      · rw [if_neg hnm] at k
        exact k.elim
def mCallDf (mf : List T → Res T) (bs : List (Option Nat)) (dz : List D) (a : M (List T)) : M T := mBind a fun ts => mCallRaw mf (bs ++ dz.map fun _ => none) (ts ++ dz.map .fz)
theorem Bk.nones {σ : St} : ∀ {α : Type} {dz : List α} {vs : List V}, vs.length = dz.length → Bk σ (dz.map fun _ => none) vs
  | _, [], vs, h => List.length_eq_zero_iff.mp (by simpa using h)
  | _, d :: dz, [], h => by simp at h
  | _, d :: dz, v :: vs, h => ⟨v, vs, rfl, (fun _ z => nomatch z), Bk.nones (by simpa using h)⟩
theorem sm_callDf {mf : List T → Res T} {pn : List Nat} {bs : List (Option Nat)} {dz : List D} {ds : List V} {a : M (List T)} (hz : ∀ F, RepDs K F dz ds) (ha : SB K C tA a bs) :
    SM K C (tCall (spM K (C0 pn) mf) ds E0 tA) (mCallDf mf bs dz a) := fun Z H σ η Q g k => by
  unfold mCallDf mBind at k
  refine ha Z H σ η _ g ?_
  cases qa : a η with
  | bad => rw [qa] at k; exact k.elim
  | ex e η' => rw [qa] at k; exact k
  | ok ts η1 =>
    rw [qa] at k
    simp only at k
    intro vs Z1 H1 s1 hl hb g1
    have hz1 := hz Z1.F
    refine call_core (bs := bs ++ dz.map fun _ => none) (ts := ts ++ dz.map .fz) (η := η1) (by simp [hl, hz1.len]) (hb.append (Bk.nones hz1.len)) ?_ (PostE.after s1 k)
    obtain ⟨inn, f1, f2, h1, h2, nd, hf⟩ := g1.split (by simpa using hl)
    rw [List.map_append]
    exact .mk' inn (f := (f1 ++ []) ++ f2) (RepE.append (RepE.append h1 (RepTs.toE hz1.fz)) h2) (by simpa using nd) (by simpa using hf)
theorem zd_non : ∀ F, RepDs K F [.non] [.non] := fun F => by simp [RepDs, RepD]
theorem vd_non : Vals [V.non] [Value.none] := .cons rfl .nil
/-- the law's own call: the script -/
theorem law_end {mf : List T → Res T} {pn : List Nat} {H : Hp} {a : Addr} {ns : List Int} {E : XK} (hS : SqL K H a (ns.map V.int)) (h : ∃ ts, mf [.fz (.wl (ns.map .int))] = .ok (.fz (.bl true)) ts) :
    spM K (C0 pn) mf [.ref a] H (fun v _ => v = .bl true) E := by
  obtain ⟨ts, h⟩ := h
  have rs : ∀ ns : List Int, RepDs K H (ns.map D.int) (ns.map V.int) := by
    intro ns
    induction ns with
    | nil => simp [RepDs]
    | cons n ns ih => simp only [List.map_cons, RepDs, RepD]; exact ⟨_, _, rfl, rfl, ih⟩
  refine ⟨⟨H, H, fun _ => none⟩, [.fz (.wl (ns.map .int))], rfl, ⟨Same.refl _, Same.refl _, (fun _ _ z => by cases z), (fun _ z => (z rfl).elim), [], ?_, by simp, by simp⟩, ?_⟩
  · simp only [List.map_cons, List.map_nil, RepE, RepS, RepT, RepD]
    exact ⟨_, _, [], [], rfl, .inr ⟨_, rfl, ⟨a, _, rfl, hS, rs ns⟩, rfl⟩, ⟨rfl, rfl⟩, rfl⟩
  · rw [h]
    intro v Z' H' s g
    obtain ⟨f, r⟩ := g.alias
    simp only [RepT, RepD] at r
    exact r.1
/-- a def's arguments, with a keyword of its own -/
theorem kbn_mk {fd : FuncData} {ps : List Str} {n : Nat} {ks : List Str} (h : ∀ us ws : List Value, us.length = n → ws.length = ks.length → bindArgs fd ⟨us, ks.zip ws⟩ = pure (ps.zip (us ++ ws))) : KBn K fd ps n ks (fun us ws => us ++ ws) (fun vs zs => vs ++ zs) :=
  ⟨fun s us ws _ h1 h2 => .of_eq (h us ws h1 h2), fun r1 r2 => r1.append r2⟩
theorem bd_of {fd : FuncData} {ps : List Str} (h : ∃ ds, Vals ([V.non]) ds ∧ Binds K fd ps ds) : Binds K fd ps [Value.none] := by
  obtain ⟨ds, h1, h2⟩ := h
  cases h1 with
  | cons r t => cases t; cases r; exact h2
end
end ML
end
section
set_option Elab.async false
set_option maxRecDepth 100000
set_option maxHeartbeats 4000000
/-! M7: names by facts that the kernel has checked once. -/
namespace ML
open PySem L2 StX

/-- the i-th name of a def -/
structure Sl (N : List Str) (sc : Scope) (i : Nat) (x : Str) : Prop where
  hi : N[i]? = some x
  hl : Loc sc x
  hd : (x == ("__debug__" : Str)) = false
  hc : (x == ("__classdict__" : Str)) = false
def slB (N : List Str) (sc : Scope) (i : Nat) (x : Str) : Bool :=
  decide (N[i]? = some x) && ((match sc.names.lookup x with | some .local => true | some .cell => true | _ => false) && (!(x == ("__debug__" : Str)) && !(x == ("__classdict__" : Str))))
theorem Sl.of {N : List Str} {sc : Scope} {i : Nat} {x : Str} (h : slB N sc i x = true) : Sl N sc i x := by
  unfold slB at h
  simp only [Bool.and_eq_true, decide_eq_true_eq, Bool.not_eq_true'] at h
  refine ⟨h.1, ?_, h.2.2.1, h.2.2.2⟩
  have h2 := h.2.1
  split at h2
  · rename_i e; exact .inl e
  · rename_i e; exact .inr e
  · cases h2
section
variable {X : Cx} {N : List Str} {sc : Scope} {i : Nat} {x : Str} {pos pos' : Pos}
theorem pvx (S : Sl N sc i x) (hN : X.N = N) (hs : X.env.scope = sc) : PE X (.Name x pos) (tVar i) :=
  pe_var (by rw [hN]; exact S.hi) (by rw [hs]; rcases S.hl with h | h; exact .inl h; exact .inr (.inl h)) S.hd S.hc
theorem psx {e : Expr} {te : TE} (S : Sl N sc i x) (nd : N.Nodup) (hN : X.N = N) (hs : X.env.scope = sc) (hf : X.fn x = true) (he : PE X e te) (hw : swapsWith e (some (.Name x pos')) pos.line X.env = pure false := by rfl) :
    PS X (.Assign [.Name x pos'] e pos) (tAsg te (gName i)) :=
  ps_set (by rw [hN]; exact nd) (by rw [hN]; exact S.hi) (by rw [hs]; exact S.hl) he hw (.inl hf)
theorem pgx (S : Sl N sc i x) (nd : N.Nodup) (hN : X.N = N) (hs : X.env.scope = sc) (hf : X.fn x = true) : PG X (.Name x pos) (gName i) :=
  pg_name (by rw [hN]; exact nd) (by rw [hN]; exact S.hi) (by rw [hs]; exact S.hl) (.inl hf)
theorem glx (h : sc.names.lookup x = some .globalImplicit) (hs : X.env.scope = sc) : Gl X x := by
  unfold Gl Env.kindOf
  rw [hs]
  exact h
theorem tup_const {K : PySem.W.Frag} {F : Hp} {c : Addr} {dd : Option Addr} {its : Array Value} {n : Nat} {sl : Array (Option Value)} {ds : List D} {vs : List V} (h : K.lookup c = some ⟨.type "tuple", dd, .seq its n, sl⟩) (hd : RepDs K F ds vs) (hv : Vals vs its.toList)
    (hz : its.size ≤ sizeLine) : RepD K F (.tup ds) (.ref c) := by
  simp only [RepD]
  exact ⟨c, vs, rfl, .inr ⟨_, its, n, h, rfl, rfl, hz, hv⟩, hd⟩
end
end ML
end
section
set_option Elab.async false
set_option maxRecDepth 100000
set_option maxHeartbeats 4000000
/-! M8: a mirror is run step by step. -/
namespace ML
open PySem L2 StX
section
variable {η η1 η2 η3 : Env} {i j n : Nat} {t u : T} {d e : D} {r : Res Fl} {q : Res T} {a b body : M Fl} {m m' : M T} {p p' : Pu T} {c c' : M Bool} {pb : Pu Bool} {ts us : List T} {A : M (List T)}
theorem e_bind {α β : Type} {m : M α} {f : α → M β} {x : α} {r : Res β} (h : m η = .ok x η1) (k : f x η1 = r) : mBind m f η = r := by unfold mBind; rw [h]; exact k
theorem e_seq (h : a η = .ok .nx η1) (k : b η1 = r) : mSeq a b η = r := by unfold mSeq; rw [h]; exact k
theorem e_seqR (h : a η = .ok (.rt t) η1) : mSeq a b η = .ok (.rt t) η1 := by unfold mSeq; rw [h]
theorem e_nx : mNx η = .ok .nx η := rfl
theorem e_asg (h : m η = .ok t η1) (hi : i < η1.length) (he : η1.set i t = η2) : mAsg i m η = .ok .nx η2 := e_bind h (by rw [if_pos hi, he])
theorem e_pu (h : p η = some (.fz d)) : mPu p η = .ok (.fz d) η := by unfold mPu; rw [h]
theorem e_puT {x : Bool} (h : pb η = some x) : mPuT pb η = .ok x η := by unfold mPuT; rw [h]
theorem e_ifT (h : c η = .ok true η1) (k : a η1 = r) : mIfS c a b η = r := e_bind h k
theorem e_ifF (h : c η = .ok false η1) (k : b η1 = r) : mIfS c a b η = r := e_bind h k
theorem e_if {x : Bool} (h : c η = .ok x η1) (k1 : x = true → a η1 = r) (k2 : x = false → b η1 = r) : mIfS c a b η = r := by
  cases x with
  | true => exact e_ifT h (k1 rfl)
  | false => exact e_ifF h (k2 rfl)
theorem e_ret (h : m η = .ok t η1) : mRet' m η = .ok (.rt t) η1 := e_bind h rfl
theorem e_retN : mRetN η = .ok (.rt (.fz .non)) η := rfl
theorem e_drop (h : m η = .ok t η1) : mDrop m η = .ok .nx η1 := e_bind h rfl
theorem e_mB {x : Bool} (h : m η = .ok (.fz (.bl x)) η1) : mB m η = .ok x η1 := e_bind h rfl
theorem e_not {x y : Bool} (h : c η = .ok x η1) (e : (!x) = y) : mNotT c η = .ok y η1 := e_bind h (by rw [e])
theorem e_orT (h : c η = .ok true η1) : mOrT c c' η = .ok true η1 := e_bind h rfl
theorem e_orF {r : Res Bool} (h : c η = .ok false η1) (k : c' η1 = r) : mOrT c c' η = r := e_bind h k
theorem e_andT {r : Res Bool} (h : c η = .ok true η1) (k : c' η1 = r) : mAndT c c' η = r := e_bind h k
theorem e_andF (h : c η = .ok false η1) : mAndT c c' η = .ok false η1 := e_bind h rfl
theorem e_andVT (h : m η = .ok (.fz (.bl true)) η1) (k : m' η1 = q) : mAndV m m' η = q := e_bind h k
theorem e_andVF (h : m η = .ok (.fz (.bl false)) η1) : mAndV m m' η = .ok (.fz (.bl false)) η1 := e_bind h rfl
theorem e_orVF (h : m η = .ok (.fz (.bl false)) η1) (k : m' η1 = q) : mOrV m m' η = q := e_bind h k
theorem e_orVT (h : m η = .ok (.fz (.bl true)) η1) : mOrV m m' η = .ok (.fz (.bl true)) η1 := e_bind h rfl
theorem e_nil : mNil η = .ok [] η := rfl
theorem e_cons (h : m η = .ok t η1) (k : A η1 = .ok ts η2) : mCons m A η = .ok (t :: ts) η2 := e_bind h (e_bind k rfl)
theorem e_lst (h : A η = .ok ts η1) (hl : ts.length ≤ LIM) : mLst A η = .ok (.lst ts) η1 := e_bind h (by rw [if_pos hl])
theorem e_tup (h : A η = .ok ts η1) (hl : ts.length ≤ LIM) : mTup A η = .ok (.tup ts) η1 := e_bind h (by rw [if_pos hl])
theorem e_movF (h : η[i]? = some (.fz d)) : mMov i η = .ok (.fz d) η := by unfold mMov; rw [h]
theorem e_movL (h : η[i]? = some (.lst ts)) (e : η.set i .un = η1) : mMov i η = .ok (.lst ts) η1 := by unfold mMov; rw [h]; simp only; rw [e]
theorem e_frz (h : η[i]? = some t) (hf : frz t = some d) (e : η.set i (.fz d) = η1) : mFrz i η = .ok (.fz d) η1 := by unfold mFrz; rw [h]; simp only; rw [hf]; simp only; rw [e]
theorem e_fz (h : m η = .ok t η1) (hf : frz t = some d) : mFz m η = .ok (.fz d) η1 := e_bind h (by rw [hf])
theorem e_app (h0 : ∃ us, η[j]? = some (.lst us)) (h : m η = .ok t η1) (h1 : η1[j]? = some (.lst ts)) (hl : ts.length < LIM) (e : η1.set j (.lst (ts ++ [t])) = η2) : mApp j m η = .ok .nx η2 := by
  obtain ⟨us, h0⟩ := h0
  unfold mApp
  rw [h0]
  exact e_bind h (by rw [h1]; simp only; rw [if_pos hl, e])
theorem e_setIx {k : Int} {n : Nat} (h : m η = .ok t η1) (h1 : η1[j]? = some (.lst ts)) (h2 : p η1 = some (.fz (.int k))) (h3 : ixN ts.length k = some n) (e : η1.set j (.lst (ts.set n t)) = η2) : mSetIx j p m η = .ok .nx η2 :=
  e_bind h (by rw [h1, h2]; simp only; rw [h3]; simp only; rw [e])
theorem e_call {mf : List T → Res T} {bs : List (Option Nat)} (h : A η = .ok ts η1) (k : mf ts = .ok t us) (e : putB bs us η1 = some η2) : mCallD mf bs A η = .ok t η2 := e_bind h (by rw [k]; simp only; rw [e])
theorem e_callK {n m : Nat} {mf : List T → Res T} {bs bk : List (Option Nat)} {A' : M (List T)} {ts' : List T} (h : A η = .ok ts η1) (h' : A' η1 = .ok ts' η2) (hn : ts.length = n ∧ ts'.length = m) (k : mf (ts ++ ts') = .ok t us) (e : putB (bs ++ bk) us η2 = some η3) : mCallK n m mf bs bk A A' η = .ok t η3 :=
  e_bind h (e_bind h' (by rw [if_pos hn]; unfold mCallRaw; rw [k]; simp only; rw [e]))
theorem e_callDf {mf : List T → Res T} {bs : List (Option Nat)} {dz : List D} (h : A η = .ok ts η1) (k : mf (ts ++ dz.map .fz) = .ok t us) (e : putB (bs ++ dz.map fun _ => none) us η1 = some η2) : mCallDf mf bs dz A η = .ok t η2 :=
  e_bind h (by unfold mCallRaw; rw [k]; simp only; rw [e])
theorem e_callV {f : List T → Option T} (h : A η = .ok ts η1) (k : f ts = some (.fz d)) : mCall f A η = .ok (.fz d) η1 := e_bind h (by rw [k])
theorem e_callAP {f : List T → Option (List D)} {P : Pu (List T)} {ds : List D} (h : P η = some ts) (k : f ts = some ds) : mCallAP f P η = .ok (.lst (ds.map .fz)) η := by unfold mCallAP; rw [h]; simp only; rw [k]
theorem e_m2 {f : T → T → Option T} (h : m η = .ok t η1) (h' : m' η1 = .ok u η2) (k : f t u = some (.fz d)) : m2 f m m' η = .ok (.fz d) η2 := e_bind h (e_bind h' (by rw [k]))
theorem e_m2p {f : T → T → Option T} (h : m η = .ok t η1) (h' : p η1 = some u) (k : f t u = some (.fz d)) : m2p f m p η = .ok (.fz d) η1 := e_bind h (by rw [h']; simp only; rw [k])
theorem e_m2n {f : T → T → Option T} (h0 : ∃ x, pV i η = some x) (h : m η = .ok u η1) (h' : pV i η1 = some t) (k : f t u = some (.fz d)) : m2n f i m η = .ok (.fz d) η1 := by
  obtain ⟨x, h0⟩ := h0
  unfold m2n
  rw [h0]
  exact e_bind h (by rw [h']; simp only; rw [k])
theorem e_2Ap {f : T → T → Option (List D)} {ds : List D} (h : m η = .ok t η1) (h' : p η1 = some u) (k : f t u = some ds) : m2Ap f m p η = .ok (.lst (ds.map .fz)) η1 := e_bind h (by rw [h']; simp only; rw [k])
theorem e_runR {np : Nat} {pn : List Nat} {r : List T} (hl : ts.length = np) (hb : body (ts ++ List.replicate (n - np) .un) = .ok (.rt t) η1) (hn : np ≤ η1.length) (e : outs np pn η1 = r) : runF n np pn body ts = .ok t r := by
  unfold runF; rw [if_pos hl, hb]; simp only; rw [if_pos hn, e]
theorem e_runN {np : Nat} {pn : List Nat} {r : List T} (hl : ts.length = np) (hb : body (ts ++ List.replicate (n - np) .un) = .ok .nx η1) (hn : np ≤ η1.length) (e : outs np pn η1 = r) : runF n np pn body ts = .ok (.fz .non) r := by
  unfold runF; rw [if_pos hl, hb]; simp only; rw [if_pos hn, e]
theorem e_forR1 {k : Int} (h : A η = .ok [.fz (.int k)] η1) (hk : -(2 ^ 62) ≤ k ∧ k < 2 ^ 62) (e : mForR i 0 k.toNat body η1 = r) : mForR1 i A body η = r := e_bind h (by simp only; rw [if_pos hk]; exact e)
theorem e_forR2 {l k : Int} (h : A η = .ok [.fz (.int l), .fz (.int k)] η1) (hk : -(2 ^ 62) ≤ l ∧ l < 2 ^ 62 ∧ -(2 ^ 62) ≤ k ∧ k < 2 ^ 62) (e : mForR i l (k - l).toNat body η1 = r) : mForR2 i A body η = r := e_bind h (by simp only; rw [if_pos hk]; exact e)
theorem e_forL {ds : List D} (h : m η = .ok t η1) (hf : frozL t = some ds) (e : mForD i ds body η1 = r) : mForL i m body η = r := e_bind h (by rw [hf]; exact e)
/-- a loop by what stands at each turn -/
theorem loop_inv {f : Nat → M Fl} (P : Nat → Env → Prop) : ∀ (n i : Nat) (η : Env), P i η → (∀ k η, i ≤ k → k < i + n → P k η → ∃ η', (f k η = .ok .nx η' ∨ f k η = .ok .ct η') ∧ P (k + 1) η') → ∃ η', loopN f i n η = .ok .nx η' ∧ P (i + n) η'
  | 0, i, η, h, _ => ⟨η, rfl, h⟩
  | n + 1, i, η, h, k => by
    obtain ⟨η1, h1, p1⟩ := k i η (Nat.le_refl _) (by omega) h
    obtain ⟨η2, h2, p2⟩ := loop_inv P n (i + 1) η1 p1 (fun j ζ h1 h2 h3 => k j ζ (by omega) (by omega) h3)
    refine ⟨η2, ?_, by rw [show i + (n + 1) = i + 1 + n by omega]; exact p2⟩
    unfold loopN
    rcases h1 with h1 | h1 <;> (rw [h1]; exact h2)
theorem forR_inv {lo : Int} {n : Nat} (P : Nat → Env → Prop) (h0 : P 0 η) (hs : ∀ k η, k < n → P k η → i < η.length ∧ ∃ η', (body (η.set i (.fz (.int (lo + (k : Nat))))) = .ok .nx η' ∨ body (η.set i (.fz (.int (lo + (k : Nat))))) = .ok .ct η') ∧ P (k + 1) η') :
    ∃ η', mForR i lo n body η = .ok .nx η' ∧ P n η' := by
  obtain ⟨η', h1, h2⟩ := loop_inv (f := fun j => turnN i (.fz (.int (lo + j))) body) P n 0 η h0 (fun k ζ _ hk hp => by
    obtain ⟨hl, η', h, p⟩ := hs k ζ (by omega) hp
    refine ⟨η', ?_, p⟩
    unfold turnN
    rw [if_pos hl]
    exact h)
  exact ⟨η', h1, by simpa using h2⟩
theorem forD_inv {ds : List D} (P : Nat → Env → Prop) (h0 : P 0 η) (hs : ∀ k d η, ds[k]? = some d → P k η → i < η.length ∧ ∃ η', (body (η.set i (.fz d)) = .ok .nx η' ∨ body (η.set i (.fz d)) = .ok .ct η') ∧ P (k + 1) η') :
    ∃ η', mForD i ds body η = .ok .nx η' ∧ P ds.length η' := by
  obtain ⟨η', h1, h2⟩ := loop_inv (f := fun j => match ds[j]? with
    | some d => turnN i (.fz d) body
    | none => fun _ => .bad) P ds.length 0 η h0 (fun k ζ _ hk hp => by
    have hk' : k < ds.length := by omega
    obtain ⟨hl, η', h, p⟩ := hs k ds[k] ζ (List.getElem?_eq_getElem hk') hp
    refine ⟨η', ?_, p⟩
    simp only [List.getElem?_eq_getElem hk']
    unfold turnN
    rw [if_pos hl]
    exact h)
  exact ⟨η', h1, by simpa using h2⟩
end
end ML
end
section
set_option Elab.async false
set_option maxRecDepth 100000
set_option maxHeartbeats 4000000
/-! the mirrors of the law's defs, printed by gen.py -/
namespace PK
open PySem L2 StX ML
def d_LARGEST : D := .int 4
def d_FORM_COUNTS : D := .tup [.int 0, .int 1, .int 3, .int 12, .int 42]
/-- _law_bag: slots 0 _law_script, 1 _law_great, 2 _law_first, 3 _law_second, 4 _law_cell -/
def lb_law_bag_1 : M Fl := mSeq (mIfS (mPuT (pAndT (pB (p2 (oEqS false) (pV 1) (pC (.int 0)))) (pB (p2 oGe (pV 4) (p2 oPow (pC (.int 10)) (pC (.int 18))))))) (mAsg 1 (mPu (pV 4))) (mNx))
  (mSeq (mAsg 2 (mPu (p2 oMod (pCall fInt (pCons (p2 oAdd (p2 oAdd (p2 oMul (pV 2) (pC (.int 48271))) (p2 oMod (pCall fInt (pCons (pV 4) (pNil))) (pC (.int 1000003)))) (pC (.int 1))) (pNil))) (pC (.int 2147483647)))))
  (mAsg 3 (mPu (p2 oMod (pCall fInt (pCons (p2 oAdd (p2 oAdd (p2 oMul (pV 3) (pC (.int 69621))) (p2 oMod (pCall fInt (pCons (pV 4) (pNil))) (pC (.int 998244353)))) (pC (.int 3))) (pNil))) (pC (.int 2147483629))))))
def mb_law_bag : M Fl := mSeq (mAsg 1 (mPu (pC (.int 0))))
  (mSeq (mAsg 2 (mPu (pC (.int 5))))
  (mSeq (mAsg 3 (mPu (pC (.int 13))))
  (mSeq (mForL 4 (mFrz 0) (lb_law_bag_1))
  (mRet' (mLst (mCons (mPu (pV 1)) (mCons (mPu (pV 2)) (mCons (mPu (pV 3)) (mNil)))))))))
def mf_law_bag : List T → Res T := runF 5 1 [0] mb_law_bag
/-- _law_take: slots 0 _law_bag_here, 1 _law_size, 2 _law_digit -/
def mb_law_take : M Fl := mSeq (mIfS (mPuT (pB (p2 oGt (p2 oIx (pV 0) (pC (.int 0))) (pC (.int 0))))) (mSeq (mAsg 2 (mPu (p2 oMod (pCall fInt (pCons (p2 oIx (pV 0) (pC (.int 0))) (pNil))) (pV 1))))
  (mSeq (mSetIx 0 (pC (.int 0)) (mPu (p2 oDiv (p2 oIx (pV 0) (pC (.int 0))) (pV 1))))
  (mRet' (mPu (pV 2))))) (mNx))
  (mSeq (mSetIx 0 (pC (.int 1)) (mPu (p2 oMod (pCall fInt (pCons (p2 oAdd (p2 oMul (p2 oIx (pV 0) (pC (.int 1))) (pC (.int 48271))) (pC (.int 12345))) (pNil))) (pC (.int 2147483647)))))
  (mSeq (mSetIx 0 (pC (.int 2)) (mPu (p2 oMod (pCall fInt (pCons (p2 oAdd (p2 oMul (p2 oIx (pV 0) (pC (.int 2))) (pC (.int 69621))) (p2 oIx (pV 0) (pC (.int 1)))) (pNil))) (pC (.int 2147483629)))))
  (mRet' (mPu (p2 oMod (pCall fInt (pCons (p2 oDiv (p2 oIx (pV 0) (pC (.int 2))) (pC (.int 8))) (pNil))) (pV 1))))))
def mf_law_take : List T → Res T := runF 3 2 [0, 1] mb_law_take
/-- _law_factorials: slots 0 _law_most, 1 _law_row, 2 _law_k -/
def lb_law_factorials_1 : M Fl := mApp 1 (mPu (p2 oMul (p2 oIx (pV 1) (pV 2)) (p2 oAdd (pV 2) (pC (.int 1)))))
def mb_law_factorials : M Fl := mSeq (mAsg 1 (mLst (mCons (mPu (pC (.int 1))) (mNil))))
  (mSeq (mForR1 2 (mCons (mPu (pV 0)) (mNil)) (lb_law_factorials_1))
  (mRet' (mMov 1)))
def mf_law_factorials : List T → Res T := runF 3 1 [0] mb_law_factorials
/-- _law_powers: slots 0 _law_base, 1 _law_most, 2 _law_row, 3 _law_k -/
def lb_law_powers_1 : M Fl := mApp 2 (mPu (p2 oMul (p2 oIx (pV 2) (pV 3)) (pV 0)))
def mb_law_powers : M Fl := mSeq (mAsg 2 (mLst (mCons (mPu (pC (.int 1))) (mNil))))
  (mSeq (mForR1 3 (mCons (mPu (pV 1)) (mNil)) (lb_law_powers_1))
  (mRet' (mMov 2)))
def mf_law_powers : List T → Res T := runF 4 2 [0, 1] mb_law_powers
/-- _law_with_torn: slots 0 _law_size, 1 _law_many, 2 _law_facts, 3 _law_halves, 4 _law_sixths, 5 _law_parts_of_four, 6 _law_threefold, 7 _law_fourfold, 8 _law_total, 9 _law_four, 10 _law_three, 11 _law_two, 12 _law_spare, 13 _law_pairs, 14 _law_alike -/
def lb_law_with_torn_1 : M Fl := mSeq (mAsg 14 (mPu (p2 oMul (p2 oMul (p2 oMul (p2 oMul (p2 oIx (pV 2) (p2 oSub (pV 12) (p2 oMul (pC (.int 2)) (pV 13)))) (p2 oIx (pV 2) (pV 13))) (p2 oIx (pV 2) (pV 11))) (p2 oIx (pV 2) (pV 10))) (p2 oIx (pV 2) (pV 9)))))
  (mSeq (mAsg 14 (mPu (p2 oMul (p2 oMul (p2 oMul (p2 oMul (pV 14) (p2 oIx (pV 3) (pV 13))) (p2 oIx (pV 3) (pV 11))) (p2 oIx (pV 4) (pV 10))) (p2 oIx (pV 5) (pV 9)))))
  (mAsg 8 (mPu (p2 oAdd (pV 8) (p2 oMul (p2 oMul (p2 oMul (p2 oDiv (p2 oIx (pV 2) (pV 0)) (pV 14)) (p2 oIx (pV 3) (pV 11))) (p2 oIx (pV 6) (pV 10))) (p2 oIx (pV 7) (pV 9)))))))
def lb_law_with_torn_2 : M Fl := mSeq (mAsg 11 (mPu (p2 oSub (p2 oSub (pV 1) (pV 9)) (pV 10))))
  (mSeq (mAsg 12 (mPu (p2 oSub (p2 oSub (p2 oSub (pV 0) (p2 oMul (pC (.int 4)) (pV 9))) (p2 oMul (pC (.int 3)) (pV 10))) (p2 oMul (pC (.int 2)) (pV 11)))))
  (mForR1 13 (mCons (mPu (p2 oAdd (p2 oDiv (pV 12) (pC (.int 2))) (pC (.int 1)))) (mNil)) (lb_law_with_torn_1)))
def lb_law_with_torn_3 : M Fl := mForR1 10 (mCons (mPu (p2 oSub (p2 oAdd (pV 1) (pC (.int 1))) (pV 9))) (mNil)) (lb_law_with_torn_2)
def mb_law_with_torn : M Fl := mSeq (mAsg 2 (mCallD mf_law_factorials [none] (mCons (mPu (p2 oAdd (pV 0) (pC (.int 1)))) (mNil))))
  (mSeq (mAsg 3 (mCallD mf_law_powers [none, none] (mCons (mPu (pC (.int 2))) (mCons (mPu (pV 0)) (mNil)))))
  (mSeq (mAsg 4 (mCallD mf_law_powers [none, none] (mCons (mPu (pC (.int 6))) (mCons (mPu (pV 0)) (mNil)))))
  (mSeq (mAsg 5 (mCallD mf_law_powers [none, none] (mCons (mPu (pC (.int 24))) (mCons (mPu (pV 0)) (mNil)))))
  (mSeq (mAsg 6 (mCallD mf_law_powers [none, none] (mCons (mPu (pC (.int 12))) (mCons (mPu (pV 0)) (mNil)))))
  (mSeq (mAsg 7 (mCallD mf_law_powers [none, none] (mCons (mPu (pC (.int 42))) (mCons (mPu (pV 0)) (mNil)))))
  (mSeq (mAsg 8 (mPu (pC (.int 0))))
  (mSeq (mForR1 9 (mCons (mPu (p2 oAdd (pV 1) (pC (.int 1)))) (mNil)) (lb_law_with_torn_3))
  (mRet' (mPu (pV 8))))))))))
def mf_law_with_torn : List T → Res T := runF 15 2 [0, 1] mb_law_with_torn
/-- _law_in_all: slots 0 _law_size, 1 _law_totals, 2 _law_n, 3 _law_many -/
def lb_law_in_all_1 : M Fl := mSeq (mAsg 3 (mPu (p2 oIx (pV 1) (p2 oSub (pV 2) (pC (.int 1))))))
  (mSeq (mIfS (mPuT (pB (p2 oGt (pV 2) (pC (.int 1))))) (mAsg 3 (mPu (p2 oAdd (pV 3) (p2 oMul (p2 oMul (pC (.int 3)) (p2 oSub (pV 2) (pC (.int 1)))) (p2 oIx (pV 1) (p2 oSub (pV 2) (pC (.int 2)))))))) (mNx))
  (mSeq (mIfS (mPuT (pB (p2 oGt (pV 2) (pC (.int 2))))) (mAsg 3 (mPu (p2 oAdd (pV 3) (p2 oMul (p2 oMul (p2 oMul (pC (.int 6)) (p2 oSub (pV 2) (pC (.int 1)))) (p2 oSub (pV 2) (pC (.int 2)))) (p2 oIx (pV 1) (p2 oSub (pV 2) (pC (.int 3)))))))) (mNx))
  (mSeq (mIfS (mPuT (pB (p2 oGt (pV 2) (pC (.int 3))))) (mAsg 3 (mPu (p2 oAdd (pV 3) (p2 oMul (p2 oMul (p2 oMul (p2 oMul (pC (.int 7)) (p2 oSub (pV 2) (pC (.int 1)))) (p2 oSub (pV 2) (pC (.int 2)))) (p2 oSub (pV 2) (pC (.int 3)))) (p2 oIx (pV 1) (p2 oSub (pV 2) (pC (.int 4)))))))) (mNx))
  (mApp 1 (mPu (pV 3))))))
def mb_law_in_all : M Fl := mSeq (mAsg 1 (mLst (mCons (mPu (pC (.int 1))) (mNil))))
  (mSeq (mForR2 2 (mCons (mPu (pC (.int 1))) (mCons (mPu (p2 oAdd (pV 0) (pC (.int 1)))) (mNil))) (lb_law_in_all_1))
  (mRet' (mPu (p2 oIx (pV 1) (pV 0)))))
def mf_law_in_all : List T → Res T := runF 4 1 [0] mb_law_in_all
/-- _law_is: slots 0 _law_told, 1 _law_due -/
def mb_law_is : M Fl := mRet' (mPu (pAndV (p1 (oIsi "int") (pV 0)) (pAndV (pNotV (p1 (oIsi "bool") (pV 0))) (p2 (oEqS false) (pV 0) (pV 1)))))
def mf_law_is : List T → Res T := runF 2 2 [0, 1] mb_law_is
/-- choose: slots 0 m, 1 k -/
def mb_choose : M Fl := mSeq (mIfS (mPuT (pOrT (pB (p2 oLt (pV 1) (pC (.int 0)))) (pB (p2 oGt (pV 1) (pV 0))))) (mRet' (mPu (pC (.int 0)))) (mNx))
  (mRet' (mPu (pCall fComb (pCons (pV 0) (pCons (pV 1) (pNil))))))
def mf_choose : List T → Res T := runF 2 2 [0, 1] mb_choose
/-- torn_counts: slots 0 size, 1 most, 2 none, 3 one, 4 two, 5 three, 6 four, 7 m, 8 triples, 9 quadruples, 10 row, 11 t, 12 first_torn -/
def lb_torn_counts_1 : M Fl := mSeq (mAsg 12 (mPu (p2 oAdd (p2 oAdd (p2 oMul (p2 oMul (pC (.int 2)) (pV 7)) (p2 oIx (pV 4) (p2 oSub (pV 11) (pC (.int 1))))) (p2 oMul (pV 8) (p2 oIx (pV 5) (p2 oSub (pV 11) (pC (.int 1)))))) (p2 oMul (pV 9) (p2 oIx (pV 6) (p2 oSub (pV 11) (pC (.int 1))))))))
  (mApp 10 (mPu (p2 oAdd (p2 oAdd (p2 oIx (pV 3) (pV 11)) (p2 oMul (pV 7) (p2 oIx (pV 4) (pV 11)))) (pV 12))))
def lb_torn_counts_2 : M Fl := mSeq (mAsg 8 (m2 oMul (mPu (p2 oIx (pC d_FORM_COUNTS) (pC (.int 3)))) (mCallD mf_choose [none, none] (mCons (mPu (pV 7)) (mCons (mPu (pC (.int 2))) (mNil))))))
  (mSeq (mAsg 9 (m2 oMul (mPu (p2 oIx (pC d_FORM_COUNTS) (pC (.int 4)))) (mCallD mf_choose [none, none] (mCons (mPu (pV 7)) (mCons (mPu (pC (.int 3))) (mNil))))))
  (mSeq (mAsg 10 (mLst (mCons (mPu (p2 oAdd (p2 oIx (pV 3) (pC (.int 0))) (p2 oMul (pV 7) (p2 oIx (pV 4) (pC (.int 0)))))) (mNil))))
  (mSeq (mForR2 11 (mCons (mPu (pC (.int 1))) (mCons (mPu (p2 oAdd (pV 1) (pC (.int 1)))) (mNil))) (lb_torn_counts_1))
  (mAsgT [3, 4, 5, 6] (mTup (mCons (mFrz 10) (mCons (mFrz 3) (mCons (mFrz 4) (mCons (mFrz 5) (mNil))))))))))
def mb_torn_counts : M Fl := mSeq (mAsg 2 (m2Ap oRep (mLst (mCons (mPu (pC (.int 0))) (mNil))) (p2 oAdd (pV 1) (pC (.int 1)))))
  (mSeq (mAsgT [3, 4, 5, 6] (mTup (mCons (mLst (mCons (mPu (pC (.int 1))) (mStar (mCut (pV 2) (pOSome (pC (.int 1))) (pONone)) (mNil)))) (mCons (mFrz 2) (mCons (mFrz 2) (mCons (mFrz 2) (mNil)))))))
  (mSeq (mForR1 7 (mCons (mPu (pV 0)) (mNil)) (lb_torn_counts_2))
  (mRet' (mMov 3))))
def mf_torn_counts : List T → Res T := runF 13 2 [0, 1] mb_torn_counts
/-- _block: slots 0 counts, 1 n, 2 many -/
def mb_block : M Fl := mRet' (m2p oMul (m2p oMul (mCallD mf_choose [none, none] (mCons (mPu (p2 oSub (pV 1) (pC (.int 1)))) (mCons (mPu (p2 oSub (pV 2) (pC (.int 1)))) (mNil)))) (p2 oIx (pC d_FORM_COUNTS) (pV 2))) (p2 oIx (pV 0) (p2 oSub (pV 1) (pV 2))))
def mf_block : List T → Res T := runF 3 3 [0, 1, 2] mb_block
/-- totals: slots 0 size, 1 found, 2 n, 3 many -/
def lb_totals_1 : M Fl := mApp 1 (mCall fSum (mCons (mLcR2 3 [3] (mCons (mPu (pC (.int 1))) (mCons (mPu (p2 oAdd (pCall fMin2 (pCons (pV 2) (pCons (pC d_LARGEST) (pNil)))) (pC (.int 1)))) (mNil))) (mYes) (mCallD mf_block [some 1, none, none] (mCons (mMov 1) (mCons (mPu (pV 2)) (mCons (mPu (pV 3)) (mNil)))))) (mNil)))
def mb_totals : M Fl := mSeq (mAsg 1 (mLst (mCons (mPu (pC (.int 1))) (mNil))))
  (mSeq (mForR2 2 (mCons (mPu (pC (.int 1))) (mCons (mPu (p2 oAdd (pV 0) (pC (.int 1)))) (mNil))) (lb_totals_1))
  (mRet' (mMov 1)))
def mf_totals : List T → Res T := runF 4 1 [0] mb_totals
/-- count_images: slots 0 size, 1 torn -/
def mb_count_images : M Fl := mSeq (mIfS (mPuT (pB (p2 oLt (pV 0) (pC (.int 0))))) (mRet' (mPu (pC (.int 0)))) (mNx))
  (mSeq (mIfS (mPuT (pB (p2 (oIsN false) (pV 1) (pC .non)))) (mRet' (m2p oIx (mCallD mf_totals [none] (mCons (mPu (pV 0)) (mNil))) (pV 0))) (mNx))
  (mSeq (mIfS (mPuT (pOrT (pB (p2 oLt (pV 1) (pC (.int 0)))) (pB (p2 oGt (p2 oMul (pC (.int 2)) (pV 1)) (pV 0))))) (mRet' (mPu (pC (.int 0)))) (mNx))
  (mRet' (m2p oIx (mCallD mf_torn_counts [none, none] (mCons (mPu (pV 0)) (mCons (mPu (pV 1)) (mNil)))) (pV 1)))))
def mf_count_images : List T → Res T := runF 2 2 [0, 1] mb_count_images
/-- count_states: slots 0 size -/
def mb_count_states : M Fl := mRet' (mCallK 1 1 mf_count_images [none] [none] (mCons (mPu (pV 0)) (mNil)) (mCons (mPu (pC (.int 0))) (mNil)))
def mf_count_states : List T → Res T := runF 1 1 [0] mb_count_states
/-- law: slots 0 _law_script, 1 _law_bag_here, 2 _law_size, 3 _law_many, 4 _law_due, 5 _law_settled, 6 _law_total -/
def mb_law : M Fl := mSeq (mAsg 1 (mCallD mf_law_bag [some 0] (mCons (mMov 0) (mNil))))
  (mSeq (mAsg 2 (mCallD mf_law_take [some 1, none] (mCons (mMov 1) (mCons (mPu (pC (.int 15))) (mNil)))))
  (mSeq (mIfS (mB (m2p (oEqS false) (mCallD mf_law_take [some 1, none] (mCons (mMov 1) (mCons (mPu (pC (.int 2))) (mNil)))) (pC (.int 1)))) (mAsg 2 (mCallD mf_law_take [some 1, none] (mCons (mMov 1) (mCons (mPu (pC (.int 65))) (mNil))))) (mNx))
  (mSeq (mAsg 3 (m2p oSub (mCallD mf_law_take [some 1, none] (mCons (mMov 1) (mCons (mPu (p2 oAdd (p2 oDiv (pV 2) (pC (.int 2))) (pC (.int 7)))) (mNil)))) (pC (.int 3))))
  (mSeq (mIfS (mB (m2p (oEqS false) (mCallD mf_law_take [some 1, none] (mCons (mMov 1) (mCons (mPu (pC (.int 8))) (mNil)))) (pC (.int 1)))) (mAsg 3 (m2 oSub (mPu (p1 tNeg (pC (.int 1)))) (mCallD mf_law_take [some 1, none] (mCons (mMov 1) (mCons (mPu (pC (.int 64))) (mNil)))))) (mNx))
  (mSeq (mAsg 4 (mPu (pC (.int 0))))
  (mSeq (mIfS (mPuT (pB (p2 oGe (pV 3) (pC (.int 0))))) (mAsg 4 (mCallD mf_law_with_torn [none, none] (mCons (mPu (pV 2)) (mCons (mPu (pV 3)) (mNil))))) (mNx))
  (mSeq (mIfS (mNotT (mB (mCallD mf_law_is [none, none] (mCons (mCallK 1 1 mf_count_images [none] [none] (mCons (mPu (pV 2)) (mNil)) (mCons (mPu (pV 3)) (mNil))) (mCons (mPu (pV 4)) (mNil)))))) (mRet' (mPu (pC (.bl false)))) (mNx))
  (mSeq (mAsg 5 (mCallD mf_law_with_torn [none, none] (mCons (mPu (pV 2)) (mCons (mPu (pC (.int 0))) (mNil)))))
  (mSeq (mIfS (mOrT (mNotT (mB (mCallD mf_law_is [none, none] (mCons (mCallK 1 1 mf_count_images [none] [none] (mCons (mPu (pV 2)) (mNil)) (mCons (mPu (pC (.int 0))) (mNil))) (mCons (mPu (pV 5)) (mNil)))))) (mNotT (mB (mCallD mf_law_is [none, none] (mCons (mCallD mf_count_states [none] (mCons (mPu (pV 2)) (mNil))) (mCons (mPu (pV 5)) (mNil))))))) (mRet' (mPu (pC (.bl false)))) (mNx))
  (mSeq (mAsg 6 (mCallD mf_law_in_all [none] (mCons (mPu (pV 2)) (mNil))))
  (mRet' (mAndV (mCallD mf_law_is [none, none] (mCons (mCallDf mf_count_images [none] [.non] (mCons (mPu (pV 2)) (mNil))) (mCons (mPu (pV 6)) (mNil)))) (mCallD mf_law_is [none, none] (mCons (mCallK 1 1 mf_count_images [none] [none] (mCons (mPu (pV 2)) (mNil)) (mCons (mPu (pC .non)) (mNil))) (mCons (mPu (pV 6)) (mNil))))))))))))))))
def mf_law : List T → Res T := runF 7 1 [0] mb_law
end PK
end
section
set_option Elab.async false
set_option maxRecDepth 100000
set_option maxHeartbeats 4000000
/-! the walk of the law's defs, printed by gen.py -/
namespace PK
open PySem L2 StX ML
def top (i : Nat) : Stmt := PySem.Challenge.pw_peermend_k03_counts.main.body.getD i (.Pass ⟨0, 0, 0, 0⟩)
abbrev s_law_bag : Stmt := top 11
abbrev N_law_bag : List Str := ["_law_script", "_law_great", "_law_first", "_law_second", "_law_cell"]
abbrev P_law_bag : List Str := ["_law_script"]
abbrev s_law_take : Stmt := top 12
abbrev N_law_take : List Str := ["_law_bag_here", "_law_size", "_law_digit"]
abbrev P_law_take : List Str := ["_law_bag_here", "_law_size"]
abbrev s_law_factorials : Stmt := top 14
abbrev N_law_factorials : List Str := ["_law_most", "_law_row", "_law_k"]
abbrev P_law_factorials : List Str := ["_law_most"]
abbrev s_law_powers : Stmt := top 15
abbrev N_law_powers : List Str := ["_law_base", "_law_most", "_law_row", "_law_k"]
abbrev P_law_powers : List Str := ["_law_base", "_law_most"]
abbrev s_law_with_torn : Stmt := top 16
abbrev N_law_with_torn : List Str := ["_law_size", "_law_many", "_law_facts", "_law_halves", "_law_sixths", "_law_parts_of_four", "_law_threefold", "_law_fourfold", "_law_total", "_law_four", "_law_three", "_law_two", "_law_spare", "_law_pairs", "_law_alike"]
abbrev P_law_with_torn : List Str := ["_law_size", "_law_many"]
abbrev s_law_in_all : Stmt := top 17
abbrev N_law_in_all : List Str := ["_law_size", "_law_totals", "_law_n", "_law_many"]
abbrev P_law_in_all : List Str := ["_law_size"]
abbrev s_law_is : Stmt := top 13
abbrev N_law_is : List Str := ["_law_told", "_law_due"]
abbrev P_law_is : List Str := ["_law_told", "_law_due"]
abbrev s_choose : Stmt := top 4
abbrev N_choose : List Str := ["m", "k"]
abbrev P_choose : List Str := ["m", "k"]
abbrev s_torn_counts : Stmt := top 7
abbrev N_torn_counts : List Str := ["size", "most", "none", "one", "two", "three", "four", "m", "triples", "quadruples", "row", "t", "first_torn"]
abbrev P_torn_counts : List Str := ["size", "most"]
abbrev s_block : Stmt := top 9
abbrev N_block : List Str := ["counts", "n", "many"]
abbrev P_block : List Str := ["counts", "n", "many"]
abbrev s_totals : Stmt := top 8
abbrev N_totals : List Str := ["size", "found", "n", "many"]
abbrev P_totals : List Str := ["size"]
abbrev s_count_images : Stmt := top 5
abbrev N_count_images : List Str := ["size", "torn"]
abbrev P_count_images : List Str := ["size", "torn"]
abbrev s_count_states : Stmt := top 6
abbrev N_count_states : List Str := ["size"]
abbrev P_count_states : List Str := ["size"]
abbrev s_law : Stmt := top 18
abbrev N_law : List Str := ["_law_script", "_law_bag_here", "_law_size", "_law_many", "_law_due", "_law_settled", "_law_total"]
abbrev P_law : List Str := ["_law_script"]
structure Txt (K : PySem.W.Frag) (mg : Str → Option Value) (a_law_factorials a_law_powers a_choose a_block a_totals a_torn_counts a_count_images a_law_bag a_law_take a_law_with_torn a_law_is a_count_states a_law_in_all : Addr) (c_FORM_COUNTS : Addr) (f_law_factorials f_law_powers f_choose f_block f_totals f_torn_counts f_count_images f_law_bag f_law_take f_law_with_torn f_law_is f_count_states f_law_in_all : FuncData) : Prop where
  mg_law_factorials : mg "_law_factorials" = some (.ref a_law_factorials)
  k_law_factorials : PySem.W.keepIn K (.ref a_law_factorials) = true
  bn_law_factorials : Binds K f_law_factorials P_law_factorials []
  mg_law_powers : mg "_law_powers" = some (.ref a_law_powers)
  k_law_powers : PySem.W.keepIn K (.ref a_law_powers) = true
  bn_law_powers : Binds K f_law_powers P_law_powers []
  mg_choose : mg "choose" = some (.ref a_choose)
  k_choose : PySem.W.keepIn K (.ref a_choose) = true
  bn_choose : Binds K f_choose P_choose []
  mg_block : mg "_block" = some (.ref a_block)
  k_block : PySem.W.keepIn K (.ref a_block) = true
  bn_block : Binds K f_block P_block []
  mg_totals : mg "totals" = some (.ref a_totals)
  k_totals : PySem.W.keepIn K (.ref a_totals) = true
  bn_totals : Binds K f_totals P_totals []
  mg_torn_counts : mg "torn_counts" = some (.ref a_torn_counts)
  k_torn_counts : PySem.W.keepIn K (.ref a_torn_counts) = true
  bn_torn_counts : Binds K f_torn_counts P_torn_counts []
  mg_count_images : mg "count_images" = some (.ref a_count_images)
  k_count_images : PySem.W.keepIn K (.ref a_count_images) = true
  kb_count_images : KBn K f_count_images P_count_images 1 ["torn"] (fun us ws => us ++ ws) (fun vs zs => vs ++ zs)
  bd_count_images : Binds K f_count_images P_count_images [Value.none]
  mg_law_bag : mg "_law_bag" = some (.ref a_law_bag)
  k_law_bag : PySem.W.keepIn K (.ref a_law_bag) = true
  bn_law_bag : Binds K f_law_bag P_law_bag []
  mg_law_take : mg "_law_take" = some (.ref a_law_take)
  k_law_take : PySem.W.keepIn K (.ref a_law_take) = true
  bn_law_take : Binds K f_law_take P_law_take []
  mg_law_with_torn : mg "_law_with_torn" = some (.ref a_law_with_torn)
  k_law_with_torn : PySem.W.keepIn K (.ref a_law_with_torn) = true
  bn_law_with_torn : Binds K f_law_with_torn P_law_with_torn []
  mg_law_is : mg "_law_is" = some (.ref a_law_is)
  k_law_is : PySem.W.keepIn K (.ref a_law_is) = true
  bn_law_is : Binds K f_law_is P_law_is []
  mg_count_states : mg "count_states" = some (.ref a_count_states)
  k_count_states : PySem.W.keepIn K (.ref a_count_states) = true
  bn_count_states : Binds K f_count_states P_count_states []
  mg_law_in_all : mg "_law_in_all" = some (.ref a_law_in_all)
  k_law_in_all : PySem.W.keepIn K (.ref a_law_in_all) = true
  bn_law_in_all : Binds K f_law_in_all P_law_in_all []
  b_bool : mg "bool" = none
  b_int : mg "int" = none
  b_isinstance : mg "isinstance" = none
  b_min : mg "min" = none
  b_range : mg "range" = none
  b_sum : mg "sum" = none
  mg_FORM_COUNTS : mg "FORM_COUNTS" = some (.ref c_FORM_COUNTS)
  r_FORM_COUNTS : RelV (.ref c_FORM_COUNTS) (.ref c_FORM_COUNTS)
  d_FORM_COUNTS : ∀ F, RepD K F d_FORM_COUNTS (.ref c_FORM_COUNTS)
  mg_LARGEST : ∃ t, mg "LARGEST" = some (.int 4 t)
  g_comb : mg "comb" = some (.builtin "math.comb")
theorem nd_FORM_COUNTS : (("FORM_COUNTS" : Str) == ("__debug__" : Str)) = false := by decide +kernel
theorem nd_LARGEST : (("LARGEST" : Str) == ("__debug__" : Str)) = false := by decide +kernel
theorem nd__block : (("_block" : Str) == ("__debug__" : Str)) = false := by decide +kernel
theorem nd__law_bag : (("_law_bag" : Str) == ("__debug__" : Str)) = false := by decide +kernel
theorem nd__law_factorials : (("_law_factorials" : Str) == ("__debug__" : Str)) = false := by decide +kernel
theorem nd__law_in_all : (("_law_in_all" : Str) == ("__debug__" : Str)) = false := by decide +kernel
theorem nd__law_is : (("_law_is" : Str) == ("__debug__" : Str)) = false := by decide +kernel
theorem nd__law_powers : (("_law_powers" : Str) == ("__debug__" : Str)) = false := by decide +kernel
theorem nd__law_take : (("_law_take" : Str) == ("__debug__" : Str)) = false := by decide +kernel
theorem nd__law_with_torn : (("_law_with_torn" : Str) == ("__debug__" : Str)) = false := by decide +kernel
theorem nd_bool : (("bool" : Str) == ("__debug__" : Str)) = false := by decide +kernel
theorem nd_choose : (("choose" : Str) == ("__debug__" : Str)) = false := by decide +kernel
theorem nd_comb : (("comb" : Str) == ("__debug__" : Str)) = false := by decide +kernel
theorem nd_count_images : (("count_images" : Str) == ("__debug__" : Str)) = false := by decide +kernel
theorem nd_count_states : (("count_states" : Str) == ("__debug__" : Str)) = false := by decide +kernel
theorem nd_int : (("int" : Str) == ("__debug__" : Str)) = false := by decide +kernel
theorem nd_isinstance : (("isinstance" : Str) == ("__debug__" : Str)) = false := by decide +kernel
theorem nd_min : (("min" : Str) == ("__debug__" : Str)) = false := by decide +kernel
theorem nd_range : (("range" : Str) == ("__debug__" : Str)) = false := by decide +kernel
theorem nd_sum : (("sum" : Str) == ("__debug__" : Str)) = false := by decide +kernel
theorem nd_torn_counts : (("torn_counts" : Str) == ("__debug__" : Str)) = false := by decide +kernel
theorem nd_totals : (("totals" : Str) == ("__debug__" : Str)) = false := by decide +kernel
theorem nn_bool : ("bool" : Str) ≠ "__name__" := by decide +kernel
theorem bt_bool : bootBuiltins "bool" = some (.type "bool") := by decide +kernel
theorem nn_int : ("int" : Str) ≠ "__name__" := by decide +kernel
theorem bt_int : bootBuiltins "int" = some (.type "int") := by decide +kernel
theorem nn_isinstance : ("isinstance" : Str) ≠ "__name__" := by decide +kernel
theorem bt_isinstance : bootBuiltins "isinstance" = some (.builtin "isinstance") := by decide +kernel
theorem nn_min : ("min" : Str) ≠ "__name__" := by decide +kernel
theorem bt_min : bootBuiltins "min" = some (.builtin "min") := by decide +kernel
theorem nn_range : ("range" : Str) ≠ "__name__" := by decide +kernel
theorem bt_range : bootBuiltins "range" = some (.type "range") := by decide +kernel
theorem nn_sum : ("sum" : Str) ≠ "__name__" := by decide +kernel
theorem bt_sum : bootBuiltins "sum" = some (.builtin "sum") := by decide +kernel
theorem sl_law_bag_0 : Sl N_law_bag (defScope s_law_bag) 0 "_law_script" := .of (by decide +kernel)
theorem sl_law_bag_1 : Sl N_law_bag (defScope s_law_bag) 1 "_law_great" := .of (by decide +kernel)
theorem sl_law_bag_2 : Sl N_law_bag (defScope s_law_bag) 2 "_law_first" := .of (by decide +kernel)
theorem sl_law_bag_3 : Sl N_law_bag (defScope s_law_bag) 3 "_law_second" := .of (by decide +kernel)
theorem sl_law_bag_4 : Sl N_law_bag (defScope s_law_bag) 4 "_law_cell" := .of (by decide +kernel)
theorem gl_law_bag_int : (defScope s_law_bag).names.lookup ("int" : Str) = some NameKind.globalImplicit := by decide +kernel
theorem sl_law_take_0 : Sl N_law_take (defScope s_law_take) 0 "_law_bag_here" := .of (by decide +kernel)
theorem sl_law_take_1 : Sl N_law_take (defScope s_law_take) 1 "_law_size" := .of (by decide +kernel)
theorem sl_law_take_2 : Sl N_law_take (defScope s_law_take) 2 "_law_digit" := .of (by decide +kernel)
theorem gl_law_take_int : (defScope s_law_take).names.lookup ("int" : Str) = some NameKind.globalImplicit := by decide +kernel
theorem sl_law_factorials_0 : Sl N_law_factorials (defScope s_law_factorials) 0 "_law_most" := .of (by decide +kernel)
theorem sl_law_factorials_1 : Sl N_law_factorials (defScope s_law_factorials) 1 "_law_row" := .of (by decide +kernel)
theorem sl_law_factorials_2 : Sl N_law_factorials (defScope s_law_factorials) 2 "_law_k" := .of (by decide +kernel)
theorem gl_law_factorials_range : (defScope s_law_factorials).names.lookup ("range" : Str) = some NameKind.globalImplicit := by decide +kernel
theorem sl_law_powers_0 : Sl N_law_powers (defScope s_law_powers) 0 "_law_base" := .of (by decide +kernel)
theorem sl_law_powers_1 : Sl N_law_powers (defScope s_law_powers) 1 "_law_most" := .of (by decide +kernel)
theorem sl_law_powers_2 : Sl N_law_powers (defScope s_law_powers) 2 "_law_row" := .of (by decide +kernel)
theorem sl_law_powers_3 : Sl N_law_powers (defScope s_law_powers) 3 "_law_k" := .of (by decide +kernel)
theorem gl_law_powers_range : (defScope s_law_powers).names.lookup ("range" : Str) = some NameKind.globalImplicit := by decide +kernel
theorem sl_law_with_torn_0 : Sl N_law_with_torn (defScope s_law_with_torn) 0 "_law_size" := .of (by decide +kernel)
theorem sl_law_with_torn_1 : Sl N_law_with_torn (defScope s_law_with_torn) 1 "_law_many" := .of (by decide +kernel)
theorem sl_law_with_torn_2 : Sl N_law_with_torn (defScope s_law_with_torn) 2 "_law_facts" := .of (by decide +kernel)
theorem sl_law_with_torn_3 : Sl N_law_with_torn (defScope s_law_with_torn) 3 "_law_halves" := .of (by decide +kernel)
theorem sl_law_with_torn_4 : Sl N_law_with_torn (defScope s_law_with_torn) 4 "_law_sixths" := .of (by decide +kernel)
theorem sl_law_with_torn_5 : Sl N_law_with_torn (defScope s_law_with_torn) 5 "_law_parts_of_four" := .of (by decide +kernel)
theorem sl_law_with_torn_6 : Sl N_law_with_torn (defScope s_law_with_torn) 6 "_law_threefold" := .of (by decide +kernel)
theorem sl_law_with_torn_7 : Sl N_law_with_torn (defScope s_law_with_torn) 7 "_law_fourfold" := .of (by decide +kernel)
theorem sl_law_with_torn_8 : Sl N_law_with_torn (defScope s_law_with_torn) 8 "_law_total" := .of (by decide +kernel)
theorem sl_law_with_torn_9 : Sl N_law_with_torn (defScope s_law_with_torn) 9 "_law_four" := .of (by decide +kernel)
theorem sl_law_with_torn_10 : Sl N_law_with_torn (defScope s_law_with_torn) 10 "_law_three" := .of (by decide +kernel)
theorem sl_law_with_torn_11 : Sl N_law_with_torn (defScope s_law_with_torn) 11 "_law_two" := .of (by decide +kernel)
theorem sl_law_with_torn_12 : Sl N_law_with_torn (defScope s_law_with_torn) 12 "_law_spare" := .of (by decide +kernel)
theorem sl_law_with_torn_13 : Sl N_law_with_torn (defScope s_law_with_torn) 13 "_law_pairs" := .of (by decide +kernel)
theorem sl_law_with_torn_14 : Sl N_law_with_torn (defScope s_law_with_torn) 14 "_law_alike" := .of (by decide +kernel)
theorem gl_law_with_torn__law_factorials : (defScope s_law_with_torn).names.lookup ("_law_factorials" : Str) = some NameKind.globalImplicit := by decide +kernel
theorem gl_law_with_torn__law_powers : (defScope s_law_with_torn).names.lookup ("_law_powers" : Str) = some NameKind.globalImplicit := by decide +kernel
theorem gl_law_with_torn_range : (defScope s_law_with_torn).names.lookup ("range" : Str) = some NameKind.globalImplicit := by decide +kernel
theorem sl_law_in_all_0 : Sl N_law_in_all (defScope s_law_in_all) 0 "_law_size" := .of (by decide +kernel)
theorem sl_law_in_all_1 : Sl N_law_in_all (defScope s_law_in_all) 1 "_law_totals" := .of (by decide +kernel)
theorem sl_law_in_all_2 : Sl N_law_in_all (defScope s_law_in_all) 2 "_law_n" := .of (by decide +kernel)
theorem sl_law_in_all_3 : Sl N_law_in_all (defScope s_law_in_all) 3 "_law_many" := .of (by decide +kernel)
theorem gl_law_in_all_range : (defScope s_law_in_all).names.lookup ("range" : Str) = some NameKind.globalImplicit := by decide +kernel
theorem sl_law_is_0 : Sl N_law_is (defScope s_law_is) 0 "_law_told" := .of (by decide +kernel)
theorem sl_law_is_1 : Sl N_law_is (defScope s_law_is) 1 "_law_due" := .of (by decide +kernel)
theorem gl_law_is_bool : (defScope s_law_is).names.lookup ("bool" : Str) = some NameKind.globalImplicit := by decide +kernel
theorem gl_law_is_int : (defScope s_law_is).names.lookup ("int" : Str) = some NameKind.globalImplicit := by decide +kernel
theorem gl_law_is_isinstance : (defScope s_law_is).names.lookup ("isinstance" : Str) = some NameKind.globalImplicit := by decide +kernel
theorem sl_choose_0 : Sl N_choose (defScope s_choose) 0 "m" := .of (by decide +kernel)
theorem sl_choose_1 : Sl N_choose (defScope s_choose) 1 "k" := .of (by decide +kernel)
theorem gl_choose_comb : (defScope s_choose).names.lookup ("comb" : Str) = some NameKind.globalImplicit := by decide +kernel
theorem sl_torn_counts_0 : Sl N_torn_counts (defScope s_torn_counts) 0 "size" := .of (by decide +kernel)
theorem sl_torn_counts_1 : Sl N_torn_counts (defScope s_torn_counts) 1 "most" := .of (by decide +kernel)
theorem sl_torn_counts_2 : Sl N_torn_counts (defScope s_torn_counts) 2 "none" := .of (by decide +kernel)
theorem sl_torn_counts_3 : Sl N_torn_counts (defScope s_torn_counts) 3 "one" := .of (by decide +kernel)
theorem sl_torn_counts_4 : Sl N_torn_counts (defScope s_torn_counts) 4 "two" := .of (by decide +kernel)
theorem sl_torn_counts_5 : Sl N_torn_counts (defScope s_torn_counts) 5 "three" := .of (by decide +kernel)
theorem sl_torn_counts_6 : Sl N_torn_counts (defScope s_torn_counts) 6 "four" := .of (by decide +kernel)
theorem sl_torn_counts_7 : Sl N_torn_counts (defScope s_torn_counts) 7 "m" := .of (by decide +kernel)
theorem sl_torn_counts_8 : Sl N_torn_counts (defScope s_torn_counts) 8 "triples" := .of (by decide +kernel)
theorem sl_torn_counts_9 : Sl N_torn_counts (defScope s_torn_counts) 9 "quadruples" := .of (by decide +kernel)
theorem sl_torn_counts_10 : Sl N_torn_counts (defScope s_torn_counts) 10 "row" := .of (by decide +kernel)
theorem sl_torn_counts_11 : Sl N_torn_counts (defScope s_torn_counts) 11 "t" := .of (by decide +kernel)
theorem sl_torn_counts_12 : Sl N_torn_counts (defScope s_torn_counts) 12 "first_torn" := .of (by decide +kernel)
theorem gl_torn_counts_FORM_COUNTS : (defScope s_torn_counts).names.lookup ("FORM_COUNTS" : Str) = some NameKind.globalImplicit := by decide +kernel
theorem gl_torn_counts_choose : (defScope s_torn_counts).names.lookup ("choose" : Str) = some NameKind.globalImplicit := by decide +kernel
theorem gl_torn_counts_range : (defScope s_torn_counts).names.lookup ("range" : Str) = some NameKind.globalImplicit := by decide +kernel
theorem sl_block_0 : Sl N_block (defScope s_block) 0 "counts" := .of (by decide +kernel)
theorem sl_block_1 : Sl N_block (defScope s_block) 1 "n" := .of (by decide +kernel)
theorem sl_block_2 : Sl N_block (defScope s_block) 2 "many" := .of (by decide +kernel)
theorem gl_block_FORM_COUNTS : (defScope s_block).names.lookup ("FORM_COUNTS" : Str) = some NameKind.globalImplicit := by decide +kernel
theorem gl_block_choose : (defScope s_block).names.lookup ("choose" : Str) = some NameKind.globalImplicit := by decide +kernel
theorem sl_totals_0 : Sl N_totals (defScope s_totals) 0 "size" := .of (by decide +kernel)
theorem sl_totals_1 : Sl N_totals (defScope s_totals) 1 "found" := .of (by decide +kernel)
theorem sl_totals_2 : Sl N_totals (defScope s_totals) 2 "n" := .of (by decide +kernel)
theorem gl_totals_LARGEST : (defScope s_totals).names.lookup ("LARGEST" : Str) = some NameKind.globalImplicit := by decide +kernel
theorem gl_totals_min : (defScope s_totals).names.lookup ("min" : Str) = some NameKind.globalImplicit := by decide +kernel
theorem gl_totals_range : (defScope s_totals).names.lookup ("range" : Str) = some NameKind.globalImplicit := by decide +kernel
theorem gl_totals_sum : (defScope s_totals).names.lookup ("sum" : Str) = some NameKind.globalImplicit := by decide +kernel
theorem sl_count_images_0 : Sl N_count_images (defScope s_count_images) 0 "size" := .of (by decide +kernel)
theorem sl_count_images_1 : Sl N_count_images (defScope s_count_images) 1 "torn" := .of (by decide +kernel)
theorem gl_count_images_torn_counts : (defScope s_count_images).names.lookup ("torn_counts" : Str) = some NameKind.globalImplicit := by decide +kernel
theorem gl_count_images_totals : (defScope s_count_images).names.lookup ("totals" : Str) = some NameKind.globalImplicit := by decide +kernel
theorem sl_count_states_0 : Sl N_count_states (defScope s_count_states) 0 "size" := .of (by decide +kernel)
theorem gl_count_states_count_images : (defScope s_count_states).names.lookup ("count_images" : Str) = some NameKind.globalImplicit := by decide +kernel
theorem sl_law_0 : Sl N_law (defScope s_law) 0 "_law_script" := .of (by decide +kernel)
theorem sl_law_1 : Sl N_law (defScope s_law) 1 "_law_bag_here" := .of (by decide +kernel)
theorem sl_law_2 : Sl N_law (defScope s_law) 2 "_law_size" := .of (by decide +kernel)
theorem sl_law_3 : Sl N_law (defScope s_law) 3 "_law_many" := .of (by decide +kernel)
theorem sl_law_4 : Sl N_law (defScope s_law) 4 "_law_due" := .of (by decide +kernel)
theorem sl_law_5 : Sl N_law (defScope s_law) 5 "_law_settled" := .of (by decide +kernel)
theorem sl_law_6 : Sl N_law (defScope s_law) 6 "_law_total" := .of (by decide +kernel)
theorem gl_law__law_bag : (defScope s_law).names.lookup ("_law_bag" : Str) = some NameKind.globalImplicit := by decide +kernel
theorem gl_law__law_in_all : (defScope s_law).names.lookup ("_law_in_all" : Str) = some NameKind.globalImplicit := by decide +kernel
theorem gl_law__law_is : (defScope s_law).names.lookup ("_law_is" : Str) = some NameKind.globalImplicit := by decide +kernel
theorem gl_law__law_take : (defScope s_law).names.lookup ("_law_take" : Str) = some NameKind.globalImplicit := by decide +kernel
theorem gl_law__law_with_torn : (defScope s_law).names.lookup ("_law_with_torn" : Str) = some NameKind.globalImplicit := by decide +kernel
theorem gl_law_count_images : (defScope s_law).names.lookup ("count_images" : Str) = some NameKind.globalImplicit := by decide +kernel
theorem gl_law_count_states : (defScope s_law).names.lookup ("count_states" : Str) = some NameKind.globalImplicit := by decide +kernel
section
variable {P : Program} {w : World} {K : PySem.W.Frag} {mg : Str → Option Value} {base : Heap} {a_law_factorials a_law_powers a_choose a_block a_totals a_torn_counts a_count_images a_law_bag a_law_take a_law_with_torn a_law_is a_count_states a_law_in_all : Addr} {c_FORM_COUNTS : Addr} {f_law_factorials f_law_powers f_choose f_block f_totals f_torn_counts f_count_images f_law_bag f_law_take f_law_with_torn f_law_is f_count_states f_law_in_all : FuncData}
theorem sc_law_bag : FnScope N_law_bag P_law_bag (defScope s_law_bag) := ⟨rfl, rfl, rfl, by decide +kernel, rfl, by decide +kernel, by decide +kernel⟩
theorem ok_law_bag {f : Addr} {fd : FuncData} (F : Fun K "_law_bag" "_law_bag" s_law_bag f fd) (T : Txt K mg a_law_factorials a_law_powers a_choose a_block a_totals a_torn_counts a_count_images a_law_bag a_law_take a_law_with_torn a_law_is a_count_states a_law_in_all c_FORM_COUNTS f_law_factorials f_law_powers f_choose f_block f_totals f_torn_counts f_count_images f_law_bag f_law_take f_law_with_torn f_law_is f_count_states f_law_in_all) : FnOk P w K mg base CX0 1 f fd P_law_bag (spM K (C0 [0]) mf_law_bag) := by
  refine fun_ok (N := N_law_bag) (n := 5) (np := 1) (pn := [0]) (body := mb_law_bag) F sc_law_bag rfl rfl rfl (by decide) (by decide) fun cdv A outer s H E hr => ⟨_, pss_cons (psx sl_law_bag_1 (sc_law_bag).nd rfl rfl rfl (pe_int))
    (pss_cons (psx sl_law_bag_2 (sc_law_bag).nd rfl rfl rfl (pe_int))
    (pss_cons (psx sl_law_bag_3 (sc_law_bag).nd rfl rfl rfl (pe_int))
    (pss_cons (ps_for PassesOwn.never rfl (pi_list (pvx sl_law_bag_0 rfl rfl)) (pgx sl_law_bag_4 (sc_law_bag).nd rfl rfl rfl) (pss_cons (ps_if (PW.pt (pw_and (pt_cmpR op_eq (pvx sl_law_bag_1 rfl rfl) (pe_int) (nomark _)) (pw_and1 (pt_cmpR op_ge (pvx sl_law_bag_4 rfl rfl) (pe_op op_pow (pe_int) (pe_int)) (nomark _))))) (pss_one (psx sl_law_bag_1 (sc_law_bag).nd rfl rfl rfl (pvx sl_law_bag_4 rfl rfl))) (pss_nil))
    (pss_cons (psx sl_law_bag_2 (sc_law_bag).nd rfl rfl rfl (pe_op op_mod (pe_callTy (hn := nn_int) (hdb := nd_int) call_int1 (glx gl_law_bag_int rfl) T.b_int bt_int (pa_cons (pe_op op_add (pe_op op_add (pe_op op_mulA (pvx sl_law_bag_2 rfl rfl) (pe_int)) (pe_op op_mod (pe_callTy (hn := nn_int) (hdb := nd_int) call_int1 (glx gl_law_bag_int rfl) T.b_int bt_int (pa_cons (pvx sl_law_bag_4 rfl rfl) (pa_nil))) (pe_int))) (pe_int)) (pa_nil))) (pe_int)))
    (pss_one (psx sl_law_bag_3 (sc_law_bag).nd rfl rfl rfl (pe_op op_mod (pe_callTy (hn := nn_int) (hdb := nd_int) call_int1 (glx gl_law_bag_int rfl) T.b_int bt_int (pa_cons (pe_op op_add (pe_op op_add (pe_op op_mulA (pvx sl_law_bag_3 rfl rfl) (pe_int)) (pe_op op_mod (pe_callTy (hn := nn_int) (hdb := nd_int) call_int1 (glx gl_law_bag_int rfl) T.b_int bt_int (pa_cons (pvx sl_law_bag_4 rfl rfl) (pa_nil))) (pe_int))) (pe_int)) (pa_nil))) (pe_int)))))))
    (pss_one (ps_ret (pe_lst (pa_cons (pvx sl_law_bag_1 rfl rfl) (pa_cons (pvx sl_law_bag_2 rfl rfl) (pa_cons (pvx sl_law_bag_3 rfl rfl) (pa_nil)))))))))),
    ss_seq (ss_asg (show 1 ∉ [0] by decide) (sm_pu (sp_int)))
    (ss_seq (ss_asg (show 2 ∉ [0] by decide) (sm_pu (sp_int)))
    (ss_seq (ss_asg (show 3 ∉ [0] by decide) (sm_pu (sp_int)))
    (ss_seq (ss_forL (show 4 ∉ [0] by decide) (sm_frz 0) (ss_seq (ss_if (st_pu (spt_and (spt_t (sp_op rd_eqS (sp_var 1) (sp_int))) (spt_t (sp_op rd_ge (sp_var 4) (sp_op rd_pow (sp_int) (sp_int)))))) (ss_asg (show 1 ∉ [0] by decide) (sm_pu (sp_var 4))) (ss_nx))
    (ss_seq (ss_asg (show 2 ∉ [0] by decide) (sm_pu (sp_op rd_mod (sp_call rd_int (spa_cons (sp_op rd_add (sp_op rd_add (sp_op rd_mul (sp_var 2) (sp_int)) (sp_op rd_mod (sp_call rd_int (spa_cons (sp_var 4) (spa_nil))) (sp_int))) (sp_int)) (spa_nil))) (sp_int))))
    (ss_asg (show 3 ∉ [0] by decide) (sm_pu (sp_op rd_mod (sp_call rd_int (spa_cons (sp_op rd_add (sp_op rd_add (sp_op rd_mul (sp_var 3) (sp_int)) (sp_op rd_mod (sp_call rd_int (spa_cons (sp_var 4) (spa_nil))) (sp_int))) (sp_int)) (spa_nil))) (sp_int)))))))
    (ss_ret (sm_lst (sa_cons (hReg rfl) (sm_pu (sp_var 1)) (sa_cons (hReg rfl) (sm_pu (sp_var 2)) (sa_cons (hReg rfl) (sm_pu (sp_var 3)) (sa_nil)))))))))⟩
theorem sc_law_take : FnScope N_law_take P_law_take (defScope s_law_take) := ⟨rfl, rfl, rfl, by decide +kernel, rfl, by decide +kernel, by decide +kernel⟩
theorem ok_law_take {f : Addr} {fd : FuncData} (F : Fun K "_law_take" "_law_take" s_law_take f fd) (T : Txt K mg a_law_factorials a_law_powers a_choose a_block a_totals a_torn_counts a_count_images a_law_bag a_law_take a_law_with_torn a_law_is a_count_states a_law_in_all c_FORM_COUNTS f_law_factorials f_law_powers f_choose f_block f_totals f_torn_counts f_count_images f_law_bag f_law_take f_law_with_torn f_law_is f_count_states f_law_in_all) : FnOk P w K mg base CX0 1 f fd P_law_take (spM K (C0 [0, 1]) mf_law_take) := by
  refine fun_ok (N := N_law_take) (n := 3) (np := 2) (pn := [0, 1]) (body := mb_law_take) F sc_law_take rfl rfl rfl (by decide) (by decide) fun cdv A outer s H E hr => ⟨_, pss_cons (ps_if (pt_cmpR op_gt (pe_ix ix_seq (pvx sl_law_take_0 rfl rfl) (pe_int) (fun _ _ => rfl)) (pe_int) (nomark _)) (pss_cons (psx sl_law_take_2 (sc_law_take).nd rfl rfl rfl (pe_op op_mod (pe_callTy (hn := nn_int) (hdb := nd_int) call_int1 (glx gl_law_take_int rfl) T.b_int bt_int (pa_cons (pe_ix ix_seq (pvx sl_law_take_0 rfl rfl) (pe_int) (fun _ _ => rfl)) (pa_nil))) (pvx sl_law_take_1 rfl rfl)))
    (pss_cons (ps_asg (pe_op op_fdivW (pe_ix ix_seq (pvx sl_law_take_0 rfl rfl) (pe_int) (fun _ _ => rfl)) (pvx sl_law_take_1 rfl rfl)) (pg_sub (pvx sl_law_take_0 rfl rfl) (pe_int) set_list))
    (pss_one (ps_ret (pvx sl_law_take_2 rfl rfl))))) (pss_nil))
    (pss_cons (ps_asg (pe_op op_mod (pe_callTy (hn := nn_int) (hdb := nd_int) call_int1 (glx gl_law_take_int rfl) T.b_int bt_int (pa_cons (pe_op op_add (pe_op op_mulA (pe_ix ix_seq (pvx sl_law_take_0 rfl rfl) (pe_int) (fun _ _ => rfl)) (pe_int)) (pe_int)) (pa_nil))) (pe_int)) (pg_sub (pvx sl_law_take_0 rfl rfl) (pe_int) set_list))
    (pss_cons (ps_asg (pe_op op_mod (pe_callTy (hn := nn_int) (hdb := nd_int) call_int1 (glx gl_law_take_int rfl) T.b_int bt_int (pa_cons (pe_op op_add (pe_op op_mulA (pe_ix ix_seq (pvx sl_law_take_0 rfl rfl) (pe_int) (fun _ _ => rfl)) (pe_int)) (pe_ix ix_seq (pvx sl_law_take_0 rfl rfl) (pe_int) (fun _ _ => rfl))) (pa_nil))) (pe_int)) (pg_sub (pvx sl_law_take_0 rfl rfl) (pe_int) set_list))
    (pss_one (ps_ret (pe_op op_mod (pe_callTy (hn := nn_int) (hdb := nd_int) call_int1 (glx gl_law_take_int rfl) T.b_int bt_int (pa_cons (pe_op op_fdivW (pe_ix ix_seq (pvx sl_law_take_0 rfl rfl) (pe_int) (fun _ _ => rfl)) (pe_int)) (pa_nil))) (pvx sl_law_take_1 rfl rfl)))))),
    ss_seq (ss_if (st_pu (spt_t (sp_op rd_gt (sp_op rd_ix (sp_var 0) (sp_int)) (sp_int)))) (ss_seq (ss_asg (show 2 ∉ [0, 1] by decide) (sm_pu (sp_op rd_mod (sp_call rd_int (spa_cons (sp_op rd_ix (sp_var 0) (sp_int)) (spa_nil))) (sp_var 1))))
    (ss_seq (ss_setIx (sm_pu (sp_op rd_div (sp_op rd_ix (sp_var 0) (sp_int)) (sp_var 1))) (sp_int))
    (ss_ret (sm_pu (sp_var 2))))) (ss_nx))
    (ss_seq (ss_setIx (sm_pu (sp_op rd_mod (sp_call rd_int (spa_cons (sp_op rd_add (sp_op rd_mul (sp_op rd_ix (sp_var 0) (sp_int)) (sp_int)) (sp_int)) (spa_nil))) (sp_int))) (sp_int))
    (ss_seq (ss_setIx (sm_pu (sp_op rd_mod (sp_call rd_int (spa_cons (sp_op rd_add (sp_op rd_mul (sp_op rd_ix (sp_var 0) (sp_int)) (sp_int)) (sp_op rd_ix (sp_var 0) (sp_int))) (spa_nil))) (sp_int))) (sp_int))
    (ss_ret (sm_pu (sp_op rd_mod (sp_call rd_int (spa_cons (sp_op rd_div (sp_op rd_ix (sp_var 0) (sp_int)) (sp_int)) (spa_nil))) (sp_var 1))))))⟩
theorem sc_law_factorials : FnScope N_law_factorials P_law_factorials (defScope s_law_factorials) := ⟨rfl, rfl, rfl, by decide +kernel, rfl, by decide +kernel, by decide +kernel⟩
theorem ok_law_factorials {f : Addr} {fd : FuncData} (F : Fun K "_law_factorials" "_law_factorials" s_law_factorials f fd) (T : Txt K mg a_law_factorials a_law_powers a_choose a_block a_totals a_torn_counts a_count_images a_law_bag a_law_take a_law_with_torn a_law_is a_count_states a_law_in_all c_FORM_COUNTS f_law_factorials f_law_powers f_choose f_block f_totals f_torn_counts f_count_images f_law_bag f_law_take f_law_with_torn f_law_is f_count_states f_law_in_all) : FnOk P w K mg base CX0 1 f fd P_law_factorials (spM K (C0 [0]) mf_law_factorials) := by
  refine fun_ok (N := N_law_factorials) (n := 3) (np := 1) (pn := [0]) (body := mb_law_factorials) F sc_law_factorials rfl rfl rfl (by decide) (by decide) fun cdv A outer s H E hr => ⟨_, pss_cons (psx sl_law_factorials_1 (sc_law_factorials).nd rfl rfl rfl (pe_lst (pa_cons (pe_int) (pa_nil))))
    (pss_cons (ps_for PassesOwn.never rfl (pi_range1 (glx gl_law_factorials_range rfl) T.b_range (pa_cons (pvx sl_law_factorials_0 rfl rfl) (pa_nil))) (pgx sl_law_factorials_2 (sc_law_factorials).nd rfl rfl rfl) (pss_one (ps_expr (pe_bm PySem.F.plainAttrs_list PySem.F.slot_list_append PySem.F.type_list_append mt_append (pvx sl_law_factorials_1 rfl rfl) (pa_cons (pe_op op_mulA (pe_ix ix_seq (pvx sl_law_factorials_1 rfl rfl) (pvx sl_law_factorials_2 rfl rfl) (fun _ _ => rfl)) (pe_op op_add (pvx sl_law_factorials_2 rfl rfl) (pe_int))) pa_nil)))))
    (pss_one (ps_ret (pvx sl_law_factorials_1 rfl rfl)))),
    ss_seq (ss_asg (show 1 ∉ [0] by decide) (sm_lst (sa_cons (hReg rfl) (sm_pu (sp_int)) (sa_nil))))
    (ss_seq (ss_forR1 (show 2 ∉ [0] by decide) (sa_cons (hReg rfl) (sm_pu (sp_var 0)) (sa_nil)) (ss_app (sm_pu (sp_op rd_mul (sp_op rd_ix (sp_var 1) (sp_var 2)) (sp_op rd_add (sp_var 2) (sp_int))))))
    (ss_ret (sm_mov 1)))⟩
theorem sc_law_powers : FnScope N_law_powers P_law_powers (defScope s_law_powers) := ⟨rfl, rfl, rfl, by decide +kernel, rfl, by decide +kernel, by decide +kernel⟩
theorem ok_law_powers {f : Addr} {fd : FuncData} (F : Fun K "_law_powers" "_law_powers" s_law_powers f fd) (T : Txt K mg a_law_factorials a_law_powers a_choose a_block a_totals a_torn_counts a_count_images a_law_bag a_law_take a_law_with_torn a_law_is a_count_states a_law_in_all c_FORM_COUNTS f_law_factorials f_law_powers f_choose f_block f_totals f_torn_counts f_count_images f_law_bag f_law_take f_law_with_torn f_law_is f_count_states f_law_in_all) : FnOk P w K mg base CX0 1 f fd P_law_powers (spM K (C0 [0, 1]) mf_law_powers) := by
  refine fun_ok (N := N_law_powers) (n := 4) (np := 2) (pn := [0, 1]) (body := mb_law_powers) F sc_law_powers rfl rfl rfl (by decide) (by decide) fun cdv A outer s H E hr => ⟨_, pss_cons (psx sl_law_powers_2 (sc_law_powers).nd rfl rfl rfl (pe_lst (pa_cons (pe_int) (pa_nil))))
    (pss_cons (ps_for PassesOwn.never rfl (pi_range1 (glx gl_law_powers_range rfl) T.b_range (pa_cons (pvx sl_law_powers_1 rfl rfl) (pa_nil))) (pgx sl_law_powers_3 (sc_law_powers).nd rfl rfl rfl) (pss_one (ps_expr (pe_bm PySem.F.plainAttrs_list PySem.F.slot_list_append PySem.F.type_list_append mt_append (pvx sl_law_powers_2 rfl rfl) (pa_cons (pe_op op_mulA (pe_ix ix_seq (pvx sl_law_powers_2 rfl rfl) (pvx sl_law_powers_3 rfl rfl) (fun _ _ => rfl)) (pvx sl_law_powers_0 rfl rfl)) pa_nil)))))
    (pss_one (ps_ret (pvx sl_law_powers_2 rfl rfl)))),
    ss_seq (ss_asg (show 2 ∉ [0, 1] by decide) (sm_lst (sa_cons (hReg rfl) (sm_pu (sp_int)) (sa_nil))))
    (ss_seq (ss_forR1 (show 3 ∉ [0, 1] by decide) (sa_cons (hReg rfl) (sm_pu (sp_var 1)) (sa_nil)) (ss_app (sm_pu (sp_op rd_mul (sp_op rd_ix (sp_var 2) (sp_var 3)) (sp_var 0)))))
    (ss_ret (sm_mov 2)))⟩
theorem sc_law_with_torn : FnScope N_law_with_torn P_law_with_torn (defScope s_law_with_torn) := ⟨rfl, rfl, rfl, by decide +kernel, rfl, by decide +kernel, by decide +kernel⟩
theorem ok_law_with_torn {f : Addr} {fd : FuncData} (F : Fun K "_law_with_torn" "_law_with_torn" s_law_with_torn f fd) (T : Txt K mg a_law_factorials a_law_powers a_choose a_block a_totals a_torn_counts a_count_images a_law_bag a_law_take a_law_with_torn a_law_is a_count_states a_law_in_all c_FORM_COUNTS f_law_factorials f_law_powers f_choose f_block f_totals f_torn_counts f_count_images f_law_bag f_law_take f_law_with_torn f_law_is f_count_states f_law_in_all) (G_law_factorials : FnOk P w K mg base CX0 1 a_law_factorials f_law_factorials P_law_factorials (spM K (C0 [0]) mf_law_factorials)) (G_law_powers : FnOk P w K mg base CX0 1 a_law_powers f_law_powers P_law_powers (spM K (C0 [0, 1]) mf_law_powers)) : FnOk P w K mg base CX0 2 f fd P_law_with_torn (spM K (C0 [0, 1]) mf_law_with_torn) := by
  refine fun_ok (N := N_law_with_torn) (n := 15) (np := 2) (pn := [0, 1]) (body := mb_law_with_torn) F sc_law_with_torn rfl rfl rfl (by decide) (by decide) fun cdv A outer s H E hr => ⟨_, pss_cons (psx sl_law_with_torn_2 (sc_law_with_torn).nd rfl rfl rfl (pe_call (hdb := nd__law_factorials) G_law_factorials (hr.mono (by decide)) (glx gl_law_with_torn__law_factorials rfl) T.mg_law_factorials T.k_law_factorials T.bn_law_factorials .nil pass0 (pa_cons (pe_op op_add (pvx sl_law_with_torn_0 rfl rfl) (pe_int)) (pa_nil))))
    (pss_cons (psx sl_law_with_torn_3 (sc_law_with_torn).nd rfl rfl rfl (pe_call (hdb := nd__law_powers) G_law_powers (hr.mono (by decide)) (glx gl_law_with_torn__law_powers rfl) T.mg_law_powers T.k_law_powers T.bn_law_powers .nil pass0 (pa_cons (pe_int) (pa_cons (pvx sl_law_with_torn_0 rfl rfl) (pa_nil)))))
    (pss_cons (psx sl_law_with_torn_4 (sc_law_with_torn).nd rfl rfl rfl (pe_call (hdb := nd__law_powers) G_law_powers (hr.mono (by decide)) (glx gl_law_with_torn__law_powers rfl) T.mg_law_powers T.k_law_powers T.bn_law_powers .nil pass0 (pa_cons (pe_int) (pa_cons (pvx sl_law_with_torn_0 rfl rfl) (pa_nil)))))
    (pss_cons (psx sl_law_with_torn_5 (sc_law_with_torn).nd rfl rfl rfl (pe_call (hdb := nd__law_powers) G_law_powers (hr.mono (by decide)) (glx gl_law_with_torn__law_powers rfl) T.mg_law_powers T.k_law_powers T.bn_law_powers .nil pass0 (pa_cons (pe_int) (pa_cons (pvx sl_law_with_torn_0 rfl rfl) (pa_nil)))))
    (pss_cons (psx sl_law_with_torn_6 (sc_law_with_torn).nd rfl rfl rfl (pe_call (hdb := nd__law_powers) G_law_powers (hr.mono (by decide)) (glx gl_law_with_torn__law_powers rfl) T.mg_law_powers T.k_law_powers T.bn_law_powers .nil pass0 (pa_cons (pe_int) (pa_cons (pvx sl_law_with_torn_0 rfl rfl) (pa_nil)))))
    (pss_cons (psx sl_law_with_torn_7 (sc_law_with_torn).nd rfl rfl rfl (pe_call (hdb := nd__law_powers) G_law_powers (hr.mono (by decide)) (glx gl_law_with_torn__law_powers rfl) T.mg_law_powers T.k_law_powers T.bn_law_powers .nil pass0 (pa_cons (pe_int) (pa_cons (pvx sl_law_with_torn_0 rfl rfl) (pa_nil)))))
    (pss_cons (psx sl_law_with_torn_8 (sc_law_with_torn).nd rfl rfl rfl (pe_int))
    (pss_cons (ps_for PassesOwn.never rfl (pi_range1 (glx gl_law_with_torn_range rfl) T.b_range (pa_cons (pe_op op_add (pvx sl_law_with_torn_1 rfl rfl) (pe_int)) (pa_nil))) (pgx sl_law_with_torn_9 (sc_law_with_torn).nd rfl rfl rfl) (pss_one (ps_for PassesOwn.never rfl (pi_range1 (glx gl_law_with_torn_range rfl) T.b_range (pa_cons (pe_op op_sub (pe_op op_add (pvx sl_law_with_torn_1 rfl rfl) (pe_int)) (pvx sl_law_with_torn_9 rfl rfl)) (pa_nil))) (pgx sl_law_with_torn_10 (sc_law_with_torn).nd rfl rfl rfl) (pss_cons (psx sl_law_with_torn_11 (sc_law_with_torn).nd rfl rfl rfl (pe_op op_sub (pe_op op_sub (pvx sl_law_with_torn_1 rfl rfl) (pvx sl_law_with_torn_9 rfl rfl)) (pvx sl_law_with_torn_10 rfl rfl)))
    (pss_cons (psx sl_law_with_torn_12 (sc_law_with_torn).nd rfl rfl rfl (pe_op op_sub (pe_op op_sub (pe_op op_sub (pvx sl_law_with_torn_0 rfl rfl) (pe_op op_mulA (pe_int) (pvx sl_law_with_torn_9 rfl rfl))) (pe_op op_mulA (pe_int) (pvx sl_law_with_torn_10 rfl rfl))) (pe_op op_mulA (pe_int) (pvx sl_law_with_torn_11 rfl rfl))))
    (pss_one (ps_for PassesOwn.never rfl (pi_range1 (glx gl_law_with_torn_range rfl) T.b_range (pa_cons (pe_op op_add (pe_op op_fdivW (pvx sl_law_with_torn_12 rfl rfl) (pe_int)) (pe_int)) (pa_nil))) (pgx sl_law_with_torn_13 (sc_law_with_torn).nd rfl rfl rfl) (pss_cons (psx sl_law_with_torn_14 (sc_law_with_torn).nd rfl rfl rfl (pe_op op_mulA (pe_op op_mulA (pe_op op_mulA (pe_op op_mulA (pe_ix ix_seq (pvx sl_law_with_torn_2 rfl rfl) (pe_op op_sub (pvx sl_law_with_torn_12 rfl rfl) (pe_op op_mulA (pe_int) (pvx sl_law_with_torn_13 rfl rfl))) (fun _ _ => rfl)) (pe_ix ix_seq (pvx sl_law_with_torn_2 rfl rfl) (pvx sl_law_with_torn_13 rfl rfl) (fun _ _ => rfl))) (pe_ix ix_seq (pvx sl_law_with_torn_2 rfl rfl) (pvx sl_law_with_torn_11 rfl rfl) (fun _ _ => rfl))) (pe_ix ix_seq (pvx sl_law_with_torn_2 rfl rfl) (pvx sl_law_with_torn_10 rfl rfl) (fun _ _ => rfl))) (pe_ix ix_seq (pvx sl_law_with_torn_2 rfl rfl) (pvx sl_law_with_torn_9 rfl rfl) (fun _ _ => rfl))))
    (pss_cons (psx sl_law_with_torn_14 (sc_law_with_torn).nd rfl rfl rfl (pe_op op_mulA (pe_op op_mulA (pe_op op_mulA (pe_op op_mulA (pvx sl_law_with_torn_14 rfl rfl) (pe_ix ix_seq (pvx sl_law_with_torn_3 rfl rfl) (pvx sl_law_with_torn_13 rfl rfl) (fun _ _ => rfl))) (pe_ix ix_seq (pvx sl_law_with_torn_3 rfl rfl) (pvx sl_law_with_torn_11 rfl rfl) (fun _ _ => rfl))) (pe_ix ix_seq (pvx sl_law_with_torn_4 rfl rfl) (pvx sl_law_with_torn_10 rfl rfl) (fun _ _ => rfl))) (pe_ix ix_seq (pvx sl_law_with_torn_5 rfl rfl) (pvx sl_law_with_torn_9 rfl rfl) (fun _ _ => rfl))))
    (pss_one (psx sl_law_with_torn_8 (sc_law_with_torn).nd rfl rfl rfl (pe_op op_add (pvx sl_law_with_torn_8 rfl rfl) (pe_op op_mulA (pe_op op_mulA (pe_op op_mulA (pe_op op_fdivW (pe_ix ix_seq (pvx sl_law_with_torn_2 rfl rfl) (pvx sl_law_with_torn_0 rfl rfl) (fun _ _ => rfl)) (pvx sl_law_with_torn_14 rfl rfl)) (pe_ix ix_seq (pvx sl_law_with_torn_3 rfl rfl) (pvx sl_law_with_torn_11 rfl rfl) (fun _ _ => rfl))) (pe_ix ix_seq (pvx sl_law_with_torn_6 rfl rfl) (pvx sl_law_with_torn_10 rfl rfl) (fun _ _ => rfl))) (pe_ix ix_seq (pvx sl_law_with_torn_7 rfl rfl) (pvx sl_law_with_torn_9 rfl rfl) (fun _ _ => rfl)))))))))))))))
    (pss_one (ps_ret (pvx sl_law_with_torn_8 rfl rfl)))))))))),
    ss_seq (ss_asg (show 2 ∉ [0, 1] by decide) (sm_callD (sb_val (hReg rfl) (sm_pu (sp_op rd_add (sp_var 0) (sp_int))) (sb_nil))))
    (ss_seq (ss_asg (show 3 ∉ [0, 1] by decide) (sm_callD (sb_val (hReg rfl) (sm_pu (sp_int)) (sb_val (hReg rfl) (sm_pu (sp_var 0)) (sb_nil)))))
    (ss_seq (ss_asg (show 4 ∉ [0, 1] by decide) (sm_callD (sb_val (hReg rfl) (sm_pu (sp_int)) (sb_val (hReg rfl) (sm_pu (sp_var 0)) (sb_nil)))))
    (ss_seq (ss_asg (show 5 ∉ [0, 1] by decide) (sm_callD (sb_val (hReg rfl) (sm_pu (sp_int)) (sb_val (hReg rfl) (sm_pu (sp_var 0)) (sb_nil)))))
    (ss_seq (ss_asg (show 6 ∉ [0, 1] by decide) (sm_callD (sb_val (hReg rfl) (sm_pu (sp_int)) (sb_val (hReg rfl) (sm_pu (sp_var 0)) (sb_nil)))))
    (ss_seq (ss_asg (show 7 ∉ [0, 1] by decide) (sm_callD (sb_val (hReg rfl) (sm_pu (sp_int)) (sb_val (hReg rfl) (sm_pu (sp_var 0)) (sb_nil)))))
    (ss_seq (ss_asg (show 8 ∉ [0, 1] by decide) (sm_pu (sp_int)))
    (ss_seq (ss_forR1 (show 9 ∉ [0, 1] by decide) (sa_cons (hReg rfl) (sm_pu (sp_op rd_add (sp_var 1) (sp_int))) (sa_nil)) (ss_forR1 (show 10 ∉ [0, 1] by decide) (sa_cons (hReg rfl) (sm_pu (sp_op rd_sub (sp_op rd_add (sp_var 1) (sp_int)) (sp_var 9))) (sa_nil)) (ss_seq (ss_asg (show 11 ∉ [0, 1] by decide) (sm_pu (sp_op rd_sub (sp_op rd_sub (sp_var 1) (sp_var 9)) (sp_var 10))))
    (ss_seq (ss_asg (show 12 ∉ [0, 1] by decide) (sm_pu (sp_op rd_sub (sp_op rd_sub (sp_op rd_sub (sp_var 0) (sp_op rd_mul (sp_int) (sp_var 9))) (sp_op rd_mul (sp_int) (sp_var 10))) (sp_op rd_mul (sp_int) (sp_var 11)))))
    (ss_forR1 (show 13 ∉ [0, 1] by decide) (sa_cons (hReg rfl) (sm_pu (sp_op rd_add (sp_op rd_div (sp_var 12) (sp_int)) (sp_int))) (sa_nil)) (ss_seq (ss_asg (show 14 ∉ [0, 1] by decide) (sm_pu (sp_op rd_mul (sp_op rd_mul (sp_op rd_mul (sp_op rd_mul (sp_op rd_ix (sp_var 2) (sp_op rd_sub (sp_var 12) (sp_op rd_mul (sp_int) (sp_var 13)))) (sp_op rd_ix (sp_var 2) (sp_var 13))) (sp_op rd_ix (sp_var 2) (sp_var 11))) (sp_op rd_ix (sp_var 2) (sp_var 10))) (sp_op rd_ix (sp_var 2) (sp_var 9)))))
    (ss_seq (ss_asg (show 14 ∉ [0, 1] by decide) (sm_pu (sp_op rd_mul (sp_op rd_mul (sp_op rd_mul (sp_op rd_mul (sp_var 14) (sp_op rd_ix (sp_var 3) (sp_var 13))) (sp_op rd_ix (sp_var 3) (sp_var 11))) (sp_op rd_ix (sp_var 4) (sp_var 10))) (sp_op rd_ix (sp_var 5) (sp_var 9)))))
    (ss_asg (show 8 ∉ [0, 1] by decide) (sm_pu (sp_op rd_add (sp_var 8) (sp_op rd_mul (sp_op rd_mul (sp_op rd_mul (sp_op rd_div (sp_op rd_ix (sp_var 2) (sp_var 0)) (sp_var 14)) (sp_op rd_ix (sp_var 3) (sp_var 11))) (sp_op rd_ix (sp_var 6) (sp_var 10))) (sp_op rd_ix (sp_var 7) (sp_var 9)))))))))))))
    (ss_ret (sm_pu (sp_var 8))))))))))⟩
theorem sc_law_in_all : FnScope N_law_in_all P_law_in_all (defScope s_law_in_all) := ⟨rfl, rfl, rfl, by decide +kernel, rfl, by decide +kernel, by decide +kernel⟩
theorem ok_law_in_all {f : Addr} {fd : FuncData} (F : Fun K "_law_in_all" "_law_in_all" s_law_in_all f fd) (T : Txt K mg a_law_factorials a_law_powers a_choose a_block a_totals a_torn_counts a_count_images a_law_bag a_law_take a_law_with_torn a_law_is a_count_states a_law_in_all c_FORM_COUNTS f_law_factorials f_law_powers f_choose f_block f_totals f_torn_counts f_count_images f_law_bag f_law_take f_law_with_torn f_law_is f_count_states f_law_in_all) : FnOk P w K mg base CX0 1 f fd P_law_in_all (spM K (C0 [0]) mf_law_in_all) := by
  refine fun_ok (N := N_law_in_all) (n := 4) (np := 1) (pn := [0]) (body := mb_law_in_all) F sc_law_in_all rfl rfl rfl (by decide) (by decide) fun cdv A outer s H E hr => ⟨_, pss_cons (psx sl_law_in_all_1 (sc_law_in_all).nd rfl rfl rfl (pe_lst (pa_cons (pe_int) (pa_nil))))
    (pss_cons (ps_for PassesOwn.never rfl (pi_range2 (glx gl_law_in_all_range rfl) T.b_range (pa_cons (pe_int) (pa_cons (pe_op op_add (pvx sl_law_in_all_0 rfl rfl) (pe_int)) (pa_nil)))) (pgx sl_law_in_all_2 (sc_law_in_all).nd rfl rfl rfl) (pss_cons (psx sl_law_in_all_3 (sc_law_in_all).nd rfl rfl rfl (pe_ix ix_seq (pvx sl_law_in_all_1 rfl rfl) (pe_op op_sub (pvx sl_law_in_all_2 rfl rfl) (pe_int)) (fun _ _ => rfl)))
    (pss_cons (ps_if (pt_cmpR op_gt (pvx sl_law_in_all_2 rfl rfl) (pe_int) (nomark _)) (pss_one (psx sl_law_in_all_3 (sc_law_in_all).nd rfl rfl rfl (pe_op op_add (pvx sl_law_in_all_3 rfl rfl) (pe_op op_mulA (pe_op op_mulA (pe_int) (pe_op op_sub (pvx sl_law_in_all_2 rfl rfl) (pe_int))) (pe_ix ix_seq (pvx sl_law_in_all_1 rfl rfl) (pe_op op_sub (pvx sl_law_in_all_2 rfl rfl) (pe_int)) (fun _ _ => rfl)))))) (pss_nil))
    (pss_cons (ps_if (pt_cmpR op_gt (pvx sl_law_in_all_2 rfl rfl) (pe_int) (nomark _)) (pss_one (psx sl_law_in_all_3 (sc_law_in_all).nd rfl rfl rfl (pe_op op_add (pvx sl_law_in_all_3 rfl rfl) (pe_op op_mulA (pe_op op_mulA (pe_op op_mulA (pe_int) (pe_op op_sub (pvx sl_law_in_all_2 rfl rfl) (pe_int))) (pe_op op_sub (pvx sl_law_in_all_2 rfl rfl) (pe_int))) (pe_ix ix_seq (pvx sl_law_in_all_1 rfl rfl) (pe_op op_sub (pvx sl_law_in_all_2 rfl rfl) (pe_int)) (fun _ _ => rfl)))))) (pss_nil))
    (pss_cons (ps_if (pt_cmpR op_gt (pvx sl_law_in_all_2 rfl rfl) (pe_int) (nomark _)) (pss_one (psx sl_law_in_all_3 (sc_law_in_all).nd rfl rfl rfl (pe_op op_add (pvx sl_law_in_all_3 rfl rfl) (pe_op op_mulA (pe_op op_mulA (pe_op op_mulA (pe_op op_mulA (pe_int) (pe_op op_sub (pvx sl_law_in_all_2 rfl rfl) (pe_int))) (pe_op op_sub (pvx sl_law_in_all_2 rfl rfl) (pe_int))) (pe_op op_sub (pvx sl_law_in_all_2 rfl rfl) (pe_int))) (pe_ix ix_seq (pvx sl_law_in_all_1 rfl rfl) (pe_op op_sub (pvx sl_law_in_all_2 rfl rfl) (pe_int)) (fun _ _ => rfl)))))) (pss_nil))
    (pss_one (ps_expr (pe_bm PySem.F.plainAttrs_list PySem.F.slot_list_append PySem.F.type_list_append mt_append (pvx sl_law_in_all_1 rfl rfl) (pa_cons (pvx sl_law_in_all_3 rfl rfl) pa_nil)))))))))
    (pss_one (ps_ret (pe_ix ix_seq (pvx sl_law_in_all_1 rfl rfl) (pvx sl_law_in_all_0 rfl rfl) (fun _ _ => rfl))))),
    ss_seq (ss_asg (show 1 ∉ [0] by decide) (sm_lst (sa_cons (hReg rfl) (sm_pu (sp_int)) (sa_nil))))
    (ss_seq (ss_forR2 (show 2 ∉ [0] by decide) (sa_cons (hReg rfl) (sm_pu (sp_int)) (sa_cons (hReg rfl) (sm_pu (sp_op rd_add (sp_var 0) (sp_int))) (sa_nil))) (ss_seq (ss_asg (show 3 ∉ [0] by decide) (sm_pu (sp_op rd_ix (sp_var 1) (sp_op rd_sub (sp_var 2) (sp_int)))))
    (ss_seq (ss_if (st_pu (spt_t (sp_op rd_gt (sp_var 2) (sp_int)))) (ss_asg (show 3 ∉ [0] by decide) (sm_pu (sp_op rd_add (sp_var 3) (sp_op rd_mul (sp_op rd_mul (sp_int) (sp_op rd_sub (sp_var 2) (sp_int))) (sp_op rd_ix (sp_var 1) (sp_op rd_sub (sp_var 2) (sp_int))))))) (ss_nx))
    (ss_seq (ss_if (st_pu (spt_t (sp_op rd_gt (sp_var 2) (sp_int)))) (ss_asg (show 3 ∉ [0] by decide) (sm_pu (sp_op rd_add (sp_var 3) (sp_op rd_mul (sp_op rd_mul (sp_op rd_mul (sp_int) (sp_op rd_sub (sp_var 2) (sp_int))) (sp_op rd_sub (sp_var 2) (sp_int))) (sp_op rd_ix (sp_var 1) (sp_op rd_sub (sp_var 2) (sp_int))))))) (ss_nx))
    (ss_seq (ss_if (st_pu (spt_t (sp_op rd_gt (sp_var 2) (sp_int)))) (ss_asg (show 3 ∉ [0] by decide) (sm_pu (sp_op rd_add (sp_var 3) (sp_op rd_mul (sp_op rd_mul (sp_op rd_mul (sp_op rd_mul (sp_int) (sp_op rd_sub (sp_var 2) (sp_int))) (sp_op rd_sub (sp_var 2) (sp_int))) (sp_op rd_sub (sp_var 2) (sp_int))) (sp_op rd_ix (sp_var 1) (sp_op rd_sub (sp_var 2) (sp_int))))))) (ss_nx))
    (ss_app (sm_pu (sp_var 3))))))))
    (ss_ret (sm_pu (sp_op rd_ix (sp_var 1) (sp_var 0)))))⟩
theorem sc_law_is : FnScope N_law_is P_law_is (defScope s_law_is) := ⟨rfl, rfl, rfl, by decide +kernel, rfl, by decide +kernel, by decide +kernel⟩
theorem ok_law_is {f : Addr} {fd : FuncData} (F : Fun K "_law_is" "_law_is" s_law_is f fd) (T : Txt K mg a_law_factorials a_law_powers a_choose a_block a_totals a_torn_counts a_count_images a_law_bag a_law_take a_law_with_torn a_law_is a_count_states a_law_in_all c_FORM_COUNTS f_law_factorials f_law_powers f_choose f_block f_totals f_torn_counts f_count_images f_law_bag f_law_take f_law_with_torn f_law_is f_count_states f_law_in_all) : FnOk P w K mg base CX0 1 f fd P_law_is (spM K (C0 [0, 1]) mf_law_is) := by
  refine fun_ok (N := N_law_is) (n := 2) (np := 2) (pn := [0, 1]) (body := mb_law_is) F sc_law_is rfl rfl rfl (by decide) (by decide) fun cdv A outer s H E hr => ⟨_, pss_one (ps_ret (pe_and (pe_callB (hn := nn_isinstance) (hdb := nd_isinstance) call_isi (glx gl_law_is_isinstance rfl) T.b_isinstance bt_isinstance (pa_cons (pvx sl_law_is_0 rfl rfl) (pa_cons (pe_bltn (hn := nn_int) (hd := nd_int) (v := .ty "int") (glx gl_law_is_int rfl) T.b_int bt_int rfl) pa_nil))) (pe_and (pe_not (pe_callB (hn := nn_isinstance) (hdb := nd_isinstance) call_isi (glx gl_law_is_isinstance rfl) T.b_isinstance bt_isinstance (pa_cons (pvx sl_law_is_0 rfl rfl) (pa_cons (pe_bltn (hn := nn_bool) (hd := nd_bool) (v := .ty "bool") (glx gl_law_is_bool rfl) T.b_bool bt_bool rfl) pa_nil)))) (pe_one (pe_cmpR op_eq (pvx sl_law_is_0 rfl rfl) (pvx sl_law_is_1 rfl rfl) (nomark _)))))),
    ss_ret (sm_pu (sp_and (sp_isi (n := "int") (sp_var 0)) (sp_and (sp_not (sp_isi (n := "bool") (sp_var 0))) (sp_op rd_eqS (sp_var 0) (sp_var 1)))))⟩
theorem sc_choose : FnScope N_choose P_choose (defScope s_choose) := ⟨rfl, rfl, rfl, by decide +kernel, rfl, by decide +kernel, by decide +kernel⟩
theorem ok_choose {f : Addr} {fd : FuncData} (F : Fun K "choose" "choose" s_choose f fd) (T : Txt K mg a_law_factorials a_law_powers a_choose a_block a_totals a_torn_counts a_count_images a_law_bag a_law_take a_law_with_torn a_law_is a_count_states a_law_in_all c_FORM_COUNTS f_law_factorials f_law_powers f_choose f_block f_totals f_torn_counts f_count_images f_law_bag f_law_take f_law_with_torn f_law_is f_count_states f_law_in_all) : FnOk P w K mg base CX0 1 f fd P_choose (spM K (C0 [0, 1]) mf_choose) := by
  refine fun_ok (N := N_choose) (n := 2) (np := 2) (pn := [0, 1]) (body := mb_choose) F sc_choose rfl rfl rfl (by decide) (by decide) fun cdv A outer s H E hr => ⟨_, pss_cons (ps_if (PW.pt (pw_or (pt_cmpR op_lt (pvx sl_choose_1 rfl rfl) (pe_int) (nomark _)) (pw_or1 (pt_cmpR op_gt (pvx sl_choose_1 rfl rfl) (pvx sl_choose_0 rfl rfl) (nomark _))))) (pss_one (ps_ret (pe_int))) (pss_nil))
    (pss_one (ps_ret (pe_callBfun (hdb := nd_comb) cr_comb (glx gl_choose_comb rfl) T.g_comb (pa_cons (pvx sl_choose_0 rfl rfl) (pa_cons (pvx sl_choose_1 rfl rfl) (pa_nil)))))),
    ss_seq (ss_if (st_pu (spt_or (spt_t (sp_op rd_lt (sp_var 1) (sp_int))) (spt_t (sp_op rd_gt (sp_var 1) (sp_var 0))))) (ss_ret (sm_pu (sp_int))) (ss_nx))
    (ss_ret (sm_pu (sp_call rd_comb (spa_cons (sp_var 0) (spa_cons (sp_var 1) (spa_nil))))))⟩
theorem sc_torn_counts : FnScope N_torn_counts P_torn_counts (defScope s_torn_counts) := ⟨rfl, rfl, rfl, by decide +kernel, rfl, by decide +kernel, by decide +kernel⟩
theorem ok_torn_counts {f : Addr} {fd : FuncData} (F : Fun K "torn_counts" "torn_counts" s_torn_counts f fd) (T : Txt K mg a_law_factorials a_law_powers a_choose a_block a_totals a_torn_counts a_count_images a_law_bag a_law_take a_law_with_torn a_law_is a_count_states a_law_in_all c_FORM_COUNTS f_law_factorials f_law_powers f_choose f_block f_totals f_torn_counts f_count_images f_law_bag f_law_take f_law_with_torn f_law_is f_count_states f_law_in_all) (G_choose : FnOk P w K mg base CX0 1 a_choose f_choose P_choose (spM K (C0 [0, 1]) mf_choose)) : FnOk P w K mg base CX0 2 f fd P_torn_counts (spM K (C0 [0, 1]) mf_torn_counts) := by
  refine fun_ok (N := N_torn_counts) (n := 13) (np := 2) (pn := [0, 1]) (body := mb_torn_counts) F sc_torn_counts rfl rfl rfl (by decide) (by decide) fun cdv A outer s H E hr => ⟨_, pss_cons (psx sl_torn_counts_2 (sc_torn_counts).nd rfl rfl rfl (pe_op op_rep (pe_lst (pa_cons (pe_int) (pa_nil))) (pe_op op_add (pvx sl_torn_counts_1 rfl rfl) (pe_int))))
    (pss_cons (ps_asg (pe_tup (pa_cons (pe_lst (pa_cons (pe_int) (pa_star (pe_slice sl_list (pvx sl_torn_counts_2 rfl rfl) (po_some (pe_int)) (po_none)) (pa_nil)))) (pa_cons (pvx sl_torn_counts_2 rfl rfl) (pa_cons (pvx sl_torn_counts_2 rfl rfl) (pa_cons (pvx sl_torn_counts_2 rfl rfl) (pa_nil)))))) (pg_tup rfl (pgs_cons (pgx sl_torn_counts_3 (sc_torn_counts).nd rfl rfl rfl) (pgs_cons (pgx sl_torn_counts_4 (sc_torn_counts).nd rfl rfl rfl) (pgs_cons (pgx sl_torn_counts_5 (sc_torn_counts).nd rfl rfl rfl) (pgs_cons (pgx sl_torn_counts_6 (sc_torn_counts).nd rfl rfl rfl) (pgs_nil)))))))
    (pss_cons (ps_for PassesOwn.never rfl (pi_range1 (glx gl_torn_counts_range rfl) T.b_range (pa_cons (pvx sl_torn_counts_0 rfl rfl) (pa_nil))) (pgx sl_torn_counts_7 (sc_torn_counts).nd rfl rfl rfl) (pss_cons (psx sl_torn_counts_8 (sc_torn_counts).nd rfl rfl rfl (pe_op op_mulA (pe_ix ix_seq (pe_glob (hd := nd_FORM_COUNTS) (glx gl_torn_counts_FORM_COUNTS rfl) T.mg_FORM_COUNTS T.r_FORM_COUNTS) (pe_int) (fun _ _ => rfl)) (pe_call (hdb := nd_choose) G_choose (hr.mono (by decide)) (glx gl_torn_counts_choose rfl) T.mg_choose T.k_choose T.bn_choose .nil pass0 (pa_cons (pvx sl_torn_counts_7 rfl rfl) (pa_cons (pe_int) (pa_nil))))))
    (pss_cons (psx sl_torn_counts_9 (sc_torn_counts).nd rfl rfl rfl (pe_op op_mulA (pe_ix ix_seq (pe_glob (hd := nd_FORM_COUNTS) (glx gl_torn_counts_FORM_COUNTS rfl) T.mg_FORM_COUNTS T.r_FORM_COUNTS) (pe_int) (fun _ _ => rfl)) (pe_call (hdb := nd_choose) G_choose (hr.mono (by decide)) (glx gl_torn_counts_choose rfl) T.mg_choose T.k_choose T.bn_choose .nil pass0 (pa_cons (pvx sl_torn_counts_7 rfl rfl) (pa_cons (pe_int) (pa_nil))))))
    (pss_cons (psx sl_torn_counts_10 (sc_torn_counts).nd rfl rfl rfl (pe_lst (pa_cons (pe_op op_add (pe_ix ix_seq (pvx sl_torn_counts_3 rfl rfl) (pe_int) (fun _ _ => rfl)) (pe_op op_mulA (pvx sl_torn_counts_7 rfl rfl) (pe_ix ix_seq (pvx sl_torn_counts_4 rfl rfl) (pe_int) (fun _ _ => rfl)))) (pa_nil))))
    (pss_cons (ps_for PassesOwn.never rfl (pi_range2 (glx gl_torn_counts_range rfl) T.b_range (pa_cons (pe_int) (pa_cons (pe_op op_add (pvx sl_torn_counts_1 rfl rfl) (pe_int)) (pa_nil)))) (pgx sl_torn_counts_11 (sc_torn_counts).nd rfl rfl rfl) (pss_cons (psx sl_torn_counts_12 (sc_torn_counts).nd rfl rfl rfl (pe_op op_add (pe_op op_add (pe_op op_mulA (pe_op op_mulA (pe_int) (pvx sl_torn_counts_7 rfl rfl)) (pe_ix ix_seq (pvx sl_torn_counts_4 rfl rfl) (pe_op op_sub (pvx sl_torn_counts_11 rfl rfl) (pe_int)) (fun _ _ => rfl))) (pe_op op_mulA (pvx sl_torn_counts_8 rfl rfl) (pe_ix ix_seq (pvx sl_torn_counts_5 rfl rfl) (pe_op op_sub (pvx sl_torn_counts_11 rfl rfl) (pe_int)) (fun _ _ => rfl)))) (pe_op op_mulA (pvx sl_torn_counts_9 rfl rfl) (pe_ix ix_seq (pvx sl_torn_counts_6 rfl rfl) (pe_op op_sub (pvx sl_torn_counts_11 rfl rfl) (pe_int)) (fun _ _ => rfl)))))
    (pss_one (ps_expr (pe_bm PySem.F.plainAttrs_list PySem.F.slot_list_append PySem.F.type_list_append mt_append (pvx sl_torn_counts_10 rfl rfl) (pa_cons (pe_op op_add (pe_op op_add (pe_ix ix_seq (pvx sl_torn_counts_3 rfl rfl) (pvx sl_torn_counts_11 rfl rfl) (fun _ _ => rfl)) (pe_op op_mulA (pvx sl_torn_counts_7 rfl rfl) (pe_ix ix_seq (pvx sl_torn_counts_4 rfl rfl) (pvx sl_torn_counts_11 rfl rfl) (fun _ _ => rfl)))) (pvx sl_torn_counts_12 rfl rfl)) pa_nil))))))
    (pss_one (ps_asg (pe_tup (pa_cons (pvx sl_torn_counts_10 rfl rfl) (pa_cons (pvx sl_torn_counts_3 rfl rfl) (pa_cons (pvx sl_torn_counts_4 rfl rfl) (pa_cons (pvx sl_torn_counts_5 rfl rfl) (pa_nil)))))) (pg_tup rfl (pgs_cons (pgx sl_torn_counts_3 (sc_torn_counts).nd rfl rfl rfl) (pgs_cons (pgx sl_torn_counts_4 (sc_torn_counts).nd rfl rfl rfl) (pgs_cons (pgx sl_torn_counts_5 (sc_torn_counts).nd rfl rfl rfl) (pgs_cons (pgx sl_torn_counts_6 (sc_torn_counts).nd rfl rfl rfl) (pgs_nil)))))))))))))
    (pss_one (ps_ret (pvx sl_torn_counts_3 rfl rfl))))),
    ss_seq (ss_asg (show 2 ∉ [0, 1] by decide) (sm_op2Ap rd_rep (sm_lst (sa_cons (hReg rfl) (sm_pu (sp_int)) (sa_nil))) (sp_op rd_add (sp_var 1) (sp_int))))
    (ss_seq (ss_asgT (is := [3, 4, 5, 6]) rfl (show ∀ i ∈ [3, 4, 5, 6], i ∉ [0, 1] by decide) (sm_tup (sa_cons (hReg rfl) (sm_lst (sa_cons (hReg rfl) (sm_pu (sp_int)) (sa_star (hReg rfl) (sm_cut (sp_var 2) (spo_some (sp_int)) (spo_none)) (sa_nil)))) (sa_cons (hReg rfl) (sm_frz 2) (sa_cons (hReg rfl) (sm_frz 2) (sa_cons (hReg rfl) (sm_frz 2) (sa_nil)))))))
    (ss_seq (ss_forR1 (show 7 ∉ [0, 1] by decide) (sa_cons (hReg rfl) (sm_pu (sp_var 0)) (sa_nil)) (ss_seq (ss_asg (show 8 ∉ [0, 1] by decide) (sm_op (hReg rfl) rd_mul (sm_pu (sp_op rd_ix ((sp_c T.d_FORM_COUNTS)) (sp_int))) (sm_callD (sb_val (hReg rfl) (sm_pu (sp_var 7)) (sb_val (hReg rfl) (sm_pu (sp_int)) (sb_nil))))))
    (ss_seq (ss_asg (show 9 ∉ [0, 1] by decide) (sm_op (hReg rfl) rd_mul (sm_pu (sp_op rd_ix ((sp_c T.d_FORM_COUNTS)) (sp_int))) (sm_callD (sb_val (hReg rfl) (sm_pu (sp_var 7)) (sb_val (hReg rfl) (sm_pu (sp_int)) (sb_nil))))))
    (ss_seq (ss_asg (show 10 ∉ [0, 1] by decide) (sm_lst (sa_cons (hReg rfl) (sm_pu (sp_op rd_add (sp_op rd_ix (sp_var 3) (sp_int)) (sp_op rd_mul (sp_var 7) (sp_op rd_ix (sp_var 4) (sp_int))))) (sa_nil))))
    (ss_seq (ss_forR2 (show 11 ∉ [0, 1] by decide) (sa_cons (hReg rfl) (sm_pu (sp_int)) (sa_cons (hReg rfl) (sm_pu (sp_op rd_add (sp_var 1) (sp_int))) (sa_nil))) (ss_seq (ss_asg (show 12 ∉ [0, 1] by decide) (sm_pu (sp_op rd_add (sp_op rd_add (sp_op rd_mul (sp_op rd_mul (sp_int) (sp_var 7)) (sp_op rd_ix (sp_var 4) (sp_op rd_sub (sp_var 11) (sp_int)))) (sp_op rd_mul (sp_var 8) (sp_op rd_ix (sp_var 5) (sp_op rd_sub (sp_var 11) (sp_int))))) (sp_op rd_mul (sp_var 9) (sp_op rd_ix (sp_var 6) (sp_op rd_sub (sp_var 11) (sp_int)))))))
    (ss_app (sm_pu (sp_op rd_add (sp_op rd_add (sp_op rd_ix (sp_var 3) (sp_var 11)) (sp_op rd_mul (sp_var 7) (sp_op rd_ix (sp_var 4) (sp_var 11)))) (sp_var 12))))))
    (ss_asgT (is := [3, 4, 5, 6]) rfl (show ∀ i ∈ [3, 4, 5, 6], i ∉ [0, 1] by decide) (sm_tup (sa_cons (hReg rfl) (sm_frz 10) (sa_cons (hReg rfl) (sm_frz 3) (sa_cons (hReg rfl) (sm_frz 4) (sa_cons (hReg rfl) (sm_frz 5) (sa_nil))))))))))))
    (ss_ret (sm_mov 3))))⟩
theorem sc_block : FnScope N_block P_block (defScope s_block) := ⟨rfl, rfl, rfl, by decide +kernel, rfl, by decide +kernel, by decide +kernel⟩
theorem ok_block {f : Addr} {fd : FuncData} (F : Fun K "_block" "_block" s_block f fd) (T : Txt K mg a_law_factorials a_law_powers a_choose a_block a_totals a_torn_counts a_count_images a_law_bag a_law_take a_law_with_torn a_law_is a_count_states a_law_in_all c_FORM_COUNTS f_law_factorials f_law_powers f_choose f_block f_totals f_torn_counts f_count_images f_law_bag f_law_take f_law_with_torn f_law_is f_count_states f_law_in_all) (G_choose : FnOk P w K mg base CX0 1 a_choose f_choose P_choose (spM K (C0 [0, 1]) mf_choose)) : FnOk P w K mg base CX0 2 f fd P_block (spM K (C0 [0, 1, 2]) mf_block) := by
  refine fun_ok (N := N_block) (n := 3) (np := 3) (pn := [0, 1, 2]) (body := mb_block) F sc_block rfl rfl rfl (by decide) (by decide) fun cdv A outer s H E hr => ⟨_, pss_one (ps_ret (pe_op op_mulA (pe_op op_mulA (pe_call (hdb := nd_choose) G_choose (hr.mono (by decide)) (glx gl_block_choose rfl) T.mg_choose T.k_choose T.bn_choose .nil pass0 (pa_cons (pe_op op_sub (pvx sl_block_1 rfl rfl) (pe_int)) (pa_cons (pe_op op_sub (pvx sl_block_2 rfl rfl) (pe_int)) (pa_nil)))) (pe_ix ix_seq (pe_glob (hd := nd_FORM_COUNTS) (glx gl_block_FORM_COUNTS rfl) T.mg_FORM_COUNTS T.r_FORM_COUNTS) (pvx sl_block_2 rfl rfl) (fun _ _ => rfl))) (pe_ix ix_seq (pvx sl_block_0 rfl rfl) (pe_op op_sub (pvx sl_block_1 rfl rfl) (pvx sl_block_2 rfl rfl)) (fun _ _ => rfl)))),
    ss_ret (sm_opP rd_mul (sm_opP rd_mul (sm_callD (sb_val (hReg rfl) (sm_pu (sp_op rd_sub (sp_var 1) (sp_int))) (sb_val (hReg rfl) (sm_pu (sp_op rd_sub (sp_var 2) (sp_int))) (sb_nil)))) (sp_op rd_ix ((sp_c T.d_FORM_COUNTS)) (sp_var 2))) (sp_op rd_ix (sp_var 0) (sp_op rd_sub (sp_var 1) (sp_var 2))))⟩
theorem sc_totals : FnScope N_totals P_totals (defScope s_totals) := ⟨rfl, rfl, rfl, by decide +kernel, rfl, by decide +kernel, by decide +kernel⟩
theorem ok_totals {f : Addr} {fd : FuncData} (F : Fun K "totals" "totals" s_totals f fd) (T : Txt K mg a_law_factorials a_law_powers a_choose a_block a_totals a_torn_counts a_count_images a_law_bag a_law_take a_law_with_torn a_law_is a_count_states a_law_in_all c_FORM_COUNTS f_law_factorials f_law_powers f_choose f_block f_totals f_torn_counts f_count_images f_law_bag f_law_take f_law_with_torn f_law_is f_count_states f_law_in_all) (G_block : FnOk P w K mg base CX0 2 a_block f_block P_block (spM K (C0 [0, 1, 2]) mf_block)) : FnOk P w K mg base CX0 3 f fd P_totals (spM K (C0 [0]) mf_totals) := by
  obtain ⟨t_LARGEST, mg_LARGEST⟩ := T.mg_LARGEST
  refine fun_ok (N := N_totals) (n := 4) (np := 1) (pn := [0]) (body := mb_totals) F sc_totals rfl rfl rfl (by decide) (by decide) fun cdv A outer s H E hr => ⟨_, pss_cons (psx sl_totals_1 (sc_totals).nd rfl rfl rfl (pe_lst (pa_cons (pe_int) (pa_nil))))
    (pss_cons (ps_for PassesOwn.never rfl (pi_range2 (glx gl_totals_range rfl) T.b_range (pa_cons (pe_int) (pa_cons (pe_op op_add (pvx sl_totals_0 rfl rfl) (pe_int)) (pa_nil)))) (pgx sl_totals_2 (sc_totals).nd rfl rfl rfl) (pss_one (ps_expr (pe_bm PySem.F.plainAttrs_list PySem.F.slot_list_append PySem.F.type_list_append mt_append (pvx sl_totals_1 rfl rfl) (pa_cons (pe_callB (hn := nn_sum) (hdb := nd_sum) (cr_sum rfl) (glx gl_totals_sum rfl) T.b_sum bt_sum (pa_cons (pe_lc (own := [("many", 3)]) (g := gName 3) (tt := tYes) rfl (sc_totals).nd (pi_range2 (glx gl_totals_range rfl) T.b_range (pa_cons (pe_int) (pa_cons (pe_op op_add (pe_callB (hn := nn_min) (hdb := nd_min) (call_min2 rfl) (glx gl_totals_min rfl) T.b_min bt_min (pa_cons (pvx sl_totals_2 rfl rfl) (pa_cons (pe_glob (hd := nd_LARGEST) (glx gl_totals_LARGEST rfl) (v := .int 4) mg_LARGEST ⟨_, rfl⟩) (pa_nil)))) (pe_int)) (pa_nil)))) (blkOk_by (N := N_totals) (sc := defScope s_totals) (by decide +kernel)) (fun _ _ _ _ _ => pg_name (i := 3) (sc_totals).nd rfl (Or.inl rfl)) (fun _ _ _ _ _ => pts_nil) (fun _ _ _ _ _ => pe_call (hdb := nd__block) G_block (hr.mono (by decide)) (by rfl) T.mg_block T.k_block T.bn_block .nil pass0 (pa_cons (pv 1) (pa_cons (pv 2) (pa_cons (pv 3) (pa_nil)))))) (pa_nil))) pa_nil)))))
    (pss_one (ps_ret (pvx sl_totals_1 rfl rfl)))),
    ss_seq (ss_asg (show 1 ∉ [0] by decide) (sm_lst (sa_cons (hReg rfl) (sm_pu (sp_int)) (sa_nil))))
    (ss_seq (ss_forR2 (show 2 ∉ [0] by decide) (sa_cons (hReg rfl) (sm_pu (sp_int)) (sa_cons (hReg rfl) (sm_pu (sp_op rd_add (sp_var 0) (sp_int))) (sa_nil))) (ss_app (sm_call rd_sum (sa_cons (hReg rfl) (sm_lcR2 (by decide) (sa_cons (hReg rfl) (sm_pu (sp_int)) (sa_cons (hReg rfl) (sm_pu (sp_op rd_add (sp_call rd_min2 (spa_cons (sp_var 2) (spa_cons ((sp_int : SP K _ (pC d_LARGEST))) (spa_nil)))) (sp_int))) (sa_nil))) (st_yes) (sm_callD (sb_slot (hReg rfl) (sb_val (hReg rfl) (sm_pu (sp_var 2)) (sb_val (hReg rfl) (sm_pu (sp_var 3)) (sb_nil)))))) (sa_nil)))))
    (ss_ret (sm_mov 1)))⟩
theorem sc_count_images : FnScope N_count_images P_count_images (defScope s_count_images) := ⟨rfl, rfl, rfl, by decide +kernel, rfl, by decide +kernel, by decide +kernel⟩
theorem ok_count_images {f : Addr} {fd : FuncData} (F : Fun K "count_images" "count_images" s_count_images f fd) (T : Txt K mg a_law_factorials a_law_powers a_choose a_block a_totals a_torn_counts a_count_images a_law_bag a_law_take a_law_with_torn a_law_is a_count_states a_law_in_all c_FORM_COUNTS f_law_factorials f_law_powers f_choose f_block f_totals f_torn_counts f_count_images f_law_bag f_law_take f_law_with_torn f_law_is f_count_states f_law_in_all) (G_totals : FnOk P w K mg base CX0 3 a_totals f_totals P_totals (spM K (C0 [0]) mf_totals)) (G_torn_counts : FnOk P w K mg base CX0 2 a_torn_counts f_torn_counts P_torn_counts (spM K (C0 [0, 1]) mf_torn_counts)) : FnOk P w K mg base CX0 4 f fd P_count_images (spM K (C0 [0, 1]) mf_count_images) := by
  refine fun_ok (N := N_count_images) (n := 2) (np := 2) (pn := [0, 1]) (body := mb_count_images) F sc_count_images rfl rfl rfl (by decide) (by decide) fun cdv A outer s H E hr => ⟨_, pss_cons (ps_if (pt_cmpR op_lt (pvx sl_count_images_0 rfl rfl) (pe_int) (nomark _)) (pss_one (ps_ret (pe_int))) (pss_nil))
    (pss_cons (ps_if (pt_cmpR op_isN (pvx sl_count_images_1 rfl rfl) (pe_non) (nomark _)) (pss_one (ps_ret (pe_ix ix_seq (pe_call (hdb := nd_totals) G_totals (hr.mono (by decide)) (glx gl_count_images_totals rfl) T.mg_totals T.k_totals T.bn_totals .nil pass0 (pa_cons (pvx sl_count_images_0 rfl rfl) (pa_nil))) (pvx sl_count_images_0 rfl rfl) (fun _ _ => rfl)))) (pss_nil))
    (pss_cons (ps_if (PW.pt (pw_or (pt_cmpR op_lt (pvx sl_count_images_1 rfl rfl) (pe_int) (nomark _)) (pw_or1 (pt_cmpR op_gt (pe_op op_mulA (pe_int) (pvx sl_count_images_1 rfl rfl)) (pvx sl_count_images_0 rfl rfl) (nomark _))))) (pss_one (ps_ret (pe_int))) (pss_nil))
    (pss_one (ps_ret (pe_ix ix_seq (pe_call (hdb := nd_torn_counts) G_torn_counts (hr.mono (by decide)) (glx gl_count_images_torn_counts rfl) T.mg_torn_counts T.k_torn_counts T.bn_torn_counts .nil pass0 (pa_cons (pvx sl_count_images_0 rfl rfl) (pa_cons (pvx sl_count_images_1 rfl rfl) (pa_nil)))) (pvx sl_count_images_1 rfl rfl) (fun _ _ => rfl)))))),
    ss_seq (ss_if (st_pu (spt_t (sp_op rd_lt (sp_var 0) (sp_int)))) (ss_ret (sm_pu (sp_int))) (ss_nx))
    (ss_seq (ss_if (st_pu (spt_t (sp_op rd_isN (sp_var 1) (sp_non)))) (ss_ret (sm_opP rd_ix (sm_callD (sb_val (hReg rfl) (sm_pu (sp_var 0)) (sb_nil))) (sp_var 0))) (ss_nx))
    (ss_seq (ss_if (st_pu (spt_or (spt_t (sp_op rd_lt (sp_var 1) (sp_int))) (spt_t (sp_op rd_gt (sp_op rd_mul (sp_int) (sp_var 1)) (sp_var 0))))) (ss_ret (sm_pu (sp_int))) (ss_nx))
    (ss_ret (sm_opP rd_ix (sm_callD (sb_val (hReg rfl) (sm_pu (sp_var 0)) (sb_val (hReg rfl) (sm_pu (sp_var 1)) (sb_nil)))) (sp_var 1)))))⟩
theorem sc_count_states : FnScope N_count_states P_count_states (defScope s_count_states) := ⟨rfl, rfl, rfl, by decide +kernel, rfl, by decide +kernel, by decide +kernel⟩
theorem ok_count_states {f : Addr} {fd : FuncData} (F : Fun K "count_states" "count_states" s_count_states f fd) (T : Txt K mg a_law_factorials a_law_powers a_choose a_block a_totals a_torn_counts a_count_images a_law_bag a_law_take a_law_with_torn a_law_is a_count_states a_law_in_all c_FORM_COUNTS f_law_factorials f_law_powers f_choose f_block f_totals f_torn_counts f_count_images f_law_bag f_law_take f_law_with_torn f_law_is f_count_states f_law_in_all) (G_count_images : FnOk P w K mg base CX0 4 a_count_images f_count_images P_count_images (spM K (C0 [0, 1]) mf_count_images)) : FnOk P w K mg base CX0 5 f fd P_count_states (spM K (C0 [0]) mf_count_states) := by
  refine fun_ok (N := N_count_states) (n := 1) (np := 1) (pn := [0]) (body := mb_count_states) F sc_count_states rfl rfl rfl (by decide) (by decide) fun cdv A outer s H E hr => ⟨_, pss_one (ps_ret (pe_callN (n := 1) (ks := ["torn"]) (hdb := nd_count_images) G_count_images (hr.mono (by decide)) (glx gl_count_states_count_images rfl) T.mg_count_images T.k_count_images T.kb_count_images pass0 (pa_cons (pvx sl_count_states_0 rfl rfl) (pa_nil)) (pk_cons (pe_int) (pk_nil)))),
    ss_ret (sm_callK (n := 1) (m := 1) (hReg rfl) (sb_val (hReg rfl) (sm_pu (sp_var 0)) (sb_nil)) (sb_val (hReg rfl) (sm_pu (sp_int)) (sb_nil)))⟩
theorem sc_law : FnScope N_law P_law (defScope s_law) := ⟨rfl, rfl, rfl, by decide +kernel, rfl, by decide +kernel, by decide +kernel⟩
theorem ok_law {f : Addr} {fd : FuncData} (F : Fun K "law" "law" s_law f fd) (T : Txt K mg a_law_factorials a_law_powers a_choose a_block a_totals a_torn_counts a_count_images a_law_bag a_law_take a_law_with_torn a_law_is a_count_states a_law_in_all c_FORM_COUNTS f_law_factorials f_law_powers f_choose f_block f_totals f_torn_counts f_count_images f_law_bag f_law_take f_law_with_torn f_law_is f_count_states f_law_in_all) (G_law_bag : FnOk P w K mg base CX0 1 a_law_bag f_law_bag P_law_bag (spM K (C0 [0]) mf_law_bag)) (G_law_take : FnOk P w K mg base CX0 1 a_law_take f_law_take P_law_take (spM K (C0 [0, 1]) mf_law_take)) (G_law_with_torn : FnOk P w K mg base CX0 2 a_law_with_torn f_law_with_torn P_law_with_torn (spM K (C0 [0, 1]) mf_law_with_torn)) (G_law_is : FnOk P w K mg base CX0 1 a_law_is f_law_is P_law_is (spM K (C0 [0, 1]) mf_law_is)) (G_count_images : FnOk P w K mg base CX0 4 a_count_images f_count_images P_count_images (spM K (C0 [0, 1]) mf_count_images)) (G_count_states : FnOk P w K mg base CX0 5 a_count_states f_count_states P_count_states (spM K (C0 [0]) mf_count_states)) (G_law_in_all : FnOk P w K mg base CX0 1 a_law_in_all f_law_in_all P_law_in_all (spM K (C0 [0]) mf_law_in_all)) : FnOk P w K mg base CX0 6 f fd P_law (spM K (C0 [0]) mf_law) := by
  refine fun_ok (N := N_law) (n := 7) (np := 1) (pn := [0]) (body := mb_law) F sc_law rfl rfl rfl (by decide) (by decide) fun cdv A outer s H E hr => ⟨_, pss_cons (psx sl_law_1 (sc_law).nd rfl rfl rfl (pe_call (hdb := nd__law_bag) G_law_bag (hr.mono (by decide)) (glx gl_law__law_bag rfl) T.mg_law_bag T.k_law_bag T.bn_law_bag .nil pass0 (pa_cons (pvx sl_law_0 rfl rfl) (pa_nil))))
    (pss_cons (psx sl_law_2 (sc_law).nd rfl rfl rfl (pe_call (hdb := nd__law_take) G_law_take (hr.mono (by decide)) (glx gl_law__law_take rfl) T.mg_law_take T.k_law_take T.bn_law_take .nil pass0 (pa_cons (pvx sl_law_1 rfl rfl) (pa_cons (pe_int) (pa_nil)))))
    (pss_cons (ps_if (pt_cmpR op_eq (pe_call (hdb := nd__law_take) G_law_take (hr.mono (by decide)) (glx gl_law__law_take rfl) T.mg_law_take T.k_law_take T.bn_law_take .nil pass0 (pa_cons (pvx sl_law_1 rfl rfl) (pa_cons (pe_int) (pa_nil)))) (pe_int) (nomark _)) (pss_one (psx sl_law_2 (sc_law).nd rfl rfl rfl (pe_call (hdb := nd__law_take) G_law_take (hr.mono (by decide)) (glx gl_law__law_take rfl) T.mg_law_take T.k_law_take T.bn_law_take .nil pass0 (pa_cons (pvx sl_law_1 rfl rfl) (pa_cons (pe_int) (pa_nil)))))) (pss_nil))
    (pss_cons (psx sl_law_3 (sc_law).nd rfl rfl rfl (pe_op op_sub (pe_call (hdb := nd__law_take) G_law_take (hr.mono (by decide)) (glx gl_law__law_take rfl) T.mg_law_take T.k_law_take T.bn_law_take .nil pass0 (pa_cons (pvx sl_law_1 rfl rfl) (pa_cons (pe_op op_add (pe_op op_fdivW (pvx sl_law_2 rfl rfl) (pe_int)) (pe_int)) (pa_nil)))) (pe_int)))
    (pss_cons (ps_if (pt_cmpR op_eq (pe_call (hdb := nd__law_take) G_law_take (hr.mono (by decide)) (glx gl_law__law_take rfl) T.mg_law_take T.k_law_take T.bn_law_take .nil pass0 (pa_cons (pvx sl_law_1 rfl rfl) (pa_cons (pe_int) (pa_nil)))) (pe_int) (nomark _)) (pss_one (psx sl_law_3 (sc_law).nd rfl rfl rfl (pe_op op_sub (pe_un un_neg (pe_int)) (pe_call (hdb := nd__law_take) G_law_take (hr.mono (by decide)) (glx gl_law__law_take rfl) T.mg_law_take T.k_law_take T.bn_law_take .nil pass0 (pa_cons (pvx sl_law_1 rfl rfl) (pa_cons (pe_int) (pa_nil))))))) (pss_nil))
    (pss_cons (psx sl_law_4 (sc_law).nd rfl rfl rfl (pe_int))
    (pss_cons (ps_if (pt_cmpR op_ge (pvx sl_law_3 rfl rfl) (pe_int) (nomark _)) (pss_one (psx sl_law_4 (sc_law).nd rfl rfl rfl (pe_call (hdb := nd__law_with_torn) G_law_with_torn (hr.mono (by decide)) (glx gl_law__law_with_torn rfl) T.mg_law_with_torn T.k_law_with_torn T.bn_law_with_torn .nil pass0 (pa_cons (pvx sl_law_2 rfl rfl) (pa_cons (pvx sl_law_3 rfl rfl) (pa_nil)))))) (pss_nil))
    (pss_cons (ps_if (pt_not (pt_val (pe_call (hdb := nd__law_is) G_law_is (hr.mono (by decide)) (glx gl_law__law_is rfl) T.mg_law_is T.k_law_is T.bn_law_is .nil pass0 (pa_cons (pe_callN (n := 1) (ks := ["torn"]) (hdb := nd_count_images) G_count_images (hr.mono (by decide)) (glx gl_law_count_images rfl) T.mg_count_images T.k_count_images T.kb_count_images pass0 (pa_cons (pvx sl_law_2 rfl rfl) (pa_nil)) (pk_cons (pvx sl_law_3 rfl rfl) (pk_nil))) (pa_cons (pvx sl_law_4 rfl rfl) (pa_nil)))))) (pss_one (ps_ret (pe_bl))) (pss_nil))
    (pss_cons (psx sl_law_5 (sc_law).nd rfl rfl rfl (pe_call (hdb := nd__law_with_torn) G_law_with_torn (hr.mono (by decide)) (glx gl_law__law_with_torn rfl) T.mg_law_with_torn T.k_law_with_torn T.bn_law_with_torn .nil pass0 (pa_cons (pvx sl_law_2 rfl rfl) (pa_cons (pe_int) (pa_nil)))))
    (pss_cons (ps_if (PW.pt (pw_or (pt_not (pt_val (pe_call (hdb := nd__law_is) G_law_is (hr.mono (by decide)) (glx gl_law__law_is rfl) T.mg_law_is T.k_law_is T.bn_law_is .nil pass0 (pa_cons (pe_callN (n := 1) (ks := ["torn"]) (hdb := nd_count_images) G_count_images (hr.mono (by decide)) (glx gl_law_count_images rfl) T.mg_count_images T.k_count_images T.kb_count_images pass0 (pa_cons (pvx sl_law_2 rfl rfl) (pa_nil)) (pk_cons (pe_int) (pk_nil))) (pa_cons (pvx sl_law_5 rfl rfl) (pa_nil)))))) (pw_or1 (pt_not (pt_val (pe_call (hdb := nd__law_is) G_law_is (hr.mono (by decide)) (glx gl_law__law_is rfl) T.mg_law_is T.k_law_is T.bn_law_is .nil pass0 (pa_cons (pe_call (hdb := nd_count_states) G_count_states (hr.mono (by decide)) (glx gl_law_count_states rfl) T.mg_count_states T.k_count_states T.bn_count_states .nil pass0 (pa_cons (pvx sl_law_2 rfl rfl) (pa_nil))) (pa_cons (pvx sl_law_5 rfl rfl) (pa_nil))))))))) (pss_one (ps_ret (pe_bl))) (pss_nil))
    (pss_cons (psx sl_law_6 (sc_law).nd rfl rfl rfl (pe_call (hdb := nd__law_in_all) G_law_in_all (hr.mono (by decide)) (glx gl_law__law_in_all rfl) T.mg_law_in_all T.k_law_in_all T.bn_law_in_all .nil pass0 (pa_cons (pvx sl_law_2 rfl rfl) (pa_nil))))
    (pss_one (ps_ret (pe_and (pe_call (hdb := nd__law_is) G_law_is (hr.mono (by decide)) (glx gl_law__law_is rfl) T.mg_law_is T.k_law_is T.bn_law_is .nil pass0 (pa_cons (pe_call (hdb := nd_count_images) G_count_images (hr.mono (by decide)) (glx gl_law_count_images rfl) T.mg_count_images T.k_count_images T.bd_count_images vd_non pass0 (pa_cons (pvx sl_law_2 rfl rfl) (pa_nil))) (pa_cons (pvx sl_law_6 rfl rfl) (pa_nil)))) (pe_one (pe_call (hdb := nd__law_is) G_law_is (hr.mono (by decide)) (glx gl_law__law_is rfl) T.mg_law_is T.k_law_is T.bn_law_is .nil pass0 (pa_cons (pe_callN (n := 1) (ks := ["torn"]) (hdb := nd_count_images) G_count_images (hr.mono (by decide)) (glx gl_law_count_images rfl) T.mg_count_images T.k_count_images T.kb_count_images pass0 (pa_cons (pvx sl_law_2 rfl rfl) (pa_nil)) (pk_cons (pe_non) (pk_nil))) (pa_cons (pvx sl_law_6 rfl rfl) (pa_nil)))))))))))))))))),
    ss_seq (ss_asg (show 1 ∉ [0] by decide) (sm_callD (sb_slot (hReg rfl) (sb_nil))))
    (ss_seq (ss_asg (show 2 ∉ [0] by decide) (sm_callD (sb_slot (hReg rfl) (sb_val (hReg rfl) (sm_pu (sp_int)) (sb_nil)))))
    (ss_seq (ss_if (st_t (sm_opP rd_eqS (sm_callD (sb_slot (hReg rfl) (sb_val (hReg rfl) (sm_pu (sp_int)) (sb_nil)))) (sp_int))) (ss_asg (show 2 ∉ [0] by decide) (sm_callD (sb_slot (hReg rfl) (sb_val (hReg rfl) (sm_pu (sp_int)) (sb_nil))))) (ss_nx))
    (ss_seq (ss_asg (show 3 ∉ [0] by decide) (sm_opP rd_sub (sm_callD (sb_slot (hReg rfl) (sb_val (hReg rfl) (sm_pu (sp_op rd_add (sp_op rd_div (sp_var 2) (sp_int)) (sp_int))) (sb_nil)))) (sp_int)))
    (ss_seq (ss_if (st_t (sm_opP rd_eqS (sm_callD (sb_slot (hReg rfl) (sb_val (hReg rfl) (sm_pu (sp_int)) (sb_nil)))) (sp_int))) (ss_asg (show 3 ∉ [0] by decide) (sm_op (hReg rfl) rd_sub (sm_pu (sp_un rd_neg (sp_int))) (sm_callD (sb_slot (hReg rfl) (sb_val (hReg rfl) (sm_pu (sp_int)) (sb_nil)))))) (ss_nx))
    (ss_seq (ss_asg (show 4 ∉ [0] by decide) (sm_pu (sp_int)))
    (ss_seq (ss_if (st_pu (spt_t (sp_op rd_ge (sp_var 3) (sp_int)))) (ss_asg (show 4 ∉ [0] by decide) (sm_callD (sb_val (hReg rfl) (sm_pu (sp_var 2)) (sb_val (hReg rfl) (sm_pu (sp_var 3)) (sb_nil))))) (ss_nx))
    (ss_seq (ss_if (st_not (st_b (sm_callD (sb_val (hReg rfl) (sm_callK (n := 1) (m := 1) (hReg rfl) (sb_val (hReg rfl) (sm_pu (sp_var 2)) (sb_nil)) (sb_val (hReg rfl) (sm_pu (sp_var 3)) (sb_nil))) (sb_val (hReg rfl) (sm_pu (sp_var 4)) (sb_nil)))))) (ss_ret (sm_pu (sp_bl))) (ss_nx))
    (ss_seq (ss_asg (show 5 ∉ [0] by decide) (sm_callD (sb_val (hReg rfl) (sm_pu (sp_var 2)) (sb_val (hReg rfl) (sm_pu (sp_int)) (sb_nil)))))
    (ss_seq (ss_if (st_or (st_not (st_b (sm_callD (sb_val (hReg rfl) (sm_callK (n := 1) (m := 1) (hReg rfl) (sb_val (hReg rfl) (sm_pu (sp_var 2)) (sb_nil)) (sb_val (hReg rfl) (sm_pu (sp_int)) (sb_nil))) (sb_val (hReg rfl) (sm_pu (sp_var 5)) (sb_nil)))))) (st_not (st_b (sm_callD (sb_val (hReg rfl) (sm_callD (sb_val (hReg rfl) (sm_pu (sp_var 2)) (sb_nil))) (sb_val (hReg rfl) (sm_pu (sp_var 5)) (sb_nil))))))) (ss_ret (sm_pu (sp_bl))) (ss_nx))
    (ss_seq (ss_asg (show 6 ∉ [0] by decide) (sm_callD (sb_val (hReg rfl) (sm_pu (sp_var 2)) (sb_nil))))
    (ss_ret (sm_and (sm_callD (sb_val (hReg rfl) (sm_callDf (ds := [.non]) (dz := [.non]) zd_non (sb_val (hReg rfl) (sm_pu (sp_var 2)) (sb_nil))) (sb_val (hReg rfl) (sm_pu (sp_var 6)) (sb_nil)))) (sm_callD (sb_val (hReg rfl) (sm_callK (n := 1) (m := 1) (hReg rfl) (sb_val (hReg rfl) (sm_pu (sp_var 2)) (sb_nil)) (sb_val (hReg rfl) (sm_pu (sp_non)) (sb_nil))) (sb_val (hReg rfl) (sm_pu (sp_var 6)) (sb_nil))))))))))))))))⟩
end
end PK
end
section
set_option Elab.async false
set_option maxRecDepth 100000
set_option maxHeartbeats 4000000
open PySem L2 StX ML
local macro_rules | `(tactic| walk_at "lst") => `(tactic| (simp only [List.length_cons, List.length_nil, List.length_append, List.length_replicate, List.replicate, List.reduceReplicate, List.cons_append, List.nil_append, List.append_nil, List.set_cons_zero, List.set_cons_succ, List.set_nil, List.getElem?_cons_zero, List.getElem?_cons_succ, List.getElem?_nil, List.map_cons, List.map_nil, Nat.reduceAdd, Nat.reduceSub]))
local macro_rules | `(tactic| walk_at "pure") => `(tactic| (simp (config := { decide := true }) only [p2, p1, pV, pC, pB, oGt, oLt, oGe, oLe, oAdd, oSub, oMul, oDiv, oMod, oPow, oIx, oEqS, oIsN, oIsi, tyN, tNeg, isN, sv, scal, onI, itemsR, pCall, pCons, pNil, fInt, fLen, fMin2, fMax2, fAbs, pAndT, pOrT, pNotT, pAndV, pOrV, pNotV, cMul, atI, ixN, frz, frzs, frozL,
  List.length_cons, List.length_nil, List.length_append, List.length_replicate, List.length_map, List.replicate, List.cons_append, List.nil_append, List.append_nil, List.set_cons_zero, List.set_cons_succ, List.set_nil, List.getElem?_cons_zero, List.getElem?_cons_succ, List.getElem?_nil, List.map_cons, List.map_nil,
  Nat.reduceAdd, Nat.reduceSub, Nat.reduceLT, Nat.reduceLeDiff, Nat.reduceEqDiff, Int.reduceLT, Int.reduceLE, Int.reduceNeg, Int.reducePow, Int.reduceToNat, Int.toNat_zero, Int.toNat_one, Int.reduceAdd, Int.reduceSub, Int.reduceMul, if_true, if_false, decide_true, decide_false, decide_eq_true_eq, Bool.and_true, Bool.true_and, Bool.or_true, Bool.true_or, Bool.and_self, Bool.or_self, Bool.and_eq_true, Bool.not_true, Bool.not_false, Option.bind_some, Option.map_some, Option.bind_none, Option.map_none, reduceIte, reduceCtorEq, V.int.injEq, V.bl.injEq, Int.natCast_zero, Int.natCast_add, Int.natCast_one, Int.zero_add, Int.ofNat_eq_natCast, *]))
local macro_rules | `(tactic| walk_at "ev1") => `(tactic| first
  | with_reducible refine' e_seq ?_ ?_
  | with_reducible exact e_nx
  | with_reducible refine' e_asg ?_ ?_ ?_
  | with_reducible refine' e_pu ?_
  | with_reducible refine' e_puT ?_
  | with_reducible refine' e_ret ?_
  | with_reducible exact e_retN
  | with_reducible refine' e_drop ?_
  | with_reducible refine' e_mB ?_
  | with_reducible exact e_nil
  | with_reducible refine' e_cons ?_ ?_
  | with_reducible refine' e_lst ?_ ?_
  | with_reducible refine' e_tup ?_ ?_
  | with_reducible refine' e_frz ?_ ?_ ?_
  | with_reducible refine' e_fz ?_ ?_
  | with_reducible refine' e_app ?_ ?_ ?_ ?_ ?_
  | with_reducible refine' e_setIx ?_ ?_ ?_ ?_ ?_
  | (with_reducible refine' e_runR ?_ ?_ ?_ ?_)
  | (with_reducible refine' e_ifT (e_puT ?t) ?r; (case t => (walk_at "pure"; done)))
  | (with_reducible refine' e_ifF (e_puT ?t) ?r; (case t => (walk_at "pure"; done)))
  | (with_reducible refine' e_forL ?_ ?_ ?_)
  | (with_reducible refine' e_call ?_ ?_ ?_)
  | (with_reducible refine' e_callK ?_ ?_ ?_ ?_ ?_)
  | (with_reducible refine' e_callDf ?_ ?_ ?_)
  | (with_reducible refine' e_m2p ?_ ?_ ?_)
  | (with_reducible refine' e_m2 ?_ ?_ ?_)
  | (with_reducible refine' e_movF ?a; (case a => first | (walk_at "lst"; with_reducible rfl) | (walk_at "lst"; done)))
  | (with_reducible refine' e_movL ?a ?b; (case a => first | (walk_at "lst"; with_reducible rfl) | (walk_at "lst"; done)); (case b => first | (walk_at "lst"; with_reducible rfl) | (walk_at "lst"; done)))
  | (simp only [putB, List.cons_append, List.nil_append, List.map_cons, List.map_nil, List.set_cons_zero, List.set_cons_succ, List.getElem?_cons_zero, List.getElem?_cons_succ]; with_reducible rfl)
  | (with_reducible refine' e_forR1 ?_ ?_ ?_)
  | (with_reducible refine' e_forR2 ?_ ?_ ?_)
  | (show outs _ _ _ = _; rfl)
  | (with_reducible show _ = _; with_reducible assumption)
  | (walk_at "lst"; with_reducible rfl)
  | (walk_at "lst"; done)
  | (walk_at "pure"; with_reducible rfl)
  | (walk_at "pure"; done))
namespace PK
theorem take_ok (g f s n : Int) (hg : 0 ≤ g) (hn : 0 < n) (hn2 : n.natAbs.log2 < 9000) : ∃ d g' f' s', 0 ≤ d ∧ d < n ∧ 0 ≤ g' ∧
    mf_law_take [.lst [.fz (.int g), .fz (.int f), .fz (.int s)], .fz (.int n)] = .ok (.fz (.int d)) [.lst [.fz (.int g'), .fz (.int f'), .fz (.int s')], .fz (.int n)] := by
  by_cases h : 0 < g
  · refine ⟨g % n, g / n, f, s, Int.emod_nonneg _ (by omega), Int.emod_lt_of_pos _ hn, Int.ediv_nonneg hg (by omega), ?_⟩
    unfold mf_law_take mb_law_take
    refine' e_runR rfl (e_seqR (e_ifT (e_puT ?_) ?_)) ?_ ?_
    all_goals repeat' (walk_at "ev1")
  · refine ⟨(s * 69621 + (f * 48271 + 12345) % 2147483647) % 2147483629 / 8 % n, g, (f * 48271 + 12345) % 2147483647, (s * 69621 + (f * 48271 + 12345) % 2147483647) % 2147483629, Int.emod_nonneg _ (by omega), Int.emod_lt_of_pos _ hn, hg, ?_⟩
    unfold mf_law_take mb_law_take
    refine' e_runR rfl (e_seq (e_ifF (e_puT ?_) e_nx) ?_) ?_ ?_
    all_goals repeat' (walk_at "ev1")
theorem bag_turn (x0 : T) (g f s c : Int) (hg : 0 ≤ g) : ∃ g' f' s', 0 ≤ g' ∧ lb_law_bag_1 [x0, .fz (.int g), .fz (.int f), .fz (.int s), .fz (.int c)] = .ok .nx [x0, .fz (.int g'), .fz (.int f'), .fz (.int s'), .fz (.int c)] := by
  unfold lb_law_bag_1
  by_cases h0 : g = 0
  · by_cases hc : 1000000000000000000 ≤ c
    · refine' ⟨c, ?_, ?_, by omega, ?_⟩
      rotate_left 2
      all_goals repeat' (walk_at "ev1")
    · refine' ⟨g, ?_, ?_, hg, ?_⟩
      rotate_left 2
      all_goals repeat' (walk_at "ev1")
  · refine' ⟨g, ?_, ?_, hg, ?_⟩
    rotate_left 2
    all_goals repeat' (walk_at "ev1")
theorem bag_ok (ns : List Int) : ∃ g f s, 0 ≤ g ∧ mf_law_bag [.fz (.wl (ns.map .int))] = .ok (.lst [.fz (.int g), .fz (.int f), .fz (.int s)]) [.fz (.wl (ns.map .int))] := by
  obtain ⟨η, h1, g, f, s, x, hg, rfl⟩ := forD_inv (i := 4) (ds := ns.map .int) (η := [.fz (.wl (ns.map .int)), .fz (.int 0), .fz (.int 5), .fz (.int 13), .un]) (body := lb_law_bag_1)
    (fun _ η => ∃ g f s x, 0 ≤ g ∧ η = [.fz (.wl (ns.map .int)), .fz (.int g), .fz (.int f), .fz (.int s), x]) ⟨0, 5, 13, .un, by omega, rfl⟩ (by
      rintro k d η hd ⟨g, f, s, x, hg, rfl⟩
      refine ⟨by simp, ?_⟩
      obtain ⟨c, rfl⟩ : ∃ c, d = .int c := by
        rw [List.getElem?_map] at hd
        cases q : ns[k]? with
        | none => rw [q] at hd; cases hd
        | some c => rw [q] at hd; cases hd; exact ⟨c, rfl⟩
      obtain ⟨g', f', s', h1, h2⟩ := bag_turn (.fz (.wl (ns.map .int))) g f s c hg
      exact ⟨_, .inl h2, g', f', s', _, h1, rfl⟩)
  refine ⟨g, f, s, hg, ?_⟩
  unfold mf_law_bag mb_law_bag
  refine' e_runR rfl ?_ ?_ ?_
  all_goals repeat' (walk_at "ev1")
def I (i : Int) : T := .fz (.int i)
theorem is_ok (a : Int) : mf_law_is [.fz (.int a), .fz (.int a)] = .ok (.fz (.bl true)) [.fz (.int a), .fz (.int a)] := by
  unfold mf_law_is mb_law_is
  have k1 : kitB "int" "int" = some true := by decide +kernel
  have k2 : kitB "int" "bool" = some false := by decide +kernel
  refine' e_runR rfl ?_ ?_ ?_
  all_goals repeat' (walk_at "ev1")
end PK
end
section
set_option Elab.async false
set_option maxRecDepth 100000
set_option maxHeartbeats 4000000
open PySem L2 StX ML
local macro_rules | `(tactic| walk_at "lst") => `(tactic| (simp only [List.length_cons, List.length_nil, List.length_append, List.length_replicate, List.replicate, List.reduceReplicate, List.cons_append, List.nil_append, List.append_nil, List.set_cons_zero, List.set_cons_succ, List.set_nil, List.getElem?_cons_zero, List.getElem?_cons_succ, List.getElem?_nil, List.map_cons, List.map_nil, Nat.reduceAdd, Nat.reduceSub]))
local macro_rules | `(tactic| walk_at "pure") => `(tactic| (simp (config := { decide := true }) only [p2, p1, pV, pC, pB, oGt, oLt, oGe, oLe, oAdd, oSub, oMul, oDiv, oMod, oPow, oIx, oEqS, oIsN, oIsi, tyN, tNeg, isN, sv, scal, onI, itemsR, pCall, pCons, pNil, fInt, fLen, fMin2, fMax2, fAbs, pAndT, pOrT, pNotT, pAndV, pOrV, pNotV, cMul, atI, ixN, frz, frzs, frozL,
  List.length_cons, List.length_nil, List.length_append, List.length_replicate, List.length_map, List.replicate, List.cons_append, List.nil_append, List.append_nil, List.set_cons_zero, List.set_cons_succ, List.set_nil, List.getElem?_cons_zero, List.getElem?_cons_succ, List.getElem?_nil, List.map_cons, List.map_nil,
  Nat.reduceAdd, Nat.reduceSub, Nat.reduceLT, Nat.reduceLeDiff, Nat.reduceEqDiff, Int.reduceLT, Int.reduceLE, Int.reduceNeg, Int.reducePow, Int.reduceToNat, Int.toNat_zero, Int.toNat_one, Int.reduceAdd, Int.reduceSub, Int.reduceMul, if_true, if_false, decide_true, decide_false, decide_eq_true_eq, Bool.and_true, Bool.true_and, Bool.or_true, Bool.true_or, Bool.and_self, Bool.or_self, Bool.and_eq_true, Bool.not_true, Bool.not_false, Option.bind_some, Option.map_some, Option.bind_none, Option.map_none, reduceIte, reduceCtorEq, V.int.injEq, V.bl.injEq, Int.natCast_zero, Int.natCast_add, Int.natCast_one, Int.zero_add, Int.ofNat_eq_natCast, *]))
local macro_rules | `(tactic| walk_at "ev1") => `(tactic| first
  | with_reducible refine' e_seq ?_ ?_
  | with_reducible exact e_nx
  | with_reducible refine' e_asg ?_ ?_ ?_
  | with_reducible refine' e_pu ?_
  | with_reducible refine' e_puT ?_
  | with_reducible refine' e_ret ?_
  | with_reducible exact e_retN
  | with_reducible refine' e_drop ?_
  | with_reducible refine' e_mB ?_
  | with_reducible exact e_nil
  | with_reducible refine' e_cons ?_ ?_
  | with_reducible refine' e_lst ?_ ?_
  | with_reducible refine' e_tup ?_ ?_
  | with_reducible refine' e_frz ?_ ?_ ?_
  | with_reducible refine' e_fz ?_ ?_
  | with_reducible refine' e_app ?_ ?_ ?_ ?_ ?_
  | with_reducible refine' e_setIx ?_ ?_ ?_ ?_ ?_
  | (with_reducible refine' e_runR ?_ ?_ ?_ ?_)
  | (with_reducible refine' e_ifT (e_puT ?t) ?r; (case t => (walk_at "pure"; done)))
  | (with_reducible refine' e_ifF (e_puT ?t) ?r; (case t => (walk_at "pure"; done)))
  | (with_reducible refine' e_forL ?_ ?_ ?_)
  | (with_reducible refine' e_call ?_ ?_ ?_)
  | (with_reducible refine' e_callK ?_ ?_ ?_ ?_ ?_)
  | (with_reducible refine' e_callDf ?_ ?_ ?_)
  | (with_reducible refine' e_m2p ?_ ?_ ?_)
  | (with_reducible refine' e_m2 ?_ ?_ ?_)
  | (with_reducible refine' e_movF ?a; (case a => first | (walk_at "lst"; with_reducible rfl) | (walk_at "lst"; done)))
  | (with_reducible refine' e_movL ?a ?b; (case a => first | (walk_at "lst"; with_reducible rfl) | (walk_at "lst"; done)); (case b => first | (walk_at "lst"; with_reducible rfl) | (walk_at "lst"; done)))
  | (simp only [putB, List.cons_append, List.nil_append, List.map_cons, List.map_nil, List.set_cons_zero, List.set_cons_succ, List.getElem?_cons_zero, List.getElem?_cons_succ]; with_reducible rfl)
  | (with_reducible refine' e_forR1 ?_ ?_ ?_)
  | (with_reducible refine' e_forR2 ?_ ?_ ?_)
  | (show outs _ _ _ = _; rfl)
  | (with_reducible show _ = _; with_reducible assumption)
  | (walk_at "lst"; with_reducible rfl)
  | (walk_at "lst"; done)
  | (walk_at "pure"; with_reducible rfl)
  | (walk_at "pure"; done))
namespace PK
def Core : Prop := ∀ (sz mn : Int) (h1 : 0 ≤ sz) (h2 : sz ≤ 64) (h3 : -64 ≤ mn) (h4 : mn ≤ 35), ∃ w c t : Int,
    (0 ≤ mn → mf_law_with_torn [.fz (.int sz), .fz (.int mn)] = .ok (.fz (.int w)) [.fz (.int sz), .fz (.int mn)]) ∧ (mn < 0 → w = 0) ∧
    mf_count_images [.fz (.int sz), .fz (.int mn)] = .ok (.fz (.int w)) [.fz (.int sz), .fz (.int mn)] ∧
    mf_law_with_torn [.fz (.int sz), .fz (.int 0)] = .ok (.fz (.int c)) [.fz (.int sz), .fz (.int 0)] ∧
    mf_count_images [.fz (.int sz), .fz (.int 0)] = .ok (.fz (.int c)) [.fz (.int sz), .fz (.int 0)] ∧
    mf_law_in_all [.fz (.int sz)] = .ok (.fz (.int t)) [.fz (.int sz)] ∧
    mf_count_images [.fz (.int sz), .fz .non] = .ok (.fz (.int t)) [.fz (.int sz), .fz .non]
theorem rest_ok (core : Core) (x0 x1 : T) (sz mn : Int) (h1 : 0 ≤ sz) (h2 : sz ≤ 64) (h3 : -64 ≤ mn) (h4 : mn ≤ 35) : ∃ η', (mSeq (mAsg 4 (mPu (pC (.int 0))))
  (mSeq (mIfS (mPuT (pB (p2 oGe (pV 3) (pC (.int 0))))) (mAsg 4 (mCallD mf_law_with_torn [none, none] (mCons (mPu (pV 2)) (mCons (mPu (pV 3)) (mNil))))) (mNx))
  (mSeq (mIfS (mNotT (mB (mCallD mf_law_is [none, none] (mCons (mCallK 1 1 mf_count_images [none] [none] (mCons (mPu (pV 2)) (mNil)) (mCons (mPu (pV 3)) (mNil))) (mCons (mPu (pV 4)) (mNil)))))) (mRet' (mPu (pC (.bl false)))) (mNx))
  (mSeq (mAsg 5 (mCallD mf_law_with_torn [none, none] (mCons (mPu (pV 2)) (mCons (mPu (pC (.int 0))) (mNil)))))
  (mSeq (mIfS (mOrT (mNotT (mB (mCallD mf_law_is [none, none] (mCons (mCallK 1 1 mf_count_images [none] [none] (mCons (mPu (pV 2)) (mNil)) (mCons (mPu (pC (.int 0))) (mNil))) (mCons (mPu (pV 5)) (mNil)))))) (mNotT (mB (mCallD mf_law_is [none, none] (mCons (mCallD mf_count_states [none] (mCons (mPu (pV 2)) (mNil))) (mCons (mPu (pV 5)) (mNil))))))) (mRet' (mPu (pC (.bl false)))) (mNx))
  (mSeq (mAsg 6 (mCallD mf_law_in_all [none] (mCons (mPu (pV 2)) (mNil))))
  (mRet' (mAndV (mCallD mf_law_is [none, none] (mCons (mCallDf mf_count_images [none] [.non] (mCons (mPu (pV 2)) (mNil))) (mCons (mPu (pV 6)) (mNil)))) (mCallD mf_law_is [none, none] (mCons (mCallK 1 1 mf_count_images [none] [none] (mCons (mPu (pV 2)) (mNil)) (mCons (mPu (pC .non)) (mNil))) (mCons (mPu (pV 6)) (mNil)))))))))))) [x0, x1, .fz (.int sz), .fz (.int mn), .un, .un, .un] = .ok (.rt (.fz (.bl true))) (x0 :: η') := by
  obtain ⟨w, c, t, e1, e2, e3, e4, e5, e6, e7⟩ := core sz mn h1 h2 h3 h4
  have i1 := is_ok w
  have i2 := is_ok c
  have i3 := is_ok t
  have es : mf_count_states [.fz (.int sz)] = .ok (.fz (.int c)) [.fz (.int sz)] := by
    unfold mf_count_states mb_count_states
    refine' e_runR rfl ?_ ?_ ?_
    all_goals repeat' (walk_at "ev1")
  have a1 : (mIfS (mPuT (pB (p2 oGe (pV 3) (pC (.int 0))))) (mAsg 4 (mCallD mf_law_with_torn [none, none] (mCons (mPu (pV 2)) (mCons (mPu (pV 3)) (mNil))))) (mNx)) [x0, x1, .fz (.int sz), .fz (.int mn), .fz (.int 0), .un, .un] = .ok .nx [x0, x1, .fz (.int sz), .fz (.int mn), .fz (.int w), .un, .un] := by
    by_cases hm : 0 ≤ mn
    · have e1' := e1 hm
      repeat' (walk_at "ev1")
    · have e2' := e2 (by omega)
      subst e2'
      repeat' (walk_at "ev1")
  refine' ⟨?_, e_seq (e_asg (e_pu (d := .int 0) rfl) (by simp) rfl) (e_seq a1 (e_seq (e_ifF (e_not (x := true) (e_mB ?_) rfl) e_nx) (e_seq ?_ (e_seq (e_ifF (e_orF (e_not (x := true) (e_mB ?_) rfl) (e_not (x := true) (e_mB ?_) rfl)) e_nx) (e_seq ?_ (e_ret (e_andVT ?_ ?_)))))))⟩
  rotate_left
  all_goals repeat' (walk_at "ev1")
end PK
end
section
set_option Elab.async false
set_option maxRecDepth 100000
set_option maxHeartbeats 4000000
open PySem L2 StX ML
local macro_rules | `(tactic| walk_at "lst") => `(tactic| (simp only [List.length_cons, List.length_nil, List.length_append, List.length_replicate, List.replicate, List.reduceReplicate, List.cons_append, List.nil_append, List.append_nil, List.set_cons_zero, List.set_cons_succ, List.set_nil, List.getElem?_cons_zero, List.getElem?_cons_succ, List.getElem?_nil, List.map_cons, List.map_nil, Nat.reduceAdd, Nat.reduceSub]))
local macro_rules | `(tactic| walk_at "pure") => `(tactic| (simp (config := { decide := true }) only [p2, p1, pV, pC, pB, oGt, oLt, oGe, oLe, oAdd, oSub, oMul, oDiv, oMod, oPow, oIx, oEqS, oIsN, oIsi, tyN, tNeg, isN, sv, scal, onI, itemsR, pCall, pCons, pNil, fInt, fLen, fMin2, fMax2, fAbs, pAndT, pOrT, pNotT, pAndV, pOrV, pNotV, cMul, atI, ixN, frz, frzs, frozL,
  List.length_cons, List.length_nil, List.length_append, List.length_replicate, List.length_map, List.replicate, List.cons_append, List.nil_append, List.append_nil, List.set_cons_zero, List.set_cons_succ, List.set_nil, List.getElem?_cons_zero, List.getElem?_cons_succ, List.getElem?_nil, List.map_cons, List.map_nil,
  Nat.reduceAdd, Nat.reduceSub, Nat.reduceLT, Nat.reduceLeDiff, Nat.reduceEqDiff, Int.reduceLT, Int.reduceLE, Int.reduceNeg, Int.reducePow, Int.reduceToNat, Int.toNat_zero, Int.toNat_one, Int.reduceAdd, Int.reduceSub, Int.reduceMul, if_true, if_false, decide_true, decide_false, decide_eq_true_eq, Bool.and_true, Bool.true_and, Bool.or_true, Bool.true_or, Bool.and_self, Bool.or_self, Bool.and_eq_true, Bool.not_true, Bool.not_false, Option.bind_some, Option.map_some, Option.bind_none, Option.map_none, reduceIte, reduceCtorEq, V.int.injEq, V.bl.injEq, Int.natCast_zero, Int.natCast_add, Int.natCast_one, Int.zero_add, Int.ofNat_eq_natCast, *]))
local macro_rules | `(tactic| walk_at "ev1") => `(tactic| first
  | with_reducible refine' e_seq ?_ ?_
  | with_reducible exact e_nx
  | with_reducible refine' e_asg ?_ ?_ ?_
  | with_reducible refine' e_pu ?_
  | with_reducible refine' e_puT ?_
  | with_reducible refine' e_ret ?_
  | with_reducible exact e_retN
  | with_reducible refine' e_drop ?_
  | with_reducible refine' e_mB ?_
  | with_reducible exact e_nil
  | with_reducible refine' e_cons ?_ ?_
  | with_reducible refine' e_lst ?_ ?_
  | with_reducible refine' e_tup ?_ ?_
  | with_reducible refine' e_frz ?_ ?_ ?_
  | with_reducible refine' e_fz ?_ ?_
  | with_reducible refine' e_app ?_ ?_ ?_ ?_ ?_
  | with_reducible refine' e_setIx ?_ ?_ ?_ ?_ ?_
  | (with_reducible refine' e_runR ?_ ?_ ?_ ?_)
  | (with_reducible refine' e_ifT (e_puT ?t) ?r; (case t => (walk_at "pure"; done)))
  | (with_reducible refine' e_ifF (e_puT ?t) ?r; (case t => (walk_at "pure"; done)))
  | (with_reducible refine' e_forL ?_ ?_ ?_)
  | (with_reducible refine' e_call ?_ ?_ ?_)
  | (with_reducible refine' e_callK ?_ ?_ ?_ ?_ ?_)
  | (with_reducible refine' e_callDf ?_ ?_ ?_)
  | (with_reducible refine' e_m2p ?_ ?_ ?_)
  | (with_reducible refine' e_m2 ?_ ?_ ?_)
  | (with_reducible refine' e_movF ?a; (case a => first | (walk_at "lst"; with_reducible rfl) | (walk_at "lst"; done)))
  | (with_reducible refine' e_movL ?a ?b; (case a => first | (walk_at "lst"; with_reducible rfl) | (walk_at "lst"; done)); (case b => first | (walk_at "lst"; with_reducible rfl) | (walk_at "lst"; done)))
  | (simp only [putB, List.cons_append, List.nil_append, List.map_cons, List.map_nil, List.set_cons_zero, List.set_cons_succ, List.getElem?_cons_zero, List.getElem?_cons_succ]; with_reducible rfl)
  | (with_reducible refine' e_forR1 ?_ ?_ ?_)
  | (with_reducible refine' e_forR2 ?_ ?_ ?_)
  | (show outs _ _ _ = _; rfl)
  | (with_reducible show _ = _; with_reducible assumption)
  | (walk_at "lst"; with_reducible rfl)
  | (walk_at "lst"; done)
  | (walk_at "pure"; with_reducible rfl)
  | (walk_at "pure"; done))
namespace PK
theorem mg_lg {n : Int} (h : 0 ≤ n ∧ n < 2 ^ 64) : n.natAbs.log2 ≤ 63 := by
  by_cases h0 : n.natAbs = 0
  · rw [h0]; decide
  · exact Nat.le_of_lt_succ ((Nat.log2_lt h0).mpr (by omega))
theorem front (ns : List Int) : ∃ g f s sz mn, 0 ≤ sz ∧ sz ≤ 64 ∧ -64 ≤ mn ∧ mn ≤ 35 ∧ ∀ R r, R [.fz (.wl (ns.map .int)), .lst [.fz (.int g), .fz (.int f), .fz (.int s)], .fz (.int sz), .fz (.int mn), .un, .un, .un] = r → (mSeq (mAsg 1 (mCallD mf_law_bag [some 0] (mCons (mMov 0) (mNil))))
  (mSeq (mAsg 2 (mCallD mf_law_take [some 1, none] (mCons (mMov 1) (mCons (mPu (pC (.int 15))) (mNil)))))
  (mSeq (mIfS (mB (m2p (oEqS false) (mCallD mf_law_take [some 1, none] (mCons (mMov 1) (mCons (mPu (pC (.int 2))) (mNil)))) (pC (.int 1)))) (mAsg 2 (mCallD mf_law_take [some 1, none] (mCons (mMov 1) (mCons (mPu (pC (.int 65))) (mNil))))) (mNx))
  (mSeq (mAsg 3 (m2p oSub (mCallD mf_law_take [some 1, none] (mCons (mMov 1) (mCons (mPu (p2 oAdd (p2 oDiv (pV 2) (pC (.int 2))) (pC (.int 7)))) (mNil)))) (pC (.int 3))))
  (mSeq (mIfS (mB (m2p (oEqS false) (mCallD mf_law_take [some 1, none] (mCons (mMov 1) (mCons (mPu (pC (.int 8))) (mNil)))) (pC (.int 1)))) (mAsg 3 (m2 oSub (mPu (p1 tNeg (pC (.int 1)))) (mCallD mf_law_take [some 1, none] (mCons (mMov 1) (mCons (mPu (pC (.int 64))) (mNil)))))) (mNx))
  R))))) [.fz (.wl (ns.map .int)), .un, .un, .un, .un, .un, .un] = r := by
  obtain ⟨g0, f0, s0, hg0, e0⟩ := bag_ok ns
  obtain ⟨d1, g1, f1, s1, l1, u1, hg1, e1⟩ := take_ok g0 f0 s0 15 hg0 (by omega) (by decide)
  obtain ⟨d2, g2, f2, s2, l2, u2, hg2, e2⟩ := take_ok g1 f1 s1 2 hg1 (by omega) (by decide)
  have p3 : ∀ x0 : T, ∃ g3 f3 s3 sz : Int, 0 ≤ g3 ∧ 0 ≤ sz ∧ sz ≤ 64 ∧ (mIfS (mB (m2p (oEqS false) (mCallD mf_law_take [some 1, none] (mCons (mMov 1) (mCons (mPu (pC (.int 2))) (mNil)))) (pC (.int 1)))) (mAsg 2 (mCallD mf_law_take [some 1, none] (mCons (mMov 1) (mCons (mPu (pC (.int 65))) (mNil))))) (mNx))
      [x0, .lst [.fz (.int g1), .fz (.int f1), .fz (.int s1)], .fz (.int d1), .un, .un, .un, .un] = .ok .nx [x0, .lst [.fz (.int g3), .fz (.int f3), .fz (.int s3)], .fz (.int sz), .un, .un, .un, .un] := by
    intro x0
    by_cases hd : d2 = 1
    · subst hd
      obtain ⟨d3, g3, f3, s3, l3, u3, hg3, e3⟩ := take_ok g2 f2 s2 65 hg2 (by omega) (by decide)
      refine' ⟨g3, f3, s3, d3, hg3, l3, by omega, e_ifT (e_mB (e_m2p ?_ ?_ ?_)) ?_⟩
      rotate_left 2
      all_goals repeat' (walk_at "ev1")
    · refine' ⟨g2, f2, s2, d1, hg2, l1, by omega, e_ifF (e_mB (e_m2p ?_ ?_ ?_)) ?_⟩
      rotate_left 2
      all_goals repeat' (walk_at "ev1")
  obtain ⟨g3, f3, s3, sz, hg3, z1, z2, e3⟩ := p3 (.fz (.wl (ns.map .int)))
  obtain ⟨d4, g4, f4, s4, l4, u4, hg4, e4⟩ := take_ok g3 f3 s3 (sz / 2 + 7) hg3 (by omega) (Nat.lt_of_le_of_lt (mg_lg (by omega)) (by decide : 63 < 9000))
  obtain ⟨d5, g5, f5, s5, l5, u5, hg5, e5⟩ := take_ok g4 f4 s4 8 hg4 (by omega) (by decide)
  have p5 : ∀ x0 : T, ∃ g6 f6 s6 mn : Int, 0 ≤ g6 ∧ -64 ≤ mn ∧ mn ≤ 35 ∧ (mIfS (mB (m2p (oEqS false) (mCallD mf_law_take [some 1, none] (mCons (mMov 1) (mCons (mPu (pC (.int 8))) (mNil)))) (pC (.int 1)))) (mAsg 3 (m2 oSub (mPu (p1 tNeg (pC (.int 1)))) (mCallD mf_law_take [some 1, none] (mCons (mMov 1) (mCons (mPu (pC (.int 64))) (mNil)))))) (mNx))
      [x0, .lst [.fz (.int g4), .fz (.int f4), .fz (.int s4)], .fz (.int sz), .fz (.int (d4 - 3)), .un, .un, .un] = .ok .nx [x0, .lst [.fz (.int g6), .fz (.int f6), .fz (.int s6)], .fz (.int sz), .fz (.int mn), .un, .un, .un] := by
    intro x0
    by_cases hd : d5 = 1
    · subst hd
      obtain ⟨d6, g6, f6, s6, l6, u6, hg6, e6⟩ := take_ok g5 f5 s5 64 hg5 (by omega) (by decide)
      refine' ⟨g6, f6, s6, -1 - d6, hg6, by omega, by omega, e_ifT (e_mB (e_m2p ?_ ?_ ?_)) ?_⟩
      rotate_left 2
      all_goals repeat' (walk_at "ev1")
    · refine' ⟨g5, f5, s5, d4 - 3, hg5, by omega, by omega, e_ifF (e_mB (e_m2p ?_ ?_ ?_)) ?_⟩
      rotate_left 2
      all_goals repeat' (walk_at "ev1")
  obtain ⟨g6, f6, s6, mn, hg6, m1, m2, e6⟩ := p5 (.fz (.wl (ns.map .int)))
  refine ⟨g6, f6, s6, sz, mn, z1, z2, m1, m2, fun R r hR => ?_⟩
  refine' e_seq ?_ (e_seq ?_ (e_seq e3 (e_seq ?_ (e_seq e6 hR))))
  all_goals repeat' (walk_at "ev1")
theorem law_core (core : Core) (ns : List Int) (_h : ns.length ≤ 63) : ∃ ts, mf_law [.fz (.wl (ns.map .int))] = .ok (.fz (.bl true)) ts := by
  obtain ⟨g, f, s, sz, mn, h1, h2, h3, h4, hk⟩ := front ns
  obtain ⟨η', hr⟩ := rest_ok core (.fz (.wl (ns.map .int))) (.lst [.fz (.int g), .fz (.int f), .fz (.int s)]) sz mn h1 h2 h3 h4
  refine ⟨[.fz (.wl (ns.map .int))], ?_⟩
  unfold mf_law mb_law
  refine' e_runR rfl (hk _ _ hr) ?_ ?_
  · simp
  · rfl
end PK
end
section
set_option Elab.async false
set_option maxRecDepth 100000
set_option maxHeartbeats 4000000
open PySem L2 StX ML
local macro_rules | `(tactic| walk_at "lst") => `(tactic| (simp only [List.length_cons, List.length_nil, List.length_append, List.length_replicate, List.replicate, List.reduceReplicate, List.cons_append, List.nil_append, List.append_nil, List.set_cons_zero, List.set_cons_succ, List.set_nil, List.getElem?_cons_zero, List.getElem?_cons_succ, List.getElem?_nil, List.map_cons, List.map_nil, Nat.reduceAdd, Nat.reduceSub]))
local macro_rules | `(tactic| walk_at "pure") => `(tactic| (simp (config := { decide := true }) only [p2, p1, pV, pC, pB, oGt, oLt, oGe, oLe, oAdd, oSub, oMul, oDiv, oMod, oPow, oIx, oEqS, oIsN, oIsi, tyN, tNeg, isN, sv, scal, onI, itemsR, pCall, pCons, pNil, fInt, fLen, fMin2, fMax2, fAbs, pAndT, pOrT, pNotT, pAndV, pOrV, pNotV, cMul, atI, ixN, frz, frzs, frozL,
  List.length_cons, List.length_nil, List.length_append, List.length_replicate, List.length_map, List.replicate, List.cons_append, List.nil_append, List.append_nil, List.set_cons_zero, List.set_cons_succ, List.set_nil, List.getElem?_cons_zero, List.getElem?_cons_succ, List.getElem?_nil, List.map_cons, List.map_nil,
  Nat.reduceAdd, Nat.reduceSub, Nat.reduceLT, Nat.reduceLeDiff, Nat.reduceEqDiff, Int.reduceLT, Int.reduceLE, Int.reduceNeg, Int.reducePow, Int.reduceToNat, Int.toNat_zero, Int.toNat_one, Int.reduceAdd, Int.reduceSub, Int.reduceMul, if_true, if_false, decide_true, decide_false, decide_eq_true_eq, Bool.and_true, Bool.true_and, Bool.or_true, Bool.true_or, Bool.and_self, Bool.or_self, Bool.and_eq_true, Bool.not_true, Bool.not_false, Option.bind_some, Option.map_some, Option.bind_none, Option.map_none, reduceIte, reduceCtorEq, V.int.injEq, V.bl.injEq, Int.natCast_zero, Int.natCast_add, Int.natCast_one, Int.zero_add, Int.ofNat_eq_natCast, *]))
local macro_rules | `(tactic| walk_at "ev1") => `(tactic| first
  | with_reducible refine' e_seq ?_ ?_
  | with_reducible exact e_nx
  | with_reducible refine' e_asg ?_ ?_ ?_
  | with_reducible refine' e_pu ?_
  | with_reducible refine' e_puT ?_
  | with_reducible refine' e_ret ?_
  | with_reducible exact e_retN
  | with_reducible refine' e_drop ?_
  | with_reducible refine' e_mB ?_
  | with_reducible exact e_nil
  | with_reducible refine' e_cons ?_ ?_
  | with_reducible refine' e_lst ?_ ?_
  | with_reducible refine' e_tup ?_ ?_
  | with_reducible refine' e_frz ?_ ?_ ?_
  | with_reducible refine' e_fz ?_ ?_
  | with_reducible refine' e_app ?_ ?_ ?_ ?_ ?_
  | with_reducible refine' e_setIx ?_ ?_ ?_ ?_ ?_
  | (with_reducible refine' e_runR ?_ ?_ ?_ ?_)
  | (with_reducible refine' e_ifT (e_puT ?t) ?r; (case t => (walk_at "pure"; done)))
  | (with_reducible refine' e_ifF (e_puT ?t) ?r; (case t => (walk_at "pure"; done)))
  | (with_reducible refine' e_forL ?_ ?_ ?_)
  | (with_reducible refine' e_call ?_ ?_ ?_)
  | (with_reducible refine' e_callK ?_ ?_ ?_ ?_ ?_)
  | (with_reducible refine' e_callDf ?_ ?_ ?_)
  | (with_reducible refine' e_m2p ?_ ?_ ?_)
  | (with_reducible refine' e_m2 ?_ ?_ ?_)
  | (with_reducible refine' e_movF ?a; (case a => first | (walk_at "lst"; with_reducible rfl) | (walk_at "lst"; done)))
  | (with_reducible refine' e_movL ?a ?b; (case a => first | (walk_at "lst"; with_reducible rfl) | (walk_at "lst"; done)); (case b => first | (walk_at "lst"; with_reducible rfl) | (walk_at "lst"; done)))
  | (simp only [putB, List.cons_append, List.nil_append, List.map_cons, List.map_nil, List.set_cons_zero, List.set_cons_succ, List.getElem?_cons_zero, List.getElem?_cons_succ]; with_reducible rfl)
  | (with_reducible refine' e_forR1 ?_ ?_ ?_)
  | (with_reducible refine' e_forR2 ?_ ?_ ?_)
  | (show outs _ _ _ = _; rfl)
  | (with_reducible show _ = _; with_reducible assumption)
  | (walk_at "lst"; with_reducible rfl)
  | (walk_at "lst"; done)
  | (walk_at "pure"; with_reducible rfl)
  | (walk_at "pure"; done))
namespace PK
/-- a list of ints by its places -/
def RL (n : Nat) (g : Nat → Int) : List T := (List.range n).map fun k => .fz (.int (g k))
theorem RL_len (n : Nat) (g : Nat → Int) : (RL n g).length = n := by unfold RL; simp
theorem RL_succ (n : Nat) (g : Nat → Int) : RL n g ++ [.fz (.int (g n))] = RL (n + 1) g := by unfold RL; rw [List.range_succ, List.map_append]; rfl
theorem RL_ix {n : Nat} {g : Nat → Int} {i : Int} (h0 : 0 ≤ i) (h1 : i < n) : oIx (.lst (RL n g)) (.fz (.int i)) = some (.fz (.int (g i.toNat))) := by
  have e : atI (RL n g) i = some (.fz (.int (g i.toNat))) := by
    unfold atI ixN
    rw [RL_len, if_pos h0, if_pos h1]
    simp only [Option.bind_some, RL, List.getElem?_map]
    rw [List.getElem?_range (by omega)]
    rfl
  unfold oIx
  simp only [itemsR, e]
theorem RL_one (g : Nat → Int) : [T.fz (.int (g 0))] = RL 1 g := rfl
def factN : Nat → Nat
  | 0 => 1
  | n + 1 => factN n * (n + 1)
def fact (k : Nat) : Int := (factN k : Int)
def pw (b : Int) (k : Nat) : Int := b ^ k
theorem fact_succ (k : Nat) : fact (k + 1) = fact k * ((0 : Int) + (k : Nat) + 1) := by
  unfold fact
  show ((factN k * (k + 1) : Nat) : Int) = _
  rw [Int.natCast_mul, Int.natCast_add]
  simp
theorem e_forR1N {η η1 : ML.Env} {i : Nat} {A : M (List T)} {body : M Fl} {r : Res Fl} {k : Nat} (h : A η = .ok [.fz (.int (k : Int))] η1) (hk : k < 2 ^ 62) (e : mForR i 0 k body η1 = r) : mForR1 i A body η = r :=
  e_forR1 h ⟨by omega, by omega⟩ (by rw [Int.toNat_natCast]; exact e)
theorem fac_ok (n : Nat) (hn : n ≤ 1000) : mf_law_factorials [.fz (.int n)] = .ok (.lst (RL (n + 1) fact)) [.fz (.int n)] := by
  obtain ⟨η, h1, x, rfl⟩ := forR_inv (i := 2) (lo := 0) (n := n) (η := [.fz (.int n), .lst [.fz (.int 1)], .un]) (body := lb_law_factorials_1) (fun k η => ∃ x, η = [.fz (.int n), .lst (RL (k + 1) fact), x]) ⟨.un, rfl⟩ (by
    rintro k η hk ⟨x, rfl⟩
    refine ⟨by simp, [.fz (.int n), .lst (RL (k + 2) fact), .fz (.int (0 + (k : Nat)))], .inl ?_, _, rfl⟩
    have hx := RL_ix (n := k + 1) (g := fact) (i := 0 + (k : Nat)) (by omega) (by omega)
    have hc : cMul (fact (0 + ((k : Nat) : Int)).toNat) (0 + (k : Nat) + 1) = true := by
      unfold cMul
      simp only [Bool.or_eq_true, Bool.and_eq_true, decide_eq_true_eq]
      exact .inl (.inl ⟨by omega, by omega⟩)
    unfold lb_law_factorials_1
    refine e_app ⟨_, rfl⟩ (e_pu (d := .int (fact (k + 1))) ?_) rfl (by rw [RL_len]; unfold LIM; omega) ?_
    · walk_at "lst"
      simp only [p2, pV, List.getElem?_cons_zero, List.getElem?_cons_succ, hx, pC, oAdd, oMul, onI, if_true, hc]
      rw [show (0 + ((k : Nat) : Int)).toNat = k by omega, fact_succ]
    · walk_at "lst"
      rw [RL_succ])
  have hb : mb_law_factorials [.fz (.int n), .un, .un] = .ok (.rt (.lst (RL (n + 1) fact))) [.fz (.int n), .un, x] := by
    unfold mb_law_factorials
    refine' e_seq (e_asg (e_lst (e_cons (e_pu (d := .int 1) rfl) e_nil) (by simp [LIM])) (by simp) rfl) (e_seq (e_forR1N (e_cons (e_pu (d := .int n) rfl) e_nil) (by omega) h1) (e_ret (e_movL rfl rfl)))
  unfold mf_law_factorials
  exact e_runR rfl hb (by simp) rfl
theorem pow_ok (b : Int) (n : Nat) (hb : 0 ≤ b) (hb2 : b < 2 ^ 64) (hn : n ≤ 1000) : mf_law_powers [.fz (.int b), .fz (.int n)] = .ok (.lst (RL (n + 1) (pw b))) [.fz (.int b), .fz (.int n)] := by
  obtain ⟨η, h1, x, rfl⟩ := forR_inv (i := 3) (lo := 0) (n := n) (η := [.fz (.int b), .fz (.int n), .lst [.fz (.int 1)], .un]) (body := lb_law_powers_1) (fun k η => ∃ x, η = [.fz (.int b), .fz (.int n), .lst (RL (k + 1) (pw b)), x]) ⟨.un, by unfold RL pw; simp⟩ (by
    rintro k η hk ⟨x, rfl⟩
    refine ⟨by simp, [.fz (.int b), .fz (.int n), .lst (RL (k + 2) (pw b)), .fz (.int (0 + (k : Nat)))], .inl ?_, _, rfl⟩
    have hx := RL_ix (n := k + 1) (g := pw b) (i := 0 + (k : Nat)) (by omega) (by omega)
    have hc : cMul (pw b (0 + ((k : Nat) : Int)).toNat) b = true := by
      unfold cMul
      simp only [Bool.or_eq_true, Bool.and_eq_true, decide_eq_true_eq]
      exact .inl (.inl ⟨by omega, by omega⟩)
    unfold lb_law_powers_1
    refine e_app ⟨_, rfl⟩ (e_pu (d := .int (pw b (k + 1))) ?_) rfl (by rw [RL_len]; unfold LIM; omega) ?_
    · walk_at "lst"
      simp only [p2, pV, List.getElem?_cons_zero, List.getElem?_cons_succ, hx, pC, oAdd, oMul, onI, if_true, hc]
      rw [show (0 + ((k : Nat) : Int)).toNat = k by omega]
      unfold pw
      rw [Int.pow_succ]
    · walk_at "lst"
      rw [RL_succ])
  have hb : mb_law_powers [.fz (.int b), .fz (.int n), .un, .un] = .ok (.rt (.lst (RL (n + 1) (pw b)))) [.fz (.int b), .fz (.int n), .un, x] := by
    unfold mb_law_powers
    refine' e_seq (e_asg (e_lst (e_cons (e_pu (d := .int 1) rfl) e_nil) (by simp [LIM])) (by simp) rfl) (e_seq (e_forR1N (e_cons (e_pu (d := .int n) rfl) e_nil) (by omega) h1) (e_ret (e_movL rfl rfl)))
  unfold mf_law_powers
  exact e_runR rfl hb (by simp) rfl
/-- a number kept below a power of two -/
def Sm (a : Nat) (x : Int) : Prop := 0 ≤ x ∧ x < 2 ^ a
theorem Sm.mul {a b : Nat} {x y : Int} (h : Sm a x) (k : Sm b y) : Sm (a + b) (x * y) := by
  refine ⟨Int.mul_nonneg h.1 k.1, ?_⟩
  rw [Int.pow_add]
  have h2 : x * y ≤ x * 2 ^ b := Int.mul_le_mul_of_nonneg_left (Int.le_of_lt k.2) h.1
  have h3 : x * 2 ^ b < 2 ^ a * 2 ^ b := Int.mul_lt_mul_of_pos_right h.2 (Int.pow_pos (by decide))
  exact Int.lt_of_le_of_lt h2 h3
theorem Sm.log {a : Nat} {x : Int} (h : Sm a x) : x.natAbs.log2 ≤ a := by
  have h1 : x.natAbs < 2 ^ a := by
    have := h.2
    have h0 := h.1
    have e : ((x.natAbs : Nat) : Int) = x := Int.natAbs_of_nonneg h0
    have : ((x.natAbs : Nat) : Int) < ((2 ^ a : Nat) : Int) := by rw [e]; simpa using this
    exact Int.ofNat_lt.1 this
  by_cases h0 : x.natAbs = 0
  · rw [h0]; simp
  · exact Nat.le_of_lt ((Nat.log2_lt h0).2 h1)
theorem Sm.le {a b : Nat} {x : Int} (h : Sm a x) (k : a ≤ b) : Sm b x := by
  refine ⟨h.1, Int.lt_of_lt_of_le h.2 ?_⟩
  have := Nat.pow_le_pow_right (n := 2) (by omega) k
  have h2 : ((2 ^ a : Nat) : Int) ≤ ((2 ^ b : Nat) : Int) := Int.ofNat_le.2 this
  simpa using h2
theorem mul_ok {a b : Nat} {x y : Int} (h : Sm a x) (k : Sm b y) (l : a + b < 1000000) : oMul (.fz (.int x)) (.fz (.int y)) = some (.fz (.int (x * y))) := by
  have h1 := h.log
  have k1 := k.log
  unfold oMul onI
  simp only
  rw [if_pos]
  unfold cMul
  simp only [Bool.or_eq_true, Bool.and_eq_true, decide_eq_true_eq]
  exact .inr (by omega)
theorem div_ok {b : Nat} {x y : Int} (k : Sm b y) (k0 : 0 < y) (l : b < 9000) : oDiv (.fz (.int x)) (.fz (.int y)) = some (.fz (.int (x / y))) := by
  have k1 := k.log
  unfold oDiv onI
  simp only
  rw [if_pos]
  simp only [Bool.and_eq_true, decide_eq_true_eq]
  exact ⟨k0, by omega⟩
theorem factN_pos : ∀ k, 0 < factN k
  | 0 => by decide
  | k + 1 => Nat.mul_pos (factN_pos k) (by omega)
theorem factN_mono {j : Nat} : ∀ k, j ≤ k → factN j ≤ factN k
  | 0, h => by
    cases Nat.le_zero.1 h
    exact Nat.le_refl _
  | k + 1, h => by
    by_cases e : j = k + 1
    · rw [e]; exact Nat.le_refl _
    · exact Nat.le_trans (factN_mono k (by omega)) (Nat.le_mul_of_pos_right _ (by omega))
theorem fact_sm {k : Nat} (h : k ≤ 66) : Sm 400 (fact k) := by
  unfold fact
  refine ⟨Int.natCast_nonneg _, ?_⟩
  have h1 : factN k < 2 ^ 400 := Nat.lt_of_le_of_lt (factN_mono 66 h) (by decide +kernel)
  have h2 : ((factN k : Nat) : Int) < ((2 ^ 400 : Nat) : Int) := Int.ofNat_lt.2 h1
  simpa using h2
theorem fact_pos (k : Nat) : 0 < fact k := by
  have := factN_pos k
  unfold fact; omega
theorem pw_sm {b : Nat} {k : Nat} (hb : b < 64) (hb0 : 0 < b) (h : k ≤ 66) : Sm 400 (pw (b : Int) k) ∧ 0 < pw (b : Int) k := by
  unfold pw
  have e : ((b : Int)) ^ k = ((b ^ k : Nat) : Int) := by simp
  rw [e]
  have h0 : 0 < b ^ k := Nat.pow_pos hb0
  refine ⟨⟨Int.natCast_nonneg _, ?_⟩, by omega⟩
  have h1 : b ^ k < 2 ^ 400 := Nat.lt_of_le_of_lt (Nat.le_trans (Nat.pow_le_pow_left (by omega : b ≤ 63) k) (Nat.pow_le_pow_right (by omega) h)) (by decide +kernel)
  have h2 : ((b ^ k : Nat) : Int) < ((2 ^ 400 : Nat) : Int) := Int.ofNat_lt.2 h1
  simpa using h2
end PK
end
section
set_option Elab.async false
set_option maxRecDepth 100000
set_option maxHeartbeats 4000000
open PySem L2 StX ML
local macro_rules | `(tactic| walk_at "lst") => `(tactic| (simp only [List.length_cons, List.length_nil, List.length_append, List.length_replicate, List.replicate, List.reduceReplicate, List.cons_append, List.nil_append, List.append_nil, List.set_cons_zero, List.set_cons_succ, List.set_nil, List.getElem?_cons_zero, List.getElem?_cons_succ, List.getElem?_nil, List.map_cons, List.map_nil, Nat.reduceAdd, Nat.reduceSub]))
local macro_rules | `(tactic| walk_at "pure") => `(tactic| (simp (config := { decide := true }) only [p2, p1, pV, pC, pB, oGt, oLt, oGe, oLe, oAdd, oSub, oMul, oDiv, oMod, oPow, oIx, oEqS, oIsN, oIsi, tyN, tNeg, isN, sv, scal, onI, itemsR, pCall, pCons, pNil, fInt, fLen, fMin2, fMax2, fAbs, pAndT, pOrT, pNotT, pAndV, pOrV, pNotV, cMul, atI, ixN, frz, frzs, frozL,
  List.length_cons, List.length_nil, List.length_append, List.length_replicate, List.length_map, List.replicate, List.cons_append, List.nil_append, List.append_nil, List.set_cons_zero, List.set_cons_succ, List.set_nil, List.getElem?_cons_zero, List.getElem?_cons_succ, List.getElem?_nil, List.map_cons, List.map_nil,
  Nat.reduceAdd, Nat.reduceSub, Nat.reduceLT, Nat.reduceLeDiff, Nat.reduceEqDiff, Int.reduceLT, Int.reduceLE, Int.reduceNeg, Int.reducePow, Int.reduceToNat, Int.toNat_zero, Int.toNat_one, Int.reduceAdd, Int.reduceSub, Int.reduceMul, if_true, if_false, decide_true, decide_false, decide_eq_true_eq, Bool.and_true, Bool.true_and, Bool.or_true, Bool.true_or, Bool.and_self, Bool.or_self, Bool.and_eq_true, Bool.not_true, Bool.not_false, Option.bind_some, Option.map_some, Option.bind_none, Option.map_none, reduceIte, reduceCtorEq, V.int.injEq, V.bl.injEq, Int.natCast_zero, Int.natCast_add, Int.natCast_one, Int.zero_add, Int.ofNat_eq_natCast, *]))
local macro_rules | `(tactic| walk_at "ev1") => `(tactic| first
  | with_reducible refine' e_seq ?_ ?_
  | with_reducible exact e_nx
  | with_reducible refine' e_asg ?_ ?_ ?_
  | with_reducible refine' e_pu ?_
  | with_reducible refine' e_puT ?_
  | with_reducible refine' e_ret ?_
  | with_reducible exact e_retN
  | with_reducible refine' e_drop ?_
  | with_reducible refine' e_mB ?_
  | with_reducible exact e_nil
  | with_reducible refine' e_cons ?_ ?_
  | with_reducible refine' e_lst ?_ ?_
  | with_reducible refine' e_tup ?_ ?_
  | with_reducible refine' e_frz ?_ ?_ ?_
  | with_reducible refine' e_fz ?_ ?_
  | with_reducible refine' e_app ?_ ?_ ?_ ?_ ?_
  | with_reducible refine' e_setIx ?_ ?_ ?_ ?_ ?_
  | (with_reducible refine' e_runR ?_ ?_ ?_ ?_)
  | (with_reducible refine' e_ifT (e_puT ?t) ?r; (case t => (walk_at "pure"; done)))
  | (with_reducible refine' e_ifF (e_puT ?t) ?r; (case t => (walk_at "pure"; done)))
  | (with_reducible refine' e_forL ?_ ?_ ?_)
  | (with_reducible refine' e_call ?_ ?_ ?_)
  | (with_reducible refine' e_callK ?_ ?_ ?_ ?_ ?_)
  | (with_reducible refine' e_callDf ?_ ?_ ?_)
  | (with_reducible refine' e_m2p ?_ ?_ ?_)
  | (with_reducible refine' e_m2 ?_ ?_ ?_)
  | (with_reducible refine' e_movF ?a; (case a => first | (walk_at "lst"; with_reducible rfl) | (walk_at "lst"; done)))
  | (with_reducible refine' e_movL ?a ?b; (case a => first | (walk_at "lst"; with_reducible rfl) | (walk_at "lst"; done)); (case b => first | (walk_at "lst"; with_reducible rfl) | (walk_at "lst"; done)))
  | (simp only [putB, List.cons_append, List.nil_append, List.map_cons, List.map_nil, List.set_cons_zero, List.set_cons_succ, List.getElem?_cons_zero, List.getElem?_cons_succ]; with_reducible rfl)
  | (with_reducible refine' e_forR1 ?_ ?_ ?_)
  | (with_reducible refine' e_forR2 ?_ ?_ ?_)
  | (show outs _ _ _ = _; rfl)
  | (with_reducible show _ = _; with_reducible assumption)
  | (walk_at "lst"; with_reducible rfl)
  | (walk_at "lst"; done)
  | (walk_at "pure"; with_reducible rfl)
  | (walk_at "pure"; done))
namespace PK
/-- a pure text with a number of a bounded size -/
def PV (p : Pu T) (η : ML.Env) (x : Int) (a : Nat) : Prop := p η = some (.fz (.int x)) ∧ Sm a x
def PP (p : Pu T) (η : ML.Env) (x : Int) (a : Nat) : Prop := PV p η x a ∧ 0 < x
theorem p2_ok {p q : Pu T} {f : T → T → Option T} {η : ML.Env} {t u v : T} (h : p η = some t) (k : q η = some u) (e : f t u = some v) : p2 f p q η = some v := by
  unfold p2; rw [h, k]; exact e
theorem PV.mul {p q : Pu T} {η : ML.Env} {x y : Int} {a b : Nat} (h : PV p η x a) (k : PV q η y b) (l : a + b < 1000000) : PV (p2 oMul p q) η (x * y) (a + b) :=
  ⟨p2_ok h.1 k.1 (mul_ok h.2 k.2 l), h.2.mul k.2⟩
theorem PP.mul {p q : Pu T} {η : ML.Env} {x y : Int} {a b : Nat} (h : PP p η x a) (k : PP q η y b) (l : a + b < 1000000) : PP (p2 oMul p q) η (x * y) (a + b) :=
  ⟨h.1.mul k.1 l, Int.mul_pos h.2 k.2⟩
theorem ixV {η : ML.Env} {a n k : Nat} {g : Nat → Int} {q : Pu T} {i : Int} (hl : η[a]? = some (.lst (RL n g))) (hi : q η = some (.fz (.int i))) (e : i = (k : Nat)) (hk : k < n) : p2 oIx (pV a) q η = some (.fz (.int (g k))) := by
  subst e
  refine p2_ok (t := .lst (RL n g)) (by unfold pV; rw [hl]) hi ?_
  rw [RL_ix (by omega) (by omega)]
  simp
theorem ixF {η : ML.Env} {a n k : Nat} {q : Pu T} {i : Int} (hl : η[a]? = some (.lst (RL n fact))) (hi : q η = some (.fz (.int i))) (e : i = (k : Nat)) (hk : k < n) (h6 : n ≤ 67) : PP (p2 oIx (pV a) q) η (fact k) 400 :=
  ⟨⟨ixV hl hi e hk, fact_sm (by omega)⟩, fact_pos k⟩
theorem ixP {η : ML.Env} {a n k : Nat} (b : Nat) {q : Pu T} {i : Int} (hl : η[a]? = some (.lst (RL n (pw (b : Int))))) (hi : q η = some (.fz (.int i))) (e : i = (k : Nat)) (hk : k < n) (h6 : n ≤ 67) (hb : b < 64) (hb0 : 0 < b) : PP (p2 oIx (pV a) q) η (pw (b : Int) k) 400 :=
  ⟨⟨ixV hl hi e hk, (pw_sm hb hb0 (by omega)).1⟩, (pw_sm hb hb0 (by omega)).2⟩
def sumI : Nat → (Nat → Int) → Int
  | 0, _ => 0
  | k + 1, g => sumI k g + g k
def alike (f t w p s : Nat) : Int := fact (s - 2 * p) * fact p * fact w * fact t * fact f * pw 2 p * pw 2 w * pw 6 t * pw 24 f
def term (n f t w p s : Nat) : Int := fact n / alike f t w p s * pw 2 w * pw 12 t * pw 42 f
/-- the head of the frame -/
abbrev Hd (n m : Nat) (r : List T) : ML.Env := .fz (.int n) :: .fz (.int m) :: .lst (RL (n + 2) fact) :: .lst (RL (n + 1) (pw ((2 : Nat) : Int))) :: .lst (RL (n + 1) (pw ((6 : Nat) : Int))) :: .lst (RL (n + 1) (pw ((24 : Nat) : Int))) :: .lst (RL (n + 1) (pw ((12 : Nat) : Int))) :: .lst (RL (n + 1) (pw ((42 : Nat) : Int))) :: r
theorem wt1_turn (n m f t w p : Nat) (hn : n ≤ 64) (tot s : Int) (hs : s = n - 4 * f - 3 * t - 2 * w) (hp : 2 * (p : Int) ≤ s) (z : T) :
    lb_law_with_torn_1 (Hd n m [.fz (.int tot), .fz (.int f), .fz (.int t), .fz (.int w), .fz (.int s), .fz (.int (0 + (p : Nat))), z]) = .ok .nx (Hd n m [.fz (.int (tot + term n f t w p s.toNat)), .fz (.int f), .fz (.int t), .fz (.int w), .fz (.int s), .fz (.int (0 + (p : Nat))), .fz (.int (alike f t w p s.toNat))]) := by
  unfold lb_law_with_torn_1
  have a1 : ∀ z, PP (p2 oMul (p2 oMul (p2 oMul (p2 oMul (p2 oIx (pV 2) (p2 oSub (pV 12) (p2 oMul (pC (.int 2)) (pV 13)))) (p2 oIx (pV 2) (pV 13))) (p2 oIx (pV 2) (pV 11))) (p2 oIx (pV 2) (pV 10))) (p2 oIx (pV 2) (pV 9))) (Hd n m [.fz (.int tot), .fz (.int f), .fz (.int t), .fz (.int w), .fz (.int s), .fz (.int (0 + (p : Nat))), z]) (fact (s.toNat - 2 * p) * fact p * fact w * fact t * fact f) (400 + 400 + 400 + 400 + 400) := fun z => by
    have e2 : p2 oMul (pC (.int 2)) (pV 13) (Hd n m [.fz (.int tot), .fz (.int f), .fz (.int t), .fz (.int w), .fz (.int s), .fz (.int (0 + (p : Nat))), z]) = some (.fz (.int (2 * (0 + (p : Int))))) := p2_ok (t := .fz (.int 2)) rfl rfl (mul_ok (a := 2) (b := 10) ⟨by decide, by decide⟩ ⟨by omega, by omega⟩ (by decide))
    refine (((((ixF (n := n + 2) (k := s.toNat - 2 * p) rfl (p2_ok (u := .fz (.int (2 * (0 + (p : Int))))) (v := .fz (.int (s - 2 * (0 + (p : Int))))) rfl e2 rfl) (by omega) (by omega) (by omega)).mul (ixF (n := n + 2) (k := p) rfl rfl (by omega) (by omega) (by omega)) (by decide)).mul (ixF (n := n + 2) (k := w) rfl rfl (by omega) (by omega) (by omega)) (by decide)).mul (ixF (n := n + 2) (k := t) rfl rfl (by omega) (by omega) (by omega)) (by decide)).mul (ixF (n := n + 2) (k := f) rfl rfl (by omega) (by omega) (by omega)) (by decide))
  have a2 : ∀ x, Sm 2000 x → 0 < x → PP (p2 oMul (p2 oMul (p2 oMul (p2 oMul (pV 14) (p2 oIx (pV 3) (pV 13))) (p2 oIx (pV 3) (pV 11))) (p2 oIx (pV 4) (pV 10))) (p2 oIx (pV 5) (pV 9))) (Hd n m [.fz (.int tot), .fz (.int f), .fz (.int t), .fz (.int w), .fz (.int s), .fz (.int (0 + (p : Nat))), .fz (.int x)]) (x * pw ((2 : Nat) : Int) p * pw ((2 : Nat) : Int) w * pw ((6 : Nat) : Int) t * pw ((24 : Nat) : Int) f) (2000 + 400 + 400 + 400 + 400) := fun x h1 h2 => by
    have h3 : PP (pV 14) (Hd n m [.fz (.int tot), .fz (.int f), .fz (.int t), .fz (.int w), .fz (.int s), .fz (.int (0 + (p : Nat))), .fz (.int x)]) x 2000 := ⟨⟨rfl, h1⟩, h2⟩
    refine ((((h3.mul (ixP 2 (n := n + 1) (k := p) rfl rfl (by omega) (by omega) (by omega) (by decide) (by decide)) (by decide)).mul (ixP 2 (n := n + 1) (k := w) rfl rfl (by omega) (by omega) (by omega) (by decide) (by decide)) (by decide)).mul (ixP 6 (n := n + 1) (k := t) rfl rfl (by omega) (by omega) (by omega) (by decide) (by decide)) (by decide)).mul (ixP 24 (n := n + 1) (k := f) rfl rfl (by omega) (by omega) (by omega) (by decide) (by decide)) (by decide))
  have b1 := a1 z
  have b2 := a2 _ b1.1.2 b1.2
  refine e_seq (e_asg (e_pu b1.1.1) (by simp) rfl) (e_seq (e_asg (e_pu b2.1.1) (by simp) rfl) (e_asg (e_pu (d := .int (tot + term n f t w p s.toNat)) ?_) (by simp) rfl))
  show p2 _ _ _ (Hd n m [.fz (.int tot), .fz (.int f), .fz (.int t), .fz (.int w), .fz (.int s), .fz (.int (0 + (p : Nat))), .fz (.int (alike f t w p s.toNat))]) = _
  have hal : Sm 3600 (alike f t w p s.toNat) ∧ 0 < alike f t w p s.toNat := ⟨b2.1.2, b2.2⟩
  have hq : PV (p2 oDiv (p2 oIx (pV 2) (pV 0)) (pV 14)) (Hd n m [.fz (.int tot), .fz (.int f), .fz (.int t), .fz (.int w), .fz (.int s), .fz (.int (0 + (p : Nat))), .fz (.int (alike f t w p s.toNat))]) (fact n / alike f t w p s.toNat) 400 := by
    have hf := ixF (n := n + 2) (k := n) (η := Hd n m [.fz (.int tot), .fz (.int f), .fz (.int t), .fz (.int w), .fz (.int s), .fz (.int (0 + (p : Nat))), .fz (.int (alike f t w p s.toNat))]) (a := 2) (q := pV 0) rfl rfl rfl (by omega) (by omega)
    refine ⟨p2_ok hf.1.1 rfl (div_ok hal.1 hal.2 (by decide)), ?_, ?_⟩
    · exact Int.ediv_nonneg hf.1.2.1 (Int.le_of_lt hal.2)
    · exact Int.lt_of_le_of_lt (Int.ediv_le_self _ hf.1.2.1) hf.1.2.2
  refine p2_ok (t := .fz (.int tot)) rfl (((hq.mul (ixP 2 (n := n + 1) (k := w) rfl rfl rfl (by omega) (by omega) (by decide) (by decide)).1 (by decide)).mul (ixP 12 (n := n + 1) (k := t) rfl rfl rfl (by omega) (by omega) (by decide) (by decide)).1 (by decide)).mul (ixP 42 (n := n + 1) (k := f) rfl rfl rfl (by omega) (by omega) (by decide) (by decide)).1 (by decide)).1 rfl
def W3 (n m f t : Nat) : Int := sumI (((n : Int) - 4 * f - 3 * t - 2 * ((m - f - t : Nat) : Int)) / 2 + 1).toNat fun p => term n f t (m - f - t) p ((n : Int) - 4 * f - 3 * t - 2 * ((m - f - t : Nat) : Int)).toNat
def W2 (n m f : Nat) : Int := sumI (m + 1 - f) fun t => W3 n m f t
def W1 (n m : Nat) : Int := sumI (m + 1) fun f => W2 n m f
theorem mulC {η : ML.Env} {q : Pu T} {x : Int} (c : Int) (h : q η = some (.fz (.int x))) (hc : 0 ≤ c ∧ c < 64) (hx : 0 ≤ x ∧ x < 1024) : p2 oMul (pC (.int c)) q η = some (.fz (.int (c * x))) :=
  p2_ok (t := .fz (.int c)) rfl h (mul_ok (a := 6) (b := 10) ⟨hc.1, by simpa using hc.2⟩ ⟨hx.1, by simpa using hx.2⟩ (by decide))
theorem subV {η : ML.Env} {p q : Pu T} {x y : Int} (h : p η = some (.fz (.int x))) (k : q η = some (.fz (.int y))) : p2 oSub p q η = some (.fz (.int (x - y))) := p2_ok h k rfl
theorem addV {η : ML.Env} {p q : Pu T} {x y : Int} (h : p η = some (.fz (.int x))) (k : q η = some (.fz (.int y))) : p2 oAdd p q η = some (.fz (.int (x + y))) := p2_ok h k rfl
theorem half {η : ML.Env} {p : Pu T} {x : Int} (h : p η = some (.fz (.int x))) : p2 oDiv p (pC (.int 2)) η = some (.fz (.int (x / 2))) := p2_ok (u := .fz (.int 2)) h rfl (div_ok (b := 2) ⟨by decide, by decide⟩ (by decide) (by decide))
theorem wt2_turn (n m f t : Nat) (hn : n ≤ 64) (hm : m ≤ 100) (ht : f + t ≤ m) (tot : Int) (z1 z2 z3 z4 : T) : ∃ z1' z2' z3' z4',
    lb_law_with_torn_2 (Hd n m [.fz (.int tot), .fz (.int f), .fz (.int t), z1, z2, z3, z4]) = .ok .nx (Hd n m [.fz (.int (tot + W3 n m f t)), .fz (.int f), .fz (.int t), z1', z2', z3', z4']) := by
  have ew : (m : Int) - f - t = ((m - f - t : Nat) : Int) := by omega
  have hW : W3 n m f t = sumI (((n : Int) - 4 * f - 3 * t - 2 * ((m - f - t : Nat) : Int)) / 2 + 1).toNat fun p => term n f t (m - f - t) p ((n : Int) - 4 * f - 3 * t - 2 * ((m - f - t : Nat) : Int)).toNat := rfl
  generalize hw : m - f - t = w at ew hW
  generalize hs : (n : Int) - 4 * f - 3 * t - 2 * (w : Int) = s at hW
  obtain ⟨η, h1, z3', z4', rfl⟩ := forR_inv (i := 13) (lo := 0) (n := (s / 2 + 1).toNat) (η := Hd n m [.fz (.int tot), .fz (.int f), .fz (.int t), .fz (.int w), .fz (.int s), z3, z4]) (body := lb_law_with_torn_1) (fun k η => ∃ z3 z4, η = Hd n m [.fz (.int (tot + sumI k fun p => term n f t w p s.toNat)), .fz (.int f), .fz (.int t), .fz (.int w), .fz (.int s), z3, z4]) ⟨z3, z4, by simp [sumI]⟩ (by
    rintro k η hk ⟨z3, z4, rfl⟩
    refine ⟨by simp, Hd n m [.fz (.int (tot + sumI (k + 1) fun p => term n f t w p s.toNat)), .fz (.int f), .fz (.int t), .fz (.int w), .fz (.int s), .fz (.int (0 + (k : Nat))), .fz (.int (alike f t w k s.toNat))], .inl ?_, _, _, rfl⟩
    simp only [sumI, ← Int.add_assoc]
    exact wt1_turn n m f t w k hn _ s hs.symm (by omega) z4)
  refine ⟨.fz (.int w), .fz (.int s), z3', z4', ?_⟩
  unfold lb_law_with_torn_2
  refine e_seq (e_asg (e_pu (d := .int w) ?_) (by simp) rfl) (e_seq (e_asg (e_pu (d := .int s) ?_) (by simp) rfl) (e_forR1 (k := s / 2 + 1) (e_cons (e_pu ?_) e_nil) ⟨by omega, by omega⟩ ?_))
  · rw [← ew]
    exact subV (subV rfl rfl) rfl
  · rw [← hs]
    exact subV (subV (subV rfl (mulC 4 rfl (by decide) (by omega))) (mulC 3 rfl (by decide) (by omega))) (mulC 2 rfl (by decide) (by omega))
  · exact addV (half rfl) rfl
  · rw [hW]; exact h1
theorem wt3_turn (n m f : Nat) (hn : n ≤ 64) (hm : m ≤ 100) (ht : f ≤ m) (tot : Int) (z0 z1 z2 z3 z4 : T) : ∃ z0' z1' z2' z3' z4',
    lb_law_with_torn_3 (Hd n m [.fz (.int tot), .fz (.int f), z0, z1, z2, z3, z4]) = .ok .nx (Hd n m [.fz (.int (tot + W2 n m f)), .fz (.int f), z0', z1', z2', z3', z4']) := by
  obtain ⟨η, h1, y0, y1, y2, y3, y4, rfl⟩ := forR_inv (i := 10) (lo := 0) (n := m + 1 - f) (η := Hd n m [.fz (.int tot), .fz (.int f), z0, z1, z2, z3, z4]) (body := lb_law_with_torn_2) (fun k η => ∃ z0 z1 z2 z3 z4, η = Hd n m [.fz (.int (tot + sumI k fun t => W3 n m f t)), .fz (.int f), z0, z1, z2, z3, z4]) ⟨z0, z1, z2, z3, z4, by simp [sumI]⟩ (by
    rintro k η hk ⟨z0, z1, z2, z3, z4, rfl⟩
    obtain ⟨y1, y2, y3, y4, h⟩ := wt2_turn n m f k hn hm (by omega) (tot + sumI k fun t => W3 n m f t) z1 z2 z3 z4
    refine ⟨by simp, Hd n m [.fz (.int (tot + sumI (k + 1) fun t => W3 n m f t)), .fz (.int f), .fz (.int k), y1, y2, y3, y4], .inl ?_, _, _, _, _, _, rfl⟩
    simp only [sumI, ← Int.add_assoc, Int.zero_add]
    exact h)
  refine ⟨y0, y1, y2, y3, y4, ?_⟩
  unfold lb_law_with_torn_3
  refine e_forR1N (k := m + 1 - f) (e_cons (e_pu ?_) e_nil) (by omega) h1
  rw [show ((m + 1 - f : Nat) : Int) = (m : Int) + 1 - f by omega]
  exact subV (addV rfl rfl) rfl
theorem wt_ok (n m : Nat) (hn : n ≤ 64) (hm : m ≤ 100) : mf_law_with_torn [.fz (.int n), .fz (.int m)] = .ok (.fz (.int (W1 n m))) [.fz (.int n), .fz (.int m)] := by
  obtain ⟨η, h1, y, y0, y1, y2, y3, y4, rfl⟩ := forR_inv (i := 9) (lo := 0) (n := m + 1) (η := Hd n m [.fz (.int 0), .un, .un, .un, .un, .un, .un]) (body := lb_law_with_torn_3) (fun k η => ∃ y z0 z1 z2 z3 z4, η = Hd n m [.fz (.int (sumI k fun t => W2 n m t)), y, z0, z1, z2, z3, z4]) ⟨.un, .un, .un, .un, .un, .un, by simp [sumI]⟩ (by
    rintro k η hk ⟨y, z0, z1, z2, z3, z4, rfl⟩
    obtain ⟨y0, y1, y2, y3, y4, h⟩ := wt3_turn n m k hn hm (by omega) (sumI k fun t => W2 n m t) z0 z1 z2 z3 z4
    refine ⟨by simp, Hd n m [.fz (.int (sumI (k + 1) fun t => W2 n m t)), .fz (.int k), y0, y1, y2, y3, y4], .inl ?_, _, _, _, _, _, _, rfl⟩
    simp only [sumI, Int.zero_add]
    exact h)
  have f1 : mf_law_factorials [.fz (.int ((n : Int) + 1))] = .ok (.lst (RL (n + 2) fact)) [.fz (.int ((n : Int) + 1))] := fac_ok (n + 1) (by omega)
  have p1 := pow_ok ((2 : Nat) : Int) n (by decide) (by decide) (by omega)
  have p2 := pow_ok ((6 : Nat) : Int) n (by decide) (by decide) (by omega)
  have p3 := pow_ok ((24 : Nat) : Int) n (by decide) (by decide) (by omega)
  have p4 := pow_ok ((12 : Nat) : Int) n (by decide) (by decide) (by omega)
  have p5 := pow_ok ((42 : Nat) : Int) n (by decide) (by decide) (by omega)
  have hb : mb_law_with_torn [.fz (.int n), .fz (.int m), .un, .un, .un, .un, .un, .un, .un, .un, .un, .un, .un, .un, .un] = .ok (.rt (.fz (.int (W1 n m)))) (Hd n m [.fz (.int (W1 n m)), y, y0, y1, y2, y3, y4]) := by
    unfold mb_law_with_torn
    refine e_seq (e_asg (e_call (e_cons (e_pu (d := .int ((n : Int) + 1)) (addV rfl rfl)) e_nil) f1 rfl) (by simp) rfl) ?_
    refine e_seq (e_asg (e_call (e_cons (e_pu (d := .int 2) rfl) (e_cons (e_pu (d := .int n) rfl) e_nil)) p1 rfl) (by simp) rfl) ?_
    refine e_seq (e_asg (e_call (e_cons (e_pu (d := .int 6) rfl) (e_cons (e_pu (d := .int n) rfl) e_nil)) p2 rfl) (by simp) rfl) ?_
    refine e_seq (e_asg (e_call (e_cons (e_pu (d := .int 24) rfl) (e_cons (e_pu (d := .int n) rfl) e_nil)) p3 rfl) (by simp) rfl) ?_
    refine e_seq (e_asg (e_call (e_cons (e_pu (d := .int 12) rfl) (e_cons (e_pu (d := .int n) rfl) e_nil)) p4 rfl) (by simp) rfl) ?_
    refine e_seq (e_asg (e_call (e_cons (e_pu (d := .int 42) rfl) (e_cons (e_pu (d := .int n) rfl) e_nil)) p5 rfl) (by simp) rfl) ?_
    refine e_seq (e_asg (e_pu (d := .int 0) rfl) (by simp) rfl) (e_seq (e_forR1N (k := m + 1) (e_cons (e_pu (d := .int ((m + 1 : Nat) : Int)) (by rw [show ((m + 1 : Nat) : Int) = (m : Int) + 1 from rfl]; exact addV rfl rfl)) e_nil) (by omega) h1) (e_ret (e_pu rfl)))
  unfold mf_law_with_torn
  exact e_runR rfl hb (by simp) rfl
end PK
end
section
set_option Elab.async false
set_option maxRecDepth 100000
set_option maxHeartbeats 4000000
open PySem L2 StX ML
local macro_rules | `(tactic| walk_at "lst") => `(tactic| (simp only [List.length_cons, List.length_nil, List.length_append, List.length_replicate, List.replicate, List.reduceReplicate, List.cons_append, List.nil_append, List.append_nil, List.set_cons_zero, List.set_cons_succ, List.set_nil, List.getElem?_cons_zero, List.getElem?_cons_succ, List.getElem?_nil, List.map_cons, List.map_nil, Nat.reduceAdd, Nat.reduceSub]))
local macro_rules | `(tactic| walk_at "pure") => `(tactic| (simp (config := { decide := true }) only [p2, p1, pV, pC, pB, oGt, oLt, oGe, oLe, oAdd, oSub, oMul, oDiv, oMod, oPow, oIx, oEqS, oIsN, oIsi, tyN, tNeg, isN, sv, scal, onI, itemsR, pCall, pCons, pNil, fInt, fLen, fMin2, fMax2, fAbs, pAndT, pOrT, pNotT, pAndV, pOrV, pNotV, cMul, atI, ixN, frz, frzs, frozL,
  List.length_cons, List.length_nil, List.length_append, List.length_replicate, List.length_map, List.replicate, List.cons_append, List.nil_append, List.append_nil, List.set_cons_zero, List.set_cons_succ, List.set_nil, List.getElem?_cons_zero, List.getElem?_cons_succ, List.getElem?_nil, List.map_cons, List.map_nil,
  Nat.reduceAdd, Nat.reduceSub, Nat.reduceLT, Nat.reduceLeDiff, Nat.reduceEqDiff, Int.reduceLT, Int.reduceLE, Int.reduceNeg, Int.reducePow, Int.reduceToNat, Int.toNat_zero, Int.toNat_one, Int.reduceAdd, Int.reduceSub, Int.reduceMul, if_true, if_false, decide_true, decide_false, decide_eq_true_eq, Bool.and_true, Bool.true_and, Bool.or_true, Bool.true_or, Bool.and_self, Bool.or_self, Bool.and_eq_true, Bool.not_true, Bool.not_false, Option.bind_some, Option.map_some, Option.bind_none, Option.map_none, reduceIte, reduceCtorEq, V.int.injEq, V.bl.injEq, Int.natCast_zero, Int.natCast_add, Int.natCast_one, Int.zero_add, Int.ofNat_eq_natCast, *]))
local macro_rules | `(tactic| walk_at "ev1") => `(tactic| first
  | with_reducible refine' e_seq ?_ ?_
  | with_reducible exact e_nx
  | with_reducible refine' e_asg ?_ ?_ ?_
  | with_reducible refine' e_pu ?_
  | with_reducible refine' e_puT ?_
  | with_reducible refine' e_ret ?_
  | with_reducible exact e_retN
  | with_reducible refine' e_drop ?_
  | with_reducible refine' e_mB ?_
  | with_reducible exact e_nil
  | with_reducible refine' e_cons ?_ ?_
  | with_reducible refine' e_lst ?_ ?_
  | with_reducible refine' e_tup ?_ ?_
  | with_reducible refine' e_frz ?_ ?_ ?_
  | with_reducible refine' e_fz ?_ ?_
  | with_reducible refine' e_app ?_ ?_ ?_ ?_ ?_
  | with_reducible refine' e_setIx ?_ ?_ ?_ ?_ ?_
  | (with_reducible refine' e_runR ?_ ?_ ?_ ?_)
  | (with_reducible refine' e_ifT (e_puT ?t) ?r; (case t => (walk_at "pure"; done)))
  | (with_reducible refine' e_ifF (e_puT ?t) ?r; (case t => (walk_at "pure"; done)))
  | (with_reducible refine' e_forL ?_ ?_ ?_)
  | (with_reducible refine' e_call ?_ ?_ ?_)
  | (with_reducible refine' e_callK ?_ ?_ ?_ ?_ ?_)
  | (with_reducible refine' e_callDf ?_ ?_ ?_)
  | (with_reducible refine' e_m2p ?_ ?_ ?_)
  | (with_reducible refine' e_m2 ?_ ?_ ?_)
  | (with_reducible refine' e_movF ?a; (case a => first | (walk_at "lst"; with_reducible rfl) | (walk_at "lst"; done)))
  | (with_reducible refine' e_movL ?a ?b; (case a => first | (walk_at "lst"; with_reducible rfl) | (walk_at "lst"; done)); (case b => first | (walk_at "lst"; with_reducible rfl) | (walk_at "lst"; done)))
  | (simp only [putB, List.cons_append, List.nil_append, List.map_cons, List.map_nil, List.set_cons_zero, List.set_cons_succ, List.getElem?_cons_zero, List.getElem?_cons_succ]; with_reducible rfl)
  | (with_reducible refine' e_forR1 ?_ ?_ ?_)
  | (with_reducible refine' e_forR2 ?_ ?_ ?_)
  | (show outs _ _ _ = _; rfl)
  | (with_reducible show _ = _; with_reducible assumption)
  | (walk_at "lst"; with_reducible rfl)
  | (walk_at "lst"; done)
  | (walk_at "pure"; with_reducible rfl)
  | (walk_at "pure"; done))
namespace PK
def ch2 (m : Nat) : Nat := m * (m - 1) / 2
def ch3 (m : Nat) : Nat := m * (m - 1) * (m - 2) / 6
def Q : Nat → Nat → Nat
  | 0, _ => 0
  | 1, _ => 0
  | 2, _ => 0
  | 3, t => if t = 0 then 1 else 0
  | m + 4, t => Q (m + 3) t + m * Q (m + 2) t + (match t with
    | 0 => 0
    | t + 1 => 2 * m * Q (m + 2) t + 12 * ch2 m * Q (m + 1) t + 42 * ch3 m * Q m t)
def qi (k : Nat) : Nat → Int := fun t => ((Q k t : Nat) : Int)
def DL (n : Nat) (g : Nat → Int) : List D := (List.range n).map fun k => D.int (g k)
theorem RL_DL (n : Nat) (g : Nat → Int) : RL n g = (DL n g).map .fz := by
  unfold RL DL; rw [List.map_map]; rfl
theorem frzs_map : ∀ ds : List D, frzs (ds.map .fz) = some ds
  | [] => rfl
  | d :: ds => by
    have h := frzs_map ds
    simp only [List.map_cons, frzs, frz, h]
def IsRow (X : T) (n : Nat) (g : Nat → Int) : Prop := X = .lst (RL n g) ∨ X = .fz (.lst (DL n g))
theorem IsRow.frz {X : T} {n : Nat} {g : Nat → Int} (h : IsRow X n g) : ML.frz X = some (.lst (DL n g)) := by
  rcases h with rfl | rfl
  · rw [RL_DL]; unfold ML.frz; rw [frzs_map]; rfl
  · rfl
theorem IsRow.ix {X : T} {n : Nat} {g : Nat → Int} {i : Int} {k : Nat} (h : IsRow X n g) (e : i = (k : Nat)) (hk : k < n) : oIx X (.fz (.int i)) = some (.fz (.int (g k))) := by
  subst e
  have h1 := RL_ix (n := n) (g := g) (i := (k : Int)) (by omega) (by omega)
  rw [Int.toNat_natCast] at h1
  rcases h with rfl | rfl
  · exact h1
  · unfold oIx at h1 ⊢
    simp only [itemsR] at h1 ⊢
    rw [← RL_DL]; exact h1
theorem IsRow.un {X : T} {n : Nat} {g : Nat → Int} (h : IsRow X n g) : X ≠ .un := by
  rcases h with rfl | rfl <;> simp
theorem ixR {η : ML.Env} {a n k : Nat} {g : Nat → Int} {q : Pu T} {i : Int} {X : T} (hl : η[a]? = some X) (r : IsRow X n g) (hi : q η = some (.fz (.int i))) (e : i = (k : Nat)) (hk : k < n) : p2 oIx (pV a) q η = some (.fz (.int (g k))) := by
  refine p2_ok (t := X) ?_ hi (r.ix e hk)
  unfold pV; rw [hl]
  rcases r with rfl | rfl <;> rfl
theorem mulS0 {x y : Int} (hx : 0 ≤ x ∧ x < 2 ^ 64) : oMul (.fz (.int x)) (.fz (.int y)) = some (.fz (.int (x * y))) := by
  unfold oMul onI
  simp only
  rw [if_pos]
  unfold cMul
  simp only [Bool.or_eq_true, Bool.and_eq_true, decide_eq_true_eq]
  exact .inl (.inr ⟨by omega, by omega⟩)
theorem mulS {η : ML.Env} {p q : Pu T} {x y : Int} (h : p η = some (.fz (.int x))) (k : q η = some (.fz (.int y))) (hx : 0 ≤ x ∧ x < 2 ^ 64) : p2 oMul p q η = some (.fz (.int (x * y))) := p2_ok h k (mulS0 hx)
theorem e_asgT {η η1 η2 : ML.Env} {m : M T} {t : T} {is : List Nat} {ts : List T} (h : m η = .ok t η1) (e : itemsT t = some ts) (k : setAll is ts η1 = some η2) : mAsgT is m η = .ok .nx η2 := e_bind h (by rw [e]; simp only; rw [k])
def isI2 (r : Res T) (x y : Int) : Option Int := match r with
  | .ok (.fz (.int t)) [.fz (.int s), .fz (.int u)] => if s = x ∧ u = y then some t else none
  | _ => none
theorem isI2_ok {r : Res T} {x y t : Int} (h : isI2 r x y = some t) : r = .ok (.fz (.int t)) [.fz (.int x), .fz (.int y)] := by
  unfold isI2 at h
  split at h
  · split at h
    · rename_i hc
      obtain ⟨rfl, rfl⟩ := hc
      cases h
      rfl
    · cases h
  · cases h
theorem choose_chk : ∀ m : Nat, m < 64 → isI2 (mf_choose [.fz (.int (m : Int)), .fz (.int 2)]) m 2 = some (ch2 m : Nat) ∧ isI2 (mf_choose [.fz (.int (m : Int)), .fz (.int 3)]) m 3 = some (ch3 m : Nat) := by decide +kernel
theorem ch_lt : ∀ m : Nat, m < 64 → 12 * ch2 m < 2 ^ 60 ∧ 42 * ch3 m < 2 ^ 60 := by decide +kernel
abbrev Tr (j : Nat) : Int := 12 * ((ch2 j : Nat) : Int)
abbrev Qu (j : Nat) : Int := 42 * ((ch3 j : Nat) : Int)
theorem tc1 (n m j p : Nat) (hj : j < 64) (hp : p < m) (hm : m ≤ 1000) (x2 X3 X4 X5 X6 z : T) (h3 : IsRow X3 (m + 1) (qi (j + 3))) (h4 : IsRow X4 (m + 1) (qi (j + 2))) (h5 : IsRow X5 (m + 1) (qi (j + 1))) (h6 : IsRow X6 (m + 1) (qi j)) :
    ∃ z', lb_torn_counts_1 [.fz (.int n), .fz (.int m), x2, X3, X4, X5, X6, .fz (.int j), .fz (.int (Tr j)), .fz (.int (Qu j)), .lst (RL (p + 1) (qi (j + 4))), .fz (.int (1 + (p : Nat))), z] = .ok .nx [.fz (.int n), .fz (.int m), x2, X3, X4, X5, X6, .fz (.int j), .fz (.int (Tr j)), .fz (.int (Qu j)), .lst (RL (p + 2) (qi (j + 4))), .fz (.int (1 + (p : Nat))), z'] := by
  have hc := ch_lt j hj
  generalize hη : [T.fz (.int n), .fz (.int m), x2, X3, X4, X5, X6, .fz (.int j), .fz (.int (Tr j)), .fz (.int (Qu j)), .lst (RL (p + 1) (qi (j + 4))), .fz (.int (1 + (p : Nat))), z] = η
  refine ⟨.fz (.int (2 * (j : Int) * qi (j + 2) p + Tr j * qi (j + 1) p + Qu j * qi j p)), ?_⟩
  unfold lb_torn_counts_1
  subst hη
  have et : ∀ z : T, p2 oSub (pV 11) (pC (.int 1)) [T.fz (.int n), .fz (.int m), x2, X3, X4, X5, X6, .fz (.int j), .fz (.int (Tr j)), .fz (.int (Qu j)), .lst (RL (p + 1) (qi (j + 4))), .fz (.int (1 + (p : Nat))), z] = some (.fz (.int (1 + (p : Nat) - 1))) := fun z => subV rfl rfl
  refine e_seq (e_asg (e_pu (d := .int (2 * (j : Int) * qi (j + 2) p + Tr j * qi (j + 1) p + Qu j * qi j p)) ?_) (by simp) rfl) (e_app ⟨_, rfl⟩ (e_pu (d := .int (qi (j + 4) (p + 1))) ?_) rfl (by rw [RL_len]; unfold LIM; omega) ?_)
  · refine addV (addV (mulS (mulS (x := 2) rfl rfl (by decide)) (ixR rfl h4 (et z) (by omega) (by omega)) (by omega)) (mulS rfl (ixR rfl h5 (et z) (by omega) (by omega)) (by unfold Tr; omega))) (mulS rfl (ixR rfl h6 (et z) (by omega) (by omega)) (by unfold Qu; omega))
  · have e : qi (j + 4) (p + 1) = qi (j + 3) (p + 1) + (j : Int) * qi (j + 2) (p + 1) + (2 * (j : Int) * qi (j + 2) p + Tr j * qi (j + 1) p + Qu j * qi j p) := by
      unfold qi Tr Qu
      rw [Q]
      simp only [Int.natCast_add, Int.natCast_mul]
      rfl
    rw [e]
    refine addV (addV (ixR rfl h3 rfl (by omega) (by omega)) (mulS rfl (ixR rfl h4 rfl (by omega) (by omega)) (by omega))) rfl
  · walk_at "lst"
    rw [RL_succ]
theorem tc2 (n m j : Nat) (hj : j < 64) (hm : m ≤ 1000) (x2 X3 X4 X5 X6 y7 y8 y9 y10 y11 y12 : T) (h3 : IsRow X3 (m + 1) (qi (j + 3))) (h4 : IsRow X4 (m + 1) (qi (j + 2))) (h5 : IsRow X5 (m + 1) (qi (j + 1))) (h6 : IsRow X6 (m + 1) (qi j)) :
    ∃ z y, lb_torn_counts_2 [.fz (.int n), .fz (.int m), x2, X3, X4, X5, X6, .fz (.int j), y8, y9, y10, y11, y12] = .ok .nx [.fz (.int n), .fz (.int m), x2, .fz (.lst (DL (m + 1) (qi (j + 4)))), .fz (.lst (DL (m + 1) (qi (j + 3)))), .fz (.lst (DL (m + 1) (qi (j + 2)))), .fz (.lst (DL (m + 1) (qi (j + 1)))), .fz (.int j), .fz (.int (Tr j)), .fz (.int (Qu j)), .fz (.lst (DL (m + 1) (qi (j + 4)))), y, z] := by
  obtain ⟨c2, c3⟩ := choose_chk j hj
  have c2 := isI2_ok c2
  have c3 := isI2_ok c3
  obtain ⟨η, h1, x, z, rfl⟩ := forR_inv (i := 11) (lo := 1) (n := m) (η := [.fz (.int n), .fz (.int m), x2, X3, X4, X5, X6, .fz (.int j), .fz (.int (Tr j)), .fz (.int (Qu j)), .lst (RL 1 (qi (j + 4))), y11, y12]) (body := lb_torn_counts_1) (fun p η => ∃ x z, η = [.fz (.int n), .fz (.int m), x2, X3, X4, X5, X6, .fz (.int j), .fz (.int (Tr j)), .fz (.int (Qu j)), .lst (RL (p + 1) (qi (j + 4))), x, z]) ⟨y11, y12, rfl⟩ (by
    rintro p η hp ⟨x, z, rfl⟩
    obtain ⟨z', h⟩ := tc1 n m j p hj hp hm x2 X3 X4 X5 X6 z h3 h4 h5 h6
    exact ⟨by simp, _, .inl h, _, _, rfl⟩)
  refine ⟨z, x, ?_⟩
  unfold lb_torn_counts_2
  refine e_seq (e_asg (e_m2 (e_pu (d := .int 12) rfl) (e_call (e_cons (e_pu (d := .int j) rfl) (e_cons (e_pu (d := .int 2) rfl) e_nil)) c2 rfl) (d := .int (Tr j)) ?_) (by simp) rfl) ?_
  · exact mulS0 (by decide)
  refine e_seq (e_asg (e_m2 (e_pu (d := .int 42) rfl) (e_call (e_cons (e_pu (d := .int j) rfl) (e_cons (e_pu (d := .int 3) rfl) e_nil)) c3 rfl) (d := .int (Qu j)) ?_) (by simp) rfl) ?_
  · exact mulS0 (by decide)
  refine e_seq (e_asg (e_lst (e_cons (e_pu (d := .int (qi (j + 4) 0)) ?_) e_nil) (by simp [LIM])) (by simp) rfl) ?_
  · have e : qi (j + 4) 0 = qi (j + 3) 0 + (j : Int) * qi (j + 2) 0 := by
      unfold qi
      rw [Q]
      simp only [Int.natCast_add, Int.natCast_mul]
      simp
    rw [e]
    exact addV (ixR (k := 0) rfl h3 rfl rfl (by omega)) (mulS rfl (ixR (k := 0) rfl h4 rfl rfl (by omega)) (by omega))
  refine e_seq (e_forR2 (l := 1) (k := (m : Int) + 1) (e_cons (e_pu (d := .int 1) rfl) (e_cons (e_pu (addV rfl rfl)) e_nil)) ⟨by omega, by omega, by omega, by omega⟩ (by rw [show ((m : Int) + 1 - 1).toNat = m by omega]; exact h1)) ?_
  refine e_asgT (e_tup (e_cons (e_frz rfl (IsRow.frz (.inl rfl)) rfl) (e_cons (e_frz rfl h3.frz rfl) (e_cons (e_frz rfl h4.frz rfl) (e_cons (e_frz rfl h5.frz rfl) e_nil)))) (by simp [LIM])) rfl ?_
  rfl
end PK
end
section
set_option Elab.async false
set_option maxRecDepth 100000
set_option maxHeartbeats 4000000
open PySem L2 StX ML
local macro_rules | `(tactic| walk_at "lst") => `(tactic| (simp only [List.length_cons, List.length_nil, List.length_append, List.length_replicate, List.replicate, List.reduceReplicate, List.cons_append, List.nil_append, List.append_nil, List.set_cons_zero, List.set_cons_succ, List.set_nil, List.getElem?_cons_zero, List.getElem?_cons_succ, List.getElem?_nil, List.map_cons, List.map_nil, Nat.reduceAdd, Nat.reduceSub]))
local macro_rules | `(tactic| walk_at "pure") => `(tactic| (simp (config := { decide := true }) only [p2, p1, pV, pC, pB, oGt, oLt, oGe, oLe, oAdd, oSub, oMul, oDiv, oMod, oPow, oIx, oEqS, oIsN, oIsi, tyN, tNeg, isN, sv, scal, onI, itemsR, pCall, pCons, pNil, fInt, fLen, fMin2, fMax2, fAbs, pAndT, pOrT, pNotT, pAndV, pOrV, pNotV, cMul, atI, ixN, frz, frzs, frozL,
  List.length_cons, List.length_nil, List.length_append, List.length_replicate, List.length_map, List.replicate, List.cons_append, List.nil_append, List.append_nil, List.set_cons_zero, List.set_cons_succ, List.set_nil, List.getElem?_cons_zero, List.getElem?_cons_succ, List.getElem?_nil, List.map_cons, List.map_nil,
  Nat.reduceAdd, Nat.reduceSub, Nat.reduceLT, Nat.reduceLeDiff, Nat.reduceEqDiff, Int.reduceLT, Int.reduceLE, Int.reduceNeg, Int.reducePow, Int.reduceToNat, Int.toNat_zero, Int.toNat_one, Int.reduceAdd, Int.reduceSub, Int.reduceMul, if_true, if_false, decide_true, decide_false, decide_eq_true_eq, Bool.and_true, Bool.true_and, Bool.or_true, Bool.true_or, Bool.and_self, Bool.or_self, Bool.and_eq_true, Bool.not_true, Bool.not_false, Option.bind_some, Option.map_some, Option.bind_none, Option.map_none, reduceIte, reduceCtorEq, V.int.injEq, V.bl.injEq, Int.natCast_zero, Int.natCast_add, Int.natCast_one, Int.zero_add, Int.ofNat_eq_natCast, *]))
local macro_rules | `(tactic| walk_at "ev1") => `(tactic| first
  | with_reducible refine' e_seq ?_ ?_
  | with_reducible exact e_nx
  | with_reducible refine' e_asg ?_ ?_ ?_
  | with_reducible refine' e_pu ?_
  | with_reducible refine' e_puT ?_
  | with_reducible refine' e_ret ?_
  | with_reducible exact e_retN
  | with_reducible refine' e_drop ?_
  | with_reducible refine' e_mB ?_
  | with_reducible exact e_nil
  | with_reducible refine' e_cons ?_ ?_
  | with_reducible refine' e_lst ?_ ?_
  | with_reducible refine' e_tup ?_ ?_
  | with_reducible refine' e_frz ?_ ?_ ?_
  | with_reducible refine' e_fz ?_ ?_
  | with_reducible refine' e_app ?_ ?_ ?_ ?_ ?_
  | with_reducible refine' e_setIx ?_ ?_ ?_ ?_ ?_
  | (with_reducible refine' e_runR ?_ ?_ ?_ ?_)
  | (with_reducible refine' e_ifT (e_puT ?t) ?r; (case t => (walk_at "pure"; done)))
  | (with_reducible refine' e_ifF (e_puT ?t) ?r; (case t => (walk_at "pure"; done)))
  | (with_reducible refine' e_forL ?_ ?_ ?_)
  | (with_reducible refine' e_call ?_ ?_ ?_)
  | (with_reducible refine' e_callK ?_ ?_ ?_ ?_ ?_)
  | (with_reducible refine' e_callDf ?_ ?_ ?_)
  | (with_reducible refine' e_m2p ?_ ?_ ?_)
  | (with_reducible refine' e_m2 ?_ ?_ ?_)
  | (with_reducible refine' e_movF ?a; (case a => first | (walk_at "lst"; with_reducible rfl) | (walk_at "lst"; done)))
  | (with_reducible refine' e_movL ?a ?b; (case a => first | (walk_at "lst"; with_reducible rfl) | (walk_at "lst"; done)); (case b => first | (walk_at "lst"; with_reducible rfl) | (walk_at "lst"; done)))
  | (simp only [putB, List.cons_append, List.nil_append, List.map_cons, List.map_nil, List.set_cons_zero, List.set_cons_succ, List.getElem?_cons_zero, List.getElem?_cons_succ]; with_reducible rfl)
  | (with_reducible refine' e_forR1 ?_ ?_ ?_)
  | (with_reducible refine' e_forR2 ?_ ?_ ?_)
  | (show outs _ _ _ = _; rfl)
  | (with_reducible show _ = _; with_reducible assumption)
  | (walk_at "lst"; with_reducible rfl)
  | (walk_at "lst"; done)
  | (walk_at "pure"; with_reducible rfl)
  | (walk_at "pure"; done))
namespace PK
theorem e_star {η η1 η2 : ML.Env} {m : M T} {A : M (List T)} {t : T} {ts us : List T} (h : m η = .ok t η1) (e : itemsO t = some ts) (k : A η1 = .ok us η2) : mStar m A η = .ok (ts ++ us) η2 := e_bind h (by rw [e]; exact e_bind k rfl)
theorem DL0 (n : Nat) : DL n (qi 0) = List.replicate n (.int 0) := by
  unfold DL
  rw [show (fun k => D.int (qi 0 k)) = fun _ => D.int 0 from rfl, List.map_const', List.length_range]
theorem DL12 (n : Nat) : DL n (qi 1) = DL n (qi 0) ∧ DL n (qi 2) = DL n (qi 0) := ⟨rfl, rfl⟩
theorem RL3 (n : Nat) : RL (n + 1) (qi 3) = .fz (.int 1) :: (List.replicate n (D.int 0)).map .fz := by
  unfold RL
  rw [List.range_succ_eq_map, List.map_cons, List.map_map, List.map_replicate]
  rw [show ((fun k => T.fz (D.int (qi 3 k))) ∘ Nat.succ) = fun _ => T.fz (D.int 0) from rfl, List.map_const', List.length_range]
  rfl
theorem cut1 (n : Nat) : cutD (List.replicate (n + 1) (D.int 0)) (some 1) none = List.replicate n (.int 0) := by
  unfold cutD
  rw [HT.sIx_none, show (some (1 : Int)) = some ((1 : Nat) : Int) from rfl, HT.sIx_nat, List.length_replicate, Nat.min_eq_left (by omega), List.drop_replicate, List.take_replicate]
  simp
theorem tc_ok (n m : Nat) (hn : n ≤ 64) (hm : m ≤ 100) : ∃ X, IsRow X (m + 1) (qi (n + 3)) ∧ mf_torn_counts [.fz (.int n), .fz (.int m)] = .ok X [.fz (.int n), .fz (.int m)] := by
  have r0 : IsRow (.fz (.lst (DL (m + 1) (qi 0)))) (m + 1) (qi 0) := .inr rfl
  obtain ⟨η, h1, x2, X3, X4, X5, X6, y7, y8, y9, y10, y11, y12, rfl, h3, -, -, -⟩ := forR_inv (i := 7) (lo := 0) (n := n) (η := [.fz (.int n), .fz (.int m), .fz (.lst (DL (m + 1) (qi 0))), .lst (RL (m + 1) (qi 3)), .fz (.lst (DL (m + 1) (qi 0))), .fz (.lst (DL (m + 1) (qi 0))), .fz (.lst (DL (m + 1) (qi 0))), .un, .un, .un, .un, .un, .un]) (body := lb_torn_counts_2)
    (fun j η => ∃ x2 X3 X4 X5 X6 y7 y8 y9 y10 y11 y12, η = [T.fz (.int n), .fz (.int m), x2, X3, X4, X5, X6, y7, y8, y9, y10, y11, y12] ∧ IsRow X3 (m + 1) (qi (j + 3)) ∧ IsRow X4 (m + 1) (qi (j + 2)) ∧ IsRow X5 (m + 1) (qi (j + 1)) ∧ IsRow X6 (m + 1) (qi j))
    ⟨_, _, _, _, _, _, _, _, _, _, _, rfl, .inl rfl, r0, r0, r0⟩ (by
    rintro j η hj ⟨x2, X3, X4, X5, X6, y7, y8, y9, y10, y11, y12, rfl, h3, h4, h5, h6⟩
    obtain ⟨z, y, h⟩ := tc2 n m j (by omega) (by omega) x2 X3 X4 X5 X6 y7 y8 y9 y10 y11 y12 h3 h4 h5 h6
    refine ⟨by simp, [T.fz (.int n), .fz (.int m), x2, .fz (.lst (DL (m + 1) (qi (j + 4)))), .fz (.lst (DL (m + 1) (qi (j + 3)))), .fz (.lst (DL (m + 1) (qi (j + 2)))), .fz (.lst (DL (m + 1) (qi (j + 1)))), .fz (.int j), .fz (.int (Tr j)), .fz (.int (Qu j)), .fz (.lst (DL (m + 1) (qi (j + 4)))), y, z], .inl ?_, _, _, _, _, _, _, _, _, _, _, _, rfl, .inr rfl, .inr rfl, .inr rfl, .inr rfl⟩
    simp only [Int.zero_add]
    exact h)
  refine ⟨X3, h3, ?_⟩
  have hb : ∃ η', mb_torn_counts [.fz (.int n), .fz (.int m), .un, .un, .un, .un, .un, .un, .un, .un, .un, .un, .un] = .ok (.rt X3) (.fz (.int n) :: .fz (.int m) :: η') := by
    have hrep : oRep (.lst [.fz (.int 0)]) (.fz (.int ((m : Int) + 1))) = some (List.replicate (m + 1) (.int 0)) := by
      unfold oRep
      simp only [kidsS, unfz, Option.map_some]
      rw [if_pos ⟨by omega, by omega, by simp [LIM]; omega⟩]
      rw [show ((m : Int) + 1).toNat = m + 1 by omega, List.flatten_replicate_singleton]
    obtain ⟨y3, hlr⟩ : ∃ y3, mRet' (mMov 3) [T.fz (.int n), .fz (.int m), x2, X3, X4, X5, X6, y7, y8, y9, y10, y11, y12] = .ok (.rt X3) [.fz (.int n), .fz (.int m), x2, y3, X4, X5, X6, y7, y8, y9, y10, y11, y12] := by
      rcases h3 with rfl | rfl
      · exact ⟨_, e_ret (e_movL rfl rfl)⟩
      · exact ⟨_, e_ret (e_movF rfl)⟩
    refine ⟨[x2, y3, X4, X5, X6, y7, y8, y9, y10, y11, y12], ?_⟩
    unfold mb_torn_counts
    refine e_seq (e_asg (e_2Ap (e_lst (e_cons (e_pu (d := .int 0) rfl) e_nil) (by simp [LIM])) (addV rfl rfl) hrep) (by simp) rfl) ?_
    refine e_seq (e_asgT (e_tup (e_cons (e_lst (e_cons (e_pu (d := .int 1) rfl) (e_star (η1 := [.fz (.int n), .fz (.int m), .lst ((List.replicate (m + 1) (D.int 0)).map .fz), .un, .un, .un, .un, .un, .un, .un, .un, .un, .un]) (t := .lst ((List.replicate m (D.int 0)).map .fz)) ?_ rfl e_nil)) ?_) (e_cons (e_frz (d := .lst (DL (m + 1) (qi 0))) rfl ?_ rfl) (e_cons (e_frz rfl rfl rfl) (e_cons (e_frz rfl rfl rfl) e_nil)))) (by simp [LIM])) rfl rfl) ?_
    · unfold mCut
      show (match kidsL (.lst ((List.replicate (m + 1) (D.int 0)).map .fz)) with
        | some ds => Res.ok (T.lst ((cutD ds (some 1) none).map .fz)) _
        | none => .bad) = _
      simp only [kidsL, kids, unfz_map, cut1]
      rfl
    · simp [LIM]; omega
    · unfold ML.frz; rw [frzs_map, DL0]; rfl
    · refine e_seq (e_forR1N (k := n) (e_cons (e_pu (d := .int n) rfl) e_nil) (by omega) ?_) hlr
      rw [RL3] at h1
      rw [List.append_nil]
      exact h1
  obtain ⟨η', hb⟩ := hb
  unfold mf_torn_counts
  exact e_runR rfl hb (by simp) rfl
theorem ci_t1 (n m : Nat) : pB (p2 oLt (pV 0) (pC (.int 0))) [.fz (.int n), .fz (.int m)] = some false := by
  show some (decide ((n : Int) < 0)) = _
  rw [decide_eq_false (by omega)]
theorem ci_t3 (n m : Nat) : pB (p2 oLt (pV 1) (pC (.int 0))) [.fz (.int n), .fz (.int m)] = some false := by
  show some (decide ((m : Int) < 0)) = _
  rw [decide_eq_false (by omega)]
theorem ci_gt (x y : Int) (c : Bool) (h : decide (y < x) = c) : oGt (.fz (.int x)) (.fz (.int y)) = some (.fz (.bl c)) := by
  rw [← h]; rfl
theorem pB_ok {p : Pu T} {η : ML.Env} {c : Bool} (h : p η = some (.fz (.bl c))) : pB p η = some c := by unfold pB; rw [h]
theorem pOr_ok {p q : Pu Bool} {η : ML.Env} {c : Bool} (h : p η = some false) (k : q η = some c) : pOrT p q η = some c := by unfold pOrT; rw [h]; exact k
theorem pOr_T {p q : Pu Bool} {η : ML.Env} (h : p η = some true) : pOrT p q η = some true := by unfold pOrT; rw [h]
theorem ci_t4 (n m : Nat) (c : Bool) (h : decide ((n : Int) < 2 * (m : Int)) = c) : pB (p2 oGt (p2 oMul (pC (.int 2)) (pV 1)) (pV 0)) [.fz (.int n), .fz (.int m)] = some c := by
  have h1 : p2 oMul (pC (.int 2)) (pV 1) [.fz (.int n), .fz (.int m)] = some (.fz (.int (2 * (m : Int)))) := mulS (x := 2) (y := m) rfl rfl (by decide)
  have h2 : pV 0 [T.fz (.int n), .fz (.int m)] = some (.fz (.int n)) := rfl
  exact pB_ok (p2_ok h1 h2 (ci_gt _ _ _ h))
theorem ci_b1 (n m : Nat) (g : Nat → Int) (X : T) (hX : IsRow X (m + 1) g) (ht : mf_torn_counts [.fz (.int n), .fz (.int m)] = .ok X [.fz (.int n), .fz (.int m)]) (h : n < 2 * m) : mb_count_images [.fz (.int n), .fz (.int m)] = .ok (.rt (.fz (.int 0))) [.fz (.int n), .fz (.int m)] := by
  have h4 := ci_t4 n m true (decide_eq_true (by omega))
  unfold mb_count_images
  refine e_seq (e_ifF (e_puT (ci_t1 n m)) e_nx) (e_seq (e_ifF (e_puT rfl) e_nx) ?_)
  refine e_seqR (e_ifT (e_puT ?_) (e_ret (e_pu rfl)))
  exact pOr_ok (ci_t3 n m) h4
theorem ci_b2 (n m : Nat) (g : Nat → Int) (X : T) (hX : IsRow X (m + 1) g) (ht : mf_torn_counts [.fz (.int n), .fz (.int m)] = .ok X [.fz (.int n), .fz (.int m)]) (h : ¬ n < 2 * m) : mb_count_images [.fz (.int n), .fz (.int m)] = .ok (.rt (.fz (.int (g m)))) [.fz (.int n), .fz (.int m)] := by
  have h4 := ci_t4 n m false (decide_eq_false (by omega))
  unfold mb_count_images
  refine e_seq (e_ifF (e_puT (ci_t1 n m)) e_nx) (e_seq (e_ifF (e_puT rfl) e_nx) ?_)
  refine e_seq (e_ifF (e_puT ?_) e_nx) ?_
  · exact pOr_ok (ci_t3 n m) h4
  have h5 : oIx X (.fz (.int m)) = some (.fz (.int (g m))) := hX.ix rfl (by omega)
  refine e_ret (e_m2p (e_call (e_cons (e_pu (d := .int n) rfl) (e_cons (e_pu (d := .int m) rfl) e_nil)) ht rfl) (u := .fz (.int m)) rfl h5)
theorem ci_ok (n m : Nat) (hn : n ≤ 64) (hm : m ≤ 100) : mf_count_images [.fz (.int n), .fz (.int m)] = .ok (.fz (.int (if n < 2 * m then 0 else qi (n + 3) m))) [.fz (.int n), .fz (.int m)] := by
  obtain ⟨X, hX, ht⟩ := tc_ok n m hn hm
  generalize qi (n + 3) = g at hX ⊢
  unfold mf_count_images
  by_cases h : n < 2 * m
  · rw [if_pos h]; exact e_runR rfl (ci_b1 n m g X hX ht h) (by simp) rfl
  · rw [if_neg h]; exact e_runR rfl (ci_b2 n m g X hX ht h) (by simp) rfl
theorem ci_neg (n m : Int) (h0 : 0 ≤ n) (hm : m < 0) : mf_count_images [.fz (.int n), .fz (.int m)] = .ok (.fz (.int 0)) [.fz (.int n), .fz (.int m)] := by
  have t1 : pB (p2 oLt (pV 0) (pC (.int 0))) [.fz (.int n), .fz (.int m)] = some false := by
    show some (decide (n < 0)) = _
    rw [decide_eq_false (by omega)]
  have t3 : pB (p2 oLt (pV 1) (pC (.int 0))) [.fz (.int n), .fz (.int m)] = some true := by
    show some (decide (m < 0)) = _
    rw [decide_eq_true (by omega)]
  have hb : mb_count_images [.fz (.int n), .fz (.int m)] = .ok (.rt (.fz (.int 0))) [.fz (.int n), .fz (.int m)] := by
    unfold mb_count_images
    refine e_seq (e_ifF (e_puT t1) e_nx) (e_seq (e_ifF (e_puT rfl) e_nx) ?_)
    refine e_seqR (e_ifT (e_puT ?_) (e_ret (e_pu rfl)))
    exact pOr_T t3
  unfold mf_count_images
  exact e_runR rfl hb (by simp) rfl
end PK
end
section
set_option Elab.async false
set_option maxRecDepth 100000
set_option maxHeartbeats 4000000
open PySem L2 StX ML
local macro_rules | `(tactic| walk_at "lst") => `(tactic| (simp only [List.length_cons, List.length_nil, List.length_append, List.length_replicate, List.replicate, List.reduceReplicate, List.cons_append, List.nil_append, List.append_nil, List.set_cons_zero, List.set_cons_succ, List.set_nil, List.getElem?_cons_zero, List.getElem?_cons_succ, List.getElem?_nil, List.map_cons, List.map_nil, Nat.reduceAdd, Nat.reduceSub]))
local macro_rules | `(tactic| walk_at "pure") => `(tactic| (simp (config := { decide := true }) only [p2, p1, pV, pC, pB, oGt, oLt, oGe, oLe, oAdd, oSub, oMul, oDiv, oMod, oPow, oIx, oEqS, oIsN, oIsi, tyN, tNeg, isN, sv, scal, onI, itemsR, pCall, pCons, pNil, fInt, fLen, fMin2, fMax2, fAbs, pAndT, pOrT, pNotT, pAndV, pOrV, pNotV, cMul, atI, ixN, frz, frzs, frozL,
  List.length_cons, List.length_nil, List.length_append, List.length_replicate, List.length_map, List.replicate, List.cons_append, List.nil_append, List.append_nil, List.set_cons_zero, List.set_cons_succ, List.set_nil, List.getElem?_cons_zero, List.getElem?_cons_succ, List.getElem?_nil, List.map_cons, List.map_nil,
  Nat.reduceAdd, Nat.reduceSub, Nat.reduceLT, Nat.reduceLeDiff, Nat.reduceEqDiff, Int.reduceLT, Int.reduceLE, Int.reduceNeg, Int.reducePow, Int.reduceToNat, Int.toNat_zero, Int.toNat_one, Int.reduceAdd, Int.reduceSub, Int.reduceMul, if_true, if_false, decide_true, decide_false, decide_eq_true_eq, Bool.and_true, Bool.true_and, Bool.or_true, Bool.true_or, Bool.and_self, Bool.or_self, Bool.and_eq_true, Bool.not_true, Bool.not_false, Option.bind_some, Option.map_some, Option.bind_none, Option.map_none, reduceIte, reduceCtorEq, V.int.injEq, V.bl.injEq, Int.natCast_zero, Int.natCast_add, Int.natCast_one, Int.zero_add, Int.ofNat_eq_natCast, *]))
local macro_rules | `(tactic| walk_at "ev1") => `(tactic| first
  | with_reducible refine' e_seq ?_ ?_
  | with_reducible exact e_nx
  | with_reducible refine' e_asg ?_ ?_ ?_
  | with_reducible refine' e_pu ?_
  | with_reducible refine' e_puT ?_
  | with_reducible refine' e_ret ?_
  | with_reducible exact e_retN
  | with_reducible refine' e_drop ?_
  | with_reducible refine' e_mB ?_
  | with_reducible exact e_nil
  | with_reducible refine' e_cons ?_ ?_
  | with_reducible refine' e_lst ?_ ?_
  | with_reducible refine' e_tup ?_ ?_
  | with_reducible refine' e_frz ?_ ?_ ?_
  | with_reducible refine' e_fz ?_ ?_
  | with_reducible refine' e_app ?_ ?_ ?_ ?_ ?_
  | with_reducible refine' e_setIx ?_ ?_ ?_ ?_ ?_
  | (with_reducible refine' e_runR ?_ ?_ ?_ ?_)
  | (with_reducible refine' e_ifT (e_puT ?t) ?r; (case t => (walk_at "pure"; done)))
  | (with_reducible refine' e_ifF (e_puT ?t) ?r; (case t => (walk_at "pure"; done)))
  | (with_reducible refine' e_forL ?_ ?_ ?_)
  | (with_reducible refine' e_call ?_ ?_ ?_)
  | (with_reducible refine' e_callK ?_ ?_ ?_ ?_ ?_)
  | (with_reducible refine' e_callDf ?_ ?_ ?_)
  | (with_reducible refine' e_m2p ?_ ?_ ?_)
  | (with_reducible refine' e_m2 ?_ ?_ ?_)
  | (with_reducible refine' e_movF ?a; (case a => first | (walk_at "lst"; with_reducible rfl) | (walk_at "lst"; done)))
  | (with_reducible refine' e_movL ?a ?b; (case a => first | (walk_at "lst"; with_reducible rfl) | (walk_at "lst"; done)); (case b => first | (walk_at "lst"; with_reducible rfl) | (walk_at "lst"; done)))
  | (simp only [putB, List.cons_append, List.nil_append, List.map_cons, List.map_nil, List.set_cons_zero, List.set_cons_succ, List.getElem?_cons_zero, List.getElem?_cons_succ]; with_reducible rfl)
  | (with_reducible refine' e_forR1 ?_ ?_ ?_)
  | (with_reducible refine' e_forR2 ?_ ?_ ?_)
  | (show outs _ _ _ = _; rfl)
  | (with_reducible show _ = _; with_reducible assumption)
  | (walk_at "lst"; with_reducible rfl)
  | (walk_at "lst"; done)
  | (walk_at "pure"; with_reducible rfl)
  | (walk_at "pure"; done))
namespace PK
def QT : List (List Nat) := [
  [],
  [],
  [],
  [1],
  [1],
  [2, 2],
  [4, 18],
  [10, 114, 12],
  [26, 530, 300],
  [76, 2520, 4500, 120],
  [232, 11172, 48300, 5880],
  [764, 51128, 416220, 162960, 1680],
  [2620, 230904, 3074652, 3200400, 136080],
  [9496, 1073160, 21457800, 48900600, 6048000, 30240],
  [35696, 5016440, 140738400, 610588440, 189050400, 3659040],
  [140152, 24053832, 907097400, 6534241560, 4572968400, 238502880, 665280],
  [568504, 116837448, 5699848440, 62643386520, 89796666960, 10867016160, 112432320],
  [2390480, 580658624, 35703700032, 560655295200, 1478040323760, 382464482400, 10110260160, 17297280],
  [10349536, 2931067440, 221731146000, 4739417482800, 20959276338000, 10932793391520, 632345313600, 3891888000],
  [46206736, 15107280960, 1381590319200, 38736798260160, 263749563277200, 261544196833920, 30508164086400, 461837376000, 518918400],
  [211799312, 79149050432, 8607248008800, 307136638011840, 3031475420173200, 5347561407027840, 1196816152371840, 37962340416000, 149967417600],
  [997313824, 422706407328, 53975043351360, 2394199182473280, 32579313699572640, 95179668534830880, 39373462066498560, 2403827736710400, 22706831347200, 17643225600],
  [4809701440, 2294548955424, 339945384471552, 18368289256766400, 331752867807291840, 1503129405820442400, 1108312203963444480, 123857259199914240, 2373366707712000, 6369204441600],
  [23758664096, 12679002549920, 2158784023622400, 139799161095969600, 3248493993825444000, 21504224317016881440, 27090757117518494400, 5363209551379680000, 190844830560384000, 1198416098880000, 670442572800],
  [119952692896, 71177196293280, 13802900814662400, 1055940895112604480, 30782759284287914400, 284264805498635838240, 582433061857512465600, 199247893781096160000, 12490966631528985600, 155212483922496000, 295665174604800],
  [618884638912, 406264511571072, 89064526698840000, 7954100497595387520, 284900753180661710400, 3528187954029162103680, 11159138769663277673280, 6442035438318335856000, 688151619787670438400, 15445149808023936000, 67679166396441600, 28158588057600],
  [3257843882624, 2354391254523968, 579417762763519680, 59763944607019107840, 2584167080505628907520, 41599055924167585757760, 193312437347705538582720, 183233755905349855305600, 32607764613524465164800, 1250993585209790822400, 10637502662205619200, 14895893082470400],
  [17492190577600, 13858337042469504, 3805773579983656512, 449285504398256064000, 23107150784752514061120, 470938750948971036547200, 3074824437577510462004160, 4628052426105850848986880, 1348611740401415634144000, 85379201421091664486400, 1283036702114014848000, 4076293524394291200, 1295295050649600],
  [95680443760576, 82766788099190400, 25220989831347816000, 3379770932458742976000, 204103234517792730120000, 5153728208766361894454400, 45561218707855107728856000, 104775196888032308557920000, 49200104700836546577120000, 5021566005065081472000000, 125934667853535725184000, 764321227012062720000, 809559406656000000],
  [532985208200576, 501612317786153600, 168779206517114544000, 25491734446470942249600, 1787762588009501607504000, 54906968768800448802902400, 636558324880961789049744000, 2148115309020766665019440000, 1596260164116975202669824000, 258450032140840193734080000, 10422549034671328498944000, 109850880728659150080000, 261001952705894400000, 64764752532480000],
  [3020676745975552, 3082500286675834752, 1139975854572964032000, 192792206817340955510400, 15548630992199652451104000, 571826203643400561564508800, 8468421913761132815793100800, 40342987265839807904475120000, 46382303731193427969107136000, 11767769876078425303174080000, 744405667709414143200768000, 12843784389972342014208000, 57550930571649715200000, 47213504596177920000],
  [17411277367391104, 19206735709722519168, 7775211912836677545600, 1463953207494609785116800, 134625093911407609612502400, 5849249837849315097722121600, 108182801768467333494758371200, 702362285506855318479838704000, 1215348924688969018796239392000, 477851762914435216315584576000, 46621787135166144616530816000, 1266685285895697076561152000, 9716639210288949818880000, 17712058816840227840000, 3497296636753920000],
  [101990226254706560, 121268386156723508864, 53530517238555315434112, 11161762559872682795856000, 1161443074862824529349974400, 58923370218410947973099376000, 1335490664793669585336312777600, 11462485322232236035247949244800, 28933340647985753236211354400000, 17414935238823564727023875136000, 2589716914451187366277111680000, 107917313881114948242928896000, 1334028072356987933173248000, 4537179904312466611200000, 2941226471510046720000],
  [606917269909048576, 775786486864504135680, 372125033964672957964800, 85523537497408909464384000, 10001929217973420276057600000, 586477150013541626606768601600, 16024448353835397345178300992000, 177055078671177828534289356480000, 631133466227334025910939144160000, 572712312640380720559180228800000, 128653535359252799035506317952000, 8074987009344931698972069120000, 154517069703016910656166400000, 889059485229705536947200000, 1270305570884942592000000, 202843204931727360000],
  [3666624057550245376, 5025930151723024485120, 2611203763579450723488000, 658563534234691995790782720, 86031690067065359936251296000, 5777960388065071995700264953600, 187665458909596230351743162208000, 2609808608191712933303584846560000, 12732500123917629591448012228128000, 17084392627803754471951096203840000, 5752267478804447215509847784832000, 536997304596226196719772455680000, 15471796051294245943139059200000, 141601300582564383016135680000, 374097130451424488908800000, 194932319939389992960000],
  [22481059424730751232, 32969120631948042831872, 18497895808062943249996800, 5099447491975752926536673280, 740056316276077692213905856000, 56475595487268417970142848051200, 2153857223885638415890744001203200, 36967900900353644429919667756800000, 239834696433473102416305371512992000, 464862513533541230532365302602240000, 232637663411896604325292153188864000, 32016188670045234565570434238464000, 1362227146372343597789271628800000, 19027501426474177218756894720000, 84196488137485431304396800000, 96032464197237547499520000, 12576278705767096320000],
  [139813029266338603264, 218892524950647169763328, 132258187146301809950776320, 39706963181648558395185653760, 6369472936270444607069292910080, 548359660130444308305752911718400, 24294569854608850838190890873932800, 506079297624548150053907870562048000, 4255999221901376723373014229438624000, 11610343000327473903876932298373632000, 8546774344700350254128331829498368000, 1722580891137353106655414920677376000, 106768809621507135548283861703680000, 2211344017233712356300326461440000, 15395518207349631928337080320000, 32218061703778616557731840000, 13695567510580367892480000],
  [881687990282453393920, 1470665291989801466786304, 954482029253379442864637952, 311027374369292696672965478400, 54898443125368663050192528276480, 5297956900506494552661824050560000, 270100816443678021133565988224870400, 6729257340941961239640988715284531200, 71718698392789764545186777765225280000, 268078512749611707067879274044076352000, 286389626686439770623858496193986560000, 84060782582782496694843260697043968000, 7517605102761878926702304347367424000, 226183438562468111065022153472000000, 2374904696113667761592097669120000, 8253727830815977848283545600000, 7633826326958039000432640000, 830034394580628357120000],
  [5635330985337965904896, 9995386209485191750914560, 6951250177190803510875340800, 2450854133344068130577701017600, 474005532903033320280971835648000, 50979541226953949074380314910551040, 2965761585621158566907205319274496000, 87253335498319119396090230981333760000, 1155621950916693409747077572419367040000, 5766839089384150372415073718087022400000, 8789723949896981472598261498523317248000, 3735631819322928369699379731739653120000, 478778685923537989452519305285836800000, 20620656896769196893177165924710400000, 316951256762894897766928521216000000, 1717076221772166959427838033920000, 2894410170560793875351961600000, 1016792133361269737472000000],
  [36494410645223834692096, 68708473042673908659479040, 51086841970162188399976166400, 19432836013220066468172180695040, 4102517796682972444722109594598400, 489163041309559036138212965793315840, 32230011561011931702383985881147904000, 1107221440618175563391764034522661120000, 17912336872067759564329003669751943744000, 116485890070089094566055427926593610560000, 248262762143968505473908052691115677568000, 151698769194227858075144837842420423680000, 27726307311544414231775447407684608000000, 1691561355403641585060653896217057280000, 37252379770671833843622616406937600000, 301318058048397211675156988805120000, 837357866897280726274563686400000, 636657131503206465619968000000, 58102407620643984998400000],
  [239366326117390607268352, 477540812838010113242399232, 378811236145757020955085542400, 155041544128952792377847907624960, 35601869547937567358634583017446400, 4683664698005487623303529346384788480, 347162604659461062437251333036936826880, 13789294133036695307594774359093428480000, 268433212530118425121594059819203198016000, 2225779284267195905241499214021078525760000, 6488288454101186045029112543749722696576000, 5647153907320661645535771716335235767296000, 1465994904956147749107262360365613670400000, 125756895596359432407885207163884165120000, 3906434561001822807530897369254809600000, 45754710791599963761739394710487040000, 196630779345331414450947801661440000, 270889547745556986768377856000000, 79542196032661615462809600000],
  [1589659519990672490875904, 3355222525788288161494120448, 2833928854021073324139356759040, 1244876959766544002685178502584320, 309920957475546603863829920142735360, 44790093691907563716812201778983055360, 3712234845870915297417793707532988958720, 168988575321938258782516768100582813184000, 3906478561347936553850751117503475361152000, 40501680810622732104320793333545885212416000, 157867286371681028006324803606384289680512000, 193339317346590192473780614159791277019904000, 71005142483950236075276264426725691770880000, 8519785913936808004851076798056869130240000, 369073306171841422889464562130711736320000, 6121680424547896725293051712308551680000, 38941544020713569016040857667829760000, 87882276978671300469528094310400000, 55591395870502613898724147200000, 4299578163927654889881600000],
  [10685579912451515567073280, 23824497494697767796015719424, 21386158886578643242140434476032, 10059125242254943841523448182835200, 2706877591951902523919407435076444160, 428029782808516445840669954823077222400, 39449614967670800362708215309281404815360, 2042063406784752311215686331033089239162880, 55410350871738598436088971556615793831680000, 706041416291024271891724935809684484341376000, 3599516733300981675026158209726068499381120000, 6109690421918883086123476053272554597853952000, 3159206643919105742848919368112895599978496000, 528250322970394965946661348483733867724800000, 31651199665406435653761978688220677509120000, 731310095502329636042983718992681574400000, 6674071381782252306077791379162234880000, 23131590531535386170654682855997440000, 26377320843698622696876257280000000, 6539658387333963087509913600000],
  [72682301192087742711233536, 170938556408077542088949667840, 162790307333921443039160419200000, 81807833883714989166930952012492800, 23728585656397022609652315332068608000, 4090291321539463692087948372737143787520, 417126911209448604191547892954056957081600, 24380245220505901404904131422155883532288000, 768552190394380874797605230135264757367680000, 11852655981809007606994724953485846505363200000, 77418812473451878740862841785954903384676736000, 178950115165111350293587042554677382661009920000, 129451118667696555902691107954630804213875200000, 30076960128080699546965403059334437044633600000, 2478104203071430327222261619177175055872000000, 78792668576306672357140805825788111994880000, 1008192073837413592774917024422905036800000, 5133850091802167326849757005258752000000, 9536486048214430150957171027968000000, 5072427338893650856337817600000000, 335367096786357081410764800000],
  [500105497690148365394164736, 1238979966381769476081618114560, 1249707841133282047931110008499200, 669600820909519614016706790022901760, 208796506849018621663995527121995827200, 39102244790819562890932753781921909329920, 4392122672581573874922524847938272553318400, 288023863276151387535340604147738047819776000, 10452069856264954184182303516353407863230950400, 192480825908903694190050541632811577814654720000, 1580587899295717472828702304491948632744814976000, 4881317048058707791125099444373806928106426880000, 4897593613923837390492636346887066782944780800000, 1576880883970802237246880830539182963396526080000, 177933455578433118026487773039942379791462400000, 7715681276830666820558227923532587219271680000, 136065266133145708879771069455275666227200000, 986071584486661496990606982200795136000000, 2796105260657652968335395887670067200000, 2668861976183894555174444285952000000, 563752089697866253851495628800000],
  [3480079846565745816554739712, 9070289194439446697425836460032, 9674760688043281981764923354572800, 5516317245309464526376421660311050240, 1844714865950226906054227643097983283200, 374143419583520576437811027928832116387840, 46094963731111858923890551561564426998435840, 3372044320511275003209060357058360783105536000, 139715358636416213930557017639874580597056665600, 3035707434840018200311411664042578394637400320000, 30807537070051271578138725223564398138178374912000, 124666200502662016751162059069918769904420379392000, 171560231836935697448393170198334162924150784000000, 76302043749051428707949188899616140251211064320000, 11758308185823453269140835323397593100145254400000, 690840030687172695908515397784171979667496960000, 16575290063839134739980253652694011406581760000, 166976079978609706776601922988091748352000000, 691124312595611079971663912018701516800000, 1069310904311797684250771465920512000000, 482791789596865363542285719961600000, 27500101936481280675682713600000],
  [24484510749551977163109658624, 67052569390784010459059424688128, 75519921209668929516252366878760960, 45738027006291318982215357420124846080, 16365760989057595654221119524612627415040, 3584288454110683140612671521955191131770880, 482488434555066833346665054497268397786562560, 39168766482034661566577323742014612312355942400, 1839394282948344153910407183299756603079991603200, 46655211998412455328118363671489777550369996953600, 576247189099750245279692060778795650313342034944000, 2997885058666074147277234553044949595467535621888000, 5582050719377007462342228787615812392323587425280000, 3414660937952104304032339126837334646104616944640000, 717145835340400456655080091750327067184038789120000, 56826023969708827772275216599578755090426552320000, 1837101585873011063548285619888107036850749440000, 25272484206039577047999887838197999117107200000, 147834640669607892868907288308348787097600000, 347303307870703590834956699961306316800000, 280252356330297462670813479940915200000, 50847688480553887969337337446400000],
  [174127944151879047274963466240, 500466270509940623253577258010624, 594341477016512268961571676684490752, 381691329818223090337158487074672998400, 145821498077664441716288300126320115466240, 34392667897484770778790472219643810518118400, 5040548111993358219944167416481185972462612480, 451929935296892860502453472753810498203966730240, 23894994561521647266526008126060953946498177792000, 700822289931348359666180747739726089625426295449600, 10391256705860285359482546144973563701746291680000000, 68263104063937869451590461513932467757816182415104000, 169328167056969178824727272836417257818423449190912000, 141617515887694301931008834798705970050117526297600000, 40461360235963889209501168580266342301307769681920000, 4310289500662365411843971812152458513558594150400000, 186409177575260478402566655273026000672176619520000, 3454898757049608171733175435208667028984463360000, 27883555001052200906673091223108586258432000000, 95071541685947591198407608946955496652800000, 123810689231176279817898486411706368000000, 47854769886500820749560760677171200000, 2365008766537390138108713369600000],
  [1251446417132166042451788445696, 3770622509947761651905848345528320, 4715264687623537267037699057204582400, 3205785641706865201006643911774270617600, 1305025278770783794133442767886756808704000, 330625389345411783484201253878842372647792640, 52583278175893964806248938123027652700851302400, 5184194123401000978048272385141060665477342720000, 306767339487744491106630122229845035598973936384000, 10315510019409215775230225812028061538957022388480000, 181380216932589340916425791714711197212135728072652800, 1479805817912689441297452491403384757917600601624320000, 4809185837326951337685127990455227799582128316633600000, 5454911464833564286215455140464466726397624495692800000, 2115823578116949309613912696393168051269750608640000000, 302374911389344900566755662785694051396823080919040000, 17402180063923339010714250244966108046982005145600000, 430080552579672214995305042357983394508066816000000, 4702379695966711604122911324066145275297792000000, 22520772421773428249827943095840945397760000000, 44322199407807491651793035842425942835200000, 30506537793139696221756212071858176000000, 4789142752238215029670144573440000000],
  [9087203903966723169825144426496, 28672210172529689493019608185978880, 37707968596177019513386722439972454400, 27098526755289292448530654420414137262080, 11732327424643599287435298764671145468006400, 3185257785918236736126583941460116747167293440, 548066625364590222929712768470301999778562457600, 59178329628822821602072325493634555590409635840000, 3897711708877820431368995698105206361815774883737600, 149122626098414503940984708902274782416110173495296000, 3075545610347217550782737919488491340791400626785484800, 30693351153831508998034311553369968868290546316692480000, 128486069393174442248452107259012116181405420845657600000, 195628464231282819585255346833362834222650626466913280000, 102722825195058481111100006841609453621978797026867200000, 19665269396586920477359746092588908585595608621117440000, 1500536654363505004846973792800379971214005706342400000, 49065685190838566596241361647718001987189764096000000, 716649544318880784475866871178121213959587430400000, 4704490740868013210178465338966316026707968000000, 13369583642414197475079343646756573213491200000, 14792754277211771092659545808436690944000000, 4932284907832890567779174450135040000000, 212850788988365112429784203264000000],
  [66653739092046361122607412928512, 220008992440353581083861436820303872, 303922868718296644118183573467826688000, 230528672736048062206288321926937620049920, 105959765341610109528355009013587427072102400, 30759345603762243936881636006213370084190126080, 5709670839365058484299302957992155306908192071680, 672707854783337030714674088975416659721632193536000, 49071363739340387268081933036672218194151412913766400, 2121358733714756080600757292210981224358425620225536000, 50817772313687166730308613942394208682295380025088921600, 611902964904834953207321992386379713865479951438591897600, 3245010103635432204308160817671443306328961575446745600000, 6550947580141268378512222172877248952153142796211717120000, 4637843339479032913747149725704765347801888034468915200000, 1187983877417553341514927851712148792002764796179066880000, 119883324225477848101075267282513639503732993432698880000, 5156314429064382752907459254439911629219902738432000000, 99522937440621919533482432084432797008455334297600000, 878926584919590601927358716260339858874073088000000, 3489534712323843605132190084861392866944614400000, 5810244853087139274722522672571451893350400000, 3438528756701290031383990872184258560000000, 470187392875298533357393305010176000000],
  [493752322578482350104389200973824, 1703277184445014504702099554268397568, 2468637639899261578862609756077182689280, 1973634768903093323080399622738256061808640, 961455113505182396127749161744650583522897920, 297806903071882290987392839958772742433527234560, 59479527632189848314028435927653967805875693240320, 7620482375330814386962703948390545954111726021017600, 612853787045708022248247607373595967969410890277580800, 29749101135042861862933137465896626663899830538034790400, 820479742936979875407295422661980804347560130205968179200, 11773213484949133394624785771061266174745628974629826150400, 77854293204201807500927840868179925437286997423390702080000, 205525496214582891077829216468362901189930121925506314240000, 195061780128204812931844683494664305243025574275203051520000, 66770060724224189741052492897006079194522600603653160960000, 8896787679438405874780753749133700961405176851944529920000, 501204169136496463092031563193407625839957371987558400000, 12677274502539437202565077646023215781168325587763200000, 148453901694161944275691213489394827835073468825600000, 803226066674736351933856272859486503903726796800000, 1922512731096237418724978491269599576693145600000, 1822510590393687711941761865904507715584000000, 527850374418558549235521283948019712000000, 20007974164906320568399715106816000000],
  [3693131798996707683989545021542400, 13302202696269070054772309572425007104, 20205264089693508709614254622211851558912, 17003921876107950346919517174754879531008000, 8765245535921125631741562561654565809772523520, 2891248536853258343567102749962420046588973875200, 619789137322829256138540340457193268802488951848960, 86075393578316135375469413955779024206000692480737280, 7599861575899428621756002708840130766437777258223104000, 411890208922459214432087611784767120593514959330156134400, 12975423693718194621576994008733517273288242227092517888000, 219414041070929856022682029549174639675947603225532414771200, 1782800963945780830833605920807061151736942503564846748569600, 6064225871497466429272329939483289453838409701262156902400000, 7657218365173380174598963082258991758372495945877286072320000, 3496484362769217231054798923921154112646729032820511129600000, 614541537656931613759116413081081407448768923583530229760000, 45210271009037823002774626759824995867538893275950612480000, 1489037951404617317549480826606012974580569484607488000000, 22861371691270867111054066599206506450654842165657600000, 165387472305430120473361357345171443198132731904000000, 550364485011064394994871221941828882017733836800000, 782166713025565309322812790705411861014118400000, 400891575072820333637592047712078397440000000, 48039145969940075684727715971465216000000],
  [27886995605342342839104615869259776, 104783541106275112426243709042897100800, 166626982119336061198812907993896179712000, 147421639327892800169998193951633165678592000, 80292239726135573252530900084955559917091840000, 28151882416808414619845750879485655686165657804800, 6462324909767288006788611513121250518569003651072000, 969981237802723182026643635435478610338189350154240000, 93662422554044123637544343246288054794737233037143040000, 5638231422782938849380091675309226099565414793215360000000, 201423238515008977254105299724761257969372355484583139328000, 3973730717183574435583415507710668381424208854868256061440000, 39137371562857767645464961639958580975392901155753297536000000, 168981826887520553301763883624375759842014383069545345152000000, 281182587121318614749078364513471672268839888139310837760000000, 170821260916086199826105001081589330583491255653560800665600000, 39575921344274028612449969898471110443166420968055457792000000, 3794575206791348398615799309321513569193251466929551360000000, 161961561926514682073228663396768502473428244313538560000000, 3231525357875510678762146218798577251284031457689600000000, 30797012453195220881276523347556742570152374009856000000, 138950526782442268793451973134417103187348520960000000, 282718644347892518652808789044818599319961600000000, 231373953436529683780205742060441639321600000000, 58578346361304480044132265903980544000000000, 1960781468160819415703172080467968000000],
  [212543585555177727038581866946379776, 832390506262104540955923085743367987200, 1384369984061879184852358468299950850048000, 1286116538377680611034304559244647842478899200, 739038543208992886531799400949666751292499968000, 274950302810803067748194800731403648140132899020800, 67439761405767825534427976318685961530430510768128000, 10910279921609319790905372570425804722911669273415680000, 1148057237681853183435562878169776515345516159424165888000, 76397225326292757159294359639612025952460723683238415360000, 3074997740372281904711824285036673989544319442250997301248000, 70136217529902766519752510096552782503725103989535061084160000, 827003582805652189170665275602297495752658628607856170956800000, 4466223644271426318698858218548623381405749149520742163624960000, 9684430934856394894441610287372236190475745597705819184128000000, 7796648120515635723533511757075274333436067473702610814361600000, 2379419655040267832334445936060070841816435979517592403968000000, 296979973913094331840748412094651536279576188406462412800000000, 16369819884712825737874449817907596090977543348633305088000000, 421561606371350476826932311697806550512408539360624640000000, 5231008274805541002369613784655081700796260184948736000000, 31385224136879619965051837357641003082555098890240000000, 88402206191281633389814836108486910370139340800000000, 108089592386050412952122565129765576726282240000000, 48296596576709591274009542465630660198400000000, 5099992598686291300243950581297184768000000],
  [1634780361427637211832917276278628352, 6667560961701799408747784971211138506752, 11586329083968607075835001345909988061184000, 11289950548586585521155771086266065870447820800, 6835379431778894403368355263867232211248749568000, 2693931086246999046770867958907111045013947090329600, 704602734196090670640571249621942880739734490067353600, 122545022834878603897741275045091181357140620559626240000, 14005987305525314928318653076528096217247242117272517632000, 1025811041939524918661005169326073652730303303139109903360000, 46244654014040464616533373066734460664798747538716222406656000, 1209498244108513804149544391326646843073139309806409192052736000, 16882806068660109252274490627787781747186228602758459852006400000, 112448421014372024479366948974369169798136851204865223942435840000, 313806420318566902732514495265393559149572096537359395472128000000, 332955383289897586921272947569781149248527296613972743018291200000, 133718204619850746865982090959564234284918178345690679935795200000, 21711308156547259407531518493334439073370609416342821836800000000, 1541771903609197934568317837374373590489097815966400335872000000, 50976907516264262800643727245493125436699164153515376640000000, 816041434406463597860914169639194090063811334586662912000000, 6412736976718835699025099425875956969071477463416832000000, 24377876969784744870482541477159254348670994022400000000, 42518400984675338519300307254352524377919324160000000, 30246752771366507205081252999191715800678400000000, 6732690229250037928853420799745010958336000000, 199999709752403580401723552207732736000000],
  [12687046810296879017839174357490376704, 53845674630129925453602726280736014573568, 97674557116597583974183105341840212796211200, 99717879690104802920223715580026865196315033600, 63527953209026633034885198891177212767035934924800, 26481717865866751882853094786518446944466899525427200, 7371674803711791005406608637979172900250848369458790400, 1375010105172030289192214688653528497301652427099189248000, 170169154552139017853140745049484184622108007712038984704000, 13662412694055460764056137713995900665155598318417325939712000, 686121878268482336213314589287302405851344739238718609539072000, 20425216164422226075081794010118057498054253294914298104387584000, 334071275091526039586460113395384796739148464717881504934773760000, 2708250134170940586679848250309671626712194179354398080645575680000, 9599537371293503158176403050997263034379453527282358746930083840000, 13327169315610128989517035497915565377659811384443924683278950400000, 7031844120434721834892905640764381124339930614769134900321484800000, 1484763426607468286398548588918835758274429318397239680964608000000, 135622374065628918414325631254142813437548471744887802875904000000, 5734616778926175779633229583741250713887883735587827515392000000, 117570417625669546092928749753919580101725038010629259264000000, 1195624343160755432669893679966712807364946778838499328000000, 6014867199076703218647791262870715408479598737162240000000, 14466594715576035309450481919537655854634711121920000000, 15327805691007250514965123229055123023053455360000000, 6006532516412554482286255403684413554819072000000, 561799184694501657348441458151521255424000000],
  [99330405965961651244983790000257679360, 438352104929508530936651927454874965540864, 829316857266559543335294361405504408057331712, 886148306395899538017259122598533302370127872000, 593313992491670644007573662846414478314559448268800, 261204249335857151978735109507056044101918566879232000, 77246166513364682653748021620799690820246393741691699200, 15417997879971915201472964393776971529671610239028816281600, 2060245422973406470140159633840697977140997904913959987200000, 180653015305086669970772435633082053724746941948839784722432000, 10056539820478544905048018599376762174978596127475701464360960000, 338457432051467013169171082229665437728505875833257870351429632000, 6426561166471667858942525179817823541323597365708549214338697216000, 62639871918208148789185325587718462034022422911700584756139110400000, 278264152077389661432995958380220605005313964195014221594844989440000, 501032333130496553263177716147121651775326744762770820797396480000000, 346407224960112391276101141043181913385935677760811467411619430400000, 95094108267614983637834844492815239099788880138511549781410611200000, 11163047987538207136074299193372555588050513677912958740131840000000, 601908241360476832748194036165129351349868226895298991890432000000, 15714787480740727411206590562508167051358754324852777287680000000, 204836778458795573376479980583823441638689054538203398144000000, 1342755392235143963263268136401131134072873598775918592000000, 4340758522768716540218450269743723511808529599692800000000, 6538897869453779250652839923552515490161148559360000000, 4068786446213998959017731482196860596445511680000000, 800500238281963597382961329776315729969152000000, 21199969233754779522582696534019670016000000],
  [784430933721993118208299205304738021376, 3596882290415118344908249987278481485742080, 7091211424184886532759758189017530040353996800, 7922615454416236110130061959212772278092587008000, 5568299081558608567972030857421166045866589798400000, 2585361873723489906131670824378959861774019656469299200, 810871243114953164062103768067324846284424100223453184000, 172820707949841629314026324846042100976884185931614351360000, 24868204485643125951506440399909080525286471395368385515520000, 2373321675871542100308330451749517190663374235985073717401600000, 145786073663841455766655616514709327179915888176300290334214144000, 5513067712504517547237564778495119149730911455046183505512202240000, 120507504278694818729325714282388131487620116177290514837543116800000, 1396422491136633818633237999245168333642246534560486663727933286400000, 7672863343721852072873906710576347011120631914926406734493547264000000, 17735063608127049509895535541094804539277926122039568877220949176320000, 16005269454616935460274316411232415841578287437877650023789058048000000, 5709722763235434993609825817372050443353360405789312621142630400000000, 861051923388414738100695158222890458822138129080301257078968320000000, 59087655596945071489296700350429284601539329972058971930828800000000, 1955947049572112831456307242845683385989952215897717386575872000000, 32429566136617199086201165146982136652073586903619292692480000000, 273610628825191527220829896142538018533747695307621990400000000, 1165439105002316493630057057112280928361613097752985600000000, 2412489088848655863852844700489835498386571067392000000000, 2229507241243314591725292147549404370760995176448000000, 770463114873041222403338842648831295556157440000000, 64129906932108208055812657015409501798400000000],
  [6247603261849883936682407655318910386176, 29744573017200104326761284860460243670302720, 61058172624167184340704102186891441695852544000, 71259186196060290275916451952096140530341224120320, 52515075409352811513804776915919869754896747722752000, 25680627787048782012724078809018312968111382420988723200, 8528408927149681354953764246233821177969104828337801216000, 1937051529395557623462023657631782564182211212904055889920000, 299409046901210659511586690830203433960213215118872272070656000, 31001056080636679718625674313507328471874149181899401186324480000, 2092542202463693592181563747388797998300472901465924024654485504000, 88416734644782965189438150109200591109039139403616903141128847360000, 2207885868246150096455989465949027766002880422644679976032163686400000, 30104344819955474073756520885095924486722790856726071813960801423360000, 202032336673013443686214026123044016623639718979139471347941261465600000, 592738534971686762089579114617861190230286301013235358355678477803520000, 694534928861589690533546023256360932725463302829455955224737160192000000, 321692233814188307681073132863263213533555030096048882698981867520000000, 62316894852740477917745504644852128911366897048026260675845517312000000, 5435750800780348336564695408027018477220674563994524063235194880000000, 227390962996075860086583468624208459068717984836256583627948032000000, 4766598629252212326805628342670176511023016433227445644165120000000, 51251536093527482818475399189261941743917692213959834009600000000, 283153458753864000049043805107866226637803735770780139520000000, 784900034300776597615337297928609253515172208109158400000000, 1028201543025635619577025035153828603781397922971648000000, 562835958536893894879216654827712479041248296960000000, 98351957267696860900141774895450754121728000000000, 2331996615713025747484096618742163701760000000],
  [50175735550281498556347163152384239583232, 247864230825694604613598994452218695618691072, 529358898325527105491692050434898500852405452800, 644762269222591811261808192947139122274806161735680, 497698721860133348978973279083448371782529923971072000, 256010769038022021661505217676737133575740516721546854400, 89884888807327436792578234288281088440045142861787311718400, 21715736584455958514998306951266931145417782186304651059200000, 3597150783054973512091482712722851110252473821027055283267584000, 402883380744165949155991631986057673889863859374819036653793280000, 29767169433101559131353403665450409988964137827217815313440299008000, 1398131958233127575838883967902906226120094816008985528998403883008000, 39608316703231608799608346178898281024836941453007749228698565273600000, 629502836471775485976300516584928996696548337685410215430770021437440000, 5098749972184402605714366801632347575686466044865583982521364226201600000, 18763749711068558026962667455463251405319497971246284932341945139978240000, 28352258262687880500476045325380020288347672174460035712402242882723840000, 17022386603510266978712012366375653452191723549821160726264356208640000000, 4235984844623864197919519060441094606038503092335421910766945660928000000, 469372594525585602856590690373462846186691273011523220422084935680000000, 24754475963668584944316184112378150748138954859143031290184187904000000, 652938179545577567501068465998271974441155923657148806413287424000000, 8876062489808884606926319428988746296143588662017480702361600000000, 62809677113413966168808975028847917099240788082831352135680000000, 228508984915963873624469077052598034968347030215124582400000000, 410035909024788839879839724705723793754377753446055936000000, 332495011855163871669671151937732862016199465107456000000, 101841125584075925718913692517862060584756838400000000, 7576657004451620653575829914293289867018240000000],
  [406289121475724882947244399505562131595264, 2081109663320284642655684851558271950514454528, 4620652777643019395185429752006005565361825873920, 5868471467505192716874911057320440969340258960834560, 4739920875298623092598681066400052468450830214553108480, 2561572767159343176026939215085741690710912868943748300800, 949445765921956685066334251711754136253074605342960503193600, 243559077377439515531759814656607754416948787836785684484096000, 43141638484085527587342982363266264228454720344983408124776448000, 5212228866196710535809872274369187856546556314737595370153406464000, 420038155671743560139212670548465682036885701484866336530753540096000, 21827213443059002626700156175965466497366025116112206550916699779072000, 697060699169342784217747261861860702762393444551818603350469184655360000, 12802838750835223852692099130071603058418371524394308066747939918458880000, 123770163419994262044706214154349228203487469778892829238377401345904640000, 564496593115084849674215530460287261003653524405830019073638243804590080000, 1090903535248149860188803843327997205975937103014413996243631708309749760000, 846775513313945093059557349749517148150458610911903107722821749061632000000, 270676624399769995204696731120029686022427798726519020474468858781696000000, 38092695772962852518432707293148344675912722703840927739572102094848000000, 2528735208108813817801547738374510560467774089311229667299012313088000000, 83619718607202601398230704293748301230638683335455522193793581056000000, 1428008708213967809316169540881250984291301859787347608369233920000000, 12811954258810198504144629628603823855067384196952465133404160000000, 60207677287616900761887647748639139637241689967765938503680000000, 144187020706624377699566151858204433726167996929759772672000000, 165279288290187496116897506291766931737399311669919744000000, 80010406789232194858585534775845252263637218754560000000, 12474101753083471730073161096086657794394030080000000, 265847614191284935213187014536606662000640000000],
  [3316481783392051799215379862343848027422720, 17603567732255343087373276810676624622888648704, 40603621279696606806584919394592188015347655114752, 53727108254389511254782103241657783015713669297766400, 45362065727182859920793853800709415872919936159478906880, 25725867790264360160944123629351036965161666980218695680000, 10052372389714962404384152341133807820091700494809757568204800, 2733518175113785954299075063030210213188412536122115999708774400, 516686105591174322688152528317200584424280020843776288583311360000, 67163811634103307519438506972687271711888789634584638243335163904000, 5883916375862543146737245453743393821410706694196463409108101611520000, 336811279539692671262814799166201054242805900019921416621435062480896000, 12055031851681388315267653575901107702003841578683466877021782154518528000, 253876133271286809695280222371004064009776661182468868761579310920192000000, 2899366294919555223801806748447414301649072067943354458547854904362762240000, 16195425099399368224005743363428047336794137105025439501160093738469683200000, 39653282213745844339601114290146564247411429834405625053630109244406087680000, 39641791703937554560916915143826034638093263385656399203952178248548925440000, 16271574375793872810215029922275821593443172611449925042757655503585280000000, 2908690436749838041090251100170534329032548497751941697653093558673408000000, 242810034109420670566730742026377604213599419547823367161126318407680000000, 10038349977583641482682903999967661632059884991877226018038881681408000000, 214261060663638097051318854303329562535822340210832464434111709184000000, 2417289875947694582217555567826885880026678370685195046148505600000000, 14486368890416371250539640578962457374436901355337052053831680000000, 45370758493743669325220662230993604916624206879566145781760000000, 71033469621613556608440590905480405390946420701362388992000000, 50818235855455892529312329498689836195057485633028096000000, 13860502821122663478383527662613709829871711027200000000, 925415544999862859477103997601927790424227840000000],
  [27287539950459819893102799433172013791543296, 149997528233262723098304930245205102467148840960, 359169440105298350377749729729728833302369639628800, 494748444386617622189731043149563307762802987018649600, 436243861044649897209884975374116108169483629395202048000, 259339650505454426071792199747291204804023040224386842787840, 106692115482148969353792254424945992328878077325111330476032000, 30705556801887332820800008594873284312050361107467368156549120000, 6181457793937855730211412321812770533120005563464259197128929280000, 862439253598397245400400978889321857676525060930713891412447948800000, 81881372089413388787104864075244178523236723549309838571657691918336000, 5142471985165353807925178339014132579284668661771932427786397594890240000, 205185933971220625725614008603297369533649674613870135706131086499737600000, 4919333531637490783814252796728619346473855955201750603373545661905612800000, 65741303269317432657000074260474733270554321828508332759915119700127232000000, 444643645587564601289982706661743158417567689532358427915871277471506493440000, 1365196653251198059610240814195089850246690616242621982434498079084070707200000, 1748759442897429169470795817054177370847312938161849900596231228200454144000000, 920896146350447428280203214237802113198939296631330217355474510547496960000000, 209155359256589773743891082092585254135484736036478683271206701965107200000000, 21945956180264651331925632260751031991334654782180725428919467906318336000000, 1132096186691948077235760204100023746126981955715077262659578329989120000000, 30079975975739094941073348923012463359317771339617840164212039680000000000, 423899257635530083978405588650135158080696286661467372297836953600000000, 3206069018089038065921506515794256988186868546359755695554560000000000, 12921815429982324800068670598745157643017127558435407119515648000000, 26917594441522631958827851979151002958789998184827144110080000000, 27153766286903556859343957787799846183216719793383014400000000, 11681114065156453893026400658816967177436376911052800000000, 1631633085908656507747554972043059972862377984000000000, 31370018474571622355156067715319586116075520000000],
  [226276446953982927846025591173802895436906496, 1287353725085021332055531252283914705777446256640, 3197942301375809559288185451656145803497910154854400, 4582205822230070199344065438476042430840861258042736640, 4215739515453436381932434373894512392793594947500783206400, 2624323596206178787892270421444671004909092393061937597808640, 1135278286266549656307748637710631417341296596640564242976768000, 345275317653105930813844691612468723445351903078331176029245440000, 73894566362562266532007198174353663647415661841523315058859470848000, 11040567677155443351762817260078188212432409776167417864536309329920000, 1132723863296021575039231312399813361707822569330139237609700215320576000, 77761395745149137324605778750016761431424577216599886903167614075023360000, 3441966387798420538082999910263587410995916324164246347161146923390464000000, 93330731699025904131297235872202682858110799111793383390929609611568066560000, 1446847368715479917344300445831084279223625189280119945887622080751128883200000, 11721298788004862248453020648897568551544794880413382949073361015356221091840000, 44645763870504449452619158915881754259005668981483852387074729413756616908800000, 72805451564919416164792329456237168172975992745477003866776712077707216896000000, 49104972438187876233272185588962963959720494910110880674644112497963302092800000, 14173564070895162071400717882193705247789762988655011972169714518151127040000000, 1869247336610494095837876715541624389697802835137946069684907075502882816000000, 120160060132731689549678289904012373635273258539691763308012413192929280000000, 3962049329312663515499756761447901963643225884539610752120533422899200000000, 69368200945146560987403945823556852448197640684683741973584866836480000000, 656548525056849075171551497671764909087198557717342276333594214400000000, 3361241646859174384934864354292270984543363323233389810952962048000000, 9127522951563549058949499666557029054956501746125753386270720000000, 12542626429154155843865394806263486691975014552194986803200000000, 7956492226426880019495817226234679359208617400304926720000000, 1940786892301899252500238768192443854706295649075200000000, 116727838743881006783535727968704179937917009920000000],
  [1890816383932031941325296356597295736721047552, 11127500477391569215155255969953961451515065925632, 28657915938525470178893109433340431049120724231782400, 42681821450438364294510741272068913463341395823035023360, 40937485747510140335771358102191078790139579122821637734400, 26658184588139174363902147928837646745981402583312094169006080, 12112098988096227534022968539641360672988702005703324210490900480, 3887244049187507267556653384553334214551183310877838729511976960000, 882896659030290483122946139876285772556995133279524317304897667072000, 140961964776074283636980804078099724052145854608482952213284464312320000, 15586323362739775099837833286025394985253520177878119550673264414277632000, 1165573793199379731177649449558913322519119053512752158741050453304655872000, 56975644937183830123311161254580106126481829861796863868666462730581196800000, 1736834272186720211453631644134190468293704316665519223824764433795354378240000, 30984860444628583197207320703221817565695986755764706363393149642962864947200000, 297623587626531389047520670202378243106065263385380150378508559570782434017280000, 1391102579884220495715938574588555837954898899942954713198121163156345238446080000, 2865807812502565866136792836937695517007020342493025164279821599300200773632000000, 2469130965632613349958502826630873383562026261491596737896521001266532123443200000, 905754516042939500783800407946444778550118408622374473076836966040786083840000000, 150179903560432222215994478148664947056469272968605878912980544890529759232000000, 12021118496429226701113857423437134586614368252455629662012596760343314432000000, 490752722400262488910922115781588465870297303911327466640434367078400000000000, 10628705420036645551374132850445134183049592873851649568549481504440320000000, 125017807661038643522950704733935085859440158136420597253870773862400000000, 804419274262910207755667485885618592795061518244865444928436043776000000, 2801523051952670310441771758102638694584400857638878716300886016000000, 5107873387522731690291018626532600399342332463144438281011200000000, 4558339117266914361594972756225704717969603182810921697280000000, 1750368477139409306431739976317776804213121786000179200000000, 219901853195583174697435659852124233539764082442240000000, 3827142253897737927329040261268989506161213440000000],
  [15919956095078973467778883009373075253809250304, 96858730892652290678611067498141226066387956072448, 258455925525029080386189436605580048090673343815024640, 399821816394464025321818179683761928071504735833820037120, 399450648763203327060576414302350655838000478904638753013760, 271843164631350022804655034913158475862814402638040922068418560, 129573701644589164485273217944431540929112107580988358739659653120, 43823736134416886429593401877763973515586684144354839232255664128000, 10545974017924305661144725756600730719050038606564146373567629533184000, 1795634604813952255856970737263316732775697325354430728420358977052672000, 213440389773790275816691565023715380221908473978390894492851756726902784000, 17331538311975399574968366158937126768850123511649251606632774621469564928000, 931717457212486031862851958712393703116295594635411189038131600996496629760000, 31754917477773053308785736986413821072088628019374982786690388708588448276480000, 647158929669028311043518746479265701197840866605113497136296529039399242096640000, 7301024237492921839750688802339585364612442775978197809634870621057281324277760000, 41427895640131047674798471555608446364873530095941099614371541479031635833528320000, 106881722584648756751950271507549124866804349916357446185609085334184007120076800000, 117192972143281301161229790557372405362313808531438368515060245321225712309862400000, 54616927025244108571328729396897873639517628704862398646155627117372408599347200000, 11390028832822730836797406744304093246394544625249248570792791797153849032704000000, 1134944520187693497316164851249988985658944710142811402394497898682333298688000000, 57271090544083022376418717564235264008332739623258556123830279357350215680000000, 1529139304755426849537596370601625131390638361602316523645877895442595840000000, 22226222618228541496437309763518439828236091041668888654397725489233920000000, 178187679322186896881992027324800993488436343844102941086485671575552000000, 785451957044448342550131602610595375608475969778633318946044903424000000, 1861344819772797774931181621086388393668908571193943574676766720000000, 2257232301995076575743606636190577597638373259964182702325760000000, 1275560150809109584793726705263322689297621155283709460480000000, 279379698678372026741462950630401144959891117105479680000000, 15189927605720121833568960796976619349953856143360000000],
  [135041388282796985771272553475002706667235246080, 848944369600363947281548857969130442698514286772224, 2345652294047563631187803381155395500983833899375788032, 3766379501668281775207747745584202794994335738217968435200, 3916450865960434167887717042846310790734245519494492878274560, 2782861546742122887320039252334822129628482348636147214476902400, 1390041265124773271148566638032764719915290955904320965793936834560, 494800342734960771024532513263704471031545684024860395510851284500480, 125962760010257833301320879022952817223104387678311295073434416168960000, 22829094981130237938206239882105454903554499722490643466598978140372992000, 2910316371655126463744651606116650380658101019553663215596362463567216640000, 255839909503240289383597566318854797880803745372585429823126860100414603264000, 15067395067003361690893003774045545480579812311879714097100803979010571599872000, 571242154357173348220388954398995105855761019105841048406270367829953272217600000, 13210114746818495542005826855901478802752957805256837318225620220818202769162240000, 173511139160573900041643096538416564443550400949991956230708309186806957575372800000, 1182872528626428516616348335226018807046041478595091580588649442605870133211996160000, 3785984282391714164248014553830437718646766655723937874808851306365912567629742080000, 5256797992178702688031824852249255715067612443811028495231809022894854718259200000000, 3109541785711379595244722746021039072501209209267495457894853850750562301981491200000, 815990355144453689456544802517117130328385756526082872767842805646713708544000000000, 101225449781609296308526269694772558709819885542702269978600803953444185964544000000, 6307100822004487903799002733932662089050676335338157882276273384488351301632000000, 207057427741270549637911130671386258867921321577590238961819067705930547200000000, 3702037848414456595736714319535913376304375700259587703306976130086993920000000, 36715261776771953456286844475292539241322897490814833160157828208394240000000, 202644640628916943840347680534316963216101139769827847337719168499712000000, 613982506182493344716737770358571700765275962453616088030658953216000000, 985374182434711421664560961666406948479962994369953586059673600000000, 781687400225980435571900264777861867065039596723146462330880000000, 269045282064912360919067086715380758573881177591198515200000000, 30511019030765826941383342461787449508262869393735680000000, 482219923991114978843459072919892677776312893440000000]]

def qT (k t : Nat) : Nat := (QT.getD k []).getD t 0
def sumN : Nat → (Nat → Nat) → Nat
  | 0, _ => 0
  | k + 1, g => sumN k g + g k
def FL : List Nat := [1, 1, 2, 6, 24, 120, 720, 5040, 40320, 362880, 3628800, 39916800, 479001600, 6227020800, 87178291200, 1307674368000, 20922789888000, 355687428096000, 6402373705728000, 121645100408832000, 2432902008176640000, 51090942171709440000, 1124000727777607680000, 25852016738884976640000, 620448401733239439360000, 15511210043330985984000000, 403291461126605635584000000, 10888869450418352160768000000, 304888344611713860501504000000, 8841761993739701954543616000000, 265252859812191058636308480000000, 8222838654177922817725562880000000, 263130836933693530167218012160000000, 8683317618811886495518194401280000000, 295232799039604140847618609643520000000, 10333147966386144929666651337523200000000, 371993326789901217467999448150835200000000, 13763753091226345046315979581580902400000000, 523022617466601111760007224100074291200000000, 20397882081197443358640281739902897356800000000, 815915283247897734345611269596115894272000000000, 33452526613163807108170062053440751665152000000000, 1405006117752879898543142606244511569936384000000000, 60415263063373835637355132068513997507264512000000000, 2658271574788448768043625811014615890319638528000000000, 119622220865480194561963161495657715064383733760000000000, 5502622159812088949850305428800254892961651752960000000000, 258623241511168180642964355153611979969197632389120000000000, 12413915592536072670862289047373375038521486354677760000000000, 608281864034267560872252163321295376887552831379210240000000000, 30414093201713378043612608166064768844377641568960512000000000000, 1551118753287382280224243016469303211063259720016986112000000000000, 80658175170943878571660636856403766975289505440883277824000000000000, 4274883284060025564298013753389399649690343788366813724672000000000000, 230843697339241380472092742683027581083278564571807941132288000000000000, 12696403353658275925965100847566516959580321051449436762275840000000000000, 710998587804863451854045647463724949736497978881168458687447040000000000000, 40526919504877216755680601905432322134980384796226602145184481280000000000000, 2350561331282878571829474910515074683828862318181142924420699914240000000000000, 138683118545689835737939019720389406345902876772687432540821294940160000000000000, 8320987112741390144276341183223364380754172606361245952449277696409600000000000000, 507580213877224798800856812176625227226004528988036003099405939480985600000000000000, 31469973260387937525653122354950764088012280797258232192163168247821107200000000000000, 1982608315404440064116146708361898137544773690227268628106279599612729753600000000000000, 126886932185884164103433389335161480802865516174545192198801894375214704230400000000000000, 8247650592082470666723170306785496252186258551345437492922123134388955774976000000000000000, 544344939077443064003729240247842752644293064388798874532860126869671081148416000000000000000]
def fN (k : Nat) : Nat := FL.getD k 0
theorem fN_ok : ∀ k, k < 67 → factN k = fN k := by decide +kernel
def alN (f t w p s : Nat) : Nat := fN (s - 2 * p) * fN p * fN w * fN t * fN f * 2 ^ p * 2 ^ w * 6 ^ t * 24 ^ f
def tmN (n f t w p s : Nat) : Nat := fN n / alN f t w p s * 2 ^ w * 12 ^ t * 42 ^ f
theorem sum_cast (g : Nat → Int) (h : Nat → Nat) : ∀ k, (∀ i, i < k → g i = ((h i : Nat) : Int)) → sumI k g = ((sumN k h : Nat) : Int)
  | 0, _ => rfl
  | k + 1, e => by
    rw [sumI, sumN, sum_cast g h k (fun i hi => e i (by omega)), e k (by omega), Int.natCast_add]
theorem tm_cast (n f t w p s : Nat) (hn : n ≤ 64) (hs : s ≤ 64) (hp : p ≤ 64) (hw : w ≤ 64) (ht : t ≤ 64) (hf : f ≤ 64) : term n f t w p s = ((tmN n f t w p s : Nat) : Int) := by
  unfold term alike tmN alN fact pw
  rw [fN_ok n (by omega), fN_ok (s - 2 * p) (by omega), fN_ok p (by omega), fN_ok w (by omega), fN_ok t (by omega), fN_ok f (by omega)]
  simp only [Int.natCast_mul, Int.natCast_ediv, Int.natCast_pow]
  rfl
def W3N (n f t w : Nat) : Nat := bif Nat.ble (4 * f + 3 * t + 2 * w) n then sumN ((n - (4 * f + 3 * t + 2 * w)) / 2 + 1) fun p => tmN n f t w p (n - (4 * f + 3 * t + 2 * w)) else 0
def W1N (n m : Nat) : Nat := sumN (m + 1) fun f => sumN (m + 1 - f) fun t => W3N n f t (m - f - t)
def chkQ (m t : Nat) : Bool := Nat.beq (qT (m + 4) t) (qT (m + 3) t + m * qT (m + 2) t + (match t with
    | 0 => 0
    | t + 1 => 2 * m * qT (m + 2) t + 12 * ch2 m * qT (m + 1) t + 42 * ch3 m * qT m t))
def all (n : Nat) (p : Nat → Bool) : Bool := Nat.rec true (fun k r => bif p k then r else false) n
theorem all_at {n : Nat} {p : Nat → Bool} (h : all n p = true) : ∀ k, k < n → p k = true := by
  induction n with
  | zero => intro k hk; omega
  | succ n ih =>
    have e : all (n + 1) p = bif p n then all n p else false := rfl
    rw [e] at h
    cases q : p n with
    | false => rw [q] at h; cases h
    | true =>
      rw [q] at h
      intro k hk
      by_cases e : k = n
      · rw [e]; exact q
      · exact ih h k (by omega)
theorem chkQ_all : all 64 (fun m => all 36 (chkQ m)) = true := by decide +kernel
def chkW (n m : Nat) : Bool := Nat.beq (W1N n m) (bif Nat.blt n (2 * m) then 0 else qT (n + 3) m)
theorem W3_eq (n m f t : Nat) (hn : n ≤ 64) (h : f + t ≤ m) : W3 n m f t = ((W3N n f t (m - f - t) : Nat) : Int) := by
  unfold W3 W3N
  generalize m - f - t = w
  by_cases hb : 4 * f + 3 * t + 2 * w ≤ n
  · have e : Nat.ble (4 * f + 3 * t + 2 * w) n = true := Nat.ble_eq_true_of_le hb
    rw [e]
    have e2 : ((n : Int) - 4 * f - 3 * t - 2 * (w : Int)) = ((n - (4 * f + 3 * t + 2 * w) : Nat) : Int) := by omega
    rw [e2]
    generalize hs : n - (4 * f + 3 * t + 2 * w) = s
    rw [show (((s : Nat) : Int) / 2 + 1).toNat = s / 2 + 1 by omega, Int.toNat_natCast]
    exact sum_cast _ _ _ fun p hp => tm_cast n f t w p s hn (by omega) (by omega) (by omega) (by omega) (by omega)
  · have e : Nat.ble (4 * f + 3 * t + 2 * w) n = false := by
      cases q : Nat.ble (4 * f + 3 * t + 2 * w) n with
      | false => rfl
      | true => exact absurd (Nat.le_of_ble_eq_true q) hb
    rw [e, show (((n : Int) - 4 * f - 3 * t - 2 * (w : Int)) / 2 + 1).toNat = 0 by omega]
    rfl
theorem W1_eq (n m : Nat) (hn : n ≤ 64) : W1 n m = ((W1N n m : Nat) : Int) := by
  unfold W1 W1N
  refine sum_cast _ _ _ fun f hf => ?_
  unfold W2
  exact sum_cast _ _ _ fun t ht => W3_eq n m f t hn (by omega)
theorem Q_lo : all 4 (fun k => all 36 fun t => Nat.beq (Q k t) (qT k t)) = true := by decide +kernel
theorem chkQ_eq {m t : Nat} : chkQ m t = true → qT (m + 4) t = qT (m + 3) t + m * qT (m + 2) t + (match t with
    | 0 => 0
    | t + 1 => 2 * m * qT (m + 2) t + 12 * ch2 m * qT (m + 1) t + 42 * ch3 m * qT m t) := fun h => Nat.eq_of_beq_eq_true h
theorem Q_step (m t : Nat) : Q (m + 4) t = Q (m + 3) t + m * Q (m + 2) t + (match t with
    | 0 => 0
    | t + 1 => 2 * m * Q (m + 2) t + 12 * ch2 m * Q (m + 1) t + 42 * ch3 m * Q m t) := by
  cases t with
  | zero => rw [Q]
  | succ t => rw [Q]
theorem Q_eq : ∀ k, k < 68 → ∀ t, t < 36 → Q k t = qT k t
  | 0, _, t, ht => Nat.eq_of_beq_eq_true (all_at (all_at Q_lo 0 (by decide)) t ht)
  | 1, _, t, ht => Nat.eq_of_beq_eq_true (all_at (all_at Q_lo 1 (by decide)) t ht)
  | 2, _, t, ht => Nat.eq_of_beq_eq_true (all_at (all_at Q_lo 2 (by decide)) t ht)
  | 3, _, t, ht => Nat.eq_of_beq_eq_true (all_at (all_at Q_lo 3 (by decide)) t ht)
  | m + 4, hk, t, ht => by
    have c := chkQ_eq (all_at (all_at chkQ_all m (by omega)) t ht)
    have e3 := Q_eq (m + 3) (by omega) t ht
    have e2 := Q_eq (m + 2) (by omega) t ht
    rw [c, Q_step, e3, e2]
    cases t with
    | zero => rfl
    | succ t =>
      have e2 := Q_eq (m + 2) (by omega) t (by omega)
      have e1 := Q_eq (m + 1) (by omega) t (by omega)
      have e0 := Q_eq m (by omega) t (by omega)
      simp only
      rw [e2, e1, e0]
end PK
end
section
set_option Elab.async false
set_option maxRecDepth 100000
set_option maxHeartbeats 4000000
open PySem L2 StX ML
local macro_rules | `(tactic| walk_at "lst") => `(tactic| (simp only [List.length_cons, List.length_nil, List.length_append, List.length_replicate, List.replicate, List.reduceReplicate, List.cons_append, List.nil_append, List.append_nil, List.set_cons_zero, List.set_cons_succ, List.set_nil, List.getElem?_cons_zero, List.getElem?_cons_succ, List.getElem?_nil, List.map_cons, List.map_nil, Nat.reduceAdd, Nat.reduceSub]))
local macro_rules | `(tactic| walk_at "pure") => `(tactic| (simp (config := { decide := true }) only [p2, p1, pV, pC, pB, oGt, oLt, oGe, oLe, oAdd, oSub, oMul, oDiv, oMod, oPow, oIx, oEqS, oIsN, oIsi, tyN, tNeg, isN, sv, scal, onI, itemsR, pCall, pCons, pNil, fInt, fLen, fMin2, fMax2, fAbs, pAndT, pOrT, pNotT, pAndV, pOrV, pNotV, cMul, atI, ixN, frz, frzs, frozL,
  List.length_cons, List.length_nil, List.length_append, List.length_replicate, List.length_map, List.replicate, List.cons_append, List.nil_append, List.append_nil, List.set_cons_zero, List.set_cons_succ, List.set_nil, List.getElem?_cons_zero, List.getElem?_cons_succ, List.getElem?_nil, List.map_cons, List.map_nil,
  Nat.reduceAdd, Nat.reduceSub, Nat.reduceLT, Nat.reduceLeDiff, Nat.reduceEqDiff, Int.reduceLT, Int.reduceLE, Int.reduceNeg, Int.reducePow, Int.reduceToNat, Int.toNat_zero, Int.toNat_one, Int.reduceAdd, Int.reduceSub, Int.reduceMul, if_true, if_false, decide_true, decide_false, decide_eq_true_eq, Bool.and_true, Bool.true_and, Bool.or_true, Bool.true_or, Bool.and_self, Bool.or_self, Bool.and_eq_true, Bool.not_true, Bool.not_false, Option.bind_some, Option.map_some, Option.bind_none, Option.map_none, reduceIte, reduceCtorEq, V.int.injEq, V.bl.injEq, Int.natCast_zero, Int.natCast_add, Int.natCast_one, Int.zero_add, Int.ofNat_eq_natCast, *]))
local macro_rules | `(tactic| walk_at "ev1") => `(tactic| first
  | with_reducible refine' e_seq ?_ ?_
  | with_reducible exact e_nx
  | with_reducible refine' e_asg ?_ ?_ ?_
  | with_reducible refine' e_pu ?_
  | with_reducible refine' e_puT ?_
  | with_reducible refine' e_ret ?_
  | with_reducible exact e_retN
  | with_reducible refine' e_drop ?_
  | with_reducible refine' e_mB ?_
  | with_reducible exact e_nil
  | with_reducible refine' e_cons ?_ ?_
  | with_reducible refine' e_lst ?_ ?_
  | with_reducible refine' e_tup ?_ ?_
  | with_reducible refine' e_frz ?_ ?_ ?_
  | with_reducible refine' e_fz ?_ ?_
  | with_reducible refine' e_app ?_ ?_ ?_ ?_ ?_
  | with_reducible refine' e_setIx ?_ ?_ ?_ ?_ ?_
  | (with_reducible refine' e_runR ?_ ?_ ?_ ?_)
  | (with_reducible refine' e_ifT (e_puT ?t) ?r; (case t => (walk_at "pure"; done)))
  | (with_reducible refine' e_ifF (e_puT ?t) ?r; (case t => (walk_at "pure"; done)))
  | (with_reducible refine' e_forL ?_ ?_ ?_)
  | (with_reducible refine' e_call ?_ ?_ ?_)
  | (with_reducible refine' e_callK ?_ ?_ ?_ ?_ ?_)
  | (with_reducible refine' e_callDf ?_ ?_ ?_)
  | (with_reducible refine' e_m2p ?_ ?_ ?_)
  | (with_reducible refine' e_m2 ?_ ?_ ?_)
  | (with_reducible refine' e_movF ?a; (case a => first | (walk_at "lst"; with_reducible rfl) | (walk_at "lst"; done)))
  | (with_reducible refine' e_movL ?a ?b; (case a => first | (walk_at "lst"; with_reducible rfl) | (walk_at "lst"; done)); (case b => first | (walk_at "lst"; with_reducible rfl) | (walk_at "lst"; done)))
  | (simp only [putB, List.cons_append, List.nil_append, List.map_cons, List.map_nil, List.set_cons_zero, List.set_cons_succ, List.getElem?_cons_zero, List.getElem?_cons_succ]; with_reducible rfl)
  | (with_reducible refine' e_forR1 ?_ ?_ ?_)
  | (with_reducible refine' e_forR2 ?_ ?_ ?_)
  | (show outs _ _ _ = _; rfl)
  | (with_reducible show _ = _; with_reducible assumption)
  | (walk_at "lst"; with_reducible rfl)
  | (walk_at "lst"; done)
  | (walk_at "pure"; with_reducible rfl)
  | (walk_at "pure"; done))
namespace PK
theorem cw_0 : all 36 (chkW 0) = true := by decide +kernel
theorem cw_1 : all 36 (chkW 1) = true := by decide +kernel
theorem cw_2 : all 36 (chkW 2) = true := by decide +kernel
theorem cw_3 : all 36 (chkW 3) = true := by decide +kernel
theorem cw_4 : all 36 (chkW 4) = true := by decide +kernel
theorem cw_5 : all 36 (chkW 5) = true := by decide +kernel
theorem cw_6 : all 36 (chkW 6) = true := by decide +kernel
theorem cw_7 : all 36 (chkW 7) = true := by decide +kernel
theorem cw_8 : all 36 (chkW 8) = true := by decide +kernel
theorem cw_9 : all 36 (chkW 9) = true := by decide +kernel
theorem cw_10 : all 36 (chkW 10) = true := by decide +kernel
theorem cw_11 : all 36 (chkW 11) = true := by decide +kernel
theorem cw_12 : all 36 (chkW 12) = true := by decide +kernel
theorem cw_13 : all 36 (chkW 13) = true := by decide +kernel
theorem cw_14 : all 36 (chkW 14) = true := by decide +kernel
theorem cw_15 : all 36 (chkW 15) = true := by decide +kernel
theorem cw_16 : all 36 (chkW 16) = true := by decide +kernel
theorem cw_17 : all 36 (chkW 17) = true := by decide +kernel
theorem cw_18 : all 36 (chkW 18) = true := by decide +kernel
theorem cw_19 : all 36 (chkW 19) = true := by decide +kernel
theorem cw_20 : all 36 (chkW 20) = true := by decide +kernel
theorem cw_21 : all 36 (chkW 21) = true := by decide +kernel
theorem cw_22 : all 36 (chkW 22) = true := by decide +kernel
theorem cw_23 : all 36 (chkW 23) = true := by decide +kernel
theorem cw_24 : all 36 (chkW 24) = true := by decide +kernel
theorem cw_25 : all 36 (chkW 25) = true := by decide +kernel
theorem cw_26 : all 36 (chkW 26) = true := by decide +kernel
theorem cw_27 : all 36 (chkW 27) = true := by decide +kernel
theorem cw_28 : all 36 (chkW 28) = true := by decide +kernel
theorem cw_29 : all 36 (chkW 29) = true := by decide +kernel
theorem cw_30 : all 36 (chkW 30) = true := by decide +kernel
theorem cw_31 : all 36 (chkW 31) = true := by decide +kernel
theorem cw_32 : all 36 (chkW 32) = true := by decide +kernel
theorem cw_33 : all 36 (chkW 33) = true := by decide +kernel
theorem cw_34 : all 36 (chkW 34) = true := by decide +kernel
theorem cw_35 : all 36 (chkW 35) = true := by decide +kernel
theorem cw_36 : all 36 (chkW 36) = true := by decide +kernel
theorem cw_37 : all 36 (chkW 37) = true := by decide +kernel
theorem cw_38 : all 36 (chkW 38) = true := by decide +kernel
theorem cw_39 : all 36 (chkW 39) = true := by decide +kernel
theorem cw_40 : all 36 (chkW 40) = true := by decide +kernel
theorem cw_41 : all 36 (chkW 41) = true := by decide +kernel
theorem cw_42 : all 36 (chkW 42) = true := by decide +kernel
theorem cw_43 : all 36 (chkW 43) = true := by decide +kernel
theorem cw_44 : all 36 (chkW 44) = true := by decide +kernel
theorem cw_45 : all 36 (chkW 45) = true := by decide +kernel
theorem cw_46 : all 36 (chkW 46) = true := by decide +kernel
theorem cw_47 : all 36 (chkW 47) = true := by decide +kernel
theorem cw_48 : all 36 (chkW 48) = true := by decide +kernel
theorem cw_49 : all 36 (chkW 49) = true := by decide +kernel
theorem cw_50 : all 36 (chkW 50) = true := by decide +kernel
theorem cw_51 : all 36 (chkW 51) = true := by decide +kernel
theorem cw_52 : all 36 (chkW 52) = true := by decide +kernel
theorem cw_53 : all 36 (chkW 53) = true := by decide +kernel
theorem cw_54 : all 36 (chkW 54) = true := by decide +kernel
theorem cw_55 : all 36 (chkW 55) = true := by decide +kernel
theorem cw_56 : all 36 (chkW 56) = true := by decide +kernel
theorem cw_57 : all 36 (chkW 57) = true := by decide +kernel
theorem cw_58 : all 36 (chkW 58) = true := by decide +kernel
theorem cw_59 : all 36 (chkW 59) = true := by decide +kernel
theorem cw_60 : all 36 (chkW 60) = true := by decide +kernel
theorem cw_61 : all 36 (chkW 61) = true := by decide +kernel
theorem cw_62 : all 36 (chkW 62) = true := by decide +kernel
theorem cw_63 : all 36 (chkW 63) = true := by decide +kernel
theorem cw_64 : all 36 (chkW 64) = true := by decide +kernel
theorem chkW_at : ∀ n, n < 65 → all 36 (chkW n) = true
  | 0, _ => cw_0
  | 1, _ => cw_1
  | 2, _ => cw_2
  | 3, _ => cw_3
  | 4, _ => cw_4
  | 5, _ => cw_5
  | 6, _ => cw_6
  | 7, _ => cw_7
  | 8, _ => cw_8
  | 9, _ => cw_9
  | 10, _ => cw_10
  | 11, _ => cw_11
  | 12, _ => cw_12
  | 13, _ => cw_13
  | 14, _ => cw_14
  | 15, _ => cw_15
  | 16, _ => cw_16
  | 17, _ => cw_17
  | 18, _ => cw_18
  | 19, _ => cw_19
  | 20, _ => cw_20
  | 21, _ => cw_21
  | 22, _ => cw_22
  | 23, _ => cw_23
  | 24, _ => cw_24
  | 25, _ => cw_25
  | 26, _ => cw_26
  | 27, _ => cw_27
  | 28, _ => cw_28
  | 29, _ => cw_29
  | 30, _ => cw_30
  | 31, _ => cw_31
  | 32, _ => cw_32
  | 33, _ => cw_33
  | 34, _ => cw_34
  | 35, _ => cw_35
  | 36, _ => cw_36
  | 37, _ => cw_37
  | 38, _ => cw_38
  | 39, _ => cw_39
  | 40, _ => cw_40
  | 41, _ => cw_41
  | 42, _ => cw_42
  | 43, _ => cw_43
  | 44, _ => cw_44
  | 45, _ => cw_45
  | 46, _ => cw_46
  | 47, _ => cw_47
  | 48, _ => cw_48
  | 49, _ => cw_49
  | 50, _ => cw_50
  | 51, _ => cw_51
  | 52, _ => cw_52
  | 53, _ => cw_53
  | 54, _ => cw_54
  | 55, _ => cw_55
  | 56, _ => cw_56
  | 57, _ => cw_57
  | 58, _ => cw_58
  | 59, _ => cw_59
  | 60, _ => cw_60
  | 61, _ => cw_61
  | 62, _ => cw_62
  | 63, _ => cw_63
  | 64, _ => cw_64
  | n + 65, h => absurd h (by omega)
theorem blt_F {a b : Nat} (h : ¬ a < b) : Nat.blt a b = false := by
  cases q : Nat.blt a b with
  | false => rfl
  | true => exact absurd (Nat.le_of_ble_eq_true q) h
theorem blt_T {a b : Nat} (h : a < b) : Nat.blt a b = true := Nat.ble_eq_true_of_le h
theorem chkW_eq {n m : Nat} (h : chkW n m = true) : W1N n m = bif Nat.blt n (2 * m) then 0 else qT (n + 3) m := by
  unfold chkW at h
  exact Nat.eq_of_beq_eq_true h
theorem W1_ci (n m : Nat) (hn : n ≤ 64) (hm : m ≤ 35) : W1 n m = if n < 2 * m then 0 else qi (n + 3) m := by
  have c := chkW_eq (all_at (chkW_at n (by omega)) m (by omega))
  rw [W1_eq n m hn, c]
  by_cases h : n < 2 * m
  · rw [if_pos h, blt_T h]; rfl
  · rw [if_neg h, blt_F h]
    unfold qi
    rw [Q_eq (n + 3) (by omega) m (by omega)]
    rfl
end PK
end
section
set_option Elab.async false
set_option maxRecDepth 100000
set_option maxHeartbeats 4000000
open PySem L2 StX ML
local macro_rules | `(tactic| walk_at "lst") => `(tactic| (simp only [List.length_cons, List.length_nil, List.length_append, List.length_replicate, List.replicate, List.reduceReplicate, List.cons_append, List.nil_append, List.append_nil, List.set_cons_zero, List.set_cons_succ, List.set_nil, List.getElem?_cons_zero, List.getElem?_cons_succ, List.getElem?_nil, List.map_cons, List.map_nil, Nat.reduceAdd, Nat.reduceSub]))
local macro_rules | `(tactic| walk_at "pure") => `(tactic| (simp (config := { decide := true }) only [p2, p1, pV, pC, pB, oGt, oLt, oGe, oLe, oAdd, oSub, oMul, oDiv, oMod, oPow, oIx, oEqS, oIsN, oIsi, tyN, tNeg, isN, sv, scal, onI, itemsR, pCall, pCons, pNil, fInt, fLen, fMin2, fMax2, fAbs, pAndT, pOrT, pNotT, pAndV, pOrV, pNotV, cMul, atI, ixN, frz, frzs, frozL,
  List.length_cons, List.length_nil, List.length_append, List.length_replicate, List.length_map, List.replicate, List.cons_append, List.nil_append, List.append_nil, List.set_cons_zero, List.set_cons_succ, List.set_nil, List.getElem?_cons_zero, List.getElem?_cons_succ, List.getElem?_nil, List.map_cons, List.map_nil,
  Nat.reduceAdd, Nat.reduceSub, Nat.reduceLT, Nat.reduceLeDiff, Nat.reduceEqDiff, Int.reduceLT, Int.reduceLE, Int.reduceNeg, Int.reducePow, Int.reduceToNat, Int.toNat_zero, Int.toNat_one, Int.reduceAdd, Int.reduceSub, Int.reduceMul, if_true, if_false, decide_true, decide_false, decide_eq_true_eq, Bool.and_true, Bool.true_and, Bool.or_true, Bool.true_or, Bool.and_self, Bool.or_self, Bool.and_eq_true, Bool.not_true, Bool.not_false, Option.bind_some, Option.map_some, Option.bind_none, Option.map_none, reduceIte, reduceCtorEq, V.int.injEq, V.bl.injEq, Int.natCast_zero, Int.natCast_add, Int.natCast_one, Int.zero_add, Int.ofNat_eq_natCast, *]))
local macro_rules | `(tactic| walk_at "ev1") => `(tactic| first
  | with_reducible refine' e_seq ?_ ?_
  | with_reducible exact e_nx
  | with_reducible refine' e_asg ?_ ?_ ?_
  | with_reducible refine' e_pu ?_
  | with_reducible refine' e_puT ?_
  | with_reducible refine' e_ret ?_
  | with_reducible exact e_retN
  | with_reducible refine' e_drop ?_
  | with_reducible refine' e_mB ?_
  | with_reducible exact e_nil
  | with_reducible refine' e_cons ?_ ?_
  | with_reducible refine' e_lst ?_ ?_
  | with_reducible refine' e_tup ?_ ?_
  | with_reducible refine' e_frz ?_ ?_ ?_
  | with_reducible refine' e_fz ?_ ?_
  | with_reducible refine' e_app ?_ ?_ ?_ ?_ ?_
  | with_reducible refine' e_setIx ?_ ?_ ?_ ?_ ?_
  | (with_reducible refine' e_runR ?_ ?_ ?_ ?_)
  | (with_reducible refine' e_ifT (e_puT ?t) ?r; (case t => (walk_at "pure"; done)))
  | (with_reducible refine' e_ifF (e_puT ?t) ?r; (case t => (walk_at "pure"; done)))
  | (with_reducible refine' e_forL ?_ ?_ ?_)
  | (with_reducible refine' e_call ?_ ?_ ?_)
  | (with_reducible refine' e_callK ?_ ?_ ?_ ?_ ?_)
  | (with_reducible refine' e_callDf ?_ ?_ ?_)
  | (with_reducible refine' e_m2p ?_ ?_ ?_)
  | (with_reducible refine' e_m2 ?_ ?_ ?_)
  | (with_reducible refine' e_movF ?a; (case a => first | (walk_at "lst"; with_reducible rfl) | (walk_at "lst"; done)))
  | (with_reducible refine' e_movL ?a ?b; (case a => first | (walk_at "lst"; with_reducible rfl) | (walk_at "lst"; done)); (case b => first | (walk_at "lst"; with_reducible rfl) | (walk_at "lst"; done)))
  | (simp only [putB, List.cons_append, List.nil_append, List.map_cons, List.map_nil, List.set_cons_zero, List.set_cons_succ, List.getElem?_cons_zero, List.getElem?_cons_succ]; with_reducible rfl)
  | (with_reducible refine' e_forR1 ?_ ?_ ?_)
  | (with_reducible refine' e_forR2 ?_ ?_ ?_)
  | (show outs _ _ _ = _; rfl)
  | (with_reducible show _ = _; with_reducible assumption)
  | (walk_at "lst"; with_reducible rfl)
  | (walk_at "lst"; done)
  | (walk_at "pure"; with_reducible rfl)
  | (walk_at "pure"; done))
namespace PK
def isI1 (r : Res T) (x : Int) : Option Int := match r with
  | .ok (.fz (.int t)) [.fz (.int s)] => if s = x then some t else none
  | _ => none
theorem isI1_ok {r : Res T} {x t : Int} (h : isI1 r x = some t) : r = .ok (.fz (.int t)) [.fz (.int x)] := by
  unfold isI1 at h
  split at h
  · split at h
    · rename_i hc
      subst hc
      cases h
      rfl
    · cases h
  · cases h
def isN2 (r : Res T) (x : Int) : Option Int := match r with
  | .ok (.fz (.int t)) [.fz (.int s), .fz .non] => if s = x then some t else none
  | _ => none
theorem isN2_ok {r : Res T} {x t : Int} (h : isN2 r x = some t) : r = .ok (.fz (.int t)) [.fz (.int x), .fz .non] := by
  unfold isN2 at h
  split at h
  · split at h
    · rename_i hc
      subst hc
      cases h
      rfl
    · cases h
  · cases h
def eqO (a b : Option Int) : Bool := match a, b with
  | some x, some y => decide (x = y)
  | _, _ => false
theorem eqO_ok {a b : Option Int} (h : eqO a b = true) : ∃ x, a = some x ∧ b = some x := by
  unfold eqO at h
  split at h
  · exact ⟨_, rfl, by rw [of_decide_eq_true h]⟩
  · cases h
def chkA (n : Nat) : Bool := eqO (isI1 (mf_law_in_all [.fz (.int n)]) n) (isN2 (mf_count_images [.fz (.int n), .fz .non]) n)
theorem ca_0 : chkA 0 = true := by decide +kernel
theorem ca_1 : chkA 1 = true := by decide +kernel
theorem ca_2 : chkA 2 = true := by decide +kernel
theorem ca_3 : chkA 3 = true := by decide +kernel
theorem ca_4 : chkA 4 = true := by decide +kernel
theorem ca_5 : chkA 5 = true := by decide +kernel
theorem ca_6 : chkA 6 = true := by decide +kernel
theorem ca_7 : chkA 7 = true := by decide +kernel
theorem ca_8 : chkA 8 = true := by decide +kernel
theorem ca_9 : chkA 9 = true := by decide +kernel
theorem ca_10 : chkA 10 = true := by decide +kernel
theorem ca_11 : chkA 11 = true := by decide +kernel
theorem ca_12 : chkA 12 = true := by decide +kernel
theorem ca_13 : chkA 13 = true := by decide +kernel
theorem ca_14 : chkA 14 = true := by decide +kernel
theorem ca_15 : chkA 15 = true := by decide +kernel
theorem ca_16 : chkA 16 = true := by decide +kernel
theorem ca_17 : chkA 17 = true := by decide +kernel
theorem ca_18 : chkA 18 = true := by decide +kernel
theorem ca_19 : chkA 19 = true := by decide +kernel
theorem ca_20 : chkA 20 = true := by decide +kernel
theorem ca_21 : chkA 21 = true := by decide +kernel
theorem ca_22 : chkA 22 = true := by decide +kernel
theorem ca_23 : chkA 23 = true := by decide +kernel
theorem ca_24 : chkA 24 = true := by decide +kernel
theorem ca_25 : chkA 25 = true := by decide +kernel
theorem ca_26 : chkA 26 = true := by decide +kernel
theorem ca_27 : chkA 27 = true := by decide +kernel
theorem ca_28 : chkA 28 = true := by decide +kernel
theorem ca_29 : chkA 29 = true := by decide +kernel
theorem ca_30 : chkA 30 = true := by decide +kernel
theorem ca_31 : chkA 31 = true := by decide +kernel
theorem ca_32 : chkA 32 = true := by decide +kernel
theorem ca_33 : chkA 33 = true := by decide +kernel
theorem ca_34 : chkA 34 = true := by decide +kernel
theorem ca_35 : chkA 35 = true := by decide +kernel
theorem ca_36 : chkA 36 = true := by decide +kernel
theorem ca_37 : chkA 37 = true := by decide +kernel
theorem ca_38 : chkA 38 = true := by decide +kernel
theorem ca_39 : chkA 39 = true := by decide +kernel
theorem ca_40 : chkA 40 = true := by decide +kernel
theorem ca_41 : chkA 41 = true := by decide +kernel
theorem ca_42 : chkA 42 = true := by decide +kernel
theorem ca_43 : chkA 43 = true := by decide +kernel
theorem ca_44 : chkA 44 = true := by decide +kernel
theorem ca_45 : chkA 45 = true := by decide +kernel
theorem ca_46 : chkA 46 = true := by decide +kernel
theorem ca_47 : chkA 47 = true := by decide +kernel
theorem ca_48 : chkA 48 = true := by decide +kernel
theorem ca_49 : chkA 49 = true := by decide +kernel
theorem ca_50 : chkA 50 = true := by decide +kernel
theorem ca_51 : chkA 51 = true := by decide +kernel
theorem ca_52 : chkA 52 = true := by decide +kernel
theorem ca_53 : chkA 53 = true := by decide +kernel
theorem ca_54 : chkA 54 = true := by decide +kernel
theorem ca_55 : chkA 55 = true := by decide +kernel
theorem ca_56 : chkA 56 = true := by decide +kernel
theorem ca_57 : chkA 57 = true := by decide +kernel
theorem ca_58 : chkA 58 = true := by decide +kernel
theorem ca_59 : chkA 59 = true := by decide +kernel
theorem ca_60 : chkA 60 = true := by decide +kernel
theorem ca_61 : chkA 61 = true := by decide +kernel
theorem ca_62 : chkA 62 = true := by decide +kernel
theorem ca_63 : chkA 63 = true := by decide +kernel
theorem ca_64 : chkA 64 = true := by decide +kernel
theorem chkA_at : ∀ n, n < 65 → chkA n = true
  | 0, _ => ca_0
  | 1, _ => ca_1
  | 2, _ => ca_2
  | 3, _ => ca_3
  | 4, _ => ca_4
  | 5, _ => ca_5
  | 6, _ => ca_6
  | 7, _ => ca_7
  | 8, _ => ca_8
  | 9, _ => ca_9
  | 10, _ => ca_10
  | 11, _ => ca_11
  | 12, _ => ca_12
  | 13, _ => ca_13
  | 14, _ => ca_14
  | 15, _ => ca_15
  | 16, _ => ca_16
  | 17, _ => ca_17
  | 18, _ => ca_18
  | 19, _ => ca_19
  | 20, _ => ca_20
  | 21, _ => ca_21
  | 22, _ => ca_22
  | 23, _ => ca_23
  | 24, _ => ca_24
  | 25, _ => ca_25
  | 26, _ => ca_26
  | 27, _ => ca_27
  | 28, _ => ca_28
  | 29, _ => ca_29
  | 30, _ => ca_30
  | 31, _ => ca_31
  | 32, _ => ca_32
  | 33, _ => ca_33
  | 34, _ => ca_34
  | 35, _ => ca_35
  | 36, _ => ca_36
  | 37, _ => ca_37
  | 38, _ => ca_38
  | 39, _ => ca_39
  | 40, _ => ca_40
  | 41, _ => ca_41
  | 42, _ => ca_42
  | 43, _ => ca_43
  | 44, _ => ca_44
  | 45, _ => ca_45
  | 46, _ => ca_46
  | 47, _ => ca_47
  | 48, _ => ca_48
  | 49, _ => ca_49
  | 50, _ => ca_50
  | 51, _ => ca_51
  | 52, _ => ca_52
  | 53, _ => ca_53
  | 54, _ => ca_54
  | 55, _ => ca_55
  | 56, _ => ca_56
  | 57, _ => ca_57
  | 58, _ => ca_58
  | 59, _ => ca_59
  | 60, _ => ca_60
  | 61, _ => ca_61
  | 62, _ => ca_62
  | 63, _ => ca_63
  | 64, _ => ca_64
  | n + 65, h => absurd h (by omega)
theorem chkA_ok {n : Nat} (h : chkA n = true) : ∃ t, mf_law_in_all [.fz (.int n)] = .ok (.fz (.int t)) [.fz (.int n)] ∧ mf_count_images [.fz (.int n), .fz .non] = .ok (.fz (.int t)) [.fz (.int n), .fz .non] := by
  unfold chkA at h
  obtain ⟨t, h1, h2⟩ := eqO_ok h
  exact ⟨t, isI1_ok h1, isN2_ok h2⟩
theorem all_ok (n : Nat) (h : n < 65) : ∃ t, mf_law_in_all [.fz (.int n)] = .ok (.fz (.int t)) [.fz (.int n)] ∧ mf_count_images [.fz (.int n), .fz .non] = .ok (.fz (.int t)) [.fz (.int n), .fz .non] := chkA_ok (chkA_at n h)
end PK
end
section
set_option Elab.async false
set_option maxRecDepth 100000
set_option maxHeartbeats 4000000
open PySem L2 StX ML
namespace PK
theorem core_ok : Core := by
  intro sz mn h1 h2 h3 h4
  obtain ⟨n, rfl⟩ : ∃ n : Nat, sz = (n : Int) := ⟨sz.toNat, by omega⟩
  have hn : n ≤ 64 := by omega
  obtain ⟨t, ht1, ht2⟩ := all_ok n (by omega)
  have c0 := wt_ok n 0 hn (by omega)
  have c1 := ci_ok n 0 hn (by omega)
  rw [← W1_ci n 0 hn (by omega)] at c1
  by_cases hm : 0 ≤ mn
  · obtain ⟨m, rfl⟩ : ∃ m : Nat, mn = (m : Int) := ⟨mn.toNat, by omega⟩
    have d0 := wt_ok n m hn (by omega)
    have d1 := ci_ok n m hn (by omega)
    rw [← W1_ci n m hn (by omega)] at d1
    exact ⟨W1 n m, W1 n 0, t, fun _ => d0, fun h => absurd h (by omega), d1, c0, c1, ht1, ht2⟩
  · exact ⟨0, W1 n 0, t, fun h => absurd h hm, fun _ => rfl, ci_neg n mn (by omega) (by omega), c0, c1, ht1, ht2⟩
theorem law_ok (ns : List Int) (h : ns.length ≤ 63) : ∃ ts, mf_law [.fz (.wl (ns.map .int))] = .ok (.fz (.bl true)) ts := law_core core_ok ns h
end PK
end
section
set_option Elab.async false
set_option maxRecDepth 100000
set_option maxHeartbeats 4000000
/-! the end, printed by gen.py -/
namespace PK
open PySem L2 StX ML
theorem all_mk {l : PySem.W.OpenLaw} {w : World} {K : PySem.W.Frag} {h : Heap} {mg : Str → Option Value} {fa a_law_factorials a_law_powers a_choose a_block a_totals a_torn_counts a_count_images a_law_bag a_law_take a_law_with_torn a_law_is a_count_states a_law_in_all a_law : Addr} (X : K.In h) (G : h.Ns mainGlobals mg) (hfa : mg "law" = some (.ref fa))
    {od_law_factorials an_law_factorials : Option Addr} {sl_law_factorials : Array (Option Value)} {oc_law_factorials kV_law_factorials dc_law_factorials pm_law_factorials cd_law_factorials ct_law_factorials : Value}
    {od_law_powers an_law_powers : Option Addr} {sl_law_powers : Array (Option Value)} {oc_law_powers kV_law_powers dc_law_powers pm_law_powers cd_law_powers ct_law_powers : Value}
    {od_choose an_choose : Option Addr} {sl_choose : Array (Option Value)} {oc_choose kV_choose dc_choose pm_choose cd_choose ct_choose : Value}
    {od_block an_block : Option Addr} {sl_block : Array (Option Value)} {oc_block kV_block dc_block pm_block cd_block ct_block : Value}
    {od_totals an_totals : Option Addr} {sl_totals : Array (Option Value)} {oc_totals kV_totals dc_totals pm_totals cd_totals ct_totals : Value}
    {od_torn_counts an_torn_counts : Option Addr} {sl_torn_counts : Array (Option Value)} {oc_torn_counts kV_torn_counts dc_torn_counts pm_torn_counts cd_torn_counts ct_torn_counts : Value}
    {od_count_images an_count_images : Option Addr} {sl_count_images : Array (Option Value)} {oc_count_images dc_count_images pm_count_images cd_count_images ct_count_images : Value}
    {kD_count_images : Addr}
    {od_law_bag an_law_bag : Option Addr} {sl_law_bag : Array (Option Value)} {oc_law_bag kV_law_bag dc_law_bag pm_law_bag cd_law_bag ct_law_bag : Value}
    {od_law_take an_law_take : Option Addr} {sl_law_take : Array (Option Value)} {oc_law_take kV_law_take dc_law_take pm_law_take cd_law_take ct_law_take : Value}
    {od_law_with_torn an_law_with_torn : Option Addr} {sl_law_with_torn : Array (Option Value)} {oc_law_with_torn kV_law_with_torn dc_law_with_torn pm_law_with_torn cd_law_with_torn ct_law_with_torn : Value}
    {od_law_is an_law_is : Option Addr} {sl_law_is : Array (Option Value)} {oc_law_is kV_law_is dc_law_is pm_law_is cd_law_is ct_law_is : Value}
    {od_count_states an_count_states : Option Addr} {sl_count_states : Array (Option Value)} {oc_count_states kV_count_states dc_count_states pm_count_states cd_count_states ct_count_states : Value}
    {od_law_in_all an_law_in_all : Option Addr} {sl_law_in_all : Array (Option Value)} {oc_law_in_all kV_law_in_all dc_law_in_all pm_law_in_all cd_law_in_all ct_law_in_all : Value}
    {od_law an_law : Option Addr} {sl_law : Array (Option Value)} {oc_law kV_law dc_law pm_law cd_law ct_law : Value}
    {c_FORM_COUNTS : Addr} {t_FORM_COUNTS_0 t_FORM_COUNTS_1 t_FORM_COUNTS_2 t_FORM_COUNTS_3 t_FORM_COUNTS_4 : Tok} {dd_FORM_COUNTS : Option Addr} {nn_FORM_COUNTS : Nat} {sl_FORM_COUNTS : Array (Option Value)}
    {t_LARGEST : Tok}
    (n_law_factorials : PySem.W.nsIn K mainGlobals "_law_factorials" = some (some (.ref a_law_factorials))) (l_law_factorials : K.lookup a_law_factorials = some ⟨oc_law_factorials, od_law_factorials, .func (PySem.W.fnOf "_law_factorials" "_law_factorials" (defArgs s_law_factorials) (defBody s_law_factorials) (defScope s_law_factorials) .none kV_law_factorials dc_law_factorials pm_law_factorials an_law_factorials cd_law_factorials ct_law_factorials), sl_law_factorials⟩) (c_law_factorials : PySem.W.codeIn K cd_law_factorials "_law_factorials" = true) (k_law_factorials : PySem.W.keepIn K (.ref a_law_factorials) = true)
    (n_law_powers : PySem.W.nsIn K mainGlobals "_law_powers" = some (some (.ref a_law_powers))) (l_law_powers : K.lookup a_law_powers = some ⟨oc_law_powers, od_law_powers, .func (PySem.W.fnOf "_law_powers" "_law_powers" (defArgs s_law_powers) (defBody s_law_powers) (defScope s_law_powers) .none kV_law_powers dc_law_powers pm_law_powers an_law_powers cd_law_powers ct_law_powers), sl_law_powers⟩) (c_law_powers : PySem.W.codeIn K cd_law_powers "_law_powers" = true) (k_law_powers : PySem.W.keepIn K (.ref a_law_powers) = true)
    (n_choose : PySem.W.nsIn K mainGlobals "choose" = some (some (.ref a_choose))) (l_choose : K.lookup a_choose = some ⟨oc_choose, od_choose, .func (PySem.W.fnOf "choose" "choose" (defArgs s_choose) (defBody s_choose) (defScope s_choose) .none kV_choose dc_choose pm_choose an_choose cd_choose ct_choose), sl_choose⟩) (c_choose : PySem.W.codeIn K cd_choose "choose" = true) (k_choose : PySem.W.keepIn K (.ref a_choose) = true)
    (n_block : PySem.W.nsIn K mainGlobals "_block" = some (some (.ref a_block))) (l_block : K.lookup a_block = some ⟨oc_block, od_block, .func (PySem.W.fnOf "_block" "_block" (defArgs s_block) (defBody s_block) (defScope s_block) .none kV_block dc_block pm_block an_block cd_block ct_block), sl_block⟩) (c_block : PySem.W.codeIn K cd_block "_block" = true) (k_block : PySem.W.keepIn K (.ref a_block) = true)
    (n_totals : PySem.W.nsIn K mainGlobals "totals" = some (some (.ref a_totals))) (l_totals : K.lookup a_totals = some ⟨oc_totals, od_totals, .func (PySem.W.fnOf "totals" "totals" (defArgs s_totals) (defBody s_totals) (defScope s_totals) .none kV_totals dc_totals pm_totals an_totals cd_totals ct_totals), sl_totals⟩) (c_totals : PySem.W.codeIn K cd_totals "totals" = true) (k_totals : PySem.W.keepIn K (.ref a_totals) = true)
    (n_torn_counts : PySem.W.nsIn K mainGlobals "torn_counts" = some (some (.ref a_torn_counts))) (l_torn_counts : K.lookup a_torn_counts = some ⟨oc_torn_counts, od_torn_counts, .func (PySem.W.fnOf "torn_counts" "torn_counts" (defArgs s_torn_counts) (defBody s_torn_counts) (defScope s_torn_counts) .none kV_torn_counts dc_torn_counts pm_torn_counts an_torn_counts cd_torn_counts ct_torn_counts), sl_torn_counts⟩) (c_torn_counts : PySem.W.codeIn K cd_torn_counts "torn_counts" = true) (k_torn_counts : PySem.W.keepIn K (.ref a_torn_counts) = true)
    (n_count_images : PySem.W.nsIn K mainGlobals "count_images" = some (some (.ref a_count_images))) (l_count_images : K.lookup a_count_images = some ⟨oc_count_images, od_count_images, .func (PySem.W.fnOf "count_images" "count_images" (defArgs s_count_images) (defBody s_count_images) (defScope s_count_images) .none (.ref kD_count_images) dc_count_images pm_count_images an_count_images cd_count_images ct_count_images), sl_count_images⟩) (c_count_images : PySem.W.codeIn K cd_count_images "count_images" = true) (k_count_images : PySem.W.keepIn K (.ref a_count_images) = true)
    (w_count_images : PySem.W.nsIn K kD_count_images "torn" = some (some Value.none))
    (n_law_bag : PySem.W.nsIn K mainGlobals "_law_bag" = some (some (.ref a_law_bag))) (l_law_bag : K.lookup a_law_bag = some ⟨oc_law_bag, od_law_bag, .func (PySem.W.fnOf "_law_bag" "_law_bag" (defArgs s_law_bag) (defBody s_law_bag) (defScope s_law_bag) .none kV_law_bag dc_law_bag pm_law_bag an_law_bag cd_law_bag ct_law_bag), sl_law_bag⟩) (c_law_bag : PySem.W.codeIn K cd_law_bag "_law_bag" = true) (k_law_bag : PySem.W.keepIn K (.ref a_law_bag) = true)
    (n_law_take : PySem.W.nsIn K mainGlobals "_law_take" = some (some (.ref a_law_take))) (l_law_take : K.lookup a_law_take = some ⟨oc_law_take, od_law_take, .func (PySem.W.fnOf "_law_take" "_law_take" (defArgs s_law_take) (defBody s_law_take) (defScope s_law_take) .none kV_law_take dc_law_take pm_law_take an_law_take cd_law_take ct_law_take), sl_law_take⟩) (c_law_take : PySem.W.codeIn K cd_law_take "_law_take" = true) (k_law_take : PySem.W.keepIn K (.ref a_law_take) = true)
    (n_law_with_torn : PySem.W.nsIn K mainGlobals "_law_with_torn" = some (some (.ref a_law_with_torn))) (l_law_with_torn : K.lookup a_law_with_torn = some ⟨oc_law_with_torn, od_law_with_torn, .func (PySem.W.fnOf "_law_with_torn" "_law_with_torn" (defArgs s_law_with_torn) (defBody s_law_with_torn) (defScope s_law_with_torn) .none kV_law_with_torn dc_law_with_torn pm_law_with_torn an_law_with_torn cd_law_with_torn ct_law_with_torn), sl_law_with_torn⟩) (c_law_with_torn : PySem.W.codeIn K cd_law_with_torn "_law_with_torn" = true) (k_law_with_torn : PySem.W.keepIn K (.ref a_law_with_torn) = true)
    (n_law_is : PySem.W.nsIn K mainGlobals "_law_is" = some (some (.ref a_law_is))) (l_law_is : K.lookup a_law_is = some ⟨oc_law_is, od_law_is, .func (PySem.W.fnOf "_law_is" "_law_is" (defArgs s_law_is) (defBody s_law_is) (defScope s_law_is) .none kV_law_is dc_law_is pm_law_is an_law_is cd_law_is ct_law_is), sl_law_is⟩) (c_law_is : PySem.W.codeIn K cd_law_is "_law_is" = true) (k_law_is : PySem.W.keepIn K (.ref a_law_is) = true)
    (n_count_states : PySem.W.nsIn K mainGlobals "count_states" = some (some (.ref a_count_states))) (l_count_states : K.lookup a_count_states = some ⟨oc_count_states, od_count_states, .func (PySem.W.fnOf "count_states" "count_states" (defArgs s_count_states) (defBody s_count_states) (defScope s_count_states) .none kV_count_states dc_count_states pm_count_states an_count_states cd_count_states ct_count_states), sl_count_states⟩) (c_count_states : PySem.W.codeIn K cd_count_states "count_states" = true) (k_count_states : PySem.W.keepIn K (.ref a_count_states) = true)
    (n_law_in_all : PySem.W.nsIn K mainGlobals "_law_in_all" = some (some (.ref a_law_in_all))) (l_law_in_all : K.lookup a_law_in_all = some ⟨oc_law_in_all, od_law_in_all, .func (PySem.W.fnOf "_law_in_all" "_law_in_all" (defArgs s_law_in_all) (defBody s_law_in_all) (defScope s_law_in_all) .none kV_law_in_all dc_law_in_all pm_law_in_all an_law_in_all cd_law_in_all ct_law_in_all), sl_law_in_all⟩) (c_law_in_all : PySem.W.codeIn K cd_law_in_all "_law_in_all" = true) (k_law_in_all : PySem.W.keepIn K (.ref a_law_in_all) = true)
    (n_law : PySem.W.nsIn K mainGlobals "law" = some (some (.ref a_law))) (l_law : K.lookup a_law = some ⟨oc_law, od_law, .func (PySem.W.fnOf "law" "law" (defArgs s_law) (defBody s_law) (defScope s_law) .none kV_law dc_law pm_law an_law cd_law ct_law), sl_law⟩) (c_law : PySem.W.codeIn K cd_law "law" = true) (k_law : PySem.W.keepIn K (.ref a_law) = true)
    (z_bool : PySem.W.nsIn K mainGlobals "bool" = some none)
    (z_int : PySem.W.nsIn K mainGlobals "int" = some none)
    (z_isinstance : PySem.W.nsIn K mainGlobals "isinstance" = some none)
    (z_min : PySem.W.nsIn K mainGlobals "min" = some none)
    (z_range : PySem.W.nsIn K mainGlobals "range" = some none)
    (z_sum : PySem.W.nsIn K mainGlobals "sum" = some none)
    (z_FORM_COUNTS : PySem.W.nsIn K mainGlobals "FORM_COUNTS" = some (some (.ref c_FORM_COUNTS))) (l_FORM_COUNTS : K.lookup c_FORM_COUNTS = some ⟨.type "tuple", dd_FORM_COUNTS, .seq #[.int 0 t_FORM_COUNTS_0, .int 1 t_FORM_COUNTS_1, .int 3 t_FORM_COUNTS_2, .int 12 t_FORM_COUNTS_3, .int 42 t_FORM_COUNTS_4] nn_FORM_COUNTS, sl_FORM_COUNTS⟩)
    (z_LARGEST : PySem.W.nsIn K mainGlobals "LARGEST" = some (some (.int 4 t_LARGEST)))
    (z_comb : PySem.W.nsIn K mainGlobals "comb" = some (some (.builtin "math.comb"))) :
    ∃ fd : FuncData, (∀ (s : Shared) (v : Value), BindsTo s fd ⟨[v], []⟩ [("_law_script", v)]) ∧ ∀ base : Heap, K.In base → base.Ns mainGlobals mg → FnOk l.prog w K mg base CX0 6 fa fd ["_law_script"] (spM K (C0 [0]) mf_law) := by
  have e := hfa.symm.trans (PySem.W.mg_of X G n_law)
  cases e
  have F_law_factorials := fun_mk (st := s_law_factorials) l_law_factorials c_law_factorials k_law_factorials
  have b_law_factorials := F_law_factorials.binds (ps := P_law_factorials) fun _ _ _ _ _ _ us hl => match us, hl with | [_], _ => rfl
  have F_law_powers := fun_mk (st := s_law_powers) l_law_powers c_law_powers k_law_powers
  have b_law_powers := F_law_powers.binds (ps := P_law_powers) fun _ _ _ _ _ _ us hl => match us, hl with | [_, _], _ => rfl
  have F_choose := fun_mk (st := s_choose) l_choose c_choose k_choose
  have b_choose := F_choose.binds (ps := P_choose) fun _ _ _ _ _ _ us hl => match us, hl with | [_, _], _ => rfl
  have F_block := fun_mk (st := s_block) l_block c_block k_block
  have b_block := F_block.binds (ps := P_block) fun _ _ _ _ _ _ us hl => match us, hl with | [_, _, _], _ => rfl
  have F_totals := fun_mk (st := s_totals) l_totals c_totals k_totals
  have b_totals := F_totals.binds (ps := P_totals) fun _ _ _ _ _ _ us hl => match us, hl with | [_], _ => rfl
  have F_torn_counts := fun_mk (st := s_torn_counts) l_torn_counts c_torn_counts k_torn_counts
  have b_torn_counts := F_torn_counts.binds (ps := P_torn_counts) fun _ _ _ _ _ _ us hl => match us, hl with | [_, _], _ => rfl
  have F_count_images := fun_mk (st := s_count_images) l_count_images c_count_images k_count_images
  have kb_count_images : KBn K _ P_count_images 1 ["torn"] (fun us ws => us ++ ws) (fun vs zs => vs ++ zs) := kbn_mk (fd := PySem.W.fnOf "count_images" "count_images" (defArgs s_count_images) (defBody s_count_images) (defScope s_count_images) .none (.ref kD_count_images) dc_count_images pm_count_images an_count_images cd_count_images ct_count_images) fun us ws h1 h2 => match us, ws, h1, h2 with | [_], [_], _, _ => rfl
  have bd_count_images := bd_of (FunD.binds0 (K := K) (ps := P_count_images) (kws := [("torn", V.non)]) ⟨⟨_, _, _, _, _, _, _, _, _, _, rfl, l_count_images, c_count_images, .inl ⟨rfl, rfl⟩, .inr ⟨kD_count_images, rfl, fun q hq => by cases List.mem_singleton.mp hq; exact ⟨Value.none, w_count_images, rfl⟩⟩⟩, k_count_images⟩ 1 (by simp) rfl fun D doc pm an cdv ct us ks h1 h2 => match us, ks, h1, h2 with | [_], [_], _, _ => ⟨_, _, _, _, _, _, rfl, rfl, rfl⟩)
  have F_law_bag := fun_mk (st := s_law_bag) l_law_bag c_law_bag k_law_bag
  have b_law_bag := F_law_bag.binds (ps := P_law_bag) fun _ _ _ _ _ _ us hl => match us, hl with | [_], _ => rfl
  have F_law_take := fun_mk (st := s_law_take) l_law_take c_law_take k_law_take
  have b_law_take := F_law_take.binds (ps := P_law_take) fun _ _ _ _ _ _ us hl => match us, hl with | [_, _], _ => rfl
  have F_law_with_torn := fun_mk (st := s_law_with_torn) l_law_with_torn c_law_with_torn k_law_with_torn
  have b_law_with_torn := F_law_with_torn.binds (ps := P_law_with_torn) fun _ _ _ _ _ _ us hl => match us, hl with | [_, _], _ => rfl
  have F_law_is := fun_mk (st := s_law_is) l_law_is c_law_is k_law_is
  have b_law_is := F_law_is.binds (ps := P_law_is) fun _ _ _ _ _ _ us hl => match us, hl with | [_, _], _ => rfl
  have F_count_states := fun_mk (st := s_count_states) l_count_states c_count_states k_count_states
  have b_count_states := F_count_states.binds (ps := P_count_states) fun _ _ _ _ _ _ us hl => match us, hl with | [_], _ => rfl
  have F_law_in_all := fun_mk (st := s_law_in_all) l_law_in_all c_law_in_all k_law_in_all
  have b_law_in_all := F_law_in_all.binds (ps := P_law_in_all) fun _ _ _ _ _ _ us hl => match us, hl with | [_], _ => rfl
  have T : Txt K mg a_law_factorials a_law_powers a_choose a_block a_totals a_torn_counts a_count_images a_law_bag a_law_take a_law_with_torn a_law_is a_count_states a_law_in_all c_FORM_COUNTS _ _ _ _ _ _ _ _ _ _ _ _ _ := ⟨PySem.W.mg_of X G n_law_factorials,
    k_law_factorials,
    b_law_factorials,
    PySem.W.mg_of X G n_law_powers,
    k_law_powers,
    b_law_powers,
    PySem.W.mg_of X G n_choose,
    k_choose,
    b_choose,
    PySem.W.mg_of X G n_block,
    k_block,
    b_block,
    PySem.W.mg_of X G n_totals,
    k_totals,
    b_totals,
    PySem.W.mg_of X G n_torn_counts,
    k_torn_counts,
    b_torn_counts,
    PySem.W.mg_of X G n_count_images,
    k_count_images,
    kb_count_images,
    bd_count_images,
    PySem.W.mg_of X G n_law_bag,
    k_law_bag,
    b_law_bag,
    PySem.W.mg_of X G n_law_take,
    k_law_take,
    b_law_take,
    PySem.W.mg_of X G n_law_with_torn,
    k_law_with_torn,
    b_law_with_torn,
    PySem.W.mg_of X G n_law_is,
    k_law_is,
    b_law_is,
    PySem.W.mg_of X G n_count_states,
    k_count_states,
    b_count_states,
    PySem.W.mg_of X G n_law_in_all,
    k_law_in_all,
    b_law_in_all,
    PySem.W.mg_none_of X G z_bool,
    PySem.W.mg_none_of X G z_int,
    PySem.W.mg_none_of X G z_isinstance,
    PySem.W.mg_none_of X G z_min,
    PySem.W.mg_none_of X G z_range,
    PySem.W.mg_none_of X G z_sum,
    PySem.W.mg_of X G z_FORM_COUNTS,
    rfl,
    fun F => tup_const (ds := [.int 0, .int 1, .int 3, .int 12, .int 42]) (vs := [.int 0, .int 1, .int 3, .int 12, .int 42]) l_FORM_COUNTS (by simp [RepDs, RepD]) (.cons ⟨_, rfl⟩ (.cons ⟨_, rfl⟩ (.cons ⟨_, rfl⟩ (.cons ⟨_, rfl⟩ (.cons ⟨_, rfl⟩ (.nil)))))) (Nat.le_trans (show 5 ≤ LIM by decide) (lim_le (Nat.le_refl _))),
    ⟨_, PySem.W.mg_of X G z_LARGEST⟩,
    PySem.W.mg_of X G z_comb⟩
  refine ⟨PySem.W.fnOf "law" "law" (defArgs s_law) (defBody s_law) (defScope s_law) .none kV_law dc_law pm_law an_law cd_law ct_law, fun s v => .of_eq rfl, fun base _ _ => ?_⟩
  have G_law_bag := ok_law_bag (P := l.prog) (w := w) (base := base) F_law_bag T
  have G_law_take := ok_law_take (P := l.prog) (w := w) (base := base) F_law_take T
  have G_law_factorials := ok_law_factorials (P := l.prog) (w := w) (base := base) F_law_factorials T
  have G_law_powers := ok_law_powers (P := l.prog) (w := w) (base := base) F_law_powers T
  have G_law_with_torn := ok_law_with_torn (P := l.prog) (w := w) (base := base) F_law_with_torn T G_law_factorials G_law_powers
  have G_law_in_all := ok_law_in_all (P := l.prog) (w := w) (base := base) F_law_in_all T
  have G_law_is := ok_law_is (P := l.prog) (w := w) (base := base) F_law_is T
  have G_choose := ok_choose (P := l.prog) (w := w) (base := base) F_choose T
  have G_torn_counts := ok_torn_counts (P := l.prog) (w := w) (base := base) F_torn_counts T G_choose
  have G_block := ok_block (P := l.prog) (w := w) (base := base) F_block T G_choose
  have G_totals := ok_totals (P := l.prog) (w := w) (base := base) F_totals T G_block
  have G_count_images := ok_count_images (P := l.prog) (w := w) (base := base) F_count_images T G_totals G_torn_counts
  have G_count_states := ok_count_states (P := l.prog) (w := w) (base := base) F_count_states T G_count_images
  exact ok_law (fun_mk (st := s_law) l_law c_law k_law) T G_law_bag G_law_take G_law_with_torn G_law_is G_count_images G_count_states G_law_in_all
theorem walk {l : PySem.W.OpenLaw} {q : Program} {loose : List Str} {XP : (Str → Option Value) → Heap → Prop} {YP : World → Heap → Prop} {d : DefRec} {K : Params → PySem.W.Frag} (hn : l.most = some 63) (hdf : d.params.defaults = [])
    (hY : ∀ (w : World) (h : Heap), YP w h → (K w.params).In h)
    (F : ∀ (w : World) (mg : Str → Option Value) (fa : Addr) (h : Heap), (K w.params).In h → h.Ns mainGlobals mg → mg d.name = some (.ref fa) →
      ∃ fd : FuncData, (∀ (s : Shared) (u : Value), BindsTo s fd ⟨[u], []⟩ [("_law_script", u)]) ∧ ∀ base : Heap, (K w.params).In base → base.Ns mainGlobals mg → FnOk l.prog w (K w.params) mg base CX0 6 fa fd ["_law_script"] (spM (K w.params) (C0 [0]) mf_law)) :
    PySem.W.WalkO q loose XP YP l.row.toRowW d [] (fun f vs => PySem.call f vs) :=
  L2.walk_of (n := 63) (k := 6) (x := "_law_script") (CX := fun _ => CX0) (sp := fun w => spM (K w.params) (C0 [0]) mf_law) hn (by decide) hdf ⟨rfl, by decide, by decide⟩ hY F (fun w _ a ns hl _ hS => law_end hS (law_ok ns hl)) fun _ _ _ _ _ z => z
end PK

open PySem PySem.W PyProof.Rows in
set_option maxRecDepth 100000 in
set_option maxHeartbeats 0 in
theorem PySem.Challenge.cw_peermend_k03_counts_holds : PySem.Challenge.rw_peermend_k03_counts.Holds := by
  w_on; o_law; k_head; (case hw => w_witness2)
  k_fill
  refine PK.walk (l := PySem.Challenge.rw_peermend_k03_counts) rfl rfl (fun w h Y => PySem.W.kIn_of Y) ?F
  case F =>
    intro w mg fa h KX G hmg
    refine' PK.all_mk KX G hmg ?n_law_factorials ?l_law_factorials ?c_law_factorials ?k_law_factorials ?n_law_powers ?l_law_powers ?c_law_powers ?k_law_powers ?n_choose ?l_choose ?c_choose ?k_choose ?n_block ?l_block ?c_block ?k_block ?n_totals ?l_totals ?c_totals ?k_totals ?n_torn_counts ?l_torn_counts ?c_torn_counts ?k_torn_counts ?n_count_images ?l_count_images ?c_count_images ?k_count_images ?w_count_images ?n_law_bag ?l_law_bag ?c_law_bag ?k_law_bag ?n_law_take ?l_law_take ?c_law_take ?k_law_take ?n_law_with_torn ?l_law_with_torn ?c_law_with_torn ?k_law_with_torn ?n_law_is ?l_law_is ?c_law_is ?k_law_is ?n_count_states ?l_count_states ?c_count_states ?k_count_states ?n_law_in_all ?l_law_in_all ?c_law_in_all ?k_law_in_all ?n_law ?l_law ?c_law ?k_law ?z_bool ?z_int ?z_isinstance ?z_min ?z_range ?z_sum ?z_FORM_COUNTS ?l_FORM_COUNTS ?z_LARGEST ?z_comb
    (case n_law_factorials => k_is)
    (case l_law_factorials => k_is)
    (case c_law_factorials => k_is)
    (case k_law_factorials => k_is)
    (case n_law_powers => k_is)
    (case l_law_powers => k_is)
    (case c_law_powers => k_is)
    (case k_law_powers => k_is)
    (case n_choose => k_is)
    (case l_choose => k_is)
    (case c_choose => k_is)
    (case k_choose => k_is)
    (case n_block => k_is)
    (case l_block => k_is)
    (case c_block => k_is)
    (case k_block => k_is)
    (case n_totals => k_is)
    (case l_totals => k_is)
    (case c_totals => k_is)
    (case k_totals => k_is)
    (case n_torn_counts => k_is)
    (case l_torn_counts => k_is)
    (case c_torn_counts => k_is)
    (case k_torn_counts => k_is)
    (case n_count_images => k_is)
    (case l_count_images => k_is)
    (case c_count_images => k_is)
    (case k_count_images => k_is)
    (case w_count_images => k_is)
    (case n_law_bag => k_is)
    (case l_law_bag => k_is)
    (case c_law_bag => k_is)
    (case k_law_bag => k_is)
    (case n_law_take => k_is)
    (case l_law_take => k_is)
    (case c_law_take => k_is)
    (case k_law_take => k_is)
    (case n_law_with_torn => k_is)
    (case l_law_with_torn => k_is)
    (case c_law_with_torn => k_is)
    (case k_law_with_torn => k_is)
    (case n_law_is => k_is)
    (case l_law_is => k_is)
    (case c_law_is => k_is)
    (case k_law_is => k_is)
    (case n_count_states => k_is)
    (case l_count_states => k_is)
    (case c_count_states => k_is)
    (case k_count_states => k_is)
    (case n_law_in_all => k_is)
    (case l_law_in_all => k_is)
    (case c_law_in_all => k_is)
    (case k_law_in_all => k_is)
    (case n_law => k_is)
    (case l_law => k_is)
    (case c_law => k_is)
    (case k_law => k_is)
    (case z_bool => k_is)
    (case z_int => k_is)
    (case z_isinstance => k_is)
    (case z_min => k_is)
    (case z_range => k_is)
    (case z_sum => k_is)
    (case z_FORM_COUNTS => k_is)
    (case l_FORM_COUNTS => k_is)
    (case z_LARGEST => k_is)
    (case z_comb => k_is)
#print axioms PySem.Challenge.cw_peermend_k03_counts_holds
end
