import PyProof.Rows.All
import Wide.All
import OpenK.AllK
import Wide.FinOn
import HandS.ForMost
import HandS.ForExc
import HandS.TupAny
import HandS.Deep
import HandS.IsInst
import HandS.Wide
import HandS.Star
import HandS.Property
import HandS.Defaults
import HandS.MakeKw
import HandS.MakeKwOnly
import HandS.ExcInit
import HandS.ClsMeth
import HandS.Exc
import HandS.ExcField
import HandS.ExcIs
import HandS.TryOnly
import HandS.SlotsOwn
import HandS.Conv
import KE.KStateDown
import HandS.Ends
import HandS.More
import HandS.Words
import HandS.WordsExc
import HandS.Head0
import HandS.Head1
import HandS.Head2
import HandS.HeadEnd
import HandS.HeadHook1
import HandS.HeadHook2
import PySem.Challenge.RW_stepstell_k64_clocks
set_option Elab.async false
set_option linter.all false
set_option maxRecDepth 100000
namespace Mi
open PySem L2

/-- plain data -/
inductive D where
  | non | bl (b : Bool) | int (i : Int) | str (x : Str)
  | tup (xs : List D) | lst (xs : List D)
  | obj (c : Nat) (xs : List D)
  | dct (ks : List Key) (xs : List D)
  /-- the law's script, read alone -/
  | scr (ns : List Int)

/-- a class of the program: where it stands, its fields in the order in which they are stored, which of them are its own lists -/
structure CI where
  C : Addr
  ns : List Str
  ow : List Bool
abbrev CD := Nat → Option CI

section
variable (K : PySem.W.Frag) (cd : CD) (F : Hp)
mutual
/-- the value stands for the data, in the part F that no one changes -/
def Rep : D → V → Prop
  | .non, v => v = .non
  | .bl b, v => v = .bl b
  | .int i, v => v = .int i
  | .str x, v => v = .str x
  | .tup ds, v => ∃ a vs, v = .ref a ∧ SqT K F a vs ∧ RepL ds vs
  | .lst ds, v => ∃ a vs, v = .ref a ∧ F a = some (.lst vs) ∧ RepL ds vs
  | .scr ns, v => ∃ a, v = .ref a ∧ SqL K F a (ns.map V.int)
  | .obj c ds, v => ∃ a dx I vs, v = .ref a ∧ cd c = some I ∧ F a = some (.ins I.C dx (I.ns.zip vs)) ∧ RepL ds vs
  | .dct ks ds, v => ∃ a vs, v = .ref a ∧ F a = some (.dK (ks.zip vs)) ∧ vs.length = ks.length ∧ RepL ds vs
def RepL : List D → List V → Prop
  | [], vs => vs = []
  | d :: ds, vs => ∃ v ws, vs = v :: ws ∧ Rep d v ∧ RepL ds ws
end
end

section
variable {K : PySem.W.Frag} {cd : CD} {F F' G : Hp}
theorem rd_mono (e : Same F F') {a : Addr} {u : HO} (h : Rd F a u) : Rd F' a u := by
  rcases h with h | ⟨o, h⟩
  · exact .inl (e _ _ h)
  · exact .inr ⟨o, e _ _ h⟩
theorem sqt_mono (e : Same F F') {a : Addr} {xs : List V} (h : SqT K F a xs) : SqT K F' a xs := by
  rcases h with h | h
  · exact .inl (rd_mono e h)
  · exact .inr h
theorem sql_mono (e : Same F F') {a : Addr} {xs : List V} (h : SqL K F a xs) : SqL K F' a xs := by
  rcases h with h | h
  · exact .inl (rd_mono e h)
  · exact .inr h
mutual
theorem Rep.mono (e : Same F F') : ∀ (d : D) (v : V), Rep K cd F d v → Rep K cd F' d v
  | .non, _, h => by simpa only [Rep] using h
  | .bl _, _, h => by simpa only [Rep] using h
  | .int _, _, h => by simpa only [Rep] using h
  | .str _, _, h => by simpa only [Rep] using h
  | .tup ds, v, h => by
    simp only [Rep] at h ⊢
    obtain ⟨a, vs, hv, hs, hl⟩ := h
    exact ⟨a, vs, hv, sqt_mono e hs, RepL.mono e ds vs hl⟩
  | .lst ds, v, h => by
    simp only [Rep] at h ⊢
    obtain ⟨a, vs, hv, hs, hl⟩ := h
    exact ⟨a, vs, hv, e _ _ hs, RepL.mono e ds vs hl⟩
  | .scr ns, v, h => by
    simp only [Rep] at h ⊢
    obtain ⟨a, hv, hs⟩ := h
    exact ⟨a, hv, sql_mono e hs⟩
  | .obj c ds, v, h => by
    simp only [Rep] at h ⊢
    obtain ⟨a, dx, I, vs, hv, hc, hs, hl⟩ := h
    exact ⟨a, dx, I, vs, hv, hc, e _ _ hs, RepL.mono e ds vs hl⟩
  | .dct ks ds, v, h => by
    simp only [Rep] at h ⊢
    obtain ⟨a, vs, hv, hs, hn, hl⟩ := h
    exact ⟨a, vs, hv, e _ _ hs, hn, RepL.mono e ds vs hl⟩
theorem RepL.mono (e : Same F F') : ∀ (ds : List D) (vs : List V), RepL K cd F ds vs → RepL K cd F' ds vs
  | [], _, h => by simpa only [RepL] using h
  | d :: ds, vs, h => by
    simp only [RepL] at h ⊢
    obtain ⟨v, ws, hv, h1, h2⟩ := h
    exact ⟨v, ws, hv, Rep.mono e d v h1, RepL.mono e ds ws h2⟩
end
theorem repL_nil : RepL K cd F [] [] := by simp only [RepL]
theorem repL_cons {d : D} {ds : List D} {v : V} {vs : List V} (h : Rep K cd F d v) (t : RepL K cd F ds vs) : RepL K cd F (d :: ds) (v :: vs) := by
  simp only [RepL]; exact ⟨v, vs, rfl, h, t⟩
theorem repL_length : ∀ {ds : List D} {vs : List V}, RepL K cd F ds vs → vs.length = ds.length
  | [], vs, h => by simp only [RepL] at h; subst h; rfl
  | d :: ds, vs, h => by
    simp only [RepL] at h
    obtain ⟨v, ws, rfl, _, h2⟩ := h
    simp [repL_length h2]
theorem repL_append : ∀ {ds es : List D} {vs ws : List V}, RepL K cd F ds vs → RepL K cd F es ws → RepL K cd F (ds ++ es) (vs ++ ws)
  | [], es, vs, ws, h, g => by simp only [RepL] at h; subst h; exact g
  | d :: ds, es, vs, ws, h, g => by
    simp only [RepL] at h
    obtain ⟨v, vs', rfl, h1, h2⟩ := h
    exact repL_cons h1 (repL_append h2 g)
theorem repL_get : ∀ {ds : List D} {vs : List V} {i : Nat} {d : D}, RepL K cd F ds vs → ds[i]? = some d → ∃ v, vs[i]? = some v ∧ Rep K cd F d v
  | [], vs, i, d, h, e => by simp at e
  | d0 :: ds, vs, 0, d, h, e => by
    simp only [RepL] at h
    obtain ⟨v, ws, rfl, h1, h2⟩ := h
    simp at e; subst e
    exact ⟨v, rfl, h1⟩
  | d0 :: ds, vs, i + 1, d, h, e => by
    simp only [RepL] at h
    obtain ⟨v, ws, rfl, h1, h2⟩ := h
    obtain ⟨u, hu, r⟩ := repL_get (i := i) (d := d) h2 (by simpa using e)
    exact ⟨u, by simpa using hu, r⟩
theorem repL_take : ∀ {ds : List D} {vs : List V} (n : Nat), RepL K cd F ds vs → RepL K cd F (ds.take n) (vs.take n)
  | _, _, 0, _ => by simp only [List.take_zero]; exact repL_nil
  | [], vs, n + 1, h => by simp only [RepL] at h; subst h; simp only [List.take_nil]; exact repL_nil
  | d :: ds, vs, n + 1, h => by
    simp only [RepL] at h
    obtain ⟨v, ws, rfl, h1, h2⟩ := h
    exact repL_cons h1 (repL_take n h2)
theorem repL_drop : ∀ {ds : List D} {vs : List V} (n : Nat), RepL K cd F ds vs → RepL K cd F (ds.drop n) (vs.drop n)
  | _, _, 0, h => h
  | [], vs, n + 1, h => by simp only [RepL] at h; subst h; simp only [List.drop_nil]; exact repL_nil
  | d :: ds, vs, n + 1, h => by
    simp only [RepL] at h
    obtain ⟨v, ws, rfl, h1, h2⟩ := h
    exact repL_drop n h2
theorem repL_set : ∀ {ds : List D} {vs : List V} {d : D} {v : V} (i : Nat), RepL K cd F ds vs → Rep K cd F d v → RepL K cd F (ds.set i d) (vs.set i v)
  | [], vs, _, _, i, h, _ => by simp only [RepL] at h; subst h; simp only [List.set_nil]; exact repL_nil
  | d0 :: ds, vs, d, v, 0, h, r => by
    simp only [RepL] at h
    obtain ⟨u, ws, rfl, h1, h2⟩ := h
    exact repL_cons r h2
  | d0 :: ds, vs, d, v, i + 1, h, r => by
    simp only [RepL] at h
    obtain ⟨u, ws, rfl, h1, h2⟩ := h
    exact repL_cons h1 (repL_set i h2 r)
end

section
variable (K : PySem.W.Frag) (cd : CD) (F H : Hp)
/-- the fields of an object that one owns: those flagged are lists that one owns, too -/
def OFld : List Bool → List D → List V → List Addr → Prop
  | _, [], vs, fp => vs = [] ∧ fp = []
  | true :: fl, d :: ds, vs, fp => ∃ b ws es us fp', vs = .ref b :: ws ∧ fp = b :: fp' ∧ d = .lst es ∧ H b = some (.lst us) ∧ RepL K cd F es us ∧ OFld fl ds ws fp'
  | false :: fl, d :: ds, vs, fp => ∃ v ws, vs = v :: ws ∧ Rep K cd F d v ∧ OFld fl ds ws fp
  | [], d :: ds, vs, fp => ∃ v ws, vs = v :: ws ∧ Rep K cd F d v ∧ OFld [] ds ws fp
/-- at a there stands, in H, what stands for the data; fp: every address that it takes -/
def ORep : D → Addr → List Addr → Prop
  | .lst ds, a, fp => fp = [a] ∧ ∃ vs, H a = some (.lst vs) ∧ RepL K cd F ds vs
  | .dct ks ds, a, fp => fp = [a] ∧ ∃ vs, H a = some (.dK (ks.zip vs)) ∧ vs.length = ks.length ∧ RepL K cd F ds vs
  | .obj c ds, a, fp => ∃ I dx vs fp', fp = a :: fp' ∧ cd c = some I ∧ H a = some (.ins I.C dx (I.ns.zip vs)) ∧ OFld K cd F H I.ow ds vs fp' ∧ fp.Nodup
  | _, _, _ => False
end
section
variable {K : PySem.W.Frag} {cd : CD} {F F' H H' : Hp}
theorem OFld.mono (e : Same F F') : ∀ {fl : List Bool} {ds : List D} {vs : List V} {fp : List Addr}, (∀ b ∈ fp, H' b = H b) → OFld K cd F H fl ds vs fp → OFld K cd F' H' fl ds vs fp
  | _, [], _, _, _, h => by simpa only [OFld] using h
  | true :: fl, d :: ds, vs, fp, k, h => by
    simp only [OFld] at h ⊢
    obtain ⟨b, ws, es, us, fp', h1, h2, h3, h4, h5, h6⟩ := h
    subst h2
    exact ⟨b, ws, es, us, fp', h1, rfl, h3, by rw [k b (by simp)]; exact h4, RepL.mono e _ _ h5, h6.mono e fun c hc => k c (by simp [hc])⟩
  | false :: fl, d :: ds, vs, fp, k, h => by
    simp only [OFld] at h ⊢
    obtain ⟨v, ws, h1, h2, h3⟩ := h
    exact ⟨v, ws, h1, Rep.mono e _ _ h2, h3.mono e k⟩
  | [], d :: ds, vs, fp, k, h => by
    simp only [OFld] at h ⊢
    obtain ⟨v, ws, h1, h2, h3⟩ := h
    exact ⟨v, ws, h1, Rep.mono e _ _ h2, h3.mono e k⟩
theorem ORep.mono (e : Same F F') : ∀ {d : D} {a : Addr} {fp : List Addr}, (∀ b ∈ fp, H' b = H b) → ORep K cd F H d a fp → ORep K cd F' H' d a fp
  | .lst ds, a, fp, k, h => by
    simp only [ORep] at h ⊢
    obtain ⟨rfl, vs, h1, h2⟩ := h
    exact ⟨rfl, vs, by rw [k a (by simp)]; exact h1, RepL.mono e _ _ h2⟩
  | .dct ks ds, a, fp, k, h => by
    simp only [ORep] at h ⊢
    obtain ⟨rfl, vs, h1, h2, h3⟩ := h
    exact ⟨rfl, vs, by rw [k a (by simp)]; exact h1, h2, RepL.mono e _ _ h3⟩
  | .obj c ds, a, fp, k, h => by
    simp only [ORep] at h ⊢
    obtain ⟨I, dx, vs, fp', rfl, h1, h2, h3, h4⟩ := h
    exact ⟨I, dx, vs, fp', rfl, h1, by rw [k a (by simp)]; exact h2, h3.mono e fun b hb => k b (by simp [hb]), h4⟩
  | .non, _, _, _, h => by simp only [ORep] at h
  | .bl _, _, _, _, h => by simp only [ORep] at h
  | .int _, _, _, _, h => by simp only [ORep] at h
  | .str _, _, _, _, h => by simp only [ORep] at h
  | .tup _, _, _, _, h => by simp only [ORep] at h
  | .scr _, _, _, _, h => by simp only [ORep] at h
theorem OFld.some : ∀ {fl : List Bool} {ds : List D} {vs : List V} {fp : List Addr}, OFld K cd F H fl ds vs fp → ∀ b ∈ fp, H b ≠ none
  | _, [], _, _, h => by
    simp only [OFld] at h
    obtain ⟨_, rfl⟩ := h
    intro b hb; simp at hb
  | true :: fl, d :: ds, vs, fp, h => by
    simp only [OFld] at h
    obtain ⟨b, ws, es, us, fp', h1, rfl, h3, h4, h5, h6⟩ := h
    intro c hc
    rcases List.mem_cons.mp hc with e | hc
    · subst e; rw [h4]; simp
    · exact h6.some c hc
  | false :: fl, d :: ds, vs, fp, h => by
    simp only [OFld] at h
    obtain ⟨v, ws, h1, h2, h3⟩ := h
    exact h3.some
  | [], d :: ds, vs, fp, h => by
    simp only [OFld] at h
    obtain ⟨v, ws, h1, h2, h3⟩ := h
    exact h3.some
theorem ORep.some : ∀ {d : D} {a : Addr} {fp : List Addr}, ORep K cd F H d a fp → ∀ b ∈ fp, H b ≠ none
  | .lst ds, a, fp, h => by
    simp only [ORep] at h
    obtain ⟨rfl, vs, h1, h2⟩ := h
    intro b hb; simp at hb; subst hb; rw [h1]; simp
  | .dct ks ds, a, fp, h => by
    simp only [ORep] at h
    obtain ⟨rfl, vs, h1, h2, h3⟩ := h
    intro b hb; simp at hb; subst hb; rw [h1]; simp
  | .obj c ds, a, fp, h => by
    simp only [ORep] at h
    obtain ⟨I, dx, vs, fp', rfl, h1, h2, h3, h4⟩ := h
    intro b hb
    rcases List.mem_cons.mp hb with e | hb
    · subst e; rw [h2]; simp
    · exact h3.some b hb
  | .non, _, _, h => by simp only [ORep] at h
  | .bl _, _, _, h => by simp only [ORep] at h
  | .int _, _, _, h => by simp only [ORep] at h
  | .str _, _, _, h => by simp only [ORep] at h
  | .tup _, _, _, h => by simp only [ORep] at h
  | .scr _, _, _, h => by simp only [ORep] at h
/-- F with what is owned at fp laid to it -/
def lay (F H : Hp) (fp : List Addr) : Hp := fun b => if b ∈ fp then H b else F b
theorem lay_same (h : ∀ b ∈ fp, F b = none) : Same F (lay F H fp) := fun b o e => by
  unfold lay
  by_cases hb : b ∈ fp
  · rw [h b hb] at e; cases e
  · rw [if_neg hb]; exact e
theorem lay_sub (h : Same F H) : Same (lay F H fp) H := fun b o e => by
  unfold lay at e
  by_cases hb : b ∈ fp
  · rw [if_pos hb] at e; exact e
  · rw [if_neg hb] at e; exact h b o e
theorem lay_at {b : Addr} (hb : b ∈ fp) : lay F H fp b = H b := by unfold lay; rw [if_pos hb]
theorem lay_none {b : Addr} (hb : b ∉ fp) : lay F H fp b = F b := by unfold lay; rw [if_neg hb]
theorem OFld.frz {G : Hp} (e : Same F G) : ∀ {fl : List Bool} {ds : List D} {vs : List V} {fp : List Addr}, (∀ b ∈ fp, G b = H b) → OFld K cd F H fl ds vs fp → RepL K cd G ds vs
  | _, [], _, _, _, h => by simp only [OFld] at h; rw [h.1]; exact repL_nil
  | true :: fl, d :: ds, vs, fp, k, h => by
    simp only [OFld] at h
    obtain ⟨b, ws, es, us, fp', rfl, rfl, rfl, h4, h5, h6⟩ := h
    refine repL_cons ?_ (h6.frz e fun c hc => k c (by simp [hc]))
    simp only [Rep]
    exact ⟨b, us, rfl, by rw [k b (by simp)]; exact h4, RepL.mono e _ _ h5⟩
  | false :: fl, d :: ds, vs, fp, k, h => by
    simp only [OFld] at h
    obtain ⟨v, ws, rfl, h2, h3⟩ := h
    exact repL_cons (Rep.mono e _ _ h2) (h3.frz e k)
  | [], d :: ds, vs, fp, k, h => by
    simp only [OFld] at h
    obtain ⟨v, ws, rfl, h2, h3⟩ := h
    exact repL_cons (Rep.mono e _ _ h2) (h3.frz e k)
theorem ORep.frz {G : Hp} (e : Same F G) : ∀ {d : D} {a : Addr} {fp : List Addr}, (∀ b ∈ fp, G b = H b) → ORep K cd F H d a fp → Rep K cd G d (.ref a)
  | .lst ds, a, fp, k, h => by
    simp only [ORep] at h
    obtain ⟨rfl, vs, h1, h2⟩ := h
    simp only [Rep]
    exact ⟨a, vs, rfl, by rw [k a (by simp)]; exact h1, RepL.mono e _ _ h2⟩
  | .dct ks ds, a, fp, k, h => by
    simp only [ORep] at h
    obtain ⟨rfl, vs, h1, h2, h3⟩ := h
    simp only [Rep]
    exact ⟨a, vs, rfl, by rw [k a (by simp)]; exact h1, h2, RepL.mono e _ _ h3⟩
  | .obj c ds, a, fp, k, h => by
    simp only [ORep] at h
    obtain ⟨I, dx, vs, fp', rfl, h1, h2, h3, h4⟩ := h
    simp only [Rep]
    exact ⟨a, dx, I, vs, rfl, h1, by rw [k a (by simp)]; exact h2, h3.frz e fun b hb => k b (by simp [hb])⟩
  | .non, _, _, _, h => by simp only [ORep] at h
  | .bl _, _, _, _, h => by simp only [ORep] at h
  | .int _, _, _, _, h => by simp only [ORep] at h
  | .str _, _, _, _, h => by simp only [ORep] at h
  | .tup _, _, _, _, h => by simp only [ORep] at h
  | .scr _, _, _, _, h => by simp only [ORep] at h
end

inductive Md where
  | p | o
  deriving DecidableEq
abbrev Env := List (Option D)

/-- what stands fast through a def's body -/
structure Bs where
  K : PySem.W.Frag
  cd : CD
  md : Nat → Md
  H0 : Hp
  F0 : Hp
  own : Nat → List Addr
  mu : Nat → Option Addr
  np : Nat
  /-- slots that hold what is no data: a caught exception -/
  xs : Nat → Option Addr

structure Rel (B : Bs) (φ : Nat → List Addr) (ρ : Env) (σ : L2.St) (H F : Hp) : Prop where
  sub : Same F H
  len : σ.length = ρ.length
  pl : ∀ i d, ρ[i]? = some (some d) → B.md i = .p → ∃ v, σ[i]? = some (some v) ∧ Rep B.K B.cd F d v
  ow : ∀ i d, ρ[i]? = some (some d) → B.md i ≠ .p → ∃ a, σ[i]? = some (some (.ref a)) ∧ ORep B.K B.cd F H d a (φ i)
  und : ∀ i, (∀ d, ρ[i]? ≠ some (some d)) ∨ B.md i = .p → φ i = []
  fr : ∀ i, ∀ b ∈ φ i, F b = none ∧ ((i < B.np ∧ b ∈ B.own i) ∨ B.H0 b = none)
  dj : ∀ i j, i ≠ j → ∀ b ∈ φ i, b ∉ φ j
  keep : ∀ c u, B.H0 c = some u → (∀ i, c ∉ B.own i) → H c = some u
  dom : ∀ c, B.H0 c ≠ none → H c ≠ none
  froz : Same B.F0 F
  fres : ∀ c, F c ≠ none → B.F0 c ≠ none ∨ B.H0 c = none
  par : ∀ i a, B.mu i = some a → i < B.np ∧ B.md i = .o ∧ σ[i]? = some (some (.ref a)) ∧ ∃ d, ρ[i]? = some (some d)
  xsl : ∀ i a, B.xs i = some a → B.md i = .p ∧ (ρ[i]? = some none → σ[i]? = some (some (.ref a)))

section
variable {B : Bs} {φ : Nat → List Addr} {ρ : Env} {σ : L2.St} {H H' F F' : Hp}
theorem Rel.here (R : Rel B φ ρ σ H F) {i : Nat} : ∀ b ∈ φ i, H b ≠ none := fun b hb => by
  by_cases hp : B.md i = .p
  · rw [R.und i (.inr hp)] at hb; simp at hb
  · by_cases hd : ∀ d, ρ[i]? ≠ some (some d)
    · rw [R.und i (.inl hd)] at hb; simp at hb
    · obtain ⟨d, hd⟩ := Classical.not_forall.mp hd
      have hd' := Classical.not_not.mp hd
      obtain ⟨a, _, h2⟩ := R.ow i d hd' hp
      exact h2.some b hb
/-- the heap grows, what is owned stays -/
theorem Rel.grow (R : Rel B φ ρ σ H F) (e : Same H H') : Rel B φ ρ σ H' F where
  sub := R.sub.trans e
  len := R.len
  pl := R.pl
  ow := fun i d h1 h2 => by
    obtain ⟨a, h3, h4⟩ := R.ow i d h1 h2
    refine ⟨a, h3, h4.mono (Same.refl _) fun b hb => ?_⟩
    cases q : H b with
    | none => exact absurd q (h4.some b hb)
    | some o => exact e b o q
  und := R.und
  fr := R.fr
  dj := R.dj
  keep := fun c u h1 h2 => e c u (R.keep c u h1 h2)
  dom := fun c h => by
    have := R.dom c h
    cases q : H c with
    | none => exact absurd q this
    | some o => rw [e c o q]; simp
  froz := R.froz
  fres := R.fres
  par := R.par
  xsl := R.xsl
/-- what no one changes grows by what stands in H and no one owns and that was not there at the start -/
theorem Rel.frost (R : Rel B φ ρ σ H F) (e : Same F F') (s : Same F' H) (n : ∀ c, F' c ≠ none → F c = none → B.H0 c = none ∧ ∀ i, c ∉ φ i) : Rel B φ ρ σ H F' where
  sub := s
  len := R.len
  pl := fun i d h1 h2 => by
    obtain ⟨v, h3, h4⟩ := R.pl i d h1 h2
    exact ⟨v, h3, Rep.mono e _ _ h4⟩
  ow := fun i d h1 h2 => by
    obtain ⟨a, h3, h4⟩ := R.ow i d h1 h2
    exact ⟨a, h3, h4.mono e fun _ _ => rfl⟩
  und := R.und
  fr := fun i b hb => by
    obtain ⟨h1, h2⟩ := R.fr i b hb
    refine ⟨?_, h2⟩
    cases q : F' b with
    | none => rfl
    | some o => exact absurd hb ((n b (by rw [q]; simp) h1).2 i)
  dj := R.dj
  keep := R.keep
  dom := R.dom
  froz := R.froz.trans e
  fres := fun c h => by
    by_cases q : F c = none
    · exact .inr (n c h q).1
    · exact R.fres c q
  par := R.par
  xsl := R.xsl
/-- a new object that no one will change -/
theorem Rel.new (R : Rel B φ ρ σ H F) {p : Addr} {o : HO} (hp : H p = none) : Rel B φ ρ σ (upd H p o) (upd F p o) ∧ Same F (upd F p o) := by
  have hF : F p = none := R.sub.free hp
  have e1 : Same H (upd H p o) := fun b u q => by rw [upd_ne (ne_of_none q hp)]; exact q
  have e2 : Same F (upd F p o) := fun b u q => by rw [upd_ne (ne_of_none q hF)]; exact q
  refine ⟨(R.grow e1).frost e2 (fun b u q => ?_) fun c h1 h2 => ?_, e2⟩
  · by_cases hb : b = p
    · subst hb; rw [upd_same] at q ⊢; exact q
    · rw [upd_ne hb] at q ⊢; exact R.sub b u q
  · have hc : c = p := by
      by_cases hb : c = p
      · exact hb
      · rw [upd_ne hb] at h1; exact absurd h2 h1
    subst hc
    refine ⟨?_, fun i hm => R.here c hm hp⟩
    cases q : B.H0 c with
    | none => rfl
    | some u => exact absurd hp (R.dom c (by rw [q]; simp))
theorem Rel.fresh0 (R : Rel B φ ρ σ H F) {p : Addr} (hp : H p = none) : B.H0 p = none := by
  cases q : B.H0 p with
  | none => rfl
  | some u => exact absurd hp (R.dom p (by rw [q]; simp))
end
end Mi

set_option Elab.async false
set_option linter.all false
set_option maxRecDepth 100000
namespace Mi
open PySem L2

inductive R (α : Type) where
  | ok (a : α) (ρ : Env)
  | ex (c : Nat) (fs : List D) (ρ : Env)
  | no
def R.bind {α β : Type} (r : R α) (k : α → Env → R β) : R β := match r with
  | .ok a ρ => k a ρ
  | .ex c fs ρ => .ex c fs ρ
  | .no => .no
@[simp] theorem R.bind_ok {α β : Type} (a : α) (ρ : Env) (k : α → Env → R β) : (R.ok a ρ).bind k = k a ρ := (rfl)
@[simp] theorem R.bind_ex {α β : Type} (c fs ρ) (k : α → Env → R β) : (R.ex c fs ρ : R α).bind k = .ex c fs ρ := (rfl)
@[simp] theorem R.bind_no {α β : Type} (k : α → Env → R β) : (R.no : R α).bind k = .no := (rfl)

/-- what is known of a result -/
abbrev RK := (Nat → List Addr) → Hp → Hp → V → D → Prop
def kP (K : PySem.W.Frag) (B : Bs) : RK := fun _ F _ v d => Rep K B.cd F d v
def kO (K : PySem.W.Frag) (B : Bs) : RK := fun φ F H v d => ∃ a fp, v = .ref a ∧ ORep K B.cd F H d a fp ∧ ∀ b ∈ fp, F b = none ∧ B.H0 b = none ∧ ∀ i, b ∉ φ i

/-- an exception is let out -/
def tX (B : Bs) (W : WX) (ρ' : Env) (c : Nat) (fs : List D) (σ : L2.St) (F : Hp) : Prop :=
  ∀ φ' F' H' dx I vs, Same F F' → Rel B φ' ρ' σ H' F' → B.cd c = some I → H' dx = some (.xd (I.ns.zip vs)) → RepL B.K B.cd F' fs vs → W (.ref I.C) (some dx) σ H'
/-- what is wanted of an outcome -/
def Post {α : Type} (B : Bs) (W : WX) (σ : L2.St) (F : Hp) (r : R α) (k : α → Env → Prop) : Prop := match r with
  | .ok a ρ' => k a ρ'
  | .ex c fs ρ' => tX B W ρ' c fs σ F
  | .no => False
section
variable {B : Bs} {W : WX} {σ : L2.St} {F F1 : Hp} {α β : Type} {r : R α} {f : α → Env → R β} {k : α → Env → Prop} {j : β → Env → Prop}
theorem tX.mono {ρ' : Env} {c : Nat} {fs : List D} (e : Same F F1) (h : tX B W ρ' c fs σ F) : tX B W ρ' c fs σ F1 :=
  fun φ' F' H' dx I vs s r => h φ' F' H' dx I vs (e.trans s) r
theorem Post.bind (h : Post B W σ F (r.bind f) j) (g : ∀ a ρ', r = .ok a ρ' → Post B W σ F (f a ρ') j → k a ρ') : Post B W σ F r k := by
  cases r with
  | ok a ρ' => exact g a ρ' rfl h
  | ex c fs ρ' => exact h
  | no => exact h
theorem Post.mono {k' : α → Env → Prop} (e : Same F F1) (h : Post B W σ F r k) (g : ∀ a ρ', k a ρ' → k' a ρ') : Post B W σ F1 r k' := by
  cases r with
  | ok a ρ' => exact g a ρ' h
  | ex c fs ρ' => exact tX.mono e h
  | no => exact h
end
def tE (B : Bs) (W : WX) (k : RK) (m : Env → R D) : TE := fun σ H Q => ∃ φ F ρ, Rel B φ ρ σ H F ∧ Post B W σ F (m ρ) fun d ρ' => ∀ v φ' F' H', Same F F' → Rel B φ' ρ' σ H' F' → k φ' F' H' v d → Q v H'
def tT (B : Bs) (W : WX) (m : Env → R Bool) : TT := fun σ H Q => ∃ φ F ρ, Rel B φ ρ σ H F ∧ Post B W σ F (m ρ) fun b ρ' => ∀ φ' F' H', Same F F' → Rel B φ' ρ' σ H' F' → Q b H'
def tA (B : Bs) (W : WX) (m : Env → R (List D)) : TA := fun σ H Q => ∃ φ F ρ, Rel B φ ρ σ H F ∧ Post B W σ F (m ρ) fun ds ρ' => ∀ vs φ' F' H', Same F F' → Rel B φ' ρ' σ H' F' → RepL B.K B.cd F' ds vs → Q vs H'
inductive Flow where
  | nx | rt (d : D) | bk | ct
/-- an exception leaves a statement -/
def sX (B : Bs) (W : WX) (ρ' : Env) (c : Nat) (fs : List D) (F : Hp) : Prop :=
  ∀ φ' σ' F' H' dx I vs, Same F F' → Rel B φ' ρ' σ' H' F' → B.cd c = some I → H' dx = some (.xd (I.ns.zip vs)) → RepL B.K B.cd F' fs vs → W (.ref I.C) (some dx) σ' H'
def PostS (B : Bs) (W : WX) (k : RK) (D : Ends) (F : Hp) (r : R Flow) : Prop := match r with
  | .ok .nx ρ' => ∀ φ' σ' F' H', Same F F' → Rel B φ' ρ' σ' H' F' → D.nx σ' H'
  | .ok (.rt d) ρ' => ∀ v φ' σ' F' H', Same F F' → Rel B φ' ρ' σ' H' F' → k φ' F' H' v d → D.rt v H'
  | .ok .bk ρ' => ∀ φ' σ' F' H', Same F F' → Rel B φ' ρ' σ' H' F' → D.bk σ' H'
  | .ok .ct ρ' => ∀ φ' σ' F' H', Same F F' → Rel B φ' ρ' σ' H' F' → D.ct σ' H'
  | .ex c fs ρ' => sX B W ρ' c fs F
  | .no => False
def tS (B : Bs) (W : WX) (k : RK) (m : Env → R Flow) : TS := fun D σ H => ∃ φ F ρ, Rel B φ ρ σ H F ∧ PostS B W k D F (m ρ)
theorem sX.mono {B : Bs} {W : WX} {F F1 : Hp} {ρ' : Env} {c : Nat} {fs : List D} (e : Same F F1) (h : sX B W ρ' c fs F) : sX B W ρ' c fs F1 :=
  fun φ' σ' F' H' dx I vs s r => h φ' σ' F' H' dx I vs (e.trans s) r
theorem sX.toE {B : Bs} {W : WX} {F : Hp} {ρ' : Env} {c : Nat} {fs : List D} (h : sX B W ρ' c fs F) (σ : L2.St) : tX B W ρ' c fs σ F :=
  fun φ' F' H' dx I vs s r => h φ' σ F' H' dx I vs s r
theorem PostS.mono {B : Bs} {W : WX} {k : RK} {D : Ends} {F F1 : Hp} {r : R Flow} (e : Same F F1) (h : PostS B W k D F r) : PostS B W k D F1 r := by
  cases r with
  | ok fl ρ' =>
    cases fl with
    | nx => exact fun φ' σ' F' H' s => h φ' σ' F' H' (e.trans s)
    | rt d => exact fun v φ' σ' F' H' s => h v φ' σ' F' H' (e.trans s)
    | bk => exact fun φ' σ' F' H' s => h φ' σ' F' H' (e.trans s)
    | ct => exact fun φ' σ' F' H' s => h φ' σ' F' H' (e.trans s)
  | ex c fs ρ' => exact sX.mono e h
  | no => exact h

section
variable {X : Cx} {B : Bs} {W : WX} {k : RK} {e : Expr}
theorem PE.imp {t t' : TE} (h : PE X e t) (j : ∀ σ H Q, t' σ H Q → t σ H Q) : PE X e t' := ⟨fun pins s σ H Q I q => h.run pins s σ H Q I (j _ _ _ q)⟩
theorem PT.imp {t t' : TT} (h : PT X e t) (j : ∀ σ H Q, t' σ H Q → t σ H Q) : PT X e t' := ⟨fun pins s σ H Q I q => h.run pins s σ H Q I (j _ _ _ q)⟩
theorem PW.imp {t t' : TT} (h : PW X e t) (j : ∀ σ H Q, t' σ H Q → t σ H Q) : PW X e t' := ⟨fun wh pins s σ H Q I q => h.run wh pins s σ H Q I (j _ _ _ q)⟩
theorem PA.imp {es : List Expr} {t t' : TA} (h : PA X es t) (j : ∀ σ H Q, t' σ H Q → t σ H Q) : PA X es t' := ⟨fun pos pins s σ H Q I q => h.run pos pins s σ H Q I (j _ _ _ q)⟩
theorem PS.imp {st : Stmt} {t t' : TS} (h : PS X st t) (j : ∀ D σ H, t' D σ H → t D σ H) : PS X st t' := ⟨fun pins s σ H D I q => h.run pins s σ H D I (j _ _ _ q)⟩
theorem PSs.imp {st : List Stmt} {t t' : TS} (h : PSs X st t) (j : ∀ D σ H, t' D σ H → t D σ H) : PSs X st t' := ⟨fun pins s σ H D I q => h.run pins s σ H D I (j _ _ _ q)⟩
theorem PE.or {t t' : TE} (h : PE X e t) (h' : PE X e t') : PE X e (fun σ H Q => t σ H Q ∨ t' σ H Q) := ⟨fun pins s σ H Q I q => q.elim (h.run pins s σ H Q I) (h'.run pins s σ H Q I)⟩
end

section
variable {X : Cx} {B : Bs} {W : WX} {e a b : Expr} {pos : Pos}
def eVar (i : Nat) : Env → R D := fun ρ => match ρ[i]? with
  | some (some d) => .ok d ρ
  | _ => .no
def eC (d : D) : Env → R D := fun ρ => .ok d ρ
theorem c_var (i : Nat) {x : Str} (hp : B.md i = .p := by rfl) (hN : X.N[i]? = some x := by rfl) (hv : Vis X.env.scope x := by first | exact Or.inl rfl | exact Or.inr (Or.inl rfl) | exact Or.inr (Or.inr rfl)) (hd : (x == ("__debug__" : Str)) = false := by decide)
    (hcd : (x == ("__classdict__" : Str)) = false := by decide) : PE X (.Name x pos) (tE B W (kP B.K B) (eVar i)) := by
  refine PE.imp (pe_var hN hv hd hcd) fun σ H Q h => ?_
  obtain ⟨φ, F, ρ, R, h⟩ := h
  unfold eVar at h
  cases q : ρ[i]? with
  | none => rw [q] at h; exact h.elim
  | some o =>
    cases o with
    | none => rw [q] at h; exact h.elim
    | some d =>
      rw [q] at h
      obtain ⟨v, h1, h2⟩ := R.pl i d q hp
      exact ⟨v, h1, h v φ F H (Same.refl _) R h2⟩
theorem c_const {d : D} {v : V} (h : PE X e (tC v)) (hr : ∀ F, Rep B.K B.cd F d v) : PE X e (tE B W (kP B.K B) (eC d)) := by
  refine PE.imp h fun σ H Q h => ?_
  obtain ⟨φ, F, ρ, R, h⟩ := h
  exact h _ φ F H (Same.refl _) R (hr F)
theorem c_int {i j} : PE X (.Constant (.int i) j pos) (tE B W (kP B.K B) (eC (.int i))) := c_const pe_int fun F => by simp only [Rep]
theorem c_bl {b j} : PE X (.Constant (.bool b) j pos) (tE B W (kP B.K B) (eC (.bl b))) := c_const pe_bl fun F => by simp only [Rep]
theorem c_non {j} : PE X (.Constant .none j pos) (tE B W (kP B.K B) (eC .non)) := c_const pe_non fun F => by simp only [Rep]
theorem c_str {x j} : PE X (.Constant (.str x) j pos) (tE B W (kP B.K B) (eC (.str x))) := c_const pe_str fun F => by simp only [Rep]
/-- a constant of the module -/
theorem c_glob {x : Str} {v : V} {u : Value} {d : D} (hg : Gl X x) (hm : X.mg x = some u) (r : RelV v u) (hr : ∀ F, Rep B.K B.cd F d v) (hd : (x == ("__debug__" : Str)) = false := by decide) : PE X (.Name x pos) (tE B W (kP B.K B) (eC d)) :=
  c_const (pe_glob hg hm r hd) hr

/-- the data, or a list that stands in H and whose items stand in F -/
def RepH (B : Bs) (F H : Hp) (d : D) (v : V) : Prop := Rep B.K B.cd F d v ∨ ∃ a vs ds, v = .ref a ∧ d = .lst ds ∧ H a = some (.lst vs) ∧ RepL B.K B.cd F ds vs
def RepHL (B : Bs) (F H : Hp) : List D → List V → Prop
  | [], vs => vs = []
  | d :: ds, vs => ∃ v ws, vs = v :: ws ∧ RepH B F H d v ∧ RepHL B F H ds ws
theorem repHL_of {F H : Hp} : ∀ {ds : List D} {vs : List V}, RepL B.K B.cd F ds vs → RepHL B F H ds vs
  | [], vs, h => by simp only [RepL] at h; exact h
  | d :: ds, vs, h => by
    simp only [RepL] at h
    obtain ⟨v, ws, e, h1, h2⟩ := h
    exact ⟨v, ws, e, .inl h1, repHL_of h2⟩
/-- an operation on values and the function on data that it is -/
def OpS (B : Bs) (r : R2) (f : D → D → Option D) : Prop := ∀ φ F ρ σ H x y dx dy d (Q : VK), Rel B φ ρ σ H F → RepH B F H dx x → RepH B F H dy y → f dx dy = some d →
  (∀ v F' H', Same F F' → Rel B φ ρ σ H' F' → Rep B.K B.cd F' d v → Q v H') → r x y H Q
def UnS (B : Bs) (r : V → Hp → VK → Prop) (f : D → Option D) : Prop := ∀ φ F ρ σ H x dx d (Q : VK), Rel B φ ρ σ H F → RepH B F H dx x → f dx = some d →
  (∀ v F' H', Same F F' → Rel B φ ρ σ H' F' → Rep B.K B.cd F' d v → Q v H') → r x H Q
def CallS (B : Bs) (r : List V → Hp → VK → Prop) (f : List D → Option D) : Prop := ∀ φ F ρ σ H xs dxs d (Q : VK), Rel B φ ρ σ H F → RepHL B F H dxs xs → f dxs = some d →
  (∀ v F' H', Same F F' → Rel B φ ρ σ H' F' → Rep B.K B.cd F' d v → Q v H') → r xs H Q
def opt {α : Type} (o : Option α) (ρ : Env) : R α := match o with
  | some d => .ok d ρ
  | none => .no
@[simp] theorem opt_some {α : Type} (d : α) (ρ : Env) : opt (some d) ρ = .ok d ρ := (rfl)
@[simp] theorem opt_none {α : Type} (ρ : Env) : opt (none : Option α) ρ = .no := (rfl)
theorem Post.opt {α : Type} {o : Option α} {ρ : Env} {σ : L2.St} {F : Hp} {k : α → Env → Prop} (h : Post B W σ F (opt o ρ) k) : ∃ d, o = some d ∧ k d ρ := by
  cases o with
  | none => exact h.elim
  | some d => exact ⟨d, rfl, h⟩
def e2 (f : D → D → Option D) (ma mb : Env → R D) : Env → R D := fun ρ => (ma ρ).bind fun x ρ1 => (mb ρ1).bind fun y ρ2 => opt (f x y) ρ2
def e1 (f : D → Option D) (ma : Env → R D) : Env → R D := fun ρ => (ma ρ).bind fun x ρ1 => opt (f x) ρ1
/-- two operands -/
theorem two {ma mb : Env → R D} {r : R2} {f : D → D → Option D} (hf : OpS B r f) : ∀ σ H Q, tE B W (kP B.K B) (e2 f ma mb) σ H Q → tOp r (tE B W (kP B.K B) ma) (tE B W (kP B.K B) mb) σ H Q := by
  intro σ H Q h
  obtain ⟨φ, F, ρ, R0, h⟩ := h
  refine ⟨φ, F, ρ, R0, Post.bind h fun d1 ρ1 _ h v1 φ1 F1 H1 s1 R1 k1 => ?_⟩
  refine ⟨φ1, F1, ρ1, R1, Post.bind (Post.mono s1 h fun _ _ z => z) fun d2 ρ2 _ h v2 φ2 F2 H2 s2 R2 k2 => ?_⟩
  obtain ⟨d, qf, h⟩ := Post.opt h
  exact hf φ2 F2 ρ2 σ H2 v1 v2 d1 d2 d Q R2 (.inl (Rep.mono s2 _ _ k1)) (.inl k2) qf fun v F' H' s3 R3 k3 => h v φ2 F' H' ((s1.trans s2).trans s3) R3 k3
theorem c_op {op : Operator} {r : R2} {f : D → D → Option D} {ma mb : Env → R D} (ho : OpR X (binaryOp op) r) (hf : OpS B r f) (ha : PE X a (tE B W (kP B.K B) ma)) (hb : PE X b (tE B W (kP B.K B) mb)) :
    PE X (.BinOp a op b pos) (tE B W (kP B.K B) (e2 f ma mb)) := PE.imp (pe_op ho ha hb) (two hf)
theorem c_cmp {op : CmpOp} {r : R2} {f : D → D → Option D} {ma mb : Env → R D} (ho : OpR X (compareOp op) r) (hf : OpS B r f) (hm : behindInMarks op b = false) (ha : PE X a (tE B W (kP B.K B) ma)) (hb : PE X b (tE B W (kP B.K B) mb)) :
    PE X (.Compare a [op] [b] pos) (tE B W (kP B.K B) (e2 f ma mb)) := PE.imp (pe_cmpR ho ha hb hm) (two hf)
theorem one {ma : Env → R D} {r : V → Hp → VK → Prop} {f : D → Option D} (hf : UnS B r f) : ∀ σ H Q, tE B W (kP B.K B) (e1 f ma) σ H Q → tUn r (tE B W (kP B.K B) ma) σ H Q := by
  intro σ H Q h
  obtain ⟨φ, F, ρ, R0, h⟩ := h
  refine ⟨φ, F, ρ, R0, Post.bind h fun d1 ρ1 _ h v1 φ1 F1 H1 s1 R1 k1 => ?_⟩
  obtain ⟨d, qf, h⟩ := Post.opt h
  exact hf φ1 F1 ρ1 σ H1 v1 d1 d Q R1 (.inl k1) qf fun v F' H' s3 R3 k3 => h v φ1 F' H' (s1.trans s3) R3 k3
theorem c_un {op : UnaryOp} {r : V → Hp → VK → Prop} {f : D → Option D} {ma : Env → R D} (ho : UnR X (unaryOp op) r) (hf : UnS B r f) (ha : PE X a (tE B W (kP B.K B) ma)) :
    PE X (.UnaryOp op a pos) (tE B W (kP B.K B) (e1 f ma)) := PE.imp (pe_un ho ha) (one hf)

def aNil : Env → R (List D) := fun ρ => .ok [] ρ
def aCons (ma : Env → R D) (mr : Env → R (List D)) : Env → R (List D) := fun ρ => (ma ρ).bind fun d ρ1 => (mr ρ1).bind fun ds ρ2 => .ok (d :: ds) ρ2
theorem a_nil : PA X [] (tA B W aNil) := by
  refine PA.imp pa_nil fun σ H Q h => ?_
  obtain ⟨φ, F, ρ, R0, h⟩ := h
  exact h [] φ F H (Same.refl _) R0 repL_nil
theorem a_cons {es : List Expr} {ma : Env → R D} {mr : Env → R (List D)} (ha : PE X e (tE B W (kP B.K B) ma)) (hr : PA X es (tA B W mr)) (hs : starEach (e :: es) X.env = (false, eval e X.env) :: starEach es X.env := by rfl) : PA X (e :: es) (tA B W (aCons ma mr)) := by
  refine PA.imp (pa_cons ha hr hs) fun σ H Q h => ?_
  obtain ⟨φ, F, ρ, R0, h⟩ := h
  refine ⟨φ, F, ρ, R0, Post.bind h fun d1 ρ1 _ h v1 φ1 F1 H1 s1 R1 k1 => ?_⟩
  refine ⟨φ1, F1, ρ1, R1, Post.bind (Post.mono s1 h fun _ _ z => z) fun ds ρ2 _ h vs φ2 F2 H2 s2 R2 k2 => ?_⟩
  exact h (v1 :: vs) φ2 F2 H2 (s1.trans s2) R2 (repL_cons (Rep.mono s2 _ _ k1) k2)
/-- the most items that a list or a tuple of ours may have -/
abbrev LIM : Nat := 1000000
theorem lim_ok {n : Nat} (h : n ≤ LIM) : n ≤ sizeLine := Nat.le_trans h (by rw [sizeLine_eq]; decide)
def lim (c : Bool) (d : D) (ρ : Env) : R D := if c = true then .ok d ρ else .no
theorem Post.lim {c : Bool} {d : D} {ρ : Env} {σ : L2.St} {F : Hp} {k : D → Env → Prop} (h : Post B W σ F (lim c d ρ) k) : c = true ∧ k d ρ := by
  cases c with
  | true => exact ⟨rfl, h⟩
  | false => exact h.elim
def eTup (ma : Env → R (List D)) : Env → R D := fun ρ => (ma ρ).bind fun ds ρ1 => lim (ds.length ≤ LIM) (.tup ds) ρ1
def eLst (ma : Env → R (List D)) : Env → R D := fun ρ => (ma ρ).bind fun ds ρ1 => lim (ds.length ≤ LIM) (.lst ds) ρ1
theorem Rel.mkTup {φ ρ σ H F p} {vs : List V} {ds : List D} (R0 : Rel B φ ρ σ H F) (h : RepL B.K B.cd F ds vs) (hp : H p = none) :
    Rel B φ ρ σ (upd H p (.tup vs)) (upd F p (.tup vs)) ∧ Same F (upd F p (.tup vs)) ∧ Rep B.K B.cd (upd F p (.tup vs)) (.tup ds) (.ref p) := by
  obtain ⟨r, s⟩ := R0.new (o := .tup vs) hp
  refine ⟨r, s, ?_⟩
  simp only [Rep]
  exact ⟨p, vs, rfl, .inl (.inl upd_same), RepL.mono s _ _ h⟩
theorem Rel.mkLst {φ ρ σ H F p} {vs : List V} {ds : List D} (R0 : Rel B φ ρ σ H F) (h : RepL B.K B.cd F ds vs) (hp : H p = none) :
    Rel B φ ρ σ (upd H p (.lst vs)) (upd F p (.lst vs)) ∧ Same F (upd F p (.lst vs)) ∧ Rep B.K B.cd (upd F p (.lst vs)) (.lst ds) (.ref p) := by
  obtain ⟨r, s⟩ := R0.new (o := .lst vs) hp
  refine ⟨r, s, ?_⟩
  simp only [Rep]
  exact ⟨p, vs, rfl, upd_same, RepL.mono s _ _ h⟩
/-- a new list of one's own -/
theorem Rel.mkO {φ ρ σ H F p} {vs : List V} {ds : List D} (R0 : Rel B φ ρ σ H F) (h : RepL B.K B.cd F ds vs) (hp : H p = none) :
    Rel B φ ρ σ (upd H p (.lst vs)) F ∧ kO B.K B φ F (upd H p (.lst vs)) (.ref p) (.lst ds) := by
  have e1 : Same H (upd H p (.lst vs)) := fun b u q => by rw [upd_ne (ne_of_none q hp)]; exact q
  refine ⟨R0.grow e1, p, [p], rfl, ?_, fun b hb => ?_⟩
  · simp only [ORep, true_and]
    exact ⟨vs, upd_same, h⟩
  · simp at hb; subst hb
    exact ⟨R0.sub.free hp, R0.fresh0 hp, fun i hm => R0.here b hm hp⟩
theorem c_tup {es : List Expr} {x1} {ma : Env → R (List D)} (ha : PA X es (tA B W ma)) : PE X (.Tuple es x1 pos) (tE B W (kP B.K B) (eTup ma)) := by
  refine PE.imp (pe_tup ha) fun σ H Q h => ?_
  obtain ⟨φ, F, ρ, R0, h⟩ := h
  refine ⟨φ, F, ρ, R0, Post.bind h fun ds ρ1 _ h vs φ1 F1 H1 s1 R1 k1 => ?_⟩
  obtain ⟨hl, h⟩ := Post.lim h
  refine ⟨by rw [repL_length k1]; exact lim_ok (of_decide_eq_true hl), fun p hp => ?_⟩
  obtain ⟨r, s, g⟩ := R1.mkTup k1 hp
  exact h _ φ1 _ _ (s1.trans s) r g
theorem c_lst {es : List Expr} {ma : Env → R (List D)} (ha : PA X es (tA B W ma)) : PE X (.List es pos) (tE B W (kP B.K B) (eLst ma)) := by
  refine PE.imp (pe_lst ha) fun σ H Q h => ?_
  obtain ⟨φ, F, ρ, R0, h⟩ := h
  refine ⟨φ, F, ρ, R0, Post.bind h fun ds ρ1 _ h vs φ1 F1 H1 s1 R1 k1 => ?_⟩
  obtain ⟨hl, h⟩ := Post.lim h
  refine ⟨by rw [repL_length k1]; exact lim_ok (of_decide_eq_true hl), fun p hp => ?_⟩
  obtain ⟨r, s, g⟩ := R1.mkLst k1 hp
  exact h _ φ1 _ _ (s1.trans s) r g
theorem c_lstO {es : List Expr} {ma : Env → R (List D)} (ha : PA X es (tA B W ma)) : PE X (.List es pos) (tE B W (kO B.K B) (eLst ma)) := by
  refine PE.imp (pe_lst ha) fun σ H Q h => ?_
  obtain ⟨φ, F, ρ, R0, h⟩ := h
  refine ⟨φ, F, ρ, R0, Post.bind h fun ds ρ1 _ h vs φ1 F1 H1 s1 R1 k1 => ?_⟩
  obtain ⟨hl, h⟩ := Post.lim h
  refine ⟨by rw [repL_length k1]; exact lim_ok (of_decide_eq_true hl), fun p hp => ?_⟩
  obtain ⟨r, g⟩ := R1.mkO k1 hp
  exact h _ φ1 _ _ s1 r g
/-- a built-in function, by its values -/
def eB (f : List D → Option D) (ma : Env → R (List D)) : Env → R D := fun ρ => (ma ρ).bind fun ds ρ1 => opt (f ds) ρ1
theorem args1 {ma : Env → R (List D)} {r : List V → Hp → VK → Prop} {f : List D → Option D} (hf : CallS B r f) : ∀ σ H Q, tE B W (kP B.K B) (eB f ma) σ H Q → tCB r (tA B W ma) σ H Q := by
  intro σ H Q h
  obtain ⟨φ, F, ρ, R0, h⟩ := h
  refine ⟨φ, F, ρ, R0, Post.bind h fun ds ρ1 _ h vs φ1 F1 H1 s1 R1 k1 => ?_⟩
  obtain ⟨d, qf, h⟩ := Post.opt h
  exact hf φ1 F1 ρ1 σ H1 vs ds d Q R1 (repHL_of k1) qf fun v F' H' s3 R3 k3 => h v φ1 F' H' (s1.trans s3) R3 k3
theorem c_callB {x : Str} {es : List Expr} {p : Pos} {id : String} {r : List V → Hp → VK → Prop} {f : List D → Option D} {ma : Env → R (List D)} (hc : CallR X (.builtin id) r) (hf : CallS B r f) (hg : Gl X x) (hm : X.mg x = none) (hv : bootBuiltins x = some (.builtin id)) (ha : PA X (e :: es) (tA B W ma))
    (hn : x ≠ "__name__" := by decide) (hdb : (x == ("__debug__" : Str)) = false := by decide) (he : starEach (e :: es) X.env = (false, eval e X.env) :: starEach es X.env := by rfl) (hpl : (backTo pos (starEach es X.env)).any (·.1) = false := by rfl) :
    PE X (.Call (.Name x p) (e :: es) [] pos) (tE B W (kP B.K B) (eB f ma)) := PE.imp (pe_callB hc hg hm hv ha hn hdb he hpl) (args1 hf)
theorem c_callTy {x : Str} {es : List Expr} {p : Pos} {T : String} {r : List V → Hp → VK → Prop} {f : List D → Option D} {ma : Env → R (List D)} (hc : CallR X (.type T) r) (hf : CallS B r f) (hg : Gl X x) (hm : X.mg x = none) (hv : bootBuiltins x = some (.type T)) (ha : PA X (e :: es) (tA B W ma))
    (hn : x ≠ "__name__" := by decide) (hdb : (x == ("__debug__" : Str)) = false := by decide) (he : starEach (e :: es) X.env = (false, eval e X.env) :: starEach es X.env := by rfl) (hpl : (backTo pos (starEach es X.env)).any (·.1) = false := by rfl) :
    PE X (.Call (.Name x p) (e :: es) [] pos) (tE B W (kP B.K B) (eB f ma)) := PE.imp (pe_callTy hc hg hm hv ha hn hdb he hpl) (args1 hf)
end
end Mi

set_option Elab.async false
set_option linter.all false
set_option maxRecDepth 100000
namespace Mi
open PySem L2

section
variable {X : Cx} {B : Bs} {W : WX} {e a b c : Expr} {pos : Pos} {F H : Hp}
theorem rep_int {i : Int} {x : V} (h : Rep B.K B.cd F (.int i) x) : x = .int i := by simpa only [Rep] using h
theorem rep_str {i : Str} {x : V} (h : Rep B.K B.cd F (.str i) x) : x = .str i := by simpa only [Rep] using h
theorem rep_bl {i : Bool} {x : V} (h : Rep B.K B.cd F (.bl i) x) : x = .bl i := by simpa only [Rep] using h
theorem rep_non {x : V} (h : Rep B.K B.cd F .non x) : x = .non := by simpa only [Rep] using h
theorem rep_tup {ds : List D} {x : V} (h : Rep B.K B.cd F (.tup ds) x) : ∃ a vs, x = .ref a ∧ SqT B.K F a vs ∧ RepL B.K B.cd F ds vs := by simpa only [Rep] using h
theorem rep_lst {ds : List D} {x : V} (h : Rep B.K B.cd F (.lst ds) x) : ∃ a vs, x = .ref a ∧ F a = some (.lst vs) ∧ RepL B.K B.cd F ds vs := by simpa only [Rep] using h
theorem rep_obj {n : Nat} {ds : List D} {x : V} (h : Rep B.K B.cd F (.obj n ds) x) : ∃ a dx I vs, x = .ref a ∧ B.cd n = some I ∧ F a = some (.ins I.C dx (I.ns.zip vs)) ∧ RepL B.K B.cd F ds vs := by simpa only [Rep] using h
theorem rep_of_int {i : Int} : Rep B.K B.cd F (.int i) (.int i) := by simp only [Rep]
theorem rep_of_str {i : Str} : Rep B.K B.cd F (.str i) (.str i) := by simp only [Rep]
theorem rep_of_bl {i : Bool} : Rep B.K B.cd F (.bl i) (.bl i) := by simp only [Rep]
theorem rep_of_non : Rep B.K B.cd F .non .non := by simp only [Rep]


theorem rh_int {i : Int} {x : V} (h : RepH B F H (.int i) x) : x = .int i := by
  rcases h with h | ⟨_, _, _, _, e, _⟩
  · exact rep_int h
  · cases e
theorem rh_str {i : Str} {x : V} (h : RepH B F H (.str i) x) : x = .str i := by
  rcases h with h | ⟨_, _, _, _, e, _⟩
  · exact rep_str h
  · cases e
theorem rh_bl {i : Bool} {x : V} (h : RepH B F H (.bl i) x) : x = .bl i := by
  rcases h with h | ⟨_, _, _, _, e, _⟩
  · exact rep_bl h
  · cases e
theorem rh_non {x : V} (h : RepH B F H .non x) : x = .non := by
  rcases h with h | ⟨_, _, _, _, e, _⟩
  · exact rep_non h
  · cases e
theorem rh_tup {ds : List D} {x : V} (h : RepH B F H (.tup ds) x) : ∃ a vs, x = .ref a ∧ SqT B.K F a vs ∧ RepL B.K B.cd F ds vs := by
  rcases h with h | ⟨_, _, _, _, e, _⟩
  · exact rep_tup h
  · cases e
theorem rh_lst {ds : List D} {x : V} (s : Same F H) (h : RepH B F H (.lst ds) x) : ∃ a vs, x = .ref a ∧ H a = some (.lst vs) ∧ RepL B.K B.cd F ds vs := by
  rcases h with h | ⟨a, vs, es, e1, e2, e3, e4⟩
  · obtain ⟨a, vs, e, h1, h2⟩ := rep_lst h
    exact ⟨a, vs, e, s _ _ h1, h2⟩
  · cases e2
    exact ⟨a, vs, e1, e3, e4⟩
theorem rh_plain {d : D} {x : V} (h : RepH B F H d x) (n : ∀ ds, d ≠ .lst ds) : Rep B.K B.cd F d x := by
  rcases h with h | ⟨a, vs, es, e1, e2, e3, e4⟩
  · exact h
  · exact absurd e2 (n _)
def dAdd : D → D → Option D
  | .int i, .int j => some (.int (i + j))
  | .str x, .str y => if x.length + y.length ≤ LIM then some (.str (x ++ y)) else none
  | .lst xs, .lst ys => if xs.length + ys.length ≤ LIM then some (.lst (xs ++ ys)) else none
  | .tup xs, .tup ys => if xs.length + ys.length ≤ LIM then some (.tup (xs ++ ys)) else none
  | _, _ => none
def rStrCat : R2 := fun x y H Q => ∃ i j, x = .str i ∧ y = .str j ∧ i.length + j.length ≤ sizeLine ∧ Q (.str (i ++ j)) H
def rAddU (K : PySem.W.Frag) : R2 := fun x y H Q => (rI0 fun i j => .int (i + j)) x y H Q ∨ (rStrCat x y H Q ∨ (rCat x y H Q ∨ rCatA K x y H Q))
theorem or_add : OpR X (binaryOp .Add) (rAddU X.K) := OpR.or op_add (OpR.or op_add_str (OpR.or op_cat op_catA))
theorem os_add : OpS B (rAddU B.K) dAdd := by
  intro φ F ρ σ H x y dx dy d Q R0 hx hy hf k
  cases dx <;> cases dy <;> simp only [dAdd] at hf <;> try cases hf
  · obtain rfl := rh_int hx
    obtain rfl := rh_int hy
    exact .inl ⟨_, _, rfl, rfl, k _ F H (Same.refl _) R0 rep_of_int⟩
  · obtain rfl := rh_str hx
    obtain rfl := rh_str hy
    split at hf <;> cases hf
    rename_i hl
    exact .inr (.inl ⟨_, _, rfl, rfl, lim_ok hl, k _ F H (Same.refl _) R0 rep_of_str⟩)
  · obtain ⟨p, vs, rfl, hp, hv⟩ := rh_tup hx
    obtain ⟨q, ws, rfl, hq, hw⟩ := rh_tup hy
    split at hf <;> cases hf
    rename_i hl
    have l1 := repL_length hv
    have l2 := repL_length hw
    refine .inr (.inr (.inr ⟨p, q, vs, ws, rfl, rfl, sqt_mono R0.sub hp, sqt_mono R0.sub hq, by rw [l1, l2]; exact lim_ok hl, fun e => ?_, fun e1 e2 => ?_, fun e1 e2 t ht => ?_⟩))
    · subst e
      have : _ = [] := List.length_eq_zero_iff.mp l1.symm
      subst this
      exact k _ F H (Same.refl _) R0 (rh_plain hy fun _ e => by cases e)
    · subst e2
      have : _ = [] := List.length_eq_zero_iff.mp l2.symm
      subst this
      rw [List.append_nil] at k
      exact k _ F H (Same.refl _) R0 (rh_plain hx fun _ e => by cases e)
    · obtain ⟨r, s, g⟩ := R0.mkTup (repL_append hv hw) ht
      exact k _ _ _ s r g
  · obtain ⟨p, vs, rfl, hp, hv⟩ := rh_lst R0.sub hx
    obtain ⟨q, ws, rfl, hq, hw⟩ := rh_lst R0.sub hy
    split at hf <;> cases hf
    rename_i hl
    refine .inr (.inr (.inl ⟨p, q, vs, ws, rfl, rfl, hp, hq, by rw [repL_length hv, repL_length hw]; exact lim_ok hl, fun t ht => ?_⟩))
    obtain ⟨r, s, g⟩ := R0.mkLst (repL_append hv hw) ht
    exact k _ _ _ s r g
def dSub : D → D → Option D
  | .int i, .int j => some (.int (i - j))
  | _, _ => none
theorem os_sub : OpS B (rI0 fun i j => .int (i - j)) dSub := by
  intro φ F ρ σ H x y dx dy d Q R0 hx hy hf k
  cases dx <;> cases dy <;> simp only [dSub] at hf <;> try cases hf
  obtain rfl := rh_int hx
  obtain rfl := rh_int hy
  exact ⟨_, _, rfl, rfl, k _ F H (Same.refl _) R0 rep_of_int⟩
def mulOk (i j : Int) : Prop := ((-(2 ^ 64) < i ∧ i < 2 ^ 64) ∨ (-(2 ^ 64) < j ∧ j < 2 ^ 64)) ∨ i.natAbs.log2 + j.natAbs.log2 < 1000000
instance (i j : Int) : Decidable (mulOk i j) := by unfold mulOk; exact inferInstance
def dMul : D → D → Option D
  | .int i, .int j => if mulOk i j then some (.int (i * j)) else none
  | .lst xs, .int j => if -1000000 ≤ j ∧ j ≤ 1000000 ∧ xs.length * j.toNat ≤ LIM then some (.lst (List.replicate j.toNat xs).flatten) else none
  | _, _ => none
def rMulU : R2 := fun x y H Q => (rI CMul fun i j => .int (i * j)) x y H Q ∨ ((rI CMulW fun i j => .int (i * j)) x y H Q ∨ rRep x y H Q)
theorem or_mul : OpR X (binaryOp .Mult) rMulU := OpR.or op_mul (OpR.or op_mulW op_rep)
theorem repL_rep {ds : List D} {vs : List V} (h : RepL B.K B.cd F ds vs) : ∀ n : Nat, RepL B.K B.cd F (List.replicate n ds).flatten (List.replicate n vs).flatten
  | 0 => by simp only [List.replicate_zero, List.flatten_nil]; exact repL_nil
  | n + 1 => by
    simp only [List.replicate_succ, List.flatten_cons]
    exact repL_append h (repL_rep h n)
theorem os_mul : OpS B rMulU dMul := by
  intro φ F ρ σ H x y dx dy d Q R0 hx hy hf k
  cases dx <;> cases dy <;> simp only [dMul] at hf <;> try cases hf
  · obtain rfl := rh_int hx
    obtain rfl := rh_int hy
    split at hf <;> cases hf
    rename_i hl
    rcases hl with hl | hl
    · exact .inl ⟨_, _, rfl, rfl, hl, k _ F H (Same.refl _) R0 rep_of_int⟩
    · exact .inr (.inl ⟨_, _, rfl, rfl, hl, k _ F H (Same.refl _) R0 rep_of_int⟩)
  · obtain ⟨p, vs, rfl, hp, hv⟩ := rh_lst R0.sub hx
    obtain rfl := rh_int hy
    split at hf <;> cases hf
    rename_i hl
    obtain ⟨h1, h2, h3⟩ := hl
    refine .inr (.inr ⟨p, _, vs, rfl, rfl, hp, by omega, by omega, by rw [repL_length hv]; exact lim_ok h3, fun t ht => ?_⟩)
    obtain ⟨r, s, g⟩ := R0.mkLst (repL_rep hv _) ht
    exact k _ _ _ s r g
def divOk (j : Int) : Prop := 0 < j ∧ j.natAbs.log2 < 9000
instance (j : Int) : Decidable (divOk j) := by unfold divOk; exact inferInstance
def dFdv : D → D → Option D
  | .int i, .int j => if divOk j then some (.int (i / j)) else none
  | _, _ => none
theorem os_fdv : OpS B (rI CDivW fun i j => .int (i / j)) dFdv := by
  intro φ F ρ σ H x y dx dy d Q R0 hx hy hf k
  cases dx <;> cases dy <;> simp only [dFdv] at hf <;> try cases hf
  obtain rfl := rh_int hx
  obtain rfl := rh_int hy
  split at hf <;> cases hf
  rename_i hl
  exact ⟨_, _, rfl, rfl, hl, k _ F H (Same.refl _) R0 rep_of_int⟩
def dMod : D → D → Option D
  | .int i, .int j => if 0 < j then some (.int (i % j)) else none
  | _, _ => none
theorem os_mod : OpS B (rI (fun _ j => 0 < j) fun i j => .int (i % j)) dMod := by
  intro φ F ρ σ H x y dx dy d Q R0 hx hy hf k
  cases dx <;> cases dy <;> simp only [dMod] at hf <;> try cases hf
  obtain rfl := rh_int hx
  obtain rfl := rh_int hy
  split at hf <;> cases hf
  rename_i hl
  exact ⟨_, _, rfl, rfl, hl, k _ F H (Same.refl _) R0 rep_of_int⟩
def powOk (i j : Int) : Prop := 0 ≤ j ∧ j ≤ 1000000 ∧ i.natAbs < 2 ^ 64
instance (i j : Int) : Decidable (powOk i j) := by unfold powOk; exact inferInstance
def dPow : D → D → Option D
  | .int i, .int j => if powOk i j then some (.int (i ^ j.toNat)) else none
  | _, _ => none
theorem os_pow : OpS B (rI CPow fun i j => .int (i ^ j.toNat)) dPow := by
  intro φ F ρ σ H x y dx dy d Q R0 hx hy hf k
  cases dx <;> cases dy <;> simp only [dPow] at hf <;> try cases hf
  obtain rfl := rh_int hx
  obtain rfl := rh_int hy
  split at hf <;> cases hf
  rename_i hl
  exact ⟨_, _, rfl, rfl, hl, k _ F H (Same.refl _) R0 rep_of_int⟩
def dCmp (p : Int → Int → Bool) : D → D → Option D
  | .int i, .int j => some (.bl (p i j))
  | _, _ => none
theorem os_cmp (p : Int → Int → Bool) : OpS B (rI0 fun i j => .bl (p i j)) (dCmp p) := by
  intro φ F ρ σ H x y dx dy d Q R0 hx hy hf k
  cases dx <;> cases dy <;> simp only [dCmp] at hf <;> try cases hf
  obtain rfl := rh_int hx
  obtain rfl := rh_int hy
  exact ⟨_, _, rfl, rfl, k _ F H (Same.refl _) R0 rep_of_bl⟩
abbrev dLt := dCmp fun i j => decide (i < j)
abbrev dLe := dCmp fun i j => decide (i ≤ j)
abbrev dGt := dCmp fun i j => decide (j < i)
abbrev dGe := dCmp fun i j => decide (j ≤ i)
mutual
def toPy : D → Option PyData
  | .non => some .none
  | .bl b => some (.bool b)
  | .int i => some (.int i)
  | .str x => some (.str x)
  | .tup ds => (toPyL ds).map .tuple
  | .lst ds => (toPyL ds).map .list
  | .obj _ _ => none
  | .dct _ _ => none
  | .scr _ => none
def toPyL : List D → Option (List PyData)
  | [] => some []
  | d :: ds => match toPy d, toPyL ds with
    | some x, some xs => some (x :: xs)
    | _, _ => none
end
mutual
theorem rep_dp (s : Same F H) : ∀ (d : D) (v : V) (p : PyData), toPy d = some p → Rep B.K B.cd F d v → Dp B.K H v p
  | .non, v, p, e, h => by
    simp only [toPy, Option.some.injEq] at e; subst e
    obtain rfl := rep_non h
    exact .non
  | .bl b, v, p, e, h => by
    simp only [toPy, Option.some.injEq] at e; subst e
    obtain rfl := rep_bl h
    exact .bl _
  | .int i, v, p, e, h => by
    simp only [toPy, Option.some.injEq] at e; subst e
    obtain rfl := rep_int h
    exact .int _
  | .str x, v, p, e, h => by
    simp only [toPy, Option.some.injEq] at e; subst e
    obtain rfl := rep_str h
    exact .str _
  | .tup ds, v, p, e, h => by
    simp only [toPy, Option.map_eq_some_iff] at e
    obtain ⟨ps, e1, rfl⟩ := e
    obtain ⟨a, vs, rfl, h1, h2⟩ := rep_tup h
    exact .tup (sqt_mono s h1) (repL_dp s ds vs ps e1 h2)
  | .lst ds, v, p, e, h => by
    simp only [toPy, Option.map_eq_some_iff] at e
    obtain ⟨ps, e1, rfl⟩ := e
    obtain ⟨a, vs, rfl, h1, h2⟩ := rep_lst h
    exact .lst (.inl (.inl (s _ _ h1))) (repL_dp s ds vs ps e1 h2)
  | .obj _ _, v, p, e, h => by simp only [toPy] at e; cases e
  | .dct _ _, v, p, e, h => by simp only [toPy] at e; cases e
  | .scr _, v, p, e, h => by simp only [toPy] at e; cases e
theorem repL_dp (s : Same F H) : ∀ (ds : List D) (vs : List V) (ps : List PyData), toPyL ds = some ps → RepL B.K B.cd F ds vs → DpAll B.K H vs ps
  | [], vs, ps, e, h => by
    simp only [toPyL, Option.some.injEq] at e; subst e
    simp only [RepL] at h; subst h
    exact .nil
  | d :: ds, vs, ps, e, h => by
    simp only [RepL] at h
    obtain ⟨v, ws, rfl, h1, h2⟩ := h
    simp only [toPyL] at e
    split at e
    · rename_i x xs e1 e2
      cases e
      exact .cons (rep_dp s d v x e1 h1) (repL_dp s ds ws xs e2 h2)
    · cases e
end
theorem rh_dp (s : Same F H) {d : D} {v : V} {p : PyData} (e : toPy d = some p) (h : RepH B F H d v) : Dp B.K H v p := by
  rcases h with h | ⟨a, vs, ds, rfl, rfl, h3, h4⟩
  · exact rep_dp s _ _ _ e h
  · simp only [toPy, Option.map_eq_some_iff] at e
    obtain ⟨ps, e1, rfl⟩ := e
    exact .lst (.inl (.inl h3)) (repL_dp s ds vs ps e1 h4)
def dEqB (neg : Bool) (x y : D) : Option D := match toPy x, toPy y with
  | some p, some q => if SeqAt.shaped p = true ∧ SeqAt.shaped q = true then some (.bl (if neg then !PyData.eqv p q else PyData.eqv p q)) else none
  | _, _ => none
abbrev dEq := dEqB false
abbrev dNe := dEqB true
theorem os_eq : OpS B (rEqD B.K) dEq := by
  intro φ F ρ σ H x y dx dy d Q R0 hx hy hf k
  simp only [dEqB] at hf
  split at hf
  · rename_i p q e1 e2
    split at hf <;> cases hf
    rename_i hl
    exact ⟨p, q, rh_dp R0.sub e1 hx, rh_dp R0.sub e2 hy, hl.1, hl.2, k _ F H (Same.refl _) R0 rep_of_bl⟩
  · cases hf
theorem os_ne : OpS B (rNeD B.K) dNe := by
  intro φ F ρ σ H x y dx dy d Q R0 hx hy hf k
  simp only [dEqB] at hf
  split at hf
  · rename_i p q e1 e2
    split at hf <;> cases hf
    rename_i hl
    exact ⟨p, q, rh_dp R0.sub e1 hx, rh_dp R0.sub e2 hy, hl.1, hl.2, k _ F H (Same.refl _) R0 rep_of_bl⟩
  · cases hf
def isNon : D → Bool
  | .non => true
  | _ => false
def dIs : D → D → Option D
  | x, .non => some (.bl (isNon x))
  | _, _ => none
def dIsNot : D → D → Option D
  | x, .non => some (.bl (!isNon x))
  | _, _ => none
theorem isNon_of {dx : D} {x : V} (h : RepH B F H dx x) : decide (x = .non) = isNon dx := by
  rcases h with h | ⟨a, vs, ds, rfl, rfl, _⟩
  rotate_left
  · simp [isNon]
  cases dx <;> simp only [Rep] at h <;> (try subst h) <;> (try (first | rfl | (simp [isNon]; done)))
  all_goals (obtain ⟨_, h⟩ := h; first | (obtain ⟨rfl, _⟩ := h; simp [isNon]) | (obtain ⟨_, h⟩ := h; first | (obtain ⟨rfl, _⟩ := h; simp [isNon]) | (obtain ⟨_, _, rfl, _⟩ := h; simp [isNon])))
def rIsN : R2 := fun x y H Q => y = .non ∧ Q (.bl (decide (x = .non))) H
def rNotN : R2 := fun x y H Q => y = .non ∧ Q (.bl (!decide (x = .non))) H
theorem or_is : OpR X (compareOp .Is) rIsN := op_isN
theorem or_isnot : OpR X (compareOp .IsNot) rNotN := op_notN
theorem os_is : OpS B rIsN dIs := by
  intro φ F ρ σ H x y dx dy d Q R0 hx hy hf k
  cases dy <;> simp only [dIs] at hf <;> cases hf
  obtain rfl := rh_non hy
  refine ⟨rfl, ?_⟩
  rw [isNon_of hx]
  exact k _ F H (Same.refl _) R0 rep_of_bl
theorem os_isnot : OpS B rNotN dIsNot := by
  intro φ F ρ σ H x y dx dy d Q R0 hx hy hf k
  cases dy <;> simp only [dIsNot] at hf <;> cases hf
  obtain rfl := rh_non hy
  refine ⟨rfl, ?_⟩
  rw [isNon_of hx]
  exact k _ F H (Same.refl _) R0 rep_of_bl
end
end Mi

set_option Elab.async false
set_option linter.all false
set_option maxRecDepth 100000
namespace Mi
open PySem L2
section
variable {X : Cx} {B : Bs} {W : WX} {e a b c : Expr} {pos : Pos} {F H : Hp}
def flatD : D → Bool
  | .non => true | .bl _ => true | .int _ => true | .str _ => true | _ => false
def eqD : D → D → Bool
  | .non, .non => true
  | .bl a, .bl b => a == b
  | .bl a, .int b => (if a then 1 else 0) == b
  | .int a, .bl b => a == (if b then 1 else 0)
  | .int a, .int b => a == b
  | .str a, .str b => a == b
  | _, _ => false
theorem flat_rep {d : D} {v : V} (h : Rep B.K B.cd F d v) (f : flatD d = true) : flatV v = true := by
  cases d <;> simp only [flatD] at f <;> try cases f
  · rw [rep_non h]; rfl
  · rw [rep_bl h]; rfl
  · rw [rep_int h]; rfl
  · rw [rep_str h]; rfl
theorem eqD_rep {d d' : D} {v v' : V} (h : Rep B.K B.cd F d v) (h' : Rep B.K B.cd F d' v') (f : flatD d = true) (f' : flatD d' = true) : eqV v v' = eqD d d' := by
  cases d <;> simp only [flatD] at f <;> (try cases f) <;> cases d' <;> simp only [flatD] at f' <;> (try cases f') <;>
    first
    | (rw [rep_non h]) | (rw [rep_bl h]) | (rw [rep_int h]) | (rw [rep_str h])
  all_goals first
    | (rw [rep_non h']; rfl) | (rw [rep_bl h']; rfl) | (rw [rep_int h']; rfl) | (rw [rep_str h']; rfl)
theorem flat_repL : ∀ {ds : List D} {vs : List V}, RepL B.K B.cd F ds vs → ds.all flatD = true → vs.all flatV = true
  | [], vs, h, _ => by simp only [RepL] at h; subst h; rfl
  | d :: ds, vs, h, f => by
    simp only [RepL] at h
    obtain ⟨v, ws, rfl, h1, h2⟩ := h
    simp only [List.all_cons, Bool.and_eq_true] at f ⊢
    exact ⟨flat_rep h1 f.1, flat_repL h2 f.2⟩
theorem inD_rep {d : D} {v : V} (h : Rep B.K B.cd F d v) (f : flatD d = true) : ∀ {ds : List D} {vs : List V}, RepL B.K B.cd F ds vs → ds.all flatD = true → inV v vs = ds.any fun y => eqD y d
  | [], vs, h, _ => by simp only [RepL] at h; subst h; rfl
  | d' :: ds, vs, h', f' => by
    simp only [RepL] at h'
    obtain ⟨v', ws, rfl, h1, h2⟩ := h'
    simp only [List.all_cons, Bool.and_eq_true] at f'
    have := inD_rep h f h2 f'.2
    simp only [inV, List.any_cons] at this ⊢
    rw [this, eqD_rep h1 h f'.1 f]
def sign? (z : Str) : Option Nat := match z.cps.toList with
  | [c] => some c
  | _ => none
theorem sign_of {z : Str} {c : Nat} (h : sign? z = some c) : z = ⟨#[c]⟩ := by
  unfold sign? at h
  split at h
  · rename_i c' e
    cases h
    cases z with
    | mk cps =>
      have : cps = #[c] := by
        apply Array.ext'
        simpa using e
      rw [this]
  · cases h
def inL (neg : Bool) (x : D) (ys : List D) : Option D := if flatD x = true ∧ ys.all flatD = true then some (.bl (if neg then !(ys.any fun y => eqD y x) else ys.any fun y => eqD y x)) else none
def dInB (neg : Bool) (x : D) : D → Option D
  | .lst ys => match inL neg x ys with
    | some d => some d
    | none => match toPy x, toPyL ys with
      | some p, some ps => if SeqAt.shaped p = true ∧ SeqAt.shaped (.list ps) = true then some (.bl (if neg then !(ps.any fun z => PyData.eqv z p) else ps.any fun z => PyData.eqv z p)) else none
      | _, _ => none
  | .tup ys => inL neg x ys
  | .str z => match x with
    | .str w => match sign? w with
      | some c => some (.bl (if neg then !decide (c ∈ z.cps.toList) else decide (c ∈ z.cps.toList)))
      | none => none
    | _ => none
  | _ => none
abbrev dIn := dInB false
abbrev dNotIn := dInB true
def rSign (neg : Bool) : R2 := fun x y H Q => ∃ (c : Nat) (z : Str), x = .str ⟨#[c]⟩ ∧ y = .str z ∧ Q (.bl (if neg then !decide (c ∈ z.cps.toList) else decide (c ∈ z.cps.toList))) H
def rInDB (K : PySem.W.Frag) (neg : Bool) : R2 := fun x y H Q => ∃ d ds, Dp K H x d ∧ Dp K H y (.list ds) ∧ SeqAt.shaped d = true ∧ SeqAt.shaped (.list ds) = true ∧ Q (.bl (if neg then !(ds.any fun z => PyData.eqv z d) else ds.any fun z => PyData.eqv z d)) H
def rInU (K : PySem.W.Frag) (neg : Bool) : R2 := fun x y H Q => rIn K neg x y H Q ∨ (rInDB K neg x y H Q ∨ rSign neg x y H Q)
theorem or_in (hu : X.A.units + 65 < cLine) : OpR X (compareOp .In) (rInU X.K false) := OpR.or op_in_seq (OpR.or (op_inD hu) op_in_sign)
theorem or_notin (hu : X.A.units + 65 < cLine) : OpR X (compareOp .NotIn) (rInU X.K true) := OpR.or op_notIn_seq (OpR.or (op_notInD hu) op_notIn_sign)
theorem rh_flat {d : D} {v : V} (h : RepH B F H d v) (f : flatD d = true) : Rep B.K B.cd F d v := rh_plain h fun _ e => by subst e; cases f
theorem os_in (neg : Bool) : OpS B (rInU B.K neg) (dInB neg) := by
  intro φ F ρ σ H x y dx dy d Q R0 hx hy hf k
  cases dy <;> simp only [dInB] at hf <;> try cases hf
  · obtain rfl := rh_str hy
    cases dx <;> simp only [] at hf <;> try cases hf
    obtain rfl := rh_str hx
    split at hf <;> cases hf
    rename_i c e
    obtain rfl := sign_of e
    exact .inr (.inr ⟨c, _, rfl, rfl, k _ F H (Same.refl _) R0 rep_of_bl⟩)
  · obtain ⟨p, vs, rfl, hp, hv⟩ := rh_tup hy
    simp only [inL] at hf
    split at hf <;> cases hf
    rename_i hl
    refine .inl ⟨p, vs, rfl, .inr (sqt_mono R0.sub hp), flat_rep (rh_flat hx hl.1) hl.1, flat_repL hv hl.2, ?_⟩
    rw [inD_rep (rh_flat hx hl.1) hl.1 hv hl.2]
    exact k _ F H (Same.refl _) R0 rep_of_bl
  · split at hf
    · rename_i dd e
      cases hf
      obtain ⟨p, vs, rfl, hp, hv⟩ := rh_lst R0.sub hy
      simp only [inL] at e
      split at e <;> cases e
      rename_i hl
      refine .inl ⟨p, vs, rfl, .inl (.inl (.inl hp)), flat_rep (rh_flat hx hl.1) hl.1, flat_repL hv hl.2, ?_⟩
      rw [inD_rep (rh_flat hx hl.1) hl.1 hv hl.2]
      exact k _ F H (Same.refl _) R0 rep_of_bl
    · split at hf
      · rename_i p ps e1 e2
        split at hf <;> cases hf
        rename_i hl
        refine .inr (.inl ⟨p, ps, rh_dp R0.sub e1 hx, rh_dp (p := .list ps) R0.sub (by simp only [toPy, e2, Option.map_some]) hy, hl.1, hl.2, k _ F H (Same.refl _) R0 rep_of_bl⟩)
      · cases hf
def truD : D → Option Bool
  | .non => some false
  | .bl b => some b
  | .int i => some (i != 0)
  | .str x => if x.length ≤ LIM then some ((x.length : Int) != 0) else none
  | .tup xs => some (!xs.isEmpty)
  | .lst xs => some (!xs.isEmpty)
  | .dct ks _ => some (!ks.isEmpty)
  | _ => none
theorem isEmpty_rep {ds : List D} {vs : List V} (h : RepL B.K B.cd F ds vs) : vs.isEmpty = ds.isEmpty := by
  have := repL_length h
  cases vs <;> cases ds <;> simp at this ⊢
theorem truD_rep (s : Same F H) {d : D} {v : V} {k : Bool} (h : RepH B F H d v) (e : truD d = some k) : TruV B.K v H k := by
  cases d <;> simp only [truD] at e <;> try cases e
  · rw [rh_non h]; rfl
  · rw [rh_bl h]; rfl
  · rw [rh_int h]; rfl
  · split at e <;> cases e
    rename_i hl
    rw [rh_str h]; exact ⟨lim_ok hl, rfl⟩
  · obtain ⟨p, vs, rfl, hp, hv⟩ := rh_tup h
    exact .inr (.inl ⟨vs, sqt_mono s hp, by rw [isEmpty_rep hv]⟩)
  · obtain ⟨p, vs, rfl, hp, hv⟩ := rh_lst s h
    exact .inl ⟨vs, .inl (.inl hp), by rw [isEmpty_rep hv]⟩
  · replace h := rh_plain h fun _ e => by cases e
    simp only [Rep] at h
    obtain ⟨p, vs, rfl, hp, hn, hv⟩ := h
    refine .inr (.inr ⟨_, s _ _ hp, ?_⟩)
    rename_i ks ds
    cases ks <;> cases vs <;> simp at hn ⊢
def mTruth (m : Env → R D) : Env → R Bool := fun ρ => (m ρ).bind fun d ρ1 => opt (truD d) ρ1
/-- a test that is no comparison, no and, or, not -/
theorem t_val {m : Env → R D} (h : PE X e (tE B W (kP B.K B) m)) (hK : X.K = B.K) (he : ∀ whole, isTrue e X.env whole = (do let v ← whole; standAt e.pos; holding [v] (PySem.truthy v)) := by intro _; rfl) : PT X e (tT B W (mTruth m)) := by
  refine PT.imp (pt_truth h he) fun σ H Q h => ?_
  obtain ⟨φ, F, ρ, R0, h⟩ := h
  refine ⟨φ, F, ρ, R0, Post.bind h fun d ρ1 _ h v φ1 F1 H1 s1 R1 k1 => ?_⟩
  obtain ⟨b, e, h⟩ := Post.opt h
  exact ⟨b, by rw [hK]; exact truD_rep R1.sub (.inl k1) e, h φ1 F1 H1 s1 R1⟩
def mBool (m : Env → R D) : Env → R Bool := fun ρ => (m ρ).bind fun d ρ1 => match d with
  | .bl b => .ok b ρ1
  | _ => .no
theorem two_test {ma mb : Env → R D} {r : R2} {f : D → D → Option D} (hf : OpS B r f) : ∀ σ H Q, tT B W (mBool (e2 f ma mb)) σ H Q → tTest (tOp r (tE B W (kP B.K B) ma) (tE B W (kP B.K B) mb)) σ H Q := by
  intro σ H Q h
  obtain ⟨φ, F, ρ, R0, h⟩ := h
  refine two hf σ H _ ⟨φ, F, ρ, R0, Post.bind h fun d ρ1 _ h v φ1 F1 H1 s1 R1 k1 => ?_⟩
  cases d <;> try exact h.elim
  exact ⟨_, rep_bl k1, h φ1 F1 H1 s1 R1⟩
theorem t_cmp {op : CmpOp} {r : R2} {f : D → D → Option D} {ma mb : Env → R D} (ho : OpR X (compareOp op) r) (hf : OpS B r f) (hm : behindInMarks op b = false) (ha : PE X a (tE B W (kP B.K B) ma)) (hb : PE X b (tE B W (kP B.K B) mb)) :
    PT X (.Compare a [op] [b] pos) (tT B W (mBool (e2 f ma mb))) := PT.imp (pt_cmpR ho ha hb hm) (two_test hf)
def mNot (m : Env → R Bool) : Env → R Bool := fun ρ => (m ρ).bind fun b ρ1 => .ok (!b) ρ1
theorem t_not {m : Env → R Bool} (h : PT X e (tT B W m)) : PT X (.UnaryOp .Not e pos) (tT B W (mNot m)) := by
  refine PT.imp (pt_not h) fun σ H Q h => ?_
  obtain ⟨φ, F, ρ, R0, h⟩ := h
  exact ⟨φ, F, ρ, R0, Post.bind h fun b ρ1 _ h φ1 F1 H1 s1 R1 => h φ1 F1 H1 s1 R1⟩
def mAnd (m n : Env → R Bool) : Env → R Bool := fun ρ => (m ρ).bind fun b ρ1 => if b = true then n ρ1 else .ok false ρ1
def mOr (m n : Env → R Bool) : Env → R Bool := fun ρ => (m ρ).bind fun b ρ1 => if b = true then .ok true ρ1 else n ρ1
theorem w_and1 {m : Env → R Bool} (h : PT X e (tT B W m)) : PW X (.BoolOp .And [e] pos) (tT B W m) := pw_and1 h
theorem w_or1 {m : Env → R Bool} (h : PT X e (tT B W m)) : PW X (.BoolOp .Or [e] pos) (tT B W m) := pw_or1 h
theorem tT_bind {m : Env → R Bool} {f : Bool → Env → R Bool} {Q : Bool → Hp → Prop} {Q' : Bool → Hp → Prop} {σ : L2.St} (h : tT B W (fun ρ => (m ρ).bind f) σ H Q)
    (g : ∀ b H1, tT B W (f b) σ H1 Q → Q' b H1) : tT B W m σ H Q' := by
  obtain ⟨φ, F, ρ, R0, h⟩ := h
  refine ⟨φ, F, ρ, R0, Post.bind h fun b ρ1 _ h φ1 F1 H1 s1 R1 => g b H1 ⟨φ1, F1, ρ1, R1, ?_⟩⟩
  exact Post.mono s1 h fun b' ρ2 z φ2 F2 H2 s2 R2 => z φ2 F2 H2 (s1.trans s2) R2
theorem w_and {rest : List Expr} {m n : Env → R Bool} (ha : PT X a (tT B W m)) (hb : PW X (.BoolOp .And (b :: rest) pos) (tT B W n)) : PW X (.BoolOp .And (a :: b :: rest) pos) (tT B W (mAnd m n)) := by
  refine PW.imp (pw_and ha hb) fun σ H Q h => tT_bind h fun b H1 h => ?_
  cases b with
  | true => rw [if_pos rfl]; exact h
  | false =>
    rw [if_neg Bool.false_ne_true]
    obtain ⟨φ, F, ρ, R0, h⟩ := h
    exact h φ F H1 (Same.refl _) R0
theorem w_or {rest : List Expr} {m n : Env → R Bool} (ha : PT X a (tT B W m)) (hb : PW X (.BoolOp .Or (b :: rest) pos) (tT B W n)) : PW X (.BoolOp .Or (a :: b :: rest) pos) (tT B W (mOr m n)) := by
  refine PW.imp (pw_or ha hb) fun σ H Q h => tT_bind h fun b H1 h => ?_
  cases b with
  | true =>
    rw [if_pos rfl]
    obtain ⟨φ, F, ρ, R0, h⟩ := h
    exact h φ F H1 (Same.refl _) R0
  | false => rw [if_neg Bool.false_ne_true]; exact h
/-- and, or, not, a if t else b as values -/
def eAnd (m n : Env → R D) : Env → R D := fun ρ => (m ρ).bind fun d ρ1 => match d with
  | .bl b => if b = true then n ρ1 else .ok (.bl false) ρ1
  | _ => .no
def eOr (m n : Env → R D) : Env → R D := fun ρ => (m ρ).bind fun d ρ1 => match d with
  | .bl b => if b = true then .ok (.bl true) ρ1 else n ρ1
  | _ => .no
def eNot (m : Env → R D) : Env → R D := fun ρ => (m ρ).bind fun d ρ1 => match d with
  | .bl b => .ok (.bl (!b)) ρ1
  | _ => .no
theorem c_one {op} {m : Env → R D} (h : PE X a (tE B W (kP B.K B) m)) : PE X (.BoolOp op [a] pos) (tE B W (kP B.K B) m) := pe_one h
theorem tE_shift {k : RK} {m : Env → R D} {Q : VK} {σ : L2.St} {φ : Nat → List Addr} {ρ : Env} {F1 : Hp} (s1 : Same F F1) (R1 : Rel B φ ρ σ H F1)
    (h : Post B W σ F (m ρ) fun d ρ' => ∀ v φ' F' H', Same F F' → Rel B φ' ρ' σ H' F' → k φ' F' H' v d → Q v H') : tE B W k m σ H Q :=
  ⟨φ, F1, ρ, R1, Post.mono s1 h fun _ _ z v φ2 F2 H2 s2 R2 k2 => z v φ2 F2 H2 (s1.trans s2) R2 k2⟩
theorem c_and {rest : List Expr} {m n : Env → R D} (ha : PE X a (tE B W (kP B.K B) m)) (hb : PE X (.BoolOp .And (b :: rest) pos) (tE B W (kP B.K B) n)) : PE X (.BoolOp .And (a :: b :: rest) pos) (tE B W (kP B.K B) (eAnd m n)) := by
  refine PE.imp (pe_and ha hb) fun σ H Q h => ?_
  obtain ⟨φ, F, ρ, R0, h⟩ := h
  refine ⟨φ, F, ρ, R0, Post.bind h fun d ρ1 _ h v φ1 F1 H1 s1 R1 k1 => ?_⟩
  cases d <;> try exact h.elim
  rename_i b _
  refine ⟨b, rep_bl k1, ?_⟩
  cases b with
  | true => rw [if_pos rfl]; exact tE_shift s1 R1 h
  | false => rw [if_neg Bool.false_ne_true]; exact h _ φ1 F1 H1 s1 R1 rep_of_bl
theorem c_or {rest : List Expr} {m n : Env → R D} (ha : PE X a (tE B W (kP B.K B) m)) (hb : PE X (.BoolOp .Or (b :: rest) pos) (tE B W (kP B.K B) n)) : PE X (.BoolOp .Or (a :: b :: rest) pos) (tE B W (kP B.K B) (eOr m n)) := by
  refine PE.imp (pe_or ha hb) fun σ H Q h => ?_
  obtain ⟨φ, F, ρ, R0, h⟩ := h
  refine ⟨φ, F, ρ, R0, Post.bind h fun d ρ1 _ h v φ1 F1 H1 s1 R1 k1 => ?_⟩
  cases d <;> try exact h.elim
  rename_i b _
  refine ⟨b, rep_bl k1, ?_⟩
  cases b with
  | true => rw [if_pos rfl]; exact h _ φ1 F1 H1 s1 R1 rep_of_bl
  | false => rw [if_neg Bool.false_ne_true]; exact tE_shift s1 R1 h
theorem c_not {m : Env → R D} (ha : PE X a (tE B W (kP B.K B) m)) : PE X (.UnaryOp .Not a pos) (tE B W (kP B.K B) (eNot m)) := by
  refine PE.imp (pe_not ha) fun σ H Q h => ?_
  obtain ⟨φ, F, ρ, R0, h⟩ := h
  refine ⟨φ, F, ρ, R0, Post.bind h fun d ρ1 _ h v φ1 F1 H1 s1 R1 k1 => ?_⟩
  cases d <;> try exact h.elim
  rename_i b _
  exact ⟨b, rep_bl k1, h _ φ1 F1 H1 s1 R1 rep_of_bl⟩
def eIf (t : Env → R Bool) (m n : Env → R D) : Env → R D := fun ρ => (t ρ).bind fun b ρ1 => if b = true then m ρ1 else n ρ1
theorem c_if {k : RK} {t : Env → R Bool} {m n : Env → R D} (hc : PT X c (tT B W t)) (ha : PE X a (tE B W k m)) (hb : PE X b (tE B W k n)) : PE X (.IfExp c a b pos) (tE B W k (eIf t m n)) := by
  refine PE.imp (pe_ifExp hc ha hb) fun σ H Q h => ?_
  obtain ⟨φ, F, ρ, R0, h⟩ := h
  refine ⟨φ, F, ρ, R0, Post.bind h fun b ρ1 _ h φ1 F1 H1 s1 R1 => ?_⟩
  cases b with
  | true => rw [if_pos rfl]; exact tE_shift s1 R1 h
  | false => rw [if_neg Bool.false_ne_true]; exact tE_shift s1 R1 h
/-- chains a < b < c -/
def eChain (f g : D → D → Option D) (ma mb mc : Env → R D) : Env → R D := fun ρ => (ma ρ).bind fun x ρ1 => (mb ρ1).bind fun y ρ2 => match f x y with
  | some (.bl b) => if b = true then (mc ρ2).bind fun z ρ3 => opt (g y z) ρ3 else .ok (.bl false) ρ2
  | _ => .no
theorem chain {ma mb mc : Env → R D} {r r' : R2} {f g : D → D → Option D} (hf : OpS B r f) (hg : OpS B r' g) : ∀ σ H Q, tE B W (kP B.K B) (eChain f g ma mb mc) σ H Q → tChain r r' (tE B W (kP B.K B) ma) (tE B W (kP B.K B) mb) (tE B W (kP B.K B) mc) σ H Q := by
  intro σ H Q h
  obtain ⟨φ, F, ρ, R0, h⟩ := h
  refine ⟨φ, F, ρ, R0, Post.bind h fun d1 ρ1 _ h v1 φ1 F1 H1 s1 R1 k1 => ?_⟩
  refine ⟨φ1, F1, ρ1, R1, Post.bind (Post.mono s1 h fun _ _ z => z) fun d2 ρ2 _ h v2 φ2 F2 H2 s2 R2 k2 => ?_⟩
  cases qf : f d1 d2 with
  | none => rw [qf] at h; exact h.elim
  | some d =>
    rw [qf] at h
    cases d <;> try exact h.elim
    rename_i b
    refine hf φ2 F2 ρ2 σ H2 v1 v2 d1 d2 _ _ R2 (.inl (Rep.mono s2 _ _ k1)) (.inl k2) qf fun v F3 H3 s3 R3 k3 => ⟨b, rep_bl k3, ?_⟩
    cases b with
    | false => rw [if_neg Bool.false_ne_true]; exact h _ φ2 F3 H3 ((s1.trans s2).trans s3) R3 rep_of_bl
    | true =>
      rw [if_pos rfl]
      refine ⟨φ2, F3, ρ2, R3, Post.bind (Post.mono (s2.trans s3) h fun _ _ z => z) fun d4 ρ4 _ h v4 φ4 F4 H4 s4 R4 k4 => ?_⟩
      obtain ⟨d5, q5, h⟩ := Post.opt h
      exact hg φ4 F4 ρ4 σ H4 v2 v4 d2 d4 d5 Q R4 (.inl (Rep.mono (s3.trans s4) _ _ k2)) (.inl k4) q5 fun v F' H' s5 R5 k5 => h v φ4 F' H' ((((s1.trans s2).trans s3).trans s4).trans s5) R5 k5
theorem c_chain {op op' : CmpOp} {r r' : R2} {f g : D → D → Option D} {ma mb mc : Env → R D} (ho : OpR X (compareOp op) r) (hf : OpS B r f) (ho' : OpR X (compareOp op') r') (hg : OpS B r' g) (ha : PE X a (tE B W (kP B.K B) ma)) (hb : PE X b (tE B W (kP B.K B) mb)) (hc : PE X c (tE B W (kP B.K B) mc))
    (hm : lastMarks [op, op'] [b, c] = false := by with_unfolding_all rfl) :
    PE X (.Compare a [op, op'] [b, c] pos) (tE B W (kP B.K B) (eChain f g ma mb mc)) := PE.imp (pe_chain ho ho' ha hb hc hm) (chain hf hg)
theorem t_chain {op op' : CmpOp} {r r' : R2} {f g : D → D → Option D} {ma mb mc : Env → R D} (ho : OpR X (compareOp op) r) (hf : OpS B r f) (ho' : OpR X (compareOp op') r') (hg : OpS B r' g) (ha : PE X a (tE B W (kP B.K B) ma)) (hb : PE X b (tE B W (kP B.K B) mb)) (hc : PE X c (tE B W (kP B.K B) mc))
    (hm : lastMarks [op, op'] [b, c] = false := by with_unfolding_all rfl) :
    PT X (.Compare a [op, op'] [b, c] pos) (tT B W (mBool (eChain f g ma mb mc))) := by
  refine PT.imp (pt_chain ho ho' ha hb hc hm) fun σ H Q h => ?_
  obtain ⟨φ, F, ρ, R0, h⟩ := h
  refine chain hf hg σ H _ ⟨φ, F, ρ, R0, Post.bind h fun d ρ1 _ h v φ1 F1 H1 s1 R1 k1 => ?_⟩
  cases d <;> try exact h.elim
  exact ⟨_, rep_bl k1, h φ1 F1 H1 s1 R1⟩
end
end Mi

set_option Elab.async false
set_option linter.all false
set_option maxRecDepth 100000
namespace Mi
open PySem L2
section
variable {X : Cx} {B : Bs} {W : WX} {e a b c : Expr} {pos : Pos} {F H : Hp}
theorem atI_rep {ds : List D} {vs : List V} {i : Int} {d : D} (h : RepL B.K B.cd F ds vs) (e : atI ds i = some d) : ∃ v, atI vs i = some v ∧ Rep B.K B.cd F d v := by
  unfold atI at e ⊢
  rw [repL_length h]
  cases q : ixN ds.length i with
  | none => rw [q] at e; cases e
  | some j =>
    rw [q, Option.bind_some] at e
    obtain ⟨v, h1, h2⟩ := repL_get h e
    exact ⟨v, h1, h2⟩
def dIx : D → D → Option D
  | .lst xs, .int i => atI xs i
  | .tup xs, .int i => atI xs i
  | .str z, .int i => if z.length ≤ LIM then (atI z.cps.toList i).map fun c => .str ⟨#[c]⟩ else none
  | _, _ => none
theorem os_ix : OpS B (rIx B.K) dIx := by
  intro φ F ρ σ H x y dx dy d Q R0 hx hy hf k
  cases dx <;> cases dy <;> simp only [dIx] at hf <;> try cases hf
  · obtain rfl := rh_str hx
    obtain rfl := rh_int hy
    split at hf
    · rename_i hl
      simp only [Option.map_eq_some_iff] at hf
      obtain ⟨c, e, rfl⟩ := hf
      exact .inr (.inr ⟨_, _, c, rfl, rfl, lim_ok hl, e, k _ F H (Same.refl _) R0 rep_of_str⟩)
    · cases hf
  · obtain ⟨p, vs, rfl, hp, hv⟩ := rh_tup hx
    obtain rfl := rh_int hy
    obtain ⟨v, h1, h2⟩ := atI_rep hv hf
    exact .inr (.inl ⟨p, vs, _, v, rfl, rfl, sqt_mono R0.sub hp, h1, k _ F H (Same.refl _) R0 h2⟩)
  · obtain ⟨p, vs, rfl, hp, hv⟩ := rh_lst R0.sub hx
    obtain rfl := rh_int hy
    obtain ⟨v, h1, h2⟩ := atI_rep hv hf
    exact .inl ⟨p, vs, _, v, rfl, rfl, .inl (.inl hp), h1, k _ F H (Same.refl _) R0 h2⟩
theorem c_ix {ma mb : Env → R D} (hK : X.K = B.K) (hs : PlainIx b) (ha : PE X a (tE B W (kP B.K B) ma)) (hb : PE X b (tE B W (kP B.K B) mb)) : PE X (.Subscript a b pos) (tE B W (kP B.K B) (e2 dIx ma mb)) := by
  have h := pe_ix (pos := pos) ix_seq ha hb hs
  rw [hK] at h
  exact PE.imp h (two os_ix)
def cut {α : Type} (xs : List α) (lo hi : Option Int) : List α := (xs.drop (HT.sIx xs.length 0 lo)).take (HT.sIx xs.length xs.length hi - HT.sIx xs.length 0 lo)
theorem cut_rep {ds : List D} {vs : List V} (lo hi : Option Int) (h : RepL B.K B.cd F ds vs) : RepL B.K B.cd F (cut ds lo hi) (cutV vs lo hi) := by
  unfold cut cutV
  rw [repL_length h]
  exact repL_take _ (repL_drop _ h)
def dSl (lo hi : Option Int) : D → Option D
  | .lst xs => some (.lst (cut xs lo hi))
  | .tup xs => some (.tup (cut xs lo hi))
  | .str z => if z.length ≤ LIM then some (.str (cutS z lo hi)) else none
  | _ => none
def rSlU (K : PySem.W.Frag) : V → Option Int → Option Int → Hp → VK → Prop := fun x lo hi H Q => rSlL K x lo hi H Q ∨ (rSlA K x lo hi H Q ∨ rSlS x lo hi H Q)
theorem sr_sl : SlR X (rSlU X.K) := SlR.or sl_list (SlR.or sl_tupA sl_str)
theorem cut_whole {α : Type} {xs : List α} {lo hi : Option Int} (h : HT.sIx xs.length 0 lo = 0 ∧ HT.sIx xs.length xs.length hi = xs.length) : cut xs lo hi = xs := by
  unfold cut
  rw [h.1, h.2]
  simp
theorem sl_ok (lo hi : Option Int) : UnS B (fun x H Q => rSlU B.K x lo hi H Q) (dSl lo hi) := by
  intro φ F ρ σ H x dx d Q R0 hx hf k
  cases dx <;> simp only [dSl] at hf <;> try cases hf
  · obtain rfl := rh_str hx
    split at hf <;> cases hf
    rename_i hl
    exact .inr (.inr ⟨_, rfl, lim_ok hl, k _ F H (Same.refl _) R0 rep_of_str⟩)
  · obtain ⟨p, vs, rfl, hp, hv⟩ := rh_tup hx
    have hl := repL_length hv
    refine .inr (.inl ⟨p, vs, rfl, sqt_mono R0.sub hp, fun e => ?_, fun e t ht => ?_⟩)
    · rw [hl] at e
      rw [cut_whole e] at k
      exact k _ F H (Same.refl _) R0 (rh_plain hx fun _ e => by cases e)
    · obtain ⟨r, s, g⟩ := R0.mkTup (cut_rep lo hi hv) ht
      exact k _ _ _ s r g
  · obtain ⟨p, vs, rfl, hp, hv⟩ := rh_lst R0.sub hx
    refine .inl ⟨p, vs, rfl, .inl (.inl hp), fun t ht => ?_⟩
    obtain ⟨r, s, g⟩ := R0.mkLst (cut_rep lo hi hv) ht
    exact k _ _ _ s r g
def tO (B : Bs) (W : WX) (m : Env → R (Option Int)) : TO := fun σ H Q => ∃ φ F ρ, Rel B φ ρ σ H F ∧ Post B W σ F (m ρ) fun o ρ' => ∀ φ' F' H', Same F F' → Rel B φ' ρ' σ H' F' → Q o H'
def oNone : Env → R (Option Int) := fun ρ => .ok none ρ
def oSome (m : Env → R D) : Env → R (Option Int) := fun ρ => (m ρ).bind fun d ρ1 => match d with
  | .int i => .ok (some i) ρ1
  | _ => .no
theorem PO.imp {e : Option Expr} {t t' : TO} (h : PO X e t) (j : ∀ σ H Q, t' σ H Q → t σ H Q) : PO X e t' := ⟨fun pins s σ H Q I q => h.run pins s σ H Q I (j _ _ _ q)⟩
theorem o_none : PO X none (tO B W oNone) := by
  refine PO.imp po_none fun σ H Q h => ?_
  obtain ⟨φ, F, ρ, R0, h⟩ := h
  exact h φ F H (Same.refl _) R0
theorem o_some {m : Env → R D} (h : PE X e (tE B W (kP B.K B) m)) : PO X (some e) (tO B W (oSome m)) := by
  refine PO.imp (po_some h) fun σ H Q h => ?_
  obtain ⟨φ, F, ρ, R0, h⟩ := h
  refine ⟨φ, F, ρ, R0, Post.bind h fun d ρ1 _ h v φ1 F1 H1 s1 R1 k1 => ?_⟩
  cases d <;> try exact h.elim
  exact ⟨_, rep_int k1, h φ1 F1 H1 s1 R1⟩
def eSl (m : Env → R D) (lo hi : Env → R (Option Int)) : Env → R D := fun ρ => (m ρ).bind fun d ρ1 => (lo ρ1).bind fun l ρ2 => (hi ρ2).bind fun u ρ3 => opt (dSl l u d) ρ3
theorem c_sl {lo hi : Option Expr} {p2 : Pos} {m : Env → R D} {ml mu : Env → R (Option Int)} (hK : X.K = B.K) (he : PE X e (tE B W (kP B.K B) m)) (hl : PO X lo (tO B W ml)) (hu : PO X hi (tO B W mu)) :
    PE X (.Subscript e (.Slice lo hi none p2) pos) (tE B W (kP B.K B) (eSl m ml mu)) := by
  have h := pe_slice (pos := pos) (p2 := p2) sr_sl he hl hu
  rw [hK] at h
  refine PE.imp h fun σ H Q h => ?_
  obtain ⟨φ, F, ρ, R0, h⟩ := h
  refine ⟨φ, F, ρ, R0, Post.bind h fun d ρ1 _ h v φ1 F1 H1 s1 R1 k1 => ?_⟩
  refine ⟨φ1, F1, ρ1, R1, Post.bind (Post.mono s1 h fun _ _ z => z) fun l ρ2 _ h φ2 F2 H2 s2 R2 => ?_⟩
  refine ⟨φ2, F2, ρ2, R2, Post.bind (Post.mono s2 h fun _ _ z => z) fun u ρ3 _ h φ3 F3 H3 s3 R3 => ?_⟩
  obtain ⟨r, qf, h⟩ := Post.opt h
  exact sl_ok l u φ3 F3 ρ3 σ H3 v d r Q R3 (.inl (Rep.mono (s2.trans s3) _ _ k1)) qf fun v F' H' s4 R4 k4 => h v φ3 F' H' (((s1.trans s2).trans s3).trans s4) R4 k4
/-- where classes keep the field f -/
def FldOk (K : PySem.W.Frag) (cd : CD) (f : Str) (fx : Nat → Option Nat) : Prop := ∀ c j, fx c = some j → ∃ I, cd c = some I ∧ Cls K I.C ∧ NoAttr K I.C f ∧ I.ns[j]? = some f ∧ I.ns.Nodup
theorem lookup_zip {f : Str} : ∀ {ns : List Str} {vs : List V} {j : Nat} {v : V}, ns.Nodup → ns[j]? = some f → vs[j]? = some v → (ns.zip vs).lookup f = some v
  | [], _, _, _, _, h, _ => by simp at h
  | n :: ns, [], _, _, _, _, h => by simp at h
  | n :: ns, w :: vs, 0, v, _, h1, h2 => by
    simp at h1 h2; subst h1 h2
    simp
  | n :: ns, w :: vs, j + 1, v, nd, h1, h2 => by
    have h1' : ns[j]? = some f := by simpa using h1
    have h2' : vs[j]? = some v := by simpa using h2
    have hne : ¬ f = n := fun e => (List.nodup_cons.mp nd).1 (e ▸ List.mem_of_getElem? h1')
    simp only [List.zip_cons_cons, List.lookup_cons]
    rw [show (f == n) = false from beq_eq_false_iff_ne.mpr hne]
    exact lookup_zip (List.nodup_cons.mp nd).2 h1' h2'
theorem lookup_zip_none {f : Str} : ∀ {ns : List Str} {vs : List V}, f ∉ ns → (ns.zip vs).lookup f = none
  | [], _, _ => by simp
  | n :: ns, [], _ => by simp
  | n :: ns, w :: vs, h => by
    have hne : ¬ f = n := fun e => h (by simp [e])
    simp only [List.zip_cons_cons, List.lookup_cons]
    rw [show (f == n) = false from beq_eq_false_iff_ne.mpr hne]
    exact lookup_zip_none fun hm => h (by simp [hm])
def dFld (fx : Nat → Option Nat) : D → Option D
  | .obj c ds => match fx c with
    | some j => ds[j]?
    | none => none
  | _ => none
theorem c_fld {f : Str} {fx : Nat → Option Nat} {m : Env → R D} (hK : X.K = B.K) (hf : FldOk B.K B.cd f fx) (he : PE X e (tE B W (kP B.K B) m)) (hb : attributeBase e f X.env (eval e X.env) = eval e X.env := by rfl) :
    PE X (.Attribute e f pos) (tE B W (kP B.K B) (e1 (dFld fx) m)) := by
  have h := pe_fld (pos := pos) he hb
  rw [hK] at h
  refine PE.imp h fun σ H Q h => ?_
  obtain ⟨φ, F, ρ, R0, h⟩ := h
  refine ⟨φ, F, ρ, R0, Post.bind h fun d ρ1 _ h v φ1 F1 H1 s1 R1 k1 => ?_⟩
  obtain ⟨r, qf, hk⟩ := Post.opt h
  clear h
  cases d <;> simp only [dFld] at qf <;> try cases qf
  rename_i c ds _
  cases q : fx c with
  | none => rw [q] at qf; cases qf
  | some j =>
    rw [q] at qf
    obtain ⟨I, hc, h1, h2, h3, h4⟩ := hf c j q
    obtain ⟨a, dx, I', vs, rfl, hc', hF, hv⟩ := rep_obj k1
    rw [hc] at hc'; cases hc'
    obtain ⟨w, hw, rw'⟩ := repL_get hv qf
    exact ⟨a, I.C, dx, _, w, rfl, R1.sub _ _ hF, h1, h2, lookup_zip h4 h3 hw, hk w φ1 F1 H1 s1 R1 rw'⟩
theorem rhl1 {d : D} {vs : List V} (h : RepHL B F H [d] vs) : ∃ v, vs = [v] ∧ RepH B F H d v := by
  simp only [RepHL] at h
  obtain ⟨v, ws, rfl, h1, rfl⟩ := h
  exact ⟨v, rfl, h1⟩
theorem rhl2 {d d' : D} {vs : List V} (h : RepHL B F H [d, d'] vs) : ∃ v v', vs = [v, v'] ∧ RepH B F H d v ∧ RepH B F H d' v' := by
  simp only [RepHL] at h
  obtain ⟨v, ws, rfl, h1, v', ws', rfl, h2, rfl⟩ := h
  exact ⟨v, v', rfl, h1, h2⟩
def fLen : List D → Option D
  | [.str z] => if z.length ≤ LIM then some (.int z.length) else none
  | [.lst xs] => some (.int xs.length)
  | [.tup xs] => some (.int xs.length)
  | _ => none
theorem cs_len : CallS B (fun xs H Q => ∃ x n, xs = [x] ∧ LenV B.K x H n ∧ Q (.int n) H) fLen := by
  intro φ F ρ σ H xs dxs d Q R0 hx hf k
  unfold fLen at hf
  split at hf <;> try cases hf
  · obtain ⟨v, rfl, hv⟩ := rhl1 hx
    obtain rfl := rh_str hv
    split at hf <;> cases hf
    rename_i hl
    exact ⟨_, _, rfl, ⟨lim_ok hl, rfl⟩, k _ F H (Same.refl _) R0 rep_of_int⟩
  · obtain ⟨v, rfl, hv⟩ := rhl1 hx
    obtain ⟨p, vs, rfl, hp, hv⟩ := rh_lst R0.sub hv
    refine ⟨_, vs.length, rfl, .inl ⟨vs, .inl (.inl hp), rfl⟩, ?_⟩
    rw [repL_length hv]
    exact k _ F H (Same.refl _) R0 rep_of_int
  · obtain ⟨v, rfl, hv⟩ := rhl1 hx
    obtain ⟨p, vs, rfl, hp, hv⟩ := rh_tup hv
    refine ⟨_, vs.length, rfl, .inr ⟨vs, sqt_mono R0.sub hp, rfl⟩, ?_⟩
    rw [repL_length hv]
    exact k _ F H (Same.refl _) R0 rep_of_int
def fAbs : List D → Option D
  | [.int i] => some (.int (if i < 0 then -i else i))
  | _ => none
theorem cs_abs : CallS B (fun xs H Q => ∃ i, xs = [.int i] ∧ Q (.int (if i < 0 then -i else i)) H) fAbs := by
  intro φ F ρ σ H xs dxs d Q R0 hx hf k
  unfold fAbs at hf
  split at hf <;> cases hf
  obtain ⟨v, rfl, hv⟩ := rhl1 hx
  obtain rfl := rh_int hv
  exact ⟨_, rfl, k _ F H (Same.refl _) R0 rep_of_int⟩
def fInt : List D → Option D
  | [.int i] => some (.int i)
  | [.bl b] => some (.int (if b then 1 else 0))
  | _ => none
theorem cs_int : CallS B (fun xs H Q => (∃ i, xs = [.int i] ∧ Q (.int i) H) ∨ ∃ k, xs = [.bl k] ∧ Q (.int (if k then 1 else 0)) H) fInt := by
  intro φ F ρ σ H xs dxs d Q R0 hx hf k
  unfold fInt at hf
  split at hf <;> cases hf
  · obtain ⟨v, rfl, hv⟩ := rhl1 hx
    obtain rfl := rh_int hv
    exact .inl ⟨_, rfl, k _ F H (Same.refl _) R0 rep_of_int⟩
  · obtain ⟨v, rfl, hv⟩ := rhl1 hx
    obtain rfl := rh_bl hv
    exact .inr ⟨_, rfl, k _ F H (Same.refl _) R0 rep_of_int⟩
def fStrI : List D → Option D
  | [.int i] => if i.natAbs.log2 < 1920 then some (.str (toString i)) else none
  | _ => none
theorem cs_strI : CallS B (fun xs H Q => ∃ i, xs = [.int i] ∧ i.natAbs.log2 < 1920 ∧ Q (.str (toString i)) H) fStrI := by
  intro φ F ρ σ H xs dxs d Q R0 hx hf k
  unfold fStrI at hf
  split at hf
  · split at hf <;> cases hf
    rename_i hl
    obtain ⟨v, rfl, hv⟩ := rhl1 hx
    obtain rfl := rh_int hv
    exact ⟨_, rfl, hl, k _ F H (Same.refl _) R0 rep_of_str⟩
  · cases hf
def fDivmod : List D → Option D
  | [.int i, .int j] => if 0 < j ∧ j < 1073741824 then some (.tup [.int (i / j), .int (i % j)]) else none
  | _ => none
theorem cs_divmod : CallS B (fun xs H Q => ∃ i j, xs = [.int i, .int j] ∧ CDiv i j ∧ ∀ p, H p = none → Q (.ref p) (upd H p (.tup [.int (i / j), .int (i % j)]))) fDivmod := by
  intro φ F ρ σ H xs dxs d Q R0 hx hf k
  unfold fDivmod at hf
  split at hf
  · split at hf <;> cases hf
    rename_i hl
    obtain ⟨v, v', rfl, hv, hv'⟩ := rhl2 hx
    obtain rfl := rh_int hv
    obtain rfl := rh_int hv'
    refine ⟨_, _, rfl, hl, fun t ht => ?_⟩
    obtain ⟨r, s, g⟩ := R0.mkTup (repL_cons rep_of_int (repL_cons rep_of_int repL_nil)) ht
    exact k _ _ _ s r g
  · cases hf
/-- lists of truth values, ints, texts -/
def blsOf : List D → Option (List Bool)
  | [] => some []
  | .bl b :: ds => (blsOf ds).map (b :: ·)
  | _ => none
def intsOf : List D → Option (List Int)
  | [] => some []
  | .int b :: ds => (intsOf ds).map (b :: ·)
  | _ => none
def strsOf : List D → Option (List Str)
  | [] => some []
  | .str b :: ds => (strsOf ds).map (b :: ·)
  | _ => none
theorem bls_rep : ∀ {ds : List D} {vs : List V} {bs : List Bool}, RepL B.K B.cd F ds vs → blsOf ds = some bs → vs = bs.map V.bl
  | [], vs, bs, h, e => by simp only [RepL] at h; simp only [blsOf, Option.some.injEq] at e; subst h e; rfl
  | d :: ds, vs, bs, h, e => by
    simp only [RepL] at h
    obtain ⟨v, ws, rfl, h1, h2⟩ := h
    cases d <;> simp only [blsOf] at e <;> try cases e
    simp only [Option.map_eq_some_iff] at e
    obtain ⟨cs, e1, rfl⟩ := e
    rw [bls_rep h2 e1, rep_bl h1]; rfl
theorem ints_rep : ∀ {ds : List D} {vs : List V} {bs : List Int}, RepL B.K B.cd F ds vs → intsOf ds = some bs → vs = bs.map V.int
  | [], vs, bs, h, e => by simp only [RepL] at h; simp only [intsOf, Option.some.injEq] at e; subst h e; rfl
  | d :: ds, vs, bs, h, e => by
    simp only [RepL] at h
    obtain ⟨v, ws, rfl, h1, h2⟩ := h
    cases d <;> simp only [intsOf] at e <;> try cases e
    simp only [Option.map_eq_some_iff] at e
    obtain ⟨cs, e1, rfl⟩ := e
    rw [ints_rep h2 e1, rep_int h1]; rfl
theorem strs_rep : ∀ {ds : List D} {vs : List V} {bs : List Str}, RepL B.K B.cd F ds vs → strsOf ds = some bs → vs = bs.map V.str
  | [], vs, bs, h, e => by simp only [RepL] at h; simp only [strsOf, Option.some.injEq] at e; subst h e; rfl
  | d :: ds, vs, bs, h, e => by
    simp only [RepL] at h
    obtain ⟨v, ws, rfl, h1, h2⟩ := h
    cases d <;> simp only [strsOf] at e <;> try cases e
    simp only [Option.map_eq_some_iff] at e
    obtain ⟨cs, e1, rfl⟩ := e
    rw [strs_rep h2 e1, rep_str h1]; rfl
def fAll : List D → Option D
  | [.lst xs] => (blsOf xs).map fun bs => .bl (bs.all id)
  | _ => none
def fAny : List D → Option D
  | [.lst xs] => (blsOf xs).map fun bs => .bl (bs.any id)
  | _ => none
def fSum : List D → Option D
  | [.lst xs] => (intsOf xs).map fun bs => .int bs.sum
  | _ => none
theorem cs_all : CallS B (rAll B.K) fAll := by
  intro φ F ρ σ H xs dxs d Q R0 hx hf k
  unfold fAll at hf
  split at hf
  · simp only [Option.map_eq_some_iff] at hf
    obtain ⟨bs, e, rfl⟩ := hf
    obtain ⟨v, rfl, hv⟩ := rhl1 hx
    obtain ⟨p, vs, rfl, hp, hv⟩ := rh_lst R0.sub hv
    have := bls_rep hv e
    subst this
    exact ⟨p, bs, rfl, .inl (.inl hp), k _ F H (Same.refl _) R0 rep_of_bl⟩
  · cases hf
theorem cs_any : CallS B (rAny B.K) fAny := by
  intro φ F ρ σ H xs dxs d Q R0 hx hf k
  unfold fAny at hf
  split at hf
  · simp only [Option.map_eq_some_iff] at hf
    obtain ⟨bs, e, rfl⟩ := hf
    obtain ⟨v, rfl, hv⟩ := rhl1 hx
    obtain ⟨p, vs, rfl, hp, hv⟩ := rh_lst R0.sub hv
    have := bls_rep hv e
    subst this
    exact ⟨p, bs, rfl, .inl (.inl hp), k _ F H (Same.refl _) R0 rep_of_bl⟩
  · cases hf
theorem cs_sum : CallS B (rSum B.K) fSum := by
  intro φ F ρ σ H xs dxs d Q R0 hx hf k
  unfold fSum at hf
  split at hf
  · simp only [Option.map_eq_some_iff] at hf
    obtain ⟨bs, e, rfl⟩ := hf
    obtain ⟨v, rfl, hv⟩ := rhl1 hx
    obtain ⟨p, vs, rfl, hp, hv⟩ := rh_lst R0.sub hv
    have := ints_rep hv e
    subst this
    exact ⟨p, bs, rfl, .inl (.inl hp), k _ F H (Same.refl _) R0 rep_of_int⟩
  · cases hf
/-- list(x), tuple(x) -/
def rListS (K : PySem.W.Frag) : List V → Hp → VK → Prop := fun xs H Q => ∃ p ys, xs = [.ref p] ∧ (SqL K H p ys ∨ SqT K H p ys) ∧ ∀ l, H l = none → Q (.ref l) (upd H l (.lst ys))
def rTupS (K : PySem.W.Frag) : List V → Hp → VK → Prop := fun xs H Q => ∃ p ys, xs = [.ref p] ∧ ((SqL K H p ys ∧ ∀ l, H l = none → Q (.ref l) (upd H l (.tup ys))) ∨ (SqT K H p ys ∧ Q (.ref p) H))
theorem cr_list : CallR X (.type "list") (rListS X.K) := call_list_of
theorem cr_tup : CallR X (.type "tuple") (rTupS X.K) := call_tuple_of
def fList : List D → Option (List D)
  | [.lst xs] => some xs
  | [.tup xs] => some xs
  | [.scr ns] => some (ns.map .int)
  | _ => none
theorem ints_repL : ∀ ns : List Int, RepL B.K B.cd F (ns.map D.int) (ns.map V.int)
  | [] => repL_nil
  | n :: ns => repL_cons rep_of_int (ints_repL ns)
theorem list_arg {dxs : List D} {xs : List V} {ys : List D} (s : Same F H) (hx : RepHL B F H dxs xs) (hf : fList dxs = some ys) : ∃ p vs, xs = [.ref p] ∧ (SqL B.K H p vs ∨ SqT B.K H p vs) ∧ RepL B.K B.cd F ys vs := by
  unfold fList at hf
  split at hf <;> cases hf
  · obtain ⟨v, rfl, hv⟩ := rhl1 hx
    obtain ⟨p, vs, rfl, hp, hv⟩ := rh_lst s hv
    exact ⟨p, vs, rfl, .inl (.inl (.inl hp)), hv⟩
  · obtain ⟨v, rfl, hv⟩ := rhl1 hx
    obtain ⟨p, vs, rfl, hp, hv⟩ := rh_tup hv
    exact ⟨p, vs, rfl, .inr (sqt_mono s hp), hv⟩
  · obtain ⟨v, rfl, hv⟩ := rhl1 hx
    replace hv := rh_plain hv fun _ e => by cases e
    simp only [Rep] at hv
    obtain ⟨p, rfl, hp⟩ := hv
    exact ⟨p, _, rfl, .inl (sql_mono s hp), ints_repL _⟩
theorem cs_list : CallS B (rListS B.K) (fun ds => (fList ds).map .lst) := by
  intro φ F ρ σ H xs dxs d Q R0 hx hf k
  simp only [Option.map_eq_some_iff] at hf
  obtain ⟨ys, e, rfl⟩ := hf
  obtain ⟨p, vs, rfl, h1, h2⟩ := list_arg R0.sub hx e
  refine ⟨p, vs, rfl, h1, fun t ht => ?_⟩
  obtain ⟨r, s, g⟩ := R0.mkLst h2 ht
  exact k _ _ _ s r g
def fTup : List D → Option D
  | [.lst xs] => some (.tup xs)
  | [.tup xs] => some (.tup xs)
  | _ => none
theorem cs_tup : CallS B (rTupS B.K) fTup := by
  intro φ F ρ σ H xs dxs d Q R0 hx hf k
  unfold fTup at hf
  split at hf <;> cases hf
  · obtain ⟨v, rfl, hv⟩ := rhl1 hx
    obtain ⟨p, vs, rfl, hp, hv⟩ := rh_lst R0.sub hv
    refine ⟨p, vs, rfl, .inl ⟨.inl (.inl hp), fun t ht => ?_⟩⟩
    obtain ⟨r, s, g⟩ := R0.mkTup hv ht
    exact k _ _ _ s r g
  · obtain ⟨v, rfl, hv⟩ := rhl1 hx
    obtain ⟨p, vs, rfl, hp, hv'⟩ := rh_tup hv
    exact ⟨p, vs, rfl, .inr ⟨sqt_mono R0.sub hp, k _ F H (Same.refl _) R0 (rh_plain hv fun _ e => by cases e)⟩⟩
/-- the same with a list of one's own as the result -/
def CallO (B : Bs) (r : List V → Hp → VK → Prop) (f : List D → Option D) : Prop := ∀ φ F ρ σ H xs dxs d (Q : VK), Rel B φ ρ σ H F → RepHL B F H dxs xs → f dxs = some d →
  (∀ v F' H', Same F F' → Rel B φ ρ σ H' F' → kO B.K B φ F' H' v d → Q v H') → r xs H Q
theorem co_list : CallO B (rListS B.K) (fun ds => (fList ds).map .lst) := by
  intro φ F ρ σ H xs dxs d Q R0 hx hf k
  simp only [Option.map_eq_some_iff] at hf
  obtain ⟨ys, e, rfl⟩ := hf
  obtain ⟨p, vs, rfl, h1, h2⟩ := list_arg R0.sub hx e
  refine ⟨p, vs, rfl, h1, fun t ht => ?_⟩
  obtain ⟨r, g⟩ := R0.mkO h2 ht
  exact k _ _ _ (Same.refl _) r g
theorem argsO {ma : Env → R (List D)} {r : List V → Hp → VK → Prop} {f : List D → Option D} (hf : CallO B r f) : ∀ σ H Q, tE B W (kO B.K B) (eB f ma) σ H Q → tCB r (tA B W ma) σ H Q := by
  intro σ H Q h
  obtain ⟨φ, F, ρ, R0, h⟩ := h
  refine ⟨φ, F, ρ, R0, Post.bind h fun ds ρ1 _ h vs φ1 F1 H1 s1 R1 k1 => ?_⟩
  obtain ⟨d, qf, h⟩ := Post.opt h
  exact hf φ1 F1 ρ1 σ H1 vs ds d Q R1 (repHL_of k1) qf fun v F' H' s3 R3 k3 => h v φ1 F' H' (s1.trans s3) R3 k3
theorem c_callTyO {x : Str} {es : List Expr} {p : Pos} {T : String} {r : List V → Hp → VK → Prop} {f : List D → Option D} {ma : Env → R (List D)} (hc : CallR X (.type T) r) (hf : CallO B r f) (hg : Gl X x) (hm : X.mg x = none) (hv : bootBuiltins x = some (.type T)) (ha : PA X (e :: es) (tA B W ma))
    (hn : x ≠ "__name__" := by decide) (hdb : (x == ("__debug__" : Str)) = false := by decide) (he : starEach (e :: es) X.env = (false, eval e X.env) :: starEach es X.env := by rfl) (hpl : (backTo pos (starEach es X.env)).any (·.1) = false := by rfl) :
    PE X (.Call (.Name x p) (e :: es) [] pos) (tE B W (kO B.K B) (eB f ma)) := PE.imp (pe_callTy hc hg hm hv ha hn hdb he hpl) (argsO hf)
def IsiOk (B : Bs) (u : Value) (f : D → Option Bool) : Prop := ∀ (F H : Hp) (d : D) (x : V) (b : Bool), Same F H → RepH B F H d x → f d = some b → ∃ t, TyX B.K H x t ∧ PySem.W.kitOne B.K t u = some b
def tyD : D → Option String
  | .non => some "NoneType" | .bl _ => some "bool" | .int _ => some "int" | .str _ => some "str" | .tup _ => some "tuple" | .lst _ => some "list" | .dct _ _ => some "dict" | _ => none
theorem tyX_of {d : D} {x : V} {n : String} (s : Same F H) (h : RepH B F H d x) (e : tyD d = some n) : TyX B.K H x (.type n) := by
  cases d <;> simp only [tyD, Option.some.injEq] at e <;> (try cases e)
  · rw [rh_non h]; exact .base .non
  · rw [rh_bl h]; exact .base (.bl _)
  · rw [rh_int h]; exact .base (.int _)
  · rw [rh_str h]; exact .base (.str _)
  · obtain ⟨p, vs, rfl, hp, hv⟩ := rh_tup h
    rcases hp with (hp | ⟨o, hp⟩) | ⟨o, its, n, h1, h2, _⟩
    · exact .base (.tup (s _ _ hp))
    · exact .fTuple (s _ _ hp)
    · exact .kTuple h1 h2
  · obtain ⟨p, vs, rfl, hp, hv⟩ := rh_lst s h
    exact .base (.lst hp)
  · replace h := rh_plain h fun _ e => by cases e
    simp only [Rep] at h
    obtain ⟨p, vs, rfl, hp, hn, hv⟩ := h
    exact .base (.dK (s _ _ hp))
def fIsi (f : D → Option Bool) : List D → Option D
  | [d, .non] => (f d).map .bl
  | _ => none
theorem isi_args {ma : Env → R D} {c : V} {u : Value} {f : D → Option Bool} {r : Env → R D} (hi : IsiOk B u f) (hc : ClsV c u) :
    ∀ σ H Q, tE B W (kP B.K B) (e1 (fun d => (f d).map .bl) ma) σ H Q → tCB (rIsi B.K) (tCons (tE B W (kP B.K B) ma) (tCons (tC c) tNil)) σ H Q := by
  intro σ H Q h
  obtain ⟨φ, F, ρ, R0, h⟩ := h
  refine ⟨φ, F, ρ, R0, Post.bind h fun d ρ1 _ h v φ1 F1 H1 s1 R1 k1 => ?_⟩
  obtain ⟨r, qf, h⟩ := Post.opt h
  simp only [Option.map_eq_some_iff] at qf
  obtain ⟨b, q, rfl⟩ := qf
  obtain ⟨t, h1, h2⟩ := hi F1 H1 d v b R1.sub (.inl k1) q
  exact ⟨v, c, t, u, b, rfl, hc, h1, h2, h _ φ1 F1 H1 s1 R1 rep_of_bl⟩
theorem c_isi {p p2 : Pos} {x : Expr} {ma : Env → R D} {c : V} {u : Value} {f : D → Option Bool} (hK : X.K = B.K) (hi : IsiOk B u f) (hc : ClsV c u) (hx : PE X x (tC c)) (hg : Gl X "isinstance") (hm : X.mg "isinstance" = none) (ha : PE X e (tE B W (kP B.K B) ma))
    (hs : starEach (e :: [x]) X.env = (false, eval e X.env) :: starEach [x] X.env := by rfl) (hs2 : starEach (x :: []) X.env = (false, eval x X.env) :: starEach [] X.env := by rfl) :
    PE X (.Call (.Name "isinstance" p) [e, x] [] pos) (tE B W (kP B.K B) (e1 (fun d => (f d).map .bl) ma)) := by
  have h := pe_callB (p := p) (pos := pos) call_isi hg hm (by decide +kernel) (pa_cons ha (pa_cons hx pa_nil hs2) hs)  (by decide) (by decide) hs (by rw [hs2]; rfl)
  rw [hK] at h
  exact PE.imp h (isi_args (r := ma) hi hc)
def isiB (T : String) (d : D) : Option Bool := match tyD d with
  | some n => kitB n T
  | none => none
theorem isi_ty (T : String) : IsiOk B (.type T) (isiB T) := by
  intro F H d x b s h e
  unfold isiB at e
  cases q : tyD d with
  | none => rw [q] at e; cases e
  | some n =>
    rw [q] at e
    exact ⟨_, tyX_of s h q, kit_ty e⟩
end
end Mi

set_option Elab.async false
set_option linter.all false
set_option maxRecDepth 100000
namespace Mi
open PySem L2

inductive FR where
  | ok (d : D) (out : Option D)
  | ex (c : Nat) (fs : List D) (out : Option D)
  | no

structure ArgsM (K : PySem.W.Frag) (cd : CD) (pm : List Md) (F H : Hp) (vs : List V) (ds : List D) (φ : Nat → List Addr) : Prop where
  lv : vs.length = pm.length
  ld : ds.length = pm.length
  pl : ∀ (i : Nat) v d, pm[i]? = some Md.p → vs[i]? = some v → ds[i]? = some d → Rep K cd F d v
  ow : ∀ (i : Nat) m v d, pm[i]? = some m → m ≠ Md.p → vs[i]? = some v → ds[i]? = some d → ∃ a, v = .ref a ∧ ORep K cd F H d a (φ i)
  und : ∀ (i : Nat), pm[i]? = some Md.p ∨ pm.length ≤ i → φ i = []
  fr : ∀ (i : Nat), pm[i]? = some Md.o → ∀ b ∈ φ i, F b = none
  dj : ∀ (i j : Nat), i ≠ j → pm[i]? = some Md.o → ∀ b ∈ φ i, b ∉ φ j
structure Back (K : PySem.W.Frag) (cd : CD) (pm : List Md) (vs : List V) (φ : Nat → List Addr) (F H F' H' : Hp) (out : Option D) (fp : List Addr) : Prop where
  sf : Same F F'
  sub : Same F' H'
  keep : ∀ c u, H c = some u → (∀ (i : Nat), pm[i]? = some Md.o → c ∉ φ i) → H' c = some u
  dom : ∀ c, H c ≠ none → H' c ≠ none
  fres : ∀ c, F' c ≠ none → F c ≠ none ∨ H c = none
  out : ∀ (i : Nat), pm[i]? = some Md.o → ∃ d a, out = some d ∧ vs[i]? = some (.ref a) ∧ ORep K cd F' H' d a fp ∧ ∀ b ∈ fp, F' b = none ∧ (b ∈ φ i ∨ H b = none)
def OwnR (K : PySem.W.Frag) (cd : CD) (F' H' H : Hp) (fp : List Addr) (v : V) (d : D) : Prop := ∃ a fq, v = .ref a ∧ ORep K cd F' H' d a fq ∧ ∀ b ∈ fq, F' b = none ∧ H b = none ∧ b ∉ fp
/-- the promise: fn tells what comes of the data; rk: the result is a new one of the caller's own -/
def spM (K : PySem.W.Frag) (cd : CD) (pm : List Md) (rk : Bool) (fn : List D → FR) : Sp := fun vs H Q E => ∃ ds F φ, Same F H ∧ ArgsM K cd pm F H vs ds φ ∧ match fn ds with
  | .ok d out => ∀ v F' H' fp, Back K cd pm vs φ F H F' H' out fp → (rk = false → Rep K cd F' d v) → (rk = true → OwnR K cd F' H' H fp v d) → Q v H'
  | .ex c fs out => ∀ F' H' fp dx I ws, Back K cd pm vs φ F H F' H' out fp → cd c = some I → H' dx = some (.xd (I.ns.zip ws)) → RepL K cd F' fs ws → E (.ref I.C) (some dx) H'
  | .no => False

/-- what is known of a context in which a body runs -/
structure Gd (X : Cx) (B : Bs) (W : WX) (n : Nat) : Prop where
  hK : X.K = B.K
  calm : X.calm = true
  tk : Takes X W
  hp : PassesOwn (model X.prog X.w) X.A X.env X.xe
  nd : X.N.Nodup
  room : Room n X.A
theorem Gd.hu {X : Cx} {B : Bs} {W : WX} {n : Nat} (g : Gd X B W n) : X.A.units + 65 < cLine := by have := g.room.un; omega
def outOf : List Md → Env → Option D
  | .o :: _, o :: _ => o
  | _ :: pm, _ :: ρ => outOf pm ρ
  | _, _ => none
def start0 (n : Nat) (ds : List D) : Env := ds.map some ++ List.replicate (n - ds.length) none
def runDef (rk : Bool) (n : Nat) (pm : List Md) (m : Env → R Flow) (ds : List D) : FR := match m (start0 n ds) with
  | .ok .nx ρ => if rk = true then .no else .ok .non (outOf pm ρ)
  | .ok (.rt d) ρ => .ok d (outOf pm ρ)
  | .ex c fs ρ => .ex c fs (outOf pm ρ)
  | _ => .no
theorem outOf_get : ∀ {pm : List Md} {ρ : Env} {i : Nat} {d : D}, pm[i]? = some Md.o → (∀ j, j < i → pm[j]? ≠ some Md.o) → ρ[i]? = some (some d) → outOf pm ρ = some d
  | [], _, i, d, h, _, _ => by simp at h
  | m :: pm, [], i, d, _, _, h => by simp at h
  | m :: pm, o :: ρ, 0, d, h, _, h2 => by
    simp at h h2; subst h h2; rfl
  | m :: pm, o :: ρ, i + 1, d, h, h1, h2 => by
    have hm : m ≠ .o := fun e => h1 0 (Nat.succ_pos _) (by simp [e])
    have : outOf (m :: pm) (o :: ρ) = outOf pm ρ := by
      cases m <;> first | rfl | exact absurd rfl hm
    rw [this]
    exact outOf_get (i := i) (by simpa using h) (fun j hj e => h1 (j + 1) (Nat.succ_lt_succ hj) (by simpa using e)) (by simpa using h2)
/-- at most one parameter is changed -/
def One (pm : List Md) : Prop := ∀ (i j : Nat), pm[i]? = some Md.o → pm[j]? = some Md.o → i = j
def mdOf (l : List Md) (i : Nat) : Md := l.getD i .p
section
variable {P : Program} {w : World} {K : PySem.W.Frag} {mg : Str → Option Value} {base : Heap} {cd : CD} {pm : List Md} {H F : Hp} {vs : List V} {ds : List D} {φ : Nat → List Addr} {md : Nat → Md} {n : Nat}
theorem start_get {N : List Str} {i : Nat} {v : V} (h : vs[i]? = some v) : (L2.start N vs)[i]? = some (some v) := by
  unfold L2.start
  have hi : i < vs.length := (List.getElem?_eq_some_iff.mp h).1
  rw [List.getElem?_append_left (by simpa using hi), List.getElem?_map, h]; rfl
theorem start0_get {i : Nat} {d : D} (h : (start0 n ds)[i]? = some (some d)) : ds[i]? = some d := by
  unfold start0 at h
  by_cases hi : i < ds.length
  · rw [List.getElem?_append_left (by simpa using hi), List.getElem?_map] at h
    cases q : ds[i]? with
    | none => rw [q] at h; cases h
    | some e => rw [q] at h; simp at h; rw [h]
  · rw [List.getElem?_append_right (by simpa using hi)] at h
    rw [List.getElem?_replicate] at h
    split at h <;> cases h
theorem rel_start {N : List Str} (hn : N.length = n) (hl : pm.length ≤ n) (s : Same F H) (a : ArgsM K cd pm F H vs ds φ) (hmd : ∀ (i : Nat) m, pm[i]? = some m → md i = m) (own : Nat → List Addr) (mu : Nat → Option Addr)
    (hown : ∀ (i : Nat), pm[i]? = some Md.o → ∀ b ∈ φ i, b ∈ own i) (hmu : ∀ (i : Nat) a, mu i = some a → pm[i]? = some Md.o ∧ vs[i]? = some (.ref a)) :
    Rel ⟨K, cd, md, H, F, own, mu, pm.length, fun _ => none⟩ φ (start0 n ds) (L2.start N vs) H F where
  sub := s
  len := by
    have h1 := a.lv
    have h2 := a.ld
    unfold L2.start start0
    simp only [List.length_append, List.length_map, List.length_replicate]
    omega
  pl := fun i d h1 h2 => by
    have h3 := start0_get h1
    have hi : i < ds.length := (List.getElem?_eq_some_iff.mp h3).1
    have hi2 : i < vs.length := by rw [a.lv, ← a.ld]; exact hi
    have hi3 : i < pm.length := by rw [← a.ld]; exact hi
    have hm := hmd i _ (List.getElem?_eq_getElem hi3)
    refine ⟨vs[i], start_get (List.getElem?_eq_getElem hi2), a.pl i _ d ?_ (List.getElem?_eq_getElem hi2) h3⟩
    rw [List.getElem?_eq_getElem hi3, ← hm]
    exact congrArg some h2
  ow := fun i d h1 h2 => by
    have h3 := start0_get h1
    have hi : i < ds.length := (List.getElem?_eq_some_iff.mp h3).1
    have hi2 : i < vs.length := by rw [a.lv, ← a.ld]; exact hi
    have hi3 : i < pm.length := by rw [← a.ld]; exact hi
    have hm := hmd i _ (List.getElem?_eq_getElem hi3)
    obtain ⟨b, e, h4⟩ := a.ow i _ _ d (List.getElem?_eq_getElem hi3) (fun e => h2 (hm.trans e)) (List.getElem?_eq_getElem hi2) h3
    exact ⟨b, start_get (by rw [List.getElem?_eq_getElem hi2, e]), h4⟩
  und := fun i h => by
    by_cases hi3 : i < pm.length
    · have hm := hmd i _ (List.getElem?_eq_getElem hi3)
      rcases h with h | h
      · have hi : i < ds.length := by rw [a.ld]; exact hi3
        refine absurd ?_ (h ds[i])
        unfold start0
        rw [List.getElem?_append_left (by simpa using hi), List.getElem?_map, List.getElem?_eq_getElem hi]; rfl
      · exact a.und i (.inl (by rw [List.getElem?_eq_getElem hi3, ← hm]; exact congrArg some h))
    · exact a.und i (.inr (Nat.le_of_not_lt hi3))
  fr := fun i b hb => by
    by_cases hi3 : i < pm.length
    · have ho : pm[i]? = some Md.o := by
        rw [List.getElem?_eq_getElem hi3]
        cases q : pm[i] with
        | o => rfl
        | p =>
          rw [a.und i (.inl (by rw [List.getElem?_eq_getElem hi3, q]))] at hb; simp at hb
      exact ⟨a.fr i ho b hb, .inl ⟨hi3, hown i ho b hb⟩⟩
    · rw [a.und i (.inr (Nat.le_of_not_lt hi3))] at hb; simp at hb
  dj := fun i j hij b hb => by
    by_cases hi3 : i < pm.length
    · have ho : pm[i]? = some Md.o := by
        rw [List.getElem?_eq_getElem hi3]
        cases q : pm[i] with
        | o => rfl
        | p =>
          rw [a.und i (.inl (by rw [List.getElem?_eq_getElem hi3, q]))] at hb; simp at hb
      exact a.dj i j hij ho b hb
    · rw [a.und i (.inr (Nat.le_of_not_lt hi3))] at hb; simp at hb
  keep := fun c u h _ => h
  dom := fun c h => h
  froz := Same.refl _
  fres := fun c h => .inl h
  par := fun i b h => by
    obtain ⟨h1, h2⟩ := hmu i b h
    have hi3 : i < pm.length := (List.getElem?_eq_some_iff.mp h1).1
    have hi : i < ds.length := by rw [a.ld]; exact hi3
    refine ⟨hi3, hmd i _ h1, start_get h2, ds[i], ?_⟩
    unfold start0
    rw [List.getElem?_append_left (by simpa using hi), List.getElem?_map, List.getElem?_eq_getElem hi]; rfl
  xsl := fun i a h => by cases h
def kR (K : PySem.W.Frag) (B : Bs) (rk : Bool) : RK := if rk = true then kO K B else kP K B
theorem Rel.back {φ' : Nat → List Addr} {ρ' : Env} {σ' : L2.St} {H' F' : Hp} {own : Nat → List Addr} {mu : Nat → Option Addr} (R : Rel ⟨K, cd, md, H, F, own, mu, pm.length, fun _ => none⟩ φ' ρ' σ' H' F') (a : ArgsM K cd pm F H vs ds φ) (one : One pm)
    (hown : ∀ (i : Nat), ∀ b ∈ own i, pm[i]? = some Md.o ∧ b ∈ φ i) (hmu : ∀ (i : Nat), pm[i]? = some Md.o → ∃ a, vs[i]? = some (.ref a) ∧ mu i = some a) (hmd : ∀ (i : Nat) m, pm[i]? = some m → md i = m) (hpar : ∀ (i : Nat), pm[i]? = some Md.o → ∃ k, k = i) :
    ∃ fp, Back K cd pm vs φ F H F' H' (outOf pm ρ') fp ∧ (∀ (i : Nat), pm[i]? = some Md.o → φ' i = fp) ∧ ((¬ ∃ i : Nat, pm[i]? = some Md.o) → fp = []) := by
  have core : ∀ fp, (∀ (i : Nat), pm[i]? = some Md.o → φ' i = fp) → Back K cd pm vs φ F H F' H' (outOf pm ρ') fp := fun fp hfp => {
    sf := R.froz
    sub := R.sub
    keep := fun c u h1 h2 => R.keep c u h1 fun i hm => by
      obtain ⟨h3, h4⟩ := hown i c hm
      exact h2 i h3 h4
    dom := R.dom
    fres := R.fres
    out := fun i hi => by
      obtain ⟨b, h1, h2⟩ := hmu i hi
      obtain ⟨_, h3, h4, d, h5⟩ := R.par i b h2
      have hmo : md i = .o := h3
      obtain ⟨b', h6, h7⟩ := R.ow i d h5 (by show md i ≠ .p; rw [hmo]; decide)
      rw [h4] at h6
      cases h6
      refine ⟨d, b, outOf_get hi (fun j hj e => absurd (one j i e hi) (Nat.ne_of_lt hj)) h5, h1, ?_, fun c hc => ?_⟩
      · rw [← hfp i hi]; exact h7
      · rw [← hfp i hi] at hc
        obtain ⟨h8, h9⟩ := R.fr i c hc
        refine ⟨h8, ?_⟩
        rcases h9 with h9 | h9
        · exact .inl (hown i c h9.2).2
        · exact .inr h9 }
  by_cases h : ∃ i : Nat, pm[i]? = some Md.o
  · obtain ⟨i, hi⟩ := h
    exact ⟨φ' i, core _ fun j hj => by rw [one i j hi hj], fun j hj => by rw [one i j hi hj], fun h => absurd ⟨i, hi⟩ h⟩
  · exact ⟨[], core _ fun j hj => absurd ⟨j, hj⟩ h, fun j hj => absurd ⟨j, hj⟩ h, fun _ => rfl⟩
/-- THE RULE for a def: ok is F.okX S, or FunD.ok F S -/
theorem mk_def {k : Nat} {f : Addr} {fd : FuncData} {ps N : List Str} {body : List Stmt} {XX : Value → Around → List PySem.Env → Shared → Hp → XK → Cx} {rk : Bool} {m : Env → R Flow}
    (ok : ∀ sp : Sp, (∀ vs H Q E, sp vs H Q E → vs.length = ps.length) → (∀ (cdv : Value) (A : Around) (outer : List PySem.Env) (s : Shared) (H : Hp) (vs : List V) (Q : VK) (E : XK), Room k (XX cdv A outer s H E).A → sp vs H Q E →
      ∃ t, PSs (XX cdv A outer s H E) body t ∧ t { nx := fun _ H' => Q .non H', rt := Q } (L2.start N vs) H) → FnOk P w K mg base (L2.CX P w) (k + 1) f fd ps sp)
    (hpm : pm.length = ps.length) (hN : N.length = n) (hle : pm.length ≤ n) (one : One pm) (hmd : ∀ (i : Nat) m, pm[i]? = some m → md i = m)
    (gd : ∀ cdv A outer s H E, (XX cdv A outer s H E).K = K ∧ (XX cdv A outer s H E).calm = true ∧ (XX cdv A outer s H E).N.Nodup ∧ Takes (XX cdv A outer s H E) (fun cls d _ H => E cls d H) ∧
      PassesOwn (model (XX cdv A outer s H E).prog (XX cdv A outer s H E).w) (XX cdv A outer s H E).A (XX cdv A outer s H E).env (XX cdv A outer s H E).xe)
    (hb : ∀ cdv A outer s H E F own mu, Gd (XX cdv A outer s H E) ⟨K, cd, md, H, F, own, mu, pm.length, fun _ => none⟩ (fun cls d _ H => E cls d H) k →
      PSs (XX cdv A outer s H E) body (tS ⟨K, cd, md, H, F, own, mu, pm.length, fun _ => none⟩ (fun cls d _ H => E cls d H) (kR K ⟨K, cd, md, H, F, own, mu, pm.length, fun _ => none⟩ rk) m)) :
    FnOk P w K mg base (L2.CX P w) (k + 1) f fd ps (spM K cd pm rk (runDef rk n pm m)) := by
  refine ok _ (fun vs H Q E h => ?_) fun cdv A outer s H vs Q E hr h => ?_
  · obtain ⟨ds, F, φ, _, a, _⟩ := h
    rw [a.lv, hpm]
  · obtain ⟨ds, F, φ, sf, a, h⟩ := h
    let own : Nat → List Addr := fun i => if pm[i]? = some Md.o then φ i else []
    let mu : Nat → Option Addr := fun i => if pm[i]? = some Md.o then (match vs[i]? with | some (.ref b) => some b | _ => none) else none
    have own1 : ∀ (i : Nat), pm[i]? = some Md.o → ∀ b ∈ φ i, b ∈ own i := fun i hi b hb => by
      simp only [own, if_pos hi]; exact hb
    have own2 : ∀ (i : Nat), ∀ b ∈ own i, pm[i]? = some Md.o ∧ b ∈ φ i := fun i b hb => by
      simp only [own] at hb
      split at hb
      · exact ⟨by assumption, hb⟩
      · simp at hb
    have mu1 : ∀ (i : Nat) b, mu i = some b → pm[i]? = some Md.o ∧ vs[i]? = some (.ref b) := fun i b hb => by
      simp only [mu] at hb
      split at hb
      · refine ⟨by assumption, ?_⟩
        split at hb
        · rename_i e; cases hb; exact e
        · cases hb
      · cases hb
    have mu2 : ∀ (i : Nat), pm[i]? = some Md.o → ∃ b, vs[i]? = some (.ref b) ∧ mu i = some b := fun i hi => by
      have hi3 : i < pm.length := (List.getElem?_eq_some_iff.mp hi).1
      have hi : i < ds.length := by rw [a.ld]; exact hi3
      have hi2 : i < vs.length := by rw [a.lv]; exact hi3
      obtain ⟨b, e, _⟩ := a.ow i _ _ _ (by assumption) (by decide) (List.getElem?_eq_getElem hi2) (List.getElem?_eq_getElem hi)
      have e' : vs[i]? = some (.ref b) := by rw [List.getElem?_eq_getElem hi2, e]
      refine ⟨b, e', ?_⟩
      simp only [mu]
      rw [if_pos (by assumption), e']
    obtain ⟨g1, g2, g3, g4, g5⟩ := gd cdv A outer s H E
    refine ⟨_, hb cdv A outer s H E F own mu ⟨g1, g2, g4, g5, g3, hr⟩, φ, F, start0 n ds, rel_start hN hle sf a hmd own mu own1 mu1, ?_⟩
    unfold runDef at h
    cases q : m (start0 n ds) with
    | no => rw [q] at h; exact h.elim
    | ex c fs ρ' =>
      rw [q] at h
      intro φ' σ' F' H' dx I ws s1 R1 hc hx hw
      obtain ⟨fp, hbk, _, _⟩ := R1.back a one own2 mu2 hmd fun i _ => ⟨i, rfl⟩
      exact h F' H' fp dx I ws hbk hc hx hw
    | ok fl ρ' =>
      rw [q] at h
      cases fl with
      | bk => exact h.elim
      | ct => exact h.elim
      | nx =>
        intro φ' σ' F' H' s1 R1
        obtain ⟨fp, hbk, hfp, hno⟩ := R1.back a one own2 mu2 hmd fun i _ => ⟨i, rfl⟩
        cases rk with
        | false => exact h .non F' H' fp hbk (fun _ => by simp only [Rep]) fun e => absurd e (by decide)
        | true => exact h.elim
      | rt d =>
        intro v φ' σ' F' H' s1 R1 k1
        obtain ⟨fp, hbk, hfp, hno⟩ := R1.back a one own2 mu2 hmd fun i _ => ⟨i, rfl⟩
        cases rk with
        | false => exact h v F' H' fp hbk (fun _ => k1) fun e => absurd e (by decide)
        | true =>
          refine h v F' H' fp hbk (fun e => absurd e (by decide)) fun _ => ?_
          obtain ⟨b, fq, e, h1, h2⟩ := k1
          refine ⟨b, fq, e, h1, fun c hc => ⟨(h2 c hc).1, (h2 c hc).2.1, fun hm => ?_⟩⟩
          by_cases ho : ∃ i : Nat, pm[i]? = some Md.o
          · obtain ⟨i, hi⟩ := ho
            rw [← hfp i hi] at hm
            exact (h2 c hc).2.2 i hm
          · rw [hno ho] at hm; simp at hm
end
end Mi

set_option Elab.async false
set_option linter.all false
set_option maxRecDepth 100000
namespace Mi
open PySem L2
section
variable {B : Bs} {W : WX} {φ : Nat → List Addr} {ρ : Env} {σ : L2.St} {H F : Hp}
/-- values against a shape: plain ones by their data, the others are slots -/
def ShRep (B : Bs) (F : Hp) (σ : L2.St) : List (Option Nat) → List D → List V → Prop
  | [], [], vs => vs = []
  | none :: sh, d :: ds, vs => ∃ v ws, vs = v :: ws ∧ Rep B.K B.cd F d v ∧ ShRep B F σ sh ds ws
  | some i :: sh, ds, vs => ∃ a ws, vs = .ref a :: ws ∧ σ[i]? = some (some (.ref a)) ∧ ShRep B F σ sh ds ws
  | _, _, _ => False
theorem ShRep.mono {F' : Hp} (s : Same F F') : ∀ {sh : List (Option Nat)} {ds : List D} {vs : List V}, ShRep B F σ sh ds vs → ShRep B F' σ sh ds vs
  | [], [], _, h => h
  | [], _ :: _, _, h => h
  | none :: sh, [], _, h => h
  | none :: sh, d :: ds, vs, h => by
    simp only [ShRep] at h ⊢
    obtain ⟨v, ws, e, h1, h2⟩ := h
    exact ⟨v, ws, e, Rep.mono s _ _ h1, h2.mono s⟩
  | some i :: sh, ds, vs, h => by
    simp only [ShRep] at h ⊢
    obtain ⟨a, ws, e, h1, h2⟩ := h
    exact ⟨a, ws, e, h1, h2.mono s⟩
/-- the slots filled in -/
def fill : List (Option Nat) → List D → Env → Option (List D)
  | [], [], _ => some []
  | none :: sh, d :: ds, ρ => (fill sh ds ρ).map (d :: ·)
  | some i :: sh, ds, ρ => match ρ[i]? with
    | some (some d) => (fill sh ds ρ).map (d :: ·)
    | _ => none
  | _, _, _ => none
theorem get_set0 {α : Type} {l : List α} {i j : Nat} {x y : α} (h : (l.set i x)[j]? = some y) : (i = j ∧ y = x) ∨ (i ≠ j ∧ l[j]? = some y) := by
  by_cases e : i = j
  · subst e
    by_cases hi : i < l.length
    · rw [List.getElem?_set_self hi] at h; cases h; exact .inl ⟨rfl, rfl⟩
    · rw [List.getElem?_eq_none (by simpa using hi)] at h; cases h
  · rw [List.getElem?_set_ne e] at h; exact .inr ⟨e, h⟩
/-- what a parameter that is changed has become -/
def put : List (Option Nat) → List Md → Option D → Env → Env
  | some i :: _, .o :: _, some d, ρ => ρ.set i (some d)
  | _ :: sh, _ :: pm, o, ρ => put sh pm o ρ
  | _, _, _, ρ => ρ
/-- the shape fits the parameters -/
def fitP (md : Nat → Md) : List (Option Nat) → List Md → Bool
  | [], pm => pm.all fun m => decide (m = Md.p)
  | none :: sh, Md.p :: pm => fitP md sh pm
  | some i :: sh, Md.o :: pm => decide (md i = Md.o) && fitP md sh pm
  | _, _ => false
def fits (md : Nat → Md) (sh : List (Option Nat)) (pm : List Md) : Bool := fitP md sh pm && decide ((sh.filterMap id).Nodup)
theorem fit_get {md : Nat → Md} : ∀ {sh : List (Option Nat)} {pm : List Md} {j : Nat} {o : Option Nat}, fitP md sh pm = true → sh[j]? = some o → ∃ m, pm[j]? = some m ∧ (o = none ∧ m = Md.p ∨ ∃ i, o = some i ∧ m ≠ Md.p ∧ md i ≠ Md.p ∧ (m = Md.o → md i = Md.o))
  | [], pm, j, o, _, h => by simp at h
  | none :: sh, Md.p :: pm, 0, o, _, h => by simp at h; subst h; exact ⟨Md.p, rfl, .inl ⟨rfl, rfl⟩⟩
  | none :: sh, Md.p :: pm, j + 1, o, f, h => by
    obtain ⟨m, h1, h2⟩ := fit_get (j := j) (o := o) (show fitP md sh pm = true from f) (by simpa using h)
    exact ⟨m, by simpa using h1, h2⟩
  | none :: sh, Md.o :: pm, j, o, f, h => by simp [fitP] at f
  | none :: sh, [], j, o, f, h => by simp [fitP] at f
  | some i :: sh, Md.o :: pm, 0, o, f, h => by
    simp only [fitP, Bool.and_eq_true, decide_eq_true_eq] at f
    simp at h; subst h
    exact ⟨Md.o, rfl, .inr ⟨i, rfl, by decide, by rw [f.1]; decide, fun _ => f.1⟩⟩
  | some i :: sh, Md.o :: pm, j + 1, o, f, h => by
    simp only [fitP, Bool.and_eq_true, decide_eq_true_eq] at f
    obtain ⟨m, h1, h2⟩ := fit_get (j := j) (o := o) f.2 (by simpa using h)
    exact ⟨m, by simpa using h1, h2⟩
  | some i :: sh, Md.p :: pm, j, o, f, h => by simp [fitP] at f
  | some i :: sh, [], j, o, f, h => by simp [fitP] at f
theorem fit_rest {md : Nat → Md} : ∀ {sh : List (Option Nat)} {pm : List Md} {j : Nat} {m : Md}, fitP md sh pm = true → sh.length ≤ j → pm[j]? = some m → m = Md.p
  | [], pm, j, m, f, _, h => by
    simp only [fitP, List.all_eq_true, decide_eq_true_eq] at f
    exact f m (List.mem_of_getElem? h)
  | _ :: sh, [], j, m, f, _, h => by simp at h
  | o :: sh, q :: pm, 0, m, f, l, h => by simp at l
  | o :: sh, q :: pm, j + 1, m, f, l, h => by
    have f' : fitP md sh pm = true := by
      cases o <;> cases q <;> simp only [fitP, Bool.and_eq_true] at f <;> first | exact f | exact f.2 | cases f
    exact fit_rest f' (by simpa using l) (by simpa using h)
theorem sh_len : ∀ {sh : List (Option Nat)} {ds : List D} {vs : List V}, ShRep B F σ sh ds vs → vs.length = sh.length
  | [], [], vs, h => by simp only [ShRep] at h; subst h; rfl
  | [], _ :: _, vs, h => by simp only [ShRep] at h
  | none :: sh, [], vs, h => by simp only [ShRep] at h
  | none :: sh, d :: ds, vs, h => by
    simp only [ShRep] at h
    obtain ⟨v, ws, rfl, h1, h2⟩ := h
    simp [sh_len h2]
  | some i :: sh, ds, vs, h => by
    simp only [ShRep] at h
    obtain ⟨v, ws, rfl, h1, h2⟩ := h
    simp [sh_len h2]
theorem fill_len : ∀ {sh : List (Option Nat)} {ds as : List D}, fill sh ds ρ = some as → as.length = sh.length
  | [], [], as, h => by simp only [fill, Option.some.injEq] at h; subst h; rfl
  | [], _ :: _, as, h => by simp only [fill] at h; cases h
  | none :: sh, [], as, h => by simp only [fill] at h; cases h
  | none :: sh, d :: ds, as, h => by
    simp only [fill, Option.map_eq_some_iff] at h
    obtain ⟨x, h1, rfl⟩ := h
    simp [fill_len h1]
  | some i :: sh, ds, as, h => by
    simp only [fill] at h
    split at h
    · simp only [Option.map_eq_some_iff] at h
      obtain ⟨x, h1, rfl⟩ := h
      simp [fill_len h1]
    · cases h
theorem sh_get : ∀ {sh : List (Option Nat)} {ds as : List D} {vs : List V} {j : Nat} {v : V} {d : D}, ShRep B F σ sh ds vs → fill sh ds ρ = some as → vs[j]? = some v → as[j]? = some d →
    (sh[j]? = some none ∧ Rep B.K B.cd F d v) ∨ ∃ i a, sh[j]? = some (some i) ∧ v = .ref a ∧ σ[i]? = some (some (.ref a)) ∧ ρ[i]? = some (some d)
  | [], [], as, vs, j, v, d, h, f, h1, h2 => by simp only [ShRep] at h; subst h; simp at h1
  | [], _ :: _, as, vs, j, v, d, h, f, h1, h2 => by simp only [ShRep] at h
  | none :: sh, [], as, vs, j, v, d, h, f, h1, h2 => by simp only [ShRep] at h
  | none :: sh, d0 :: ds, as, vs, j, v, d, h, f, h1, h2 => by
    simp only [ShRep] at h
    obtain ⟨v0, ws, rfl, h3, h4⟩ := h
    simp only [fill, Option.map_eq_some_iff] at f
    obtain ⟨x, f1, rfl⟩ := f
    cases j with
    | zero => simp at h1 h2; subst h1 h2; exact .inl ⟨rfl, h3⟩
    | succ j => simpa using sh_get (j := j) (v := v) (d := d) h4 f1 (by simpa using h1) (by simpa using h2)
  | some i :: sh, ds, as, vs, j, v, d, h, f, h1, h2 => by
    simp only [ShRep] at h
    obtain ⟨v0, ws, rfl, h3, h4⟩ := h
    simp only [fill] at f
    split at f
    · rename_i d0 e
      simp only [Option.map_eq_some_iff] at f
      obtain ⟨x, f1, rfl⟩ := f
      cases j with
      | zero => simp at h1 h2; subst h1 h2; exact .inr ⟨i, v0, rfl, rfl, h3, e⟩
      | succ j => simpa using sh_get (j := j) (v := v) (d := d) h4 f1 (by simpa using h1) (by simpa using h2)
    · cases f
theorem nd_slot : ∀ {sh : List (Option Nat)} {i j k l : Nat}, (sh.filterMap id).Nodup → sh[i]? = some (some k) → sh[j]? = some (some l) → i ≠ j → k ≠ l
  | [], i, j, k, l, _, h, _, _ => by simp at h
  | none :: sh, i, j, k, l, nd, h1, h2, hij => by
    cases i with
    | zero => simp at h1
    | succ i =>
      cases j with
      | zero => simp at h2
      | succ j => exact nd_slot (sh := sh) (i := i) (j := j) (by simpa using nd) (by simpa using h1) (by simpa using h2) (fun e => hij (by rw [e]))
  | some n :: sh, i, j, k, l, nd, h1, h2, hij => by
    have nd' : n ∉ sh.filterMap id ∧ (sh.filterMap id).Nodup := List.nodup_cons.mp nd
    have mem : ∀ {m x : Nat}, sh[m]? = some (some x) → x ∈ sh.filterMap id := fun {m x} h => List.mem_filterMap.mpr ⟨some x, List.mem_of_getElem? h, rfl⟩
    cases i with
    | zero =>
      cases j with
      | zero => exact absurd rfl hij
      | succ j =>
        simp at h1 h2; subst h1
        intro e; subst e
        exact nd'.1 (mem h2)
    | succ i =>
      cases j with
      | zero =>
        simp at h1 h2; subst h2
        intro e; subst e
        exact nd'.1 (mem h1)
      | succ j => exact nd_slot (sh := sh) (i := i) (j := j) nd'.2 (by simpa using h1) (by simpa using h2) (fun e => hij (by rw [e]))
theorem put_no : ∀ {sh : List (Option Nat)} {pm : List Md} {o : Option D}, (∀ i : Nat, pm[i]? ≠ some Md.o) → put sh pm o ρ = ρ
  | [], pm, o, h => by cases pm <;> rfl
  | s :: sh, [], o, h => by cases s <;> rfl
  | s :: sh, m :: pm, o, h => by
    have hm : m ≠ Md.o := fun e => h 0 (by simp [e])
    have ih := put_no (sh := sh) (pm := pm) (o := o) fun i e => h (i + 1) (by simpa using e)
    cases s <;> cases m <;> first | exact ih | exact absurd rfl hm
theorem put_at : ∀ {sh : List (Option Nat)} {pm : List Md} {i k : Nat} {d : D}, pm[i]? = some Md.o → (∀ j, j < i → pm[j]? ≠ some Md.o) → sh[i]? = some (some k) → put sh pm (some d) ρ = ρ.set k (some d)
  | [], pm, i, k, d, _, _, h => by simp at h
  | s :: sh, [], i, k, d, h, _, _ => by simp at h
  | s :: sh, m :: pm, 0, k, d, h1, _, h2 => by
    simp at h1 h2; subst h1 h2; rfl
  | s :: sh, m :: pm, i + 1, k, d, h1, hlt, h2 => by
    have hm : m ≠ Md.o := fun e => hlt 0 (Nat.succ_pos _) (by simp [e])
    have ih := put_at (sh := sh) (pm := pm) (i := i) (k := k) (d := d) (by simpa using h1) (fun j hj e => hlt (j + 1) (Nat.succ_lt_succ hj) (by simpa using e)) (by simpa using h2)
    cases s <;> cases m <;> first | exact ih | exact absurd rfl hm
/-- at most one parameter is changed, by its list -/
def oneB (pm : List Md) : Bool := decide ((pm.filter fun m => decide (m = Md.o)).length ≤ 1)
theorem one_of : ∀ {pm : List Md}, oneB pm = true → One pm
  | [], _ => fun i j h _ => by simp at h
  | m :: pm, h => by
    unfold oneB at h
    simp only [decide_eq_true_eq] at h
    have mem : ∀ {i : Nat}, pm[i]? = some Md.o → 1 ≤ (pm.filter fun m => decide (m = Md.o)).length := fun {i} e =>
      List.length_pos_of_mem (List.mem_filter.mpr ⟨List.mem_of_getElem? e, by simp⟩)
    intro i j h1 h2
    by_cases hm : m = Md.o
    · subst hm
      simp at h
      have no : ∀ {i : Nat}, pm[i]? = some Md.o → False := fun {i} e => by
        have := mem e
        have h0 : (pm.filter fun m => decide (m = Md.o)) = [] := by
          apply List.filter_eq_nil_iff.mpr
          intro a ha
          simpa using h a ha
        rw [h0] at this; simp at this
      cases i with
      | zero =>
        cases j with
        | zero => rfl
        | succ j => exact (no (by simpa using h2)).elim
      | succ i => exact (no (by simpa using h1)).elim
    · cases i with
      | zero => simp at h1; exact absurd h1 hm
      | succ i =>
        cases j with
        | zero => simp at h2; exact absurd h2 hm
        | succ j =>
          have : oneB pm = true := by
            unfold oneB
            simp only [decide_eq_true_eq]
            rw [List.filter_cons_of_neg (by simpa using hm)] at h
            exact h
          rw [one_of this i j (by simpa using h1) (by simpa using h2)]

/-- what a call comes to -/
def callR (fn : List D → FR) (sh : List (Option Nat)) (pm : List Md) (as : List D) (ρ : Env) : R D := match fn as with
  | .ok d out => .ok d (put sh pm out ρ)
  | .ex c fs out => .ex c fs (put sh pm out ρ)
  | .no => .no
theorem call_back {sh : List (Option Nat)} {pm : List Md} {ds as : List D} {vs wsd : List V} {F' H' : Hp} {out : Option D} {fp : List Addr} (R0 : Rel B φ ρ σ H F) (hsh : ShRep B F σ sh ds vs) (hfill : fill sh ds ρ = some as) (hfit : fits B.md sh pm = true) (one : One pm)
    (hlen : vs.length + wsd.length = pm.length)
    (bk : Back B.K B.cd pm (vs ++ wsd) (fun j => match sh[j]? with | some (some i) => φ i | _ => []) F H F' H' out fp) : ∃ φ', Rel B φ' (put sh pm out ρ) σ H' F' ∧ ∀ b, H b = none → b ∉ fp → ∀ i, b ∉ φ' i := by
  simp only [fits, Bool.and_eq_true, decide_eq_true_eq] at hfit
  obtain ⟨hfit, nd⟩ := hfit
  have hl1 := sh_len hsh
  have hl2 := fill_len hfill
  have same : ∀ j b, (∀ i : Nat, pm[i]? = some Md.o → b ∉ (match sh[i]? with | some (some k) => φ k | _ => [])) → b ∈ φ j → H' b = H b := fun j b hno hb => by
    cases q : H b with
    | none => exact absurd q (R0.here b hb)
    | some u => exact bk.keep b u q hno
  by_cases ho : ∃ i : Nat, pm[i]? = some Md.o
  · obtain ⟨i, hi⟩ := ho
    obtain ⟨d, a, rfl, hva, hor, hfp⟩ := bk.out i hi
    have hish : i < sh.length := by
      rcases Nat.lt_or_ge i sh.length with h | h
      · exact h
      · exact absurd (fit_rest hfit h hi) (by decide)
    obtain ⟨m, hm, hcase⟩ := fit_get hfit (List.getElem?_eq_getElem hish)
    rw [hi] at hm; cases hm
    obtain ⟨k, hk, _, _, hmk⟩ := hcase.resolve_left (fun h => absurd h.2 (by decide))
    have hsk : sh[i]? = some (some k) := by rw [List.getElem?_eq_getElem hish, hk]
    have hmdk : B.md k = .o := hmk rfl
    rw [put_at hi (fun j hj e => absurd (one j i e hi) (Nat.ne_of_lt hj)) hsk]
    have hiv : i < vs.length := by rw [hl1]; exact hish
    have hia : i < as.length := by rw [hl2]; exact hish
    rw [List.getElem?_append_left hiv] at hva
    obtain ⟨h1, _⟩ | ⟨i', a', h1, h2, h3, h4⟩ := sh_get hsh hfill hva (List.getElem?_eq_getElem hia)
    · rw [hsk] at h1; cases h1
    · rw [hsk] at h1; cases h1
      cases h2
      have hkρ : k < ρ.length := (List.getElem?_eq_some_iff.mp h4).1
      have φi : (match sh[i]? with | some (some k) => φ k | _ => []) = φ k := by rw [hsk]
      simp only [φi] at hfp
      have hno : ∀ j, j ≠ k → ∀ b ∈ φ j, ∀ i' : Nat, pm[i']? = some Md.o → b ∉ (match sh[i']? with | some (some k) => φ k | _ => []) := fun j hj b hb i' hi' => by
        rw [one i' i hi' hi, φi]
        exact fun hm => R0.dj k j (Ne.symm hj) b hm hb
      refine ⟨fun j => if j = k then fp else φ j, ?_, fun b hb1 hb2 j => ?_⟩
      · refine ⟨bk.sub, by rw [List.length_set]; exact R0.len, fun j e h1 h2 => ?_, fun j e h1 h2 => ?_, fun j h => ?_, fun j b hb => ?_, fun j l hjl b hb => ?_, fun c u h1 h2 => ?_, fun c h => ?_, R0.froz.trans bk.sf, fun c h => ?_, fun j b h => ?_, fun j b h => ⟨(R0.xsl j b h).1, fun e => (R0.xsl j b h).2 (by
          rcases get_set0 e with z | z
          · cases z.2
          · exact z.2)⟩⟩
        · have hjk : j ≠ k := fun e => by rw [e, hmdk] at h2; cases h2
          rw [List.getElem?_set_ne (Ne.symm hjk)] at h1
          obtain ⟨v, h5, h6⟩ := R0.pl j e h1 h2
          exact ⟨v, h5, Rep.mono bk.sf _ _ h6⟩
        · by_cases hjk : j = k
          · subst hjk
            rw [List.getElem?_set_self hkρ] at h1
            cases h1
            simp only [if_true]
            exact ⟨a, h3, hor⟩
          · rw [List.getElem?_set_ne (Ne.symm hjk)] at h1
            simp only [if_neg hjk]
            obtain ⟨v, h5, h6⟩ := R0.ow j e h1 h2
            exact ⟨v, h5, h6.mono bk.sf fun b hb => same j b (hno j hjk b hb) hb⟩
        · by_cases hjk : j = k
          · subst hjk
            rcases h with h | h
            · exact absurd (List.getElem?_set_self hkρ) (h d)
            · rw [hmdk] at h; cases h
          · simp only [if_neg hjk]
            refine R0.und j ?_
            rcases h with h | h
            · exact .inl fun e => by rw [← List.getElem?_set_ne (Ne.symm hjk) (a := some d)]; exact h e
            · exact .inr h
        · by_cases hjk : j = k
          · subst hjk
            simp only [if_true] at hb
            obtain ⟨h5, h6⟩ := hfp b hb
            refine ⟨h5, ?_⟩
            rcases h6 with h6 | h6
            · exact (R0.fr j b h6).2
            · exact .inr (R0.fresh0 h6)
          · simp only [if_neg hjk] at hb
            obtain ⟨h5, h6⟩ := R0.fr j b hb
            refine ⟨?_, h6⟩
            cases q : F' b with
            | none => rfl
            | some u =>
              rcases bk.fres b (by rw [q]; simp) with z | z
              · exact absurd h5 z
              · exact absurd z (R0.here b hb)
        · by_cases hjk : j = k
          · subst hjk
            simp only [if_true] at hb
            simp only [if_neg (Ne.symm hjl)]
            obtain ⟨h5, h6⟩ := hfp b hb
            rcases h6 with h6 | h6
            · exact R0.dj j l hjl b h6
            · exact fun hm => R0.here b hm h6
          · simp only [if_neg hjk] at hb
            by_cases hlk : l = k
            · subst hlk
              simp only [if_true]
              intro hm
              obtain ⟨h5, h6⟩ := hfp b hm
              rcases h6 with h6 | h6
              · exact R0.dj j l hjl b hb h6
              · exact R0.here b hb h6
            · simp only [if_neg hlk]
              exact R0.dj j l hjl b hb
        · refine bk.keep c u (R0.keep c u h1 h2) fun i' hi' hm => ?_
          rw [one i' i hi' hi, φi] at hm
          rcases (R0.fr k c hm).2 with z | z
          · exact h2 k z.2
          · rw [h1] at z; cases z
        · exact bk.dom c (R0.dom c h)
        · rcases bk.fres c h with z | z
          · exact R0.fres c z
          · exact .inr (R0.fresh0 z)
        · obtain ⟨h4', h5, h6, e, h7⟩ := R0.par j b h
          refine ⟨h4', h5, h6, ?_⟩
          by_cases hjk : j = k
          · subst hjk
            exact ⟨d, List.getElem?_set_self hkρ⟩
          · exact ⟨e, by rw [List.getElem?_set_ne (Ne.symm hjk)]; exact h7⟩
      · by_cases hjk : j = k
        · simp only [if_pos hjk]; exact hb2
        · simp only [if_neg hjk]; exact fun hm => R0.here b hm hb1
  · have hno : ∀ i : Nat, pm[i]? ≠ some Md.o := fun i e => ho ⟨i, e⟩
    rw [put_no hno]
    refine ⟨φ, ⟨bk.sub, R0.len, fun j e h1 h2 => ?_, fun j e h1 h2 => ?_, R0.und, fun j b hb => ?_, R0.dj, fun c u h1 h2 => ?_, fun c h => ?_, R0.froz.trans bk.sf, fun c h => ?_, R0.par, R0.xsl⟩, fun b hb1 hb2 j hm => R0.here b hm hb1⟩
    · obtain ⟨v, h5, h6⟩ := R0.pl j e h1 h2
      exact ⟨v, h5, Rep.mono bk.sf _ _ h6⟩
    · obtain ⟨v, h5, h6⟩ := R0.ow j e h1 h2
      exact ⟨v, h5, h6.mono bk.sf fun b hb => same j b (fun i' hi' => absurd hi' (hno i')) hb⟩
    · obtain ⟨h5, h6⟩ := R0.fr j b hb
      refine ⟨?_, h6⟩
      cases q : F' b with
      | none => rfl
      | some u =>
        rcases bk.fres b (by rw [q]; simp) with z | z
        · exact absurd h5 z
        · exact absurd z (R0.here b hb)
    · exact bk.keep c u (R0.keep c u h1 h2) fun i' hi' => absurd hi' (hno i')
    · exact bk.dom c (R0.dom c h)
    · rcases bk.fres c h with z | z
      · exact R0.fres c z
      · exact .inr (R0.fresh0 z)
theorem call_args {sh : List (Option Nat)} {pm : List Md} {ds as dds : List D} {vs dvs : List V} (R0 : Rel B φ ρ σ H F) (hsh : ShRep B F σ sh ds vs) (hfill : fill sh ds ρ = some as) (hfit : fits B.md sh pm = true) (hd : RepL B.K B.cd F dds dvs)
    (hlen : vs.length + dvs.length = pm.length) : ArgsM B.K B.cd pm F H (vs ++ dvs) (as ++ dds) (fun j => match sh[j]? with | some (some i) => φ i | _ => []) := by
  simp only [fits, Bool.and_eq_true, decide_eq_true_eq] at hfit
  obtain ⟨hfit, nd⟩ := hfit
  have hl1 := sh_len hsh
  have hl2 := fill_len hfill
  have hl3 := repL_length hd
  have inS : ∀ {i : Nat}, i < sh.length → ∃ m o, pm[i]? = some m ∧ sh[i]? = some o ∧ (o = none ∧ m = Md.p ∨ ∃ j, o = some j ∧ m ≠ Md.p ∧ B.md j ≠ Md.p ∧ (m = Md.o → B.md j = Md.o)) := fun {i} hi => by
    obtain ⟨m, h1, h2⟩ := fit_get hfit (List.getElem?_eq_getElem hi)
    exact ⟨m, _, h1, List.getElem?_eq_getElem hi, h2⟩
  refine ⟨by rw [List.length_append]; exact hlen, by rw [List.length_append, hl2, ← hl1, ← hl3]; exact hlen, fun i v d h1 h2 h3 => ?_, fun i m v d h1 hm h2 h3 => ?_, fun i h => ?_, fun i h b hb => ?_, fun i j hij h b hb => ?_⟩
  · by_cases hi : i < sh.length
    · rw [List.getElem?_append_left (by rw [hl1]; exact hi)] at h2
      rw [List.getElem?_append_left (by rw [hl2]; exact hi)] at h3
      obtain ⟨m, o, h4, h5, h6⟩ := inS hi
      rw [h1] at h4; cases h4
      rcases sh_get hsh hfill h2 h3 with ⟨_, h7⟩ | ⟨k, a, h7, _⟩
      · exact h7
      · rw [h5] at h7; cases h7
        rcases h6 with ⟨h6, _⟩ | ⟨_, _, h6, _⟩
        · cases h6
        · exact absurd rfl h6
    · rw [List.getElem?_append_right (by rw [hl1]; exact Nat.le_of_not_lt hi)] at h2
      rw [List.getElem?_append_right (by rw [hl2]; exact Nat.le_of_not_lt hi)] at h3
      rw [hl1] at h2
      rw [hl2] at h3
      obtain ⟨v', h4, h5⟩ := repL_get hd h3
      rw [h2] at h4; cases h4
      exact h5
  · have hi : i < sh.length := by
      rcases Nat.lt_or_ge i sh.length with h | h
      · exact h
      · exact absurd (fit_rest hfit h h1) hm
    rw [List.getElem?_append_left (by rw [hl1]; exact hi)] at h2
    rw [List.getElem?_append_left (by rw [hl2]; exact hi)] at h3
    obtain ⟨m', o, h4, h5, h6⟩ := inS hi
    rw [h1] at h4; cases h4
    obtain ⟨k, rfl, _, hk, _⟩ := h6.resolve_left fun z => hm z.2
    rcases sh_get hsh hfill h2 h3 with ⟨h7, _⟩ | ⟨k', a, h7, rfl, h8, h9⟩
    · rw [h5] at h7; cases h7
    · rw [h5] at h7; cases h7
      obtain ⟨a', h10, h11⟩ := R0.ow k d h9 hk
      rw [h8] at h10; cases h10
      refine ⟨a, rfl, ?_⟩
      simp only [h5]
      exact h11
  · by_cases hi : i < sh.length
    · obtain ⟨m', o, h4, h5, h6⟩ := inS hi
      rcases h with h | h
      · rw [h] at h4; cases h4
        rcases h6 with ⟨rfl, _⟩ | ⟨_, _, h6, _⟩
        · simp only [h5]
        · exact absurd rfl h6
      · have : pm.length ≤ i := h
        omega
    · rw [List.getElem?_eq_none (Nat.le_of_not_lt hi)]
  · by_cases hi : i < sh.length
    · obtain ⟨m', o, h4, h5, h6⟩ := inS hi
      rw [h] at h4; cases h4
      obtain ⟨k, rfl, _, _, hk⟩ := h6.resolve_left fun z => absurd z.2 (by decide)
      simp only [h5] at hb
      exact (R0.fr k b hb).1
    · exact absurd (fit_rest hfit (Nat.le_of_not_lt hi) h) (by decide)
  · by_cases hi : i < sh.length
    · obtain ⟨m', o, h4, h5, h6⟩ := inS hi
      rw [h] at h4; cases h4
      obtain ⟨k, rfl, _, _, hk⟩ := h6.resolve_left fun z => absurd z.2 (by decide)
      simp only [h5] at hb
      cases q : sh[j]? with
      | none => simp
      | some o =>
        cases o with
        | none => simp
        | some l => exact R0.dj k l (nd_slot nd h5 q hij) b hb
    · exact absurd (fit_rest hfit (Nat.le_of_not_lt hi) h) (by decide)
/-- THE CORE of every call -/
theorem call_core {sh : List (Option Nat)} {pm : List Md} {ds as dds : List D} {vs dvs : List V} {rk : Bool} {fn : List D → FR} {Q : VK} (R0 : Rel B φ ρ σ H F) (hsh : ShRep B F σ sh ds vs) (hfill : fill sh ds ρ = some as) (hfit : fits B.md sh pm = true) (one : One pm) (hd : RepL B.K B.cd F dds dvs)
    (hlen : sh.length + dds.length = pm.length)
    (h : Post B W σ F (callR fn sh pm (as ++ dds) ρ) fun d ρ' => ∀ v φ' F' H', Same F F' → Rel B φ' ρ' σ H' F' → kR B.K B rk φ' F' H' v d → Q v H') :
    spM B.K B.cd pm rk fn (vs ++ dvs) H Q (fun cls dx H' => W cls dx σ H') := by
  have hlen' : vs.length + dvs.length = pm.length := by rw [sh_len hsh, repL_length hd]; exact hlen
  refine ⟨as ++ dds, F, _, R0.sub, call_args R0 hsh hfill hfit hd hlen', ?_⟩
  unfold callR at h
  cases q : fn (as ++ dds) with
  | no => rw [q] at h; exact h
  | ex c fs out =>
    rw [q] at h
    intro F' H' fp dx I ws bk hc hx hw
    obtain ⟨φ', R1, _⟩ := call_back R0 hsh hfill hfit one hlen' bk
    exact h φ' F' H' dx I ws bk.sf R1 hc hx hw
  | ok d out =>
    rw [q] at h
    intro v F' H' fp bk h1 h2
    obtain ⟨φ', R1, hn⟩ := call_back R0 hsh hfill hfit one hlen' bk
    refine h v φ' F' H' bk.sf R1 ?_
    cases rk with
    | false => exact h1 rfl
    | true =>
      obtain ⟨a, fq, e, h3, h4⟩ := h2 rfl
      exact ⟨a, fq, e, h3, fun b hb => ⟨(h4 b hb).1, R0.fresh0 (h4 b hb).2.1, hn b (h4 b hb).2.1 (h4 b hb).2.2⟩⟩
end
end Mi

set_option Elab.async false
set_option linter.all false
set_option maxRecDepth 100000
namespace Mi
open PySem L2
section
variable {X : Cx} {B : Bs} {W : WX} {e o : Expr} {es : List Expr} {pos p apos : Pos} {n k : Nat}
def tAs (B : Bs) (W : WX) (sh : List (Option Nat)) (m : Env → R (List D)) : TA := fun σ H Q => ∃ φ F ρ, Rel B φ ρ σ H F ∧ Post B W σ F (m ρ) fun ds ρ' => ∀ vs φ' F' H', Same F F' → Rel B φ' ρ' σ H' F' → ShRep B F' σ sh ds vs → Q vs H'
theorem s_nil : PA X [] (tAs B W [] aNil) := by
  refine PA.imp pa_nil fun σ H Q h => ?_
  obtain ⟨φ, F, ρ, R0, h⟩ := h
  exact h [] φ F H (Same.refl _) R0 (by simp only [ShRep])
theorem s_cons {sh : List (Option Nat)} {ma : Env → R D} {mr : Env → R (List D)} (ha : PE X e (tE B W (kP B.K B) ma)) (hr : PA X es (tAs B W sh mr)) (hs : starEach (e :: es) X.env = (false, eval e X.env) :: starEach es X.env := by rfl) : PA X (e :: es) (tAs B W (none :: sh) (aCons ma mr)) := by
  refine PA.imp (pa_cons ha hr hs) fun σ H Q h => ?_
  obtain ⟨φ, F, ρ, R0, h⟩ := h
  refine ⟨φ, F, ρ, R0, Post.bind h fun d1 ρ1 _ h v1 φ1 F1 H1 s1 R1 k1 => ?_⟩
  refine ⟨φ1, F1, ρ1, R1, Post.bind (Post.mono s1 h fun _ _ z => z) fun ds ρ2 _ h vs φ2 F2 H2 s2 R2 k2 => ?_⟩
  refine h (v1 :: vs) φ2 F2 H2 (s1.trans s2) R2 ?_
  simp only [ShRep]
  exact ⟨v1, vs, rfl, Rep.mono s2 _ _ k1, k2⟩
/-- a slot that the callee changes or only looks at -/
def aSlot (i : Nat) (mr : Env → R (List D)) : Env → R (List D) := fun ρ => match ρ[i]? with
  | some (some _) => mr ρ
  | _ => .no
theorem s_slot (i : Nat) {sh : List (Option Nat)} {x : Str} {mr : Env → R (List D)} (hp : B.md i ≠ .p) (hr : PA X es (tAs B W sh mr)) (hN : X.N[i]? = some x := by rfl) (hv : Vis X.env.scope x := by first | exact Or.inl rfl | exact Or.inr (Or.inl rfl) | exact Or.inr (Or.inr rfl)) (hd : (x == ("__debug__" : Str)) = false := by decide)
    (hcd : (x == ("__classdict__" : Str)) = false := by decide) (hs : starEach (.Name x pos :: es) X.env = (false, eval (.Name x pos) X.env) :: starEach es X.env := by rfl) : PA X (.Name x pos :: es) (tAs B W (some i :: sh) (aSlot i mr)) := by
  refine PA.imp (pa_cons (pe_var hN hv hd hcd) hr hs) fun σ H Q h => ?_
  obtain ⟨φ, F, ρ, R0, h⟩ := h
  unfold aSlot at h
  cases q : ρ[i]? with
  | none => rw [q] at h; exact h.elim
  | some o =>
    cases o with
    | none => rw [q] at h; exact h.elim
    | some d =>
      rw [q] at h
      obtain ⟨a, h1, h2⟩ := R0.ow i d q hp
      refine ⟨.ref a, h1, φ, F, ρ, R0, Post.mono (Same.refl _) h fun ds ρ' z vs φ' F' H' s' R' k' => z (.ref a :: vs) φ' F' H' s' R' ?_⟩
      simp only [ShRep]
      exact ⟨a, vs, rfl, h1, k'⟩

theorem s_own (i : Nat) {sh : List (Option Nat)} {x : Str} {mr : Env → R (List D)} (hr : PA X es (tAs B W sh mr)) (hp : B.md i = .o := by rfl) (hN : X.N[i]? = some x := by rfl) (hv : Vis X.env.scope x := by first | exact Or.inl rfl | exact Or.inr (Or.inl rfl) | exact Or.inr (Or.inr rfl)) (hd : (x == ("__debug__" : Str)) = false := by decide)
    (hcd : (x == ("__classdict__" : Str)) = false := by decide) (hs : starEach (.Name x pos :: es) X.env = (false, eval (.Name x pos) X.env) :: starEach es X.env := by rfl) : PA X (.Name x pos :: es) (tAs B W (some i :: sh) (aSlot i mr)) := s_slot i (by rw [hp]; decide) hr hN hv hd hcd hs
theorem run_fnE {f : Addr} {fd : FuncData} {ps : List Str} {sp : Sp} {dvs : List V} {ds : List Value} {pins : List (Addr × Obj)} {σ : L2.St} {H : Hp} {s : Shared} {Q : VK} {us : List Value} {vs : List V} (F : FnOk X.prog X.w X.K X.mg X.base (L2.CX X.prog X.w) k f fd ps sp) (hr : Room k X.A) (hb : Binds X.K fd ps ds) (hd : Vals dvs ds) (tk : Takes X W)
    (I : Inv X pins σ H s) (r : Vals vs us) (h : sp (vs ++ dvs) H Q (WE W σ)) : wpAny (model X.prog X.w) X.A (call (.ref f) us) (EP X pins σ Q) X.xe s := by
  have r2 : Vals (vs ++ dvs) (us ++ ds) := r.append hd
  have hl : (us ++ ds).length = ps.length := by rw [← r2.length]; exact F.len _ _ _ _ h
  refine wpAny_call (codeAny_mono (F.run X.A X.stack s H ⟨us, []⟩ (us ++ ds) (vs ++ dvs) Q _ hr I.env0 (hb s us I.kIn hl) r2 h) fun r s' hq => ?_)
  cases r with
  | error e => exact passAt tk σ pins H s e s' I hq
  | ok fl =>
    cases fl with
    | ret u => exact I.after hq
    | next => exact False.elim hq
    | brk => exact False.elim hq
    | cont => exact False.elim hq
/-- a def of the module, called by its name -/
structure DefOk (P : Program) (w : World) (K : PySem.W.Frag) (mg : Str → Option Value) (base : Heap) (cd : CD) (k : Nat) (x : Str) (pm : List Md) (rk : Bool) (dds : List D) (fn : List D → FR) : Prop where
  ex : ∃ (f : Addr) (fd : FuncData) (ps : List Str) (dvs : List V) (ds : List Value), FnOk P w K mg base (L2.CX P w) k f fd ps (spM K cd pm rk fn) ∧ mg x = some (.ref f) ∧ PySem.W.keepIn K (.ref f) = true ∧ Binds K fd ps ds ∧ Vals dvs ds ∧ ∀ F, RepL K cd F dds dvs
def eCall (fn : List D → FR) (sh : List (Option Nat)) (pm : List Md) (dds : List D) (m : Env → R (List D)) : Env → R D := fun ρ => (m ρ).bind fun ds ρ1 => match fill sh ds ρ1 with
  | some as => callR fn sh pm (as ++ dds) ρ1
  | none => .no
theorem call_post {sh : List (Option Nat)} {pm : List Md} {dds : List D} {dvs : List V} {rk : Bool} {fn : List D → FR} {m : Env → R (List D)} {σ : L2.St} {H : Hp} {Q : VK} (hd : ∀ F, RepL B.K B.cd F dds dvs) (hfit : fits B.md sh pm = true) (one : oneB pm = true) (hlen : sh.length + dds.length = pm.length)
    (h : tE B W (kR B.K B rk) (eCall fn sh pm dds m) σ H Q) : tAs B W sh m σ H fun vs H1 => spM B.K B.cd pm rk fn (vs ++ dvs) H1 Q (WE W σ) := by
  obtain ⟨φ, F, ρ, R0, h⟩ := h
  refine ⟨φ, F, ρ, R0, Post.bind h fun ds ρ1 _ h vs φ1 F1 H1 s1 R1 k1 => ?_⟩
  cases q : fill sh ds ρ1 with
  | none => rw [q] at h; exact h.elim
  | some as =>
    rw [q] at h
    exact call_core R1 k1 q hfit (one_of one) (hd F1) hlen (Post.mono s1 h fun d ρ' z v φ' F' H' s' R' k' => z v φ' F' H' (s1.trans s') R' k')
theorem c_callR {x : Str} {sh : List (Option Nat)} {pm : List Md} {dds : List D} {rk : Bool} {fn : List D → FR} {m : Env → R (List D)} (g : Gd X B W n) (F : DefOk X.prog X.w B.K X.mg X.base B.cd k x pm rk dds fn) (hk : k ≤ n) (hg : Gl X x) (hfit : fits B.md sh pm = true) (one : oneB pm = true) (hlen : sh.length + dds.length = pm.length)
    (ha : PA X (e :: es) (tAs B W sh m)) (hdb : (x == ("__debug__" : Str)) = false := by decide) (he : starEach (e :: es) X.env = (false, eval e X.env) :: starEach es X.env := by rfl) (hpl : (backTo pos (starEach es X.env)).any (·.1) = false := by rfl) :
    PE X (.Call (.Name x p) (e :: es) [] pos) (tE B W (kR B.K B rk) (eCall fn sh pm dds m)) := by
  obtain ⟨f, fd, ps, dvs, ds, F, hm, kp, hb, hd, hr⟩ := F.ex
  rw [← g.hK] at F kp hb
  refine ⟨fun pins s σ H Q I h => ?_⟩
  refine wpAny_Call_Name_kw (ld_glob I hg hm ?_ hdb)
  refine PySem.W.callWith_K (h₀ := X.base) I.ok.mod.kin kp (thn (ha.run pos pins s σ H _ I (call_post hr hfit one hlen h)) fun us s1 ⟨vs, H1, I1, r, q⟩ => ⟨I1.kIn, ?_⟩) he hpl
  refine run_fnE F (g.room.mono hk) hb hd g.tk I1 r ?_
  rw [g.hK]
  exact q
theorem c_call {x : Str} {sh : List (Option Nat)} {pm : List Md} {dds : List D} {fn : List D → FR} {m : Env → R (List D)} (g : Gd X B W n) (F : DefOk X.prog X.w B.K X.mg X.base B.cd k x pm false dds fn) (ha : PA X (e :: es) (tAs B W sh m)) (hg : Gl X x := by rfl) (hk : k ≤ n := by decide) (hfit : fits B.md sh pm = true := by rfl) (one : oneB pm = true := by rfl) (hlen : sh.length + dds.length = pm.length := by rfl)
    (hdb : (x == ("__debug__" : Str)) = false := by decide) (he : starEach (e :: es) X.env = (false, eval e X.env) :: starEach es X.env := by rfl) (hpl : (backTo pos (starEach es X.env)).any (·.1) = false := by rfl) :
    PE X (.Call (.Name x p) (e :: es) [] pos) (tE B W (kP B.K B) (eCall fn sh pm dds m)) := c_callR g F hk hg hfit one hlen ha hdb he hpl
theorem c_callO {x : Str} {sh : List (Option Nat)} {pm : List Md} {dds : List D} {fn : List D → FR} {m : Env → R (List D)} (g : Gd X B W n) (F : DefOk X.prog X.w B.K X.mg X.base B.cd k x pm true dds fn) (ha : PA X (e :: es) (tAs B W sh m)) (hg : Gl X x := by rfl) (hk : k ≤ n := by decide) (hfit : fits B.md sh pm = true := by rfl) (one : oneB pm = true := by rfl) (hlen : sh.length + dds.length = pm.length := by rfl)
    (hdb : (x == ("__debug__" : Str)) = false := by decide) (he : starEach (e :: es) X.env = (false, eval e X.env) :: starEach es X.env := by rfl) (hpl : (backTo pos (starEach es X.env)).any (·.1) = false := by rfl) :
    PE X (.Call (.Name x p) (e :: es) [] pos) (tE B W (kO B.K B) (eCall fn sh pm dds m)) := c_callR g F hk hg hfit one hlen ha hdb he hpl

structure MethOk (P : Program) (w : World) (K : PySem.W.Frag) (mg : Str → Option Value) (base : Heap) (cd : CD) (k : Nat) (c : Nat) (x : Str) (pm : List Md) (rk : Bool) (dds : List D) (fn : List D → FR) : Prop where
  ex : ∃ (f : Addr) (fd : FuncData) (ps : List Str) (dvs : List V) (ds : List Value) (I : CI), FnOk P w K mg base (L2.CX P w) k f fd ps (spM K cd (.p :: pm) rk fn) ∧ cd c = some I ∧ Cls K I.C ∧ Meth K I.C x f ∧ x ∉ I.ns ∧ Binds K fd ps ds ∧ Vals dvs ds ∧ ∀ F, RepL K cd F dds dvs
def tMethE (C : Addr) (m : Str) (sp : Sp) (dvs : List V) (W : WX) (ta : TE) (t : TA) : TE := fun σ H Q => ta σ H fun x H1 => ∃ a dx fs, x = .ref a ∧ H1 a = some (.ins C dx fs) ∧ fs.lookup m = none ∧
  t σ H1 fun vs H2 => sp (x :: (vs ++ dvs)) H2 Q (WE W σ)
theorem pe_methE {f C : Addr} {fd : FuncData} {ps : List Str} {sp : Sp} {dvs : List V} {ds : List Value} {m : Str} {ta : TE} {t : TA} {pl : Sem Bool} (he : PE X o ta) (c : Cls X.K C) (hm : Meth X.K C m f) (F : FnOk X.prog X.w X.K X.mg X.base (L2.CX X.prog X.w) k f fd ps sp) (hr : Room k X.A) (hb : Binds X.K fd ps ds) (hd : Vals dvs ds) (tk : Takes X W) (ha : PA X (e :: es) t)
    (hst : starEach (e :: es) X.env = (false, eval e X.env) :: starEach es X.env := by rfl) (hpl : (backTo pos (starEach es X.env)).any (·.1) = false := by rfl)
    (ht : eval (.Call (.Attribute o m apos) (e :: es) [] pos) X.env = (do
      let ov ← eval o X.env
      standAt apos.atName
      let (f, first) ← holding [ov] (getMethod ov m pl)
      callWith pos f first (backTo pos (starEach (e :: es) X.env)) (backToKw pos (keywordEach [] X.env))) := by rfl) :
    PE X (.Call (.Attribute o m apos) (e :: es) [] pos) (tMethE C m sp dvs W ta t) := by
  refine ⟨fun pins s σ H Q I h => ?_⟩
  refine PySem.W.methodCall_KW (pl := pl) (thn (he.run pins s σ H _ I h) fun u s1 ⟨x, H1, I1, rx, a, dx, fs, ex, ea, l, q⟩ => ?_) ht
  subst ex
  obtain rfl : u = Value.ref a := rx
  refine getmeth_ok I1 ea c hm l ?_
  refine PySem.W.callWith_K (first := [.ref a]) (h₀ := X.base) I.ok.mod.kin hm.kp (thn (ha.run pos pins s1 σ H1 _ I1 q) fun us s2 ⟨vs, H2, I2, r, q2⟩ => ⟨I2.kIn, ?_⟩) hst hpl
  exact run_fnE (us := .ref a :: us) (vs := .ref a :: vs) F hr hb hd tk I2 (.cons rfl r) q2
theorem pe_methE0 {f C : Addr} {fd : FuncData} {ps : List Str} {sp : Sp} {dvs : List V} {ds : List Value} {m : Str} {ta : TE} {pl : Sem Bool} (he : PE X o ta) (c : Cls X.K C) (hm : Meth X.K C m f) (F : FnOk X.prog X.w X.K X.mg X.base (L2.CX X.prog X.w) k f fd ps sp) (hr : Room k X.A) (hb : Binds X.K fd ps ds) (hd : Vals dvs ds) (tk : Takes X W)
    (ht : eval (.Call (.Attribute o m apos) [] [] pos) X.env = (do
      let ov ← eval o X.env
      standAt apos.atName
      let (f, first) ← holding [ov] (getMethod ov m pl)
      callWith pos f first (backTo pos (starEach [] X.env)) (backToKw pos (keywordEach [] X.env))) := by rfl) :
    PE X (.Call (.Attribute o m apos) [] [] pos) (tMethE C m sp dvs W ta tNil) := by
  refine ⟨fun pins s σ H Q I h => ?_⟩
  refine PySem.W.methodCall_KW (pl := pl) (thn (he.run pins s σ H _ I h) fun u s1 ⟨x, H1, I1, rx, a, dx, fs, ex, ea, l, q⟩ => ?_) ht
  subst ex
  obtain rfl : u = Value.ref a := rx
  refine getmeth_ok I1 ea c hm l ?_
  exact PySem.W.callWith_K0 (first := [.ref a]) I1.kIn hm.kp (run_fnE (us := [.ref a]) (vs := [.ref a]) F hr hb hd tk I1 (.cons rfl .nil) q)
/-- o.m(..), o an object of the class c: the object is the first of the data -/
def eMeth (c : Nat) (fn : List D → FR) (sh : List (Option Nat)) (pm : List Md) (dds : List D) (mo : Env → R D) (m : Env → R (List D)) : Env → R D := fun ρ => (mo ρ).bind fun x ρ0 => match x with
  | .obj c' _ => if c' = c then (m ρ0).bind fun ds ρ1 => match fill sh ds ρ1 with
      | some as => callR fn (none :: sh) (.p :: pm) (x :: (as ++ dds)) ρ1
      | none => .no
    else .no
  | _ => .no
theorem meth_post {sh : List (Option Nat)} {pm : List Md} {dds : List D} {dvs : List V} {rk : Bool} {fn : List D → FR} {mo : Env → R D} {m : Env → R (List D)} {σ : L2.St} {H : Hp} {Q : VK} {c : Nat} {I : CI} {x : Str} (hI : B.cd c = some I) (hx : x ∉ I.ns) (hd : ∀ F, RepL B.K B.cd F dds dvs) (hfit : fits B.md sh pm = true) (one : oneB pm = true) (hlen : sh.length + dds.length = pm.length)
    (h : tE B W (kR B.K B rk) (eMeth c fn sh pm dds mo m) σ H Q) : tMethE I.C x (spM B.K B.cd (.p :: pm) rk fn) dvs W (tE B W (kP B.K B) mo) (tAs B W sh m) σ H Q := by
  obtain ⟨φ, F, ρ, R0, h⟩ := h
  refine ⟨φ, F, ρ, R0, Post.bind h fun d ρ0 _ g v φ0 F0 H0 s0 R0 k0 => ?_⟩
  clear h
  cases d <;> try exact g.elim
  rename_i c' ds' _
  simp only at g
  split at g
  · rename_i hc
    subst hc
    obtain ⟨a, dx, I', vs', rfl, hI', hF, hv⟩ := rep_obj k0
    rw [hI] at hI'; cases hI'
    refine ⟨a, dx, _, rfl, R0.sub _ _ hF, lookup_zip_none hx, φ0, F0, ρ0, R0, Post.bind (Post.mono s0 g fun _ _ z => z) fun ds ρ1 _ h vs φ1 F1 H1 s1 R1 k1 => ?_⟩
    cases q : fill sh ds ρ1 with
    | none => rw [q] at h; exact h.elim
    | some as =>
      rw [q] at h
      have hsh : ShRep B F1 σ (none :: sh) (.obj c' ds' :: ds) (.ref a :: vs) := by
        simp only [ShRep]
        exact ⟨_, vs, rfl, Rep.mono s1 _ _ k0, k1⟩
      have hfl : fill (none :: sh) (.obj c' ds' :: ds) ρ1 = some (.obj c' ds' :: as) := by simp only [fill, q, Option.map_some]
      have hf2 : fits B.md (none :: sh) (.p :: pm) = true := hfit
      have ho2 : oneB (.p :: pm) = true := one
      exact call_core (vs := .ref a :: vs) (as := .obj c' ds' :: as) R1 hsh hfl hf2 (one_of ho2) (hd F1) (by simp only [List.length_cons]; omega)
        (Post.mono s1 h fun d ρ' z v φ' F' H' s' R' k' => z v φ' F' H' ((s0.trans s1).trans s') R' k')
  · exact g.elim
theorem c_methR {x : Str} {c : Nat} {sh : List (Option Nat)} {pm : List Md} {dds : List D} {rk : Bool} {fn : List D → FR} {mo : Env → R D} {m : Env → R (List D)} {pl : Sem Bool} (g : Gd X B W n) (F : MethOk X.prog X.w B.K X.mg X.base B.cd k c x pm rk dds fn) (hk : k ≤ n) (hfit : fits B.md sh pm = true) (one : oneB pm = true) (hlen : sh.length + dds.length = pm.length)
    (ho : PE X o (tE B W (kP B.K B) mo)) (ha : PA X (e :: es) (tAs B W sh m)) (he : starEach (e :: es) X.env = (false, eval e X.env) :: starEach es X.env := by rfl) (hpl : (backTo pos (starEach es X.env)).any (·.1) = false := by rfl)
    (ht : eval (.Call (.Attribute o x apos) (e :: es) [] pos) X.env = (do
      let ov ← eval o X.env
      standAt apos.atName
      let (f, first) ← holding [ov] (getMethod ov x pl)
      callWith pos f first (backTo pos (starEach (e :: es) X.env)) (backToKw pos (keywordEach [] X.env))) := by rfl) :
    PE X (.Call (.Attribute o x apos) (e :: es) [] pos) (tE B W (kR B.K B rk) (eMeth c fn sh pm dds mo m)) := by
  obtain ⟨f, fd, ps, dvs, ds, I, F, hI, cl, hm, hx, hb, hd, hr⟩ := F.ex
  rw [← g.hK] at F hb cl hm
  exact PE.imp (pe_methE ho cl hm F (g.room.mono hk) hb hd g.tk ha he hpl ht) fun σ H Q h => by
    rw [g.hK]
    exact meth_post hI hx hr hfit one hlen h
theorem c_methR0 {x : Str} {c : Nat} {pm : List Md} {dds : List D} {rk : Bool} {fn : List D → FR} {mo : Env → R D} {pl : Sem Bool} (g : Gd X B W n) (F : MethOk X.prog X.w B.K X.mg X.base B.cd k c x pm rk dds fn) (hk : k ≤ n) (hfit : fits B.md [] pm = true) (one : oneB pm = true) (hlen : dds.length = pm.length)
    (ho : PE X o (tE B W (kP B.K B) mo))
    (ht : eval (.Call (.Attribute o x apos) [] [] pos) X.env = (do
      let ov ← eval o X.env
      standAt apos.atName
      let (f, first) ← holding [ov] (getMethod ov x pl)
      callWith pos f first (backTo pos (starEach [] X.env)) (backToKw pos (keywordEach [] X.env))) := by rfl) :
    PE X (.Call (.Attribute o x apos) [] [] pos) (tE B W (kR B.K B rk) (eMeth c fn [] pm dds mo aNil)) := by
  obtain ⟨f, fd, ps, dvs, ds, I, F, hI, cl, hm, hx, hb, hd, hr⟩ := F.ex
  rw [← g.hK] at F hb cl hm
  exact PE.imp (pe_methE0 ho cl hm F (g.room.mono hk) hb hd g.tk ht) fun σ H Q h => by
    rw [g.hK]
    have z := meth_post (sh := []) (m := aNil) (dvs := dvs) hI hx hr hfit one (by simpa using hlen) h
    obtain ⟨φ, F, ρ, R0, z⟩ := z
    refine ⟨φ, F, ρ, R0, Post.mono (Same.refl _) z fun d ρ' z v φ' F' H' s' R' k' => ?_⟩
    obtain ⟨a, dx, fs, e1, e2, e3, z⟩ := z v φ' F' H' s' R' k'
    refine ⟨a, dx, fs, e1, e2, e3, ?_⟩
    obtain ⟨φ2, F2, ρ2, R2, z⟩ := z
    exact z [] φ2 F2 H' (Same.refl _) R2 (by simp only [ShRep])
end
end Mi

set_option Elab.async false
set_option linter.all false
set_option maxRecDepth 100000
namespace Mi
open PySem L2
section
variable {B : Bs} {W : WX} {φ : Nat → List Addr} {ρ : Env} {σ : L2.St} {H F : Hp}
theorem get_set_ne' {α : Type} {l : List α} {i j : Nat} {x : α} (h : i ≠ j) : (l.set i x)[j]? = l[j]? := List.getElem?_set_ne h
theorem get_set' {α : Type} {l : List α} {i j : Nat} {x y : α} (h : (l.set i x)[j]? = some y) : (i = j ∧ y = x ∧ i < l.length) ∨ (i ≠ j ∧ l[j]? = some y) := by
  by_cases e : i = j
  · subst e
    by_cases hi : i < l.length
    · rw [List.getElem?_set_self hi] at h; cases h; exact .inl ⟨rfl, rfl, hi⟩
    · rw [List.getElem?_eq_none (by simpa using hi)] at h; cases h
  · rw [List.getElem?_set_ne e] at h; exact .inr ⟨e, h⟩
theorem Rel.setP (R : Rel B φ ρ σ H F) {i : Nat} {d : D} {v : V} (hp : B.md i = .p) (h : Rep B.K B.cd F d v) : Rel B φ (ρ.set i (some d)) (σ.set i (some v)) H F := by
  refine ⟨R.sub, by rw [List.length_set, List.length_set]; exact R.len, fun j e h1 h2 => ?_, fun j e h1 h2 => ?_, fun j h1 => ?_, R.fr, R.dj, R.keep, R.dom, R.froz, R.fres, fun j b h1 => ?_, fun j b h' => ⟨(R.xsl j b h').1, fun e => by
    rcases get_set' e with ⟨_, z, _⟩ | ⟨hne, z⟩
    · cases z
    · first | (rw [List.getElem?_set_ne hne]; exact (R.xsl j b h').2 z) | exact (R.xsl j b h').2 z⟩⟩
  · rcases get_set' h1 with ⟨rfl, e1, hl⟩ | ⟨hne, h3⟩
    · cases e1
      exact ⟨v, List.getElem?_set_self (by rw [R.len]; exact hl), h⟩
    · obtain ⟨w, h4, h5⟩ := R.pl j e h3 h2
      exact ⟨w, by rw [List.getElem?_set_ne hne]; exact h4, h5⟩
  · rcases get_set' h1 with ⟨rfl, e1, hl⟩ | ⟨hne, h3⟩
    · exact absurd hp h2
    · obtain ⟨w, h4, h5⟩ := R.ow j e h3 h2
      exact ⟨w, by rw [List.getElem?_set_ne hne]; exact h4, h5⟩
  · by_cases hj : i = j
    · subst hj; exact R.und i (.inr hp)
    · refine R.und j ?_
      rcases h1 with h1 | h1
      · exact .inl fun e he => h1 e (by rw [List.getElem?_set_ne hj]; exact he)
      · exact .inr h1
  · obtain ⟨h2, h3, h4, e, h5⟩ := R.par j b h1
    have hj : i ≠ j := fun e => by rw [← e, hp] at h3; cases h3
    exact ⟨h2, h3, by rw [List.getElem?_set_ne hj]; exact h4, e, by rw [List.getElem?_set_ne hj]; exact h5⟩
theorem Rel.setO (R : Rel B φ ρ σ H F) {i : Nat} {d : D} {v : V} (ho : B.md i = .o) (hnp : B.np ≤ i) (h : kO B.K B φ F H v d) : ∃ φ', Rel B φ' (ρ.set i (some d)) (σ.set i (some v)) H F := by
  obtain ⟨a, fp, rfl, h1, h2⟩ := h
  refine ⟨fun j => if j = i then (if i < ρ.length then fp else []) else φ j, R.sub, by rw [List.length_set, List.length_set]; exact R.len, fun j e h3 h4 => ?_, fun j e h3 h4 => ?_, fun j h3 => ?_, fun j b hb => ?_, fun j l hjl b hb => ?_, R.keep, R.dom, R.froz, R.fres, fun j b h3 => ?_, fun j b h' => ⟨(R.xsl j b h').1, fun e => by
    rcases get_set' e with ⟨_, z, _⟩ | ⟨hne, z⟩
    · cases z
    · first | (rw [List.getElem?_set_ne hne]; exact (R.xsl j b h').2 z) | exact (R.xsl j b h').2 z⟩⟩
  · rcases get_set' h3 with ⟨rfl, e1, hl⟩ | ⟨hne, h5⟩
    · rw [ho] at h4; cases h4
    · obtain ⟨w, h6, h7⟩ := R.pl j e h5 h4
      exact ⟨w, by rw [List.getElem?_set_ne hne]; exact h6, h7⟩
  · rcases get_set' h3 with ⟨rfl, e1, hl⟩ | ⟨hne, h5⟩
    · cases e1
      refine ⟨a, List.getElem?_set_self (by rw [R.len]; exact hl), ?_⟩
      simp only [if_true, if_pos hl]
      exact h1
    · obtain ⟨w, h6, h7⟩ := R.ow j e h5 h4
      simp only [if_neg (Ne.symm hne)]
      exact ⟨w, by rw [List.getElem?_set_ne hne]; exact h6, h7⟩
  · by_cases hj : j = i
    · subst hj
      simp only [if_true]
      split
      · rename_i hl
        rcases h3 with h3 | h3
        · exact absurd (List.getElem?_set_self hl) (h3 d)
        · rw [ho] at h3; cases h3
      · rfl
    · simp only [if_neg hj]
      refine R.und j ?_
      rcases h3 with h3 | h3
      · exact .inl fun e he => h3 e (by rw [List.getElem?_set_ne (Ne.symm hj)]; exact he)
      · exact .inr h3
  · by_cases hj : j = i
    · subst hj
      simp only [if_true] at hb
      split at hb
      · exact ⟨(h2 b hb).1, .inr (h2 b hb).2.1⟩
      · simp at hb
    · simp only [if_neg hj] at hb
      exact R.fr j b hb
  · by_cases hj : j = i
    · subst hj
      simp only [if_true] at hb
      simp only [if_neg (Ne.symm hjl)]
      split at hb
      · exact (h2 b hb).2.2 l
      · simp at hb
    · simp only [if_neg hj] at hb
      by_cases hl : l = i
      · subst hl
        simp only [if_true]
        split
        · exact fun hm => (h2 b hm).2.2 j hb
        · simp
      · simp only [if_neg hl]
        exact R.dj j l hjl b hb
  · obtain ⟨h4, h5, h6, e, h7⟩ := R.par j b h3
    have hj : i ≠ j := fun e => by omega
    exact ⟨h4, h5, by rw [List.getElem?_set_ne hj]; exact h6, e, by rw [List.getElem?_set_ne hj]; exact h7⟩
/-- a list of one's own is changed -/
theorem Rel.mut (R : Rel B φ ρ σ H F) {i : Nat} {ds es : List D} (ho : B.md i = .o) (h : ρ[i]? = some (some (.lst ds))) :
    ∃ a vs, σ[i]? = some (some (.ref a)) ∧ H a = some (.lst vs) ∧ RepL B.K B.cd F ds vs ∧ ∀ ws, RepL B.K B.cd F es ws → Rel B φ (ρ.set i (some (.lst es))) σ (upd H a (.lst ws)) F := by
  obtain ⟨a, h1, h2⟩ := R.ow i _ h (by rw [ho]; decide)
  simp only [ORep] at h2
  obtain ⟨hφ, vs, h3, h4⟩ := h2
  have ha : a ∈ φ i := by rw [hφ]; simp
  obtain ⟨hF, hown⟩ := R.fr i a ha
  have hil : i < ρ.length := (List.getElem?_eq_some_iff.mp h).1
  refine ⟨a, vs, h1, h3, h4, fun ws hw => ?_⟩
  have other : ∀ j, j ≠ i → ∀ b ∈ φ j, (upd H a (.lst ws)) b = H b := fun j hj b hb => by
    rw [upd_ne]
    intro e; subst e
    exact R.dj i j (Ne.symm hj) b ha hb
  refine ⟨fun b u q => ?_, by rw [List.length_set]; exact R.len, fun j e h5 h6 => ?_, fun j e h5 h6 => ?_, fun j h5 => ?_, R.fr, R.dj, fun c u h5 h6 => ?_, fun c h5 => ?_, R.froz, R.fres, fun j b h5 => ?_, fun j b h' => ⟨(R.xsl j b h').1, fun e => by
    rcases get_set' e with ⟨_, z, _⟩ | ⟨hne, z⟩
    · cases z
    · first | (rw [List.getElem?_set_ne hne]; exact (R.xsl j b h').2 z) | exact (R.xsl j b h').2 z⟩⟩
  · have hb : b ≠ a := fun e => by subst e; rw [hF] at q; cases q
    rw [upd_ne hb]; exact R.sub b u q
  · rcases get_set' h5 with ⟨rfl, e1, hl⟩ | ⟨hne, h7⟩
    · rw [ho] at h6; cases h6
    · exact R.pl j e h7 h6
  · rcases get_set' h5 with ⟨rfl, e1, hl⟩ | ⟨hne, h7⟩
    · cases e1
      refine ⟨a, h1, ?_⟩
      simp only [ORep]
      exact ⟨hφ, ws, upd_same, hw⟩
    · obtain ⟨w, h8, h9⟩ := R.ow j e h7 h6
      exact ⟨w, h8, h9.mono (Same.refl _) (other j (Ne.symm hne))⟩
  · by_cases hj : i = j
    · subst hj
      rcases h5 with h5 | h5
      · exact absurd (List.getElem?_set_self hil) (h5 _)
      · rw [ho] at h5; cases h5
    · refine R.und j ?_
      rcases h5 with h5 | h5
      · exact .inl fun e he => h5 e (by rw [List.getElem?_set_ne hj]; exact he)
      · exact .inr h5
  · have hc : c ≠ a := fun e => by
      subst e
      rcases hown with z | z
      · exact h6 i z.2
      · rw [h5] at z; cases z
    rw [upd_ne hc]; exact R.keep c u h5 h6
  · by_cases hc : c = a
    · subst hc; rw [upd_same]; simp
    · rw [upd_ne hc]; exact R.dom c h5
  · obtain ⟨h6, h7, h8, e, h9⟩ := R.par j b h5
    refine ⟨h6, h7, h8, ?_⟩
    by_cases hj : i = j
    · subst hj; exact ⟨_, List.getElem?_set_self hil⟩
    · exact ⟨e, by rw [List.getElem?_set_ne hj]; exact h9⟩
/-- a list of one's own is given away, for good -/
theorem Rel.move (R : Rel B φ ρ σ H F) {i : Nat} {d : D} (ho : B.md i = .o) (hnp : B.np ≤ i) (h : ρ[i]? = some (some d)) :
    ∃ a φ' F', σ[i]? = some (some (.ref a)) ∧ Rel B φ' (ρ.set i none) σ H F' ∧ Same F F' ∧ Rep B.K B.cd F' d (.ref a) := by
  obtain ⟨a, h1, h2⟩ := R.ow i _ h (by rw [ho]; decide)
  have hfr := R.fr i
  have sF : Same F (lay F H (φ i)) := lay_same fun b hb => (hfr b hb).1
  have sH : Same (lay F H (φ i)) H := lay_sub R.sub
  have hil : i < ρ.length := (List.getElem?_eq_some_iff.mp h).1
  refine ⟨a, fun j => if j = i then [] else φ j, lay F H (φ i), h1, ?_, sF, h2.frz sF fun b hb => lay_at hb⟩
  have hown : ∀ b ∈ φ i, (i < B.np ∧ b ∈ B.own i) ∨ B.H0 b = none := fun b hb => (hfr b hb).2
  refine ⟨sH, by rw [List.length_set]; exact R.len, fun j e h3 h4 => ?_, fun j e h3 h4 => ?_, fun j h3 => ?_, fun j b hb => ?_, fun j l hjl b hb => ?_, R.keep, R.dom, R.froz.trans sF, fun c h3 => ?_, fun j b h3 => ?_, fun j b h' => ⟨(R.xsl j b h').1, fun e => by
    rcases get_set' e with ⟨hji, z, _⟩ | ⟨hne, z⟩
    · have := (R.xsl j b h').1; rw [← hji, ho] at this; cases this
    · exact (R.xsl j b h').2 z⟩⟩
  · rcases get_set' h3 with ⟨rfl, e1, hl⟩ | ⟨hne, h5⟩
    · cases e1
    · obtain ⟨v, h6, h7⟩ := R.pl j e h5 h4
      exact ⟨v, h6, Rep.mono sF _ _ h7⟩
  · rcases get_set' h3 with ⟨rfl, e1, hl⟩ | ⟨hne, h5⟩
    · cases e1
    · obtain ⟨v, h6, h7⟩ := R.ow j e h5 h4
      simp only [if_neg (Ne.symm hne)]
      exact ⟨v, h6, h7.mono sF fun _ _ => rfl⟩
  · by_cases hj : j = i
    · simp only [if_pos hj]
    · simp only [if_neg hj]
      refine R.und j ?_
      rcases h3 with h3 | h3
      · exact .inl fun e he => h3 e (by rw [List.getElem?_set_ne (Ne.symm hj)]; exact he)
      · exact .inr h3
  · by_cases hj : j = i
    · simp only [if_pos hj] at hb; simp at hb
    · simp only [if_neg hj] at hb
      obtain ⟨h4, h5⟩ := R.fr j b hb
      refine ⟨?_, h5⟩
      rw [lay_none fun hm => R.dj i j (Ne.symm hj) b hm hb]
      exact h4
  · by_cases hj : j = i
    · simp only [if_pos hj] at hb; simp at hb
    · simp only [if_neg hj] at hb
      by_cases hl : l = i
      · simp only [if_pos hl]; simp
      · simp only [if_neg hl]; exact R.dj j l hjl b hb
  · by_cases hc : c ∈ φ i
    · rcases hown c hc with z | z
      · exact absurd z.1 (Nat.not_lt.mpr hnp)
      · exact .inr z
    · rw [lay_none hc] at h3; exact R.fres c h3
  · obtain ⟨h4, h5, h6, e, h7⟩ := R.par j b h3
    have hj : i ≠ j := fun e => by omega
    exact ⟨h4, h5, h6, e, by rw [List.getElem?_set_ne hj]; exact h7⟩
end
end Mi

set_option Elab.async false
set_option linter.all false
set_option maxRecDepth 100000
namespace Mi
open PySem L2
section
variable {X : Cx} {B : Bs} {W : WX} {k : RK} {e : Expr} {es : List Expr} {st : Stmt} {rest a b : List Stmt} {pos pos' : Pos} {n : Nat}
def mNx : Env → R Flow := fun ρ => .ok .nx ρ
def mSeq (m l : Env → R Flow) : Env → R Flow := fun ρ => (m ρ).bind fun fl ρ1 => match fl with
  | .nx => l ρ1
  | f => .ok f ρ1
theorem b_nil : PSs X [] (tS B W k mNx) := by
  refine PSs.imp pss_nil fun D σ H h => ?_
  obtain ⟨φ, F, ρ, R0, h⟩ := h
  exact h φ σ F H (Same.refl _) R0
theorem seq_post {m l : Env → R Flow} {D : Ends} {F : Hp} {ρ : Env} (h : PostS B W k D F (mSeq m l ρ)) : PostS B W k { D with nx := tS B W k l D } F (m ρ) := by
  unfold mSeq at h
  cases q : m ρ with
  | no => rw [q] at h; exact h
  | ex c fs ρ1 => rw [q] at h; exact h
  | ok fl ρ1 =>
    rw [q] at h
    simp only [R.bind_ok] at h
    cases fl with
    | nx => exact fun φ' σ' F' H' s R' => ⟨φ', F', ρ1, R', PostS.mono s h⟩
    | rt d => exact h
    | bk => exact h
    | ct => exact h
theorem b_cons {m l : Env → R Flow} (h1 : PS X st (tS B W k m)) (h2 : PSs X rest (tS B W k l)) : PSs X (st :: rest) (tS B W k (mSeq m l)) := by
  refine PSs.imp (pss_cons h1 h2) fun D σ H h => ?_
  obtain ⟨φ, F, ρ, R0, h⟩ := h
  exact ⟨φ, F, ρ, R0, seq_post h⟩
theorem b_one {m : Env → R Flow} (h1 : PS X st (tS B W k m)) : PSs X [st] (tS B W k m) := pss_one h1
/-- an expression's outcome as a statement's -/
def toS {α : Type} (r : R α) (f : α → Env → R Flow) : R Flow := r.bind f
theorem postE {m : Env → R D} {f : D → Env → R Flow} {D' : Ends} {σ : L2.St} {F : Hp} {ρ : Env} {j : D → Env → Prop} (h : PostS B W k D' F ((m ρ).bind f)) (g : ∀ d ρ1, m ρ = .ok d ρ1 → PostS B W k D' F (f d ρ1) → j d ρ1) : Post B W σ F (m ρ) j := by
  cases q : m ρ with
  | no => rw [q] at h; exact h
  | ex c fs ρ1 => rw [q] at h; exact sX.toE h σ
  | ok d ρ1 => rw [q] at h; exact g d ρ1 q h
theorem postT {m : Env → R Bool} {f : Bool → Env → R Flow} {D' : Ends} {σ : L2.St} {F : Hp} {ρ : Env} {j : Bool → Env → Prop} (h : PostS B W k D' F ((m ρ).bind f)) (g : ∀ d ρ1, m ρ = .ok d ρ1 → PostS B W k D' F (f d ρ1) → j d ρ1) : Post B W σ F (m ρ) j := by
  cases q : m ρ with
  | no => rw [q] at h; exact h
  | ex c fs ρ1 => rw [q] at h; exact sX.toE h σ
  | ok d ρ1 => rw [q] at h; exact g d ρ1 q h
def mAsg (i : Nat) (m : Env → R D) : Env → R Flow := fun ρ => (m ρ).bind fun d ρ1 => .ok .nx (ρ1.set i (some d))
theorem asg_in {i : Nat} {te : TE} {m : Env → R D} (hp : B.md i = .p) (j : ∀ σ H Q, tE B W (kP B.K B) m σ H Q → te σ H Q) : ∀ D σ H, tS B W k (mAsg i m) D σ H → tAsg te (gName i) D σ H := by
  intro D σ H h
  obtain ⟨φ, F, ρ, R0, h⟩ := h
  refine j σ H _ ⟨φ, F, ρ, R0, postE h fun d ρ1 _ h v φ1 F1 H1 s1 R1 k1 => ?_⟩
  exact h φ1 _ F1 H1 s1 (R1.setP hp k1)
theorem b_asg (i : Nat) {x : Str} {m : Env → R D} (g : Gd X B W n) (he : PE X e (tE B W (kP B.K B) m)) (hp : B.md i = .p := by rfl) (hi : X.N[i]? = some x := by rfl) (hx : Loc X.env.scope x := by first | exact Or.inl rfl | exact Or.inr rfl) (hs : swapsWith e (some (.Name x pos')) pos.line X.env = pure false := by rfl)
    (hf : X.fn x = true ∨ X.env.scope.names.lookup x = some .local := by first | exact .inl rfl | exact .inr rfl) : PS X (.Assign [.Name x pos'] e pos) (tS B W k (mAsg i m)) :=
  PS.imp (ps_set g.nd hi hx he hs hf) (asg_in hp fun _ _ _ z => z)
theorem asgO_in {i : Nat} {te : TE} {m : Env → R D} (ho : B.md i = .o) (hnp : B.np ≤ i) (j : ∀ σ H Q, tE B W (kO B.K B) m σ H Q → te σ H Q) : ∀ D σ H, tS B W k (mAsg i m) D σ H → tAsg te (gName i) D σ H := by
  intro D σ H h
  obtain ⟨φ, F, ρ, R0, h⟩ := h
  refine j σ H _ ⟨φ, F, ρ, R0, postE h fun d ρ1 _ h v φ1 F1 H1 s1 R1 k1 => ?_⟩
  obtain ⟨φ', R2⟩ := R1.setO ho hnp k1
  exact h φ' _ F1 H1 s1 R2
theorem b_asgO (i : Nat) {x : Str} {m : Env → R D} (g : Gd X B W n) (he : PE X e (tE B W (kO B.K B) m)) (ho : B.md i = .o := by rfl) (hnp : B.np ≤ i := by decide) (hi : X.N[i]? = some x := by rfl) (hx : Loc X.env.scope x := by first | exact Or.inl rfl | exact Or.inr rfl) (hs : swapsWith e (some (.Name x pos')) pos.line X.env = pure false := by rfl)
    (hf : X.fn x = true ∨ X.env.scope.names.lookup x = some .local := by first | exact .inl rfl | exact .inr rfl) : PS X (.Assign [.Name x pos'] e pos) (tS B W k (mAsg i m)) :=
  PS.imp (ps_set g.nd hi hx he hs hf) (asgO_in ho hnp fun _ _ _ z => z)
def mExp (m : Env → R D) : Env → R Flow := fun ρ => (m ρ).bind fun _ ρ1 => .ok .nx ρ1
theorem b_exp {kk : RK} {m : Env → R D} (he : PE X e (tE B W kk m)) (hs : swapsWith e none pos.line X.env = pure false := by rfl) : PS X (.Expr e pos) (tS B W k (mExp m)) := by
  refine PS.imp (ps_expr he hs) fun D σ H h => ?_
  obtain ⟨φ, F, ρ, R0, h⟩ := h
  exact ⟨φ, F, ρ, R0, postE h fun d ρ1 _ h v φ1 F1 H1 s1 R1 k1 => h φ1 _ F1 H1 s1 R1⟩
def mRet (m : Env → R D) : Env → R Flow := fun ρ => (m ρ).bind fun d ρ1 => .ok (.rt d) ρ1
theorem b_ret {m : Env → R D} (he : PE X e (tE B W k m)) : PS X (.Return (some e) pos) (tS B W k (mRet m)) := by
  refine PS.imp (ps_ret he) fun D σ H h => ?_
  obtain ⟨φ, F, ρ, R0, h⟩ := h
  exact ⟨φ, F, ρ, R0, postE h fun d ρ1 _ h v φ1 F1 H1 s1 R1 k1 => h v φ1 _ F1 H1 s1 R1 k1⟩
def mRetN : Env → R Flow := fun ρ => .ok (.rt .non) ρ
theorem b_retN : PS X (.Return none pos) (tS B W (kP B.K B) mRetN) := by
  refine PS.imp ps_retN fun D σ H h => ?_
  obtain ⟨φ, F, ρ, R0, h⟩ := h
  exact h _ φ σ F H (Same.refl _) R0 rep_of_non
theorem b_pass : PS X (.Pass pos) (tS B W k mNx) := by
  refine PS.imp ps_pass fun D σ H h => ?_
  obtain ⟨φ, F, ρ, R0, h⟩ := h
  exact h φ σ F H (Same.refl _) R0
def mBk : Env → R Flow := fun ρ => .ok .bk ρ
def mCt : Env → R Flow := fun ρ => .ok .ct ρ
theorem b_break : PS X (.Break pos) (tS B W k mBk) := by
  refine PS.imp ps_break fun D σ H h => ?_
  obtain ⟨φ, F, ρ, R0, h⟩ := h
  exact h φ σ F H (Same.refl _) R0
theorem b_cont : PS X (.Continue pos) (tS B W k mCt) := by
  refine PS.imp ps_continue fun D σ H h => ?_
  obtain ⟨φ, F, ρ, R0, h⟩ := h
  exact h φ σ F H (Same.refl _) R0
def mIf (t : Env → R Bool) (m l : Env → R Flow) : Env → R Flow := fun ρ => (t ρ).bind fun c ρ1 => if c = true then m ρ1 else l ρ1
theorem b_if {c : Expr} {t : Env → R Bool} {m l : Env → R Flow} (hc : PT X c (tT B W t)) (ha : PSs X a (tS B W k m)) (hb : PSs X b (tS B W k l)) : PS X (.If c a b pos) (tS B W k (mIf t m l)) := by
  refine PS.imp (ps_if hc ha hb) fun D σ H h => ?_
  obtain ⟨φ, F, ρ, R0, h⟩ := h
  refine ⟨φ, F, ρ, R0, postT h fun c ρ1 _ h φ1 F1 H1 s1 R1 => ?_⟩
  cases c with
  | true => rw [if_pos rfl]; exact ⟨φ1, F1, ρ1, R1, PostS.mono s1 h⟩
  | false => rw [if_neg Bool.false_ne_true]; exact ⟨φ1, F1, ρ1, R1, PostS.mono s1 h⟩
def tG (B : Bs) (vs : List Nat) (tg : D → Env → Option Env) : TG := fun v σ H k => ∃ d φ F ρ ρ', Rel B φ ρ σ H F ∧ Rep B.K B.cd F d v ∧ tg d ρ = some ρ' ∧ ∀ φ' σ' F' H', Same F F' → Rel B φ' ρ' σ' H' F' → wipe σ' vs = wipe σ vs → k σ' H'
def tGs (B : Bs) (vs : List Nat) (tg : List D → Env → Option Env) : TGs := fun us σ H k => ∃ ds φ F ρ ρ', Rel B φ ρ σ H F ∧ RepL B.K B.cd F ds us ∧ tg ds ρ = some ρ' ∧ ∀ φ' σ' F' H', Same F F' → Rel B φ' ρ' σ' H' F' → wipe σ' vs = wipe σ vs → k σ' H'
theorem PG.imp {tg : Expr} {t t' : TG} (h : PG X tg t) (j : ∀ v σ H Q, t' v σ H Q → t v σ H Q) : PG X tg t' := ⟨fun pins s σ H v u Q I r q => h.run pins s σ H v u Q I r (j _ _ _ _ q)⟩
theorem PGs.imp {tg : List Expr} {t t' : TGs} (h : PGs X tg t) (j : ∀ v σ H Q, t' v σ H Q → t v σ H Q) : PGs X tg t' := ⟨fun pins s σ H v u Q I r q => h.run pins s σ H v u Q I r (j _ _ _ _ q)⟩
theorem wipe_set (i : Nat) (x : Option V) : ∀ (vs : List Nat) (σ : L2.St), i ∈ vs → wipe (σ.set i x) vs = wipe σ vs
  | [], _, h => by simp at h
  | v :: vs, σ, h => by
    unfold wipe
    by_cases hv : i ∈ vs
    · rw [wipe_set i x vs σ hv]
    · have hiv : i = v := by
        rcases List.mem_cons.mp h with e | e
        · exact e
        · exact absurd e hv
      subst hiv
      have key : ∀ (vs : List Nat) (σ : L2.St), i ∉ vs → wipe (σ.set i x) vs = (wipe σ vs).set i x := by
        intro vs
        induction vs with
        | nil => intro σ _; rfl
        | cons w ws ih =>
          intro σ hn
          unfold wipe
          rw [ih σ fun hm => hn (by simp [hm]), List.set_comm]
          intro e; exact hn (by simp [e])
      rw [key vs σ hv, List.set_set]
def gtName (i : Nat) : D → Env → Option Env := fun d ρ => some (ρ.set i (some d))
theorem gt_name (i : Nat) {vs : List Nat} {x : Str} (g : X.N.Nodup) (hp : B.md i = .p := by rfl) (hv : i ∈ vs := by decide) (hi : X.N[i]? = some x := by rfl) (hx : Loc X.env.scope x := by first | exact Or.inl rfl | exact Or.inr rfl)
    (hf : X.fn x = true ∨ X.env.scope.names.lookup x = some .local := by first | exact .inl rfl | exact .inr rfl) : PG X (.Name x pos) (tG B vs (gtName i)) := by
  refine PG.imp (pg_name g hi hx hf) fun v σ H Q h => ?_
  obtain ⟨d, φ, F, ρ, ρ', R0, hr, ht, h⟩ := h
  simp only [gtName, Option.some.injEq] at ht
  subst ht
  exact h φ _ F H (Same.refl _) (R0.setP hp hr) (wipe_set _ _ _ _ hv)
def gsNil : List D → Env → Option Env
  | [], ρ => some ρ
  | _, _ => none
def gsCons (t : D → Env → Option Env) (r : List D → Env → Option Env) : List D → Env → Option Env
  | d :: ds, ρ => (t d ρ).bind fun ρ1 => r ds ρ1
  | _, _ => none
theorem gs_nil {vs : List Nat} : PGs X [] (tGs B vs gsNil) := by
  refine PGs.imp pgs_nil fun us σ H Q h => ?_
  obtain ⟨ds, φ, F, ρ, ρ', R0, hr, ht, h⟩ := h
  cases ds with
  | cons d ds => simp only [gsNil] at ht; cases ht
  | nil =>
    simp only [gsNil, Option.some.injEq] at ht
    subst ht
    simp only [RepL] at hr
    exact ⟨hr, h φ σ F H (Same.refl _) R0 rfl⟩
theorem gs_cons {vs : List Nat} {t : D → Env → Option Env} {r : List D → Env → Option Env} (h1 : PG X e (tG B vs t)) (h2 : PGs X es (tGs B vs r)) (hs : (assignEach (e :: es) X.env).map (·.2) = assign e X.env :: (assignEach es X.env).map (·.2) := by rfl) :
    PGs X (e :: es) (tGs B vs (gsCons t r)) := by
  refine PGs.imp (pgs_cons h1 h2 hs) fun us σ H Q h => ?_
  obtain ⟨ds, φ, F, ρ, ρ', R0, hr, ht, h⟩ := h
  cases ds with
  | nil => simp only [gsCons] at ht; cases ht
  | cons d ds =>
    simp only [gsCons, Option.bind_eq_some_iff] at ht
    obtain ⟨ρ1, ht1, ht2⟩ := ht
    simp only [RepL] at hr
    obtain ⟨v, ws, rfl, hr1, hr2⟩ := hr
    refine ⟨v, ws, rfl, d, φ, F, ρ, ρ1, R0, hr1, ht1, fun φ1 σ1 F1 H1 s1 R1 w1 => ?_⟩
    exact ⟨ds, φ1, F1, ρ1, ρ', R1, RepL.mono s1 _ _ hr2, ht2, fun φ2 σ2 F2 H2 s2 R2 w2 => h φ2 σ2 F2 H2 (s1.trans s2) R2 (w2.trans w1)⟩
def gtTup (n : Nat) (r : List D → Env → Option Env) : D → Env → Option Env
  | .tup ds, ρ => if ds.length = n then r ds ρ else none
  | _, _ => none
theorem gt_tup {vs : List Nat} {j n : Nat} {r : List D → Env → Option Env} (hK : X.K = B.K) (hc : X.calm = true) (h : PGs X es (tGs B vs r)) (hn : (assignEach es X.env).length = n := by rfl) (hst : (assignEach es X.env).findIdx? (·.1) = none := by rfl) :
    PG X (.Tuple es j pos) (tG B vs (gtTup n r)) := by
  refine PG.imp (pg_tup hc h hn hst) fun v σ H Q h => ?_
  obtain ⟨d, φ, F, ρ, ρ', R0, hr, ht, h⟩ := h
  cases d <;> simp only [gtTup] at ht <;> try cases ht
  split at ht
  · rename_i hl
    obtain ⟨a, ws, rfl, h1, h2⟩ := rep_tup hr
    rw [hK]
    exact ⟨a, ws, rfl, sqt_mono R0.sub h1, by rw [repL_length h2]; exact hl, _, φ, F, ρ, ρ', R0, h2, ht, h⟩
  · cases ht
/-- a, b = e -/
def mAsgT (tg : D → Env → Option Env) (m : Env → R D) : Env → R Flow := fun ρ => (m ρ).bind fun d ρ1 => match tg d ρ1 with
  | some ρ2 => .ok .nx ρ2
  | none => .no
theorem b_asgT {vs : List Nat} {tg : Expr} {t : D → Env → Option Env} {m : Env → R D} (he : PE X e (tE B W (kP B.K B) m)) (hg : PG X tg (tG B vs t)) (hs : swapsWithSole [tg] e pos.line X.env = pure false := by rfl) (hw : swappedStores [tg] e X.env = pure none := by rfl)
    (h1 : (assignEach [tg] X.env).map (·.2) = [assign tg X.env] := by rfl) : PS X (.Assign [tg] e pos) (tS B W k (mAsgT t m)) := by
  refine PS.imp (ps_asg he hg hs hw h1) fun D σ H h => ?_
  obtain ⟨φ, F, ρ, R0, h⟩ := h
  refine ⟨φ, F, ρ, R0, postE h fun d ρ1 _ h v φ1 F1 H1 s1 R1 k1 => ?_⟩
  cases q : t d ρ1 with
  | none => rw [q] at h; exact h.elim
  | some ρ2 =>
    rw [q] at h
    exact ⟨d, φ1, F1, ρ1, ρ2, R1, k1, q, fun φ2 σ2 F2 H2 s2 R2 _ => h φ2 σ2 F2 H2 (s1.trans s2) R2⟩
/-- the iterator J gives the data ds, one by one, whatever comes between -/
def Gives (B : Bs) (J : It) (ds : List D) (F : Hp) : Prop := ∀ (i : Nat) (B' : Bs) φ ρ σ F1 H1, B'.K = B.K → B'.cd = B.cd → Same F F1 → Rel B' φ ρ σ H1 F1 →
  (∀ d, ds[i]? = some d → J.go i H1 ∧ ∀ x H2, J.yld i H1 x H2 → ∃ F2, Same F1 F2 ∧ Rel B' φ ρ σ H2 F2 ∧ Rep B.K B.cd F2 d x) ∧ (ds.length ≤ i → J.stop i H1)
def tI (B : Bs) (W : WX) (m : Env → R (List D)) : TI := fun σ H R => ∃ φ F ρ, Rel B φ ρ σ H F ∧ Post B W σ F (m ρ) fun ds ρ' => ∀ J φ' F' H', Same F F' → Rel B φ' ρ' σ H' F' → Gives B J ds F' → R J H'
theorem PI.imp {tg iter : Expr} {t t' : TI} (h : PI X tg iter t) (j : ∀ σ H Q, t' σ H Q → t σ H Q) : PI X tg iter t' := ⟨fun pins s σ H Q I q => h.run pins s σ H Q I (j _ _ _ q)⟩
def iLst (m : Env → R D) : Env → R (List D) := fun ρ => (m ρ).bind fun d ρ1 => match d with
  | .lst xs => .ok xs ρ1
  | .tup xs => .ok xs ρ1
  | _ => .no
theorem gives_lst {J : It} {ds : List D} {F : Hp} {vs : List V} (hr : RepL B.K B.cd F ds vs) (hgo : ∀ i H1, (∃ F1, Same F F1 ∧ Same F1 H1) → (i < vs.length → J.go i H1) ∧ (vs.length ≤ i → J.stop i H1) ∧ ∀ x H2, J.yld i H1 x H2 → H2 = H1 ∧ (∀ v, vs[i]? = some v → x = v)) : Gives B J ds F := by
  intro i B' φ ρ σ F1 H1 eK ec s R
  have hl := repL_length hr
  obtain ⟨h1, h2, h3⟩ := hgo i H1 ⟨F1, s, R.sub⟩
  refine ⟨fun d hd => ?_, fun h => h2 (by rw [hl]; exact h)⟩
  obtain ⟨v, hv, rv⟩ := repL_get hr hd
  refine ⟨h1 (List.getElem?_eq_some_iff.mp hv).1, fun x H2 y => ?_⟩
  obtain ⟨rfl, hx⟩ := h3 x H2 y
  rw [hx v hv]
  exact ⟨F1, Same.refl _, R, Rep.mono s _ _ rv⟩
theorem i_lst {tg : Expr} {m : Env → R D} (hK : X.K = B.K) (he : PE X e (tE B W (kP B.K B) m)) : PI X tg e (tI B W (iLst m)) := by
  have h : PI X tg e (fun σ H R => iList X.K (tE B W (kP B.K B) m) σ H R ∨ iTup X.K (tE B W (kP B.K B) m) σ H R) := ⟨fun pins s σ H R I q => q.elim ((pi_list he).run pins s σ H R I) ((pi_tup he).run pins s σ H R I)⟩
  refine PI.imp h fun σ H Q h => ?_
  obtain ⟨φ, F, ρ, R0, h⟩ := h
  have cases_ : (∃ xs ρ1, m ρ = .ok (.tup xs) ρ1) ∨ ¬ ∃ xs ρ1, m ρ = .ok (.tup xs) ρ1 := Classical.em _
  rcases cases_ with ⟨xs, ρ1, q⟩ | hno
  · refine .inr ⟨φ, F, ρ, R0, Post.bind h fun d ρ1' q' h v φ1 F1 H1 s1 R1 k1 => ?_⟩
    rw [q] at q'; cases q'
    obtain ⟨a, vs, rfl, h1, h2⟩ := rep_tup k1
    rw [hK]
    have hs := sqt_mono R1.sub h1
    refine ⟨a, rfl, ⟨vs, hs⟩, h (Itt B.K a) φ1 F1 H1 s1 R1 (gives_lst h2 fun i H2 ⟨F2, e1, e2⟩ => ?_)⟩
    have hs2 := sqt_mono (e1.trans e2) h1
    refine ⟨fun hi => ⟨vs, vs[i], hs2, List.getElem?_eq_getElem hi⟩, fun hi => ⟨vs, hs2, hi⟩, fun x H3 y => ⟨y.1, fun v hv => ?_⟩⟩
    have := y.2 vs hs2
    rw [hv] at this
    exact (Option.some.inj this).symm
  · refine .inl ⟨φ, F, ρ, R0, Post.bind h fun d ρ1 q h v φ1 F1 H1 s1 R1 k1 => ?_⟩
    cases d <;> try exact h.elim
    · exact absurd ⟨_, _, q⟩ hno
    · obtain ⟨a, vs, rfl, h1, h2⟩ := rep_lst k1
      rw [hK]
      refine ⟨a, rfl, ⟨vs, .inl (.inl (R1.sub _ _ h1))⟩, h (Itl B.K a) φ1 F1 H1 s1 R1 (gives_lst h2 fun i H2 ⟨F2, e1, e2⟩ => ?_)⟩
      have hs2 : SqL B.K H2 a vs := .inl (.inl (e2 _ _ (e1 _ _ h1)))
      refine ⟨fun hi => ⟨vs, vs[i], hs2, List.getElem?_eq_getElem hi⟩, fun hi => ⟨vs, hs2, hi⟩, fun x H3 y => ⟨y.1, fun v hv => ?_⟩⟩
      have := y.2 vs hs2
      rw [hv] at this
      exact (Option.some.inj this).symm
def rngD (lo : Int) (n : Nat) : List D := (List.range n).map fun i => .int (lo + (i : Nat))
theorem gives_rng {lo : Int} {n : Nat} {F : Hp} : Gives B (Itr lo n) (rngD lo n) F := by
  intro i B' φ ρ σ F1 H1 eK ec s R
  have hl : (rngD lo n).length = n := by simp [rngD]
  refine ⟨fun d hd => ?_, fun h => by rw [hl] at h; exact h⟩
  have hi : i < n := by rw [← hl]; exact (List.getElem?_eq_some_iff.mp hd).1
  refine ⟨hi, fun x H2 y => ?_⟩
  obtain ⟨rfl, rfl⟩ := y
  simp only [rngD, List.getElem?_map, List.getElem?_range hi, Option.map_some, Option.some.injEq] at hd
  subst hd
  exact ⟨F1, Same.refl _, R, rep_of_int⟩
/-- a bound of a range -/
def rgSm (j : Int) : Bool := decide (j.natAbs < 4611686018427387904)
theorem rgSm_ok {j : Int} (h : rgSm j = true) : -(2 ^ 62) ≤ j ∧ j < 2 ^ 62 := by
  unfold rgSm at h
  simp only [decide_eq_true_eq] at h
  omega
theorem rgSm_of {j : Int} (h : j.natAbs < 4611686018427387904) : rgSm j = true := by
  unfold rgSm
  rw [decide_eq_true h]
def iR1 (m : Env → R D) : Env → R (List D) := fun ρ => (m ρ).bind fun d ρ1 => match d with
  | .int j => if rgSm j = true then .ok (rngD 0 j.toNat) ρ1 else .no
  | _ => .no
theorem i_rng1 {tg a : Expr} {p : Pos} {m : Env → R D} (hg : Gl X "range") (hm : X.mg "range" = none) (ha : PE X a (tE B W (kP B.K B) m)) (hs : starEach [a] X.env = [(false, eval a X.env)] := by rfl) :
    PI X tg (.Call (.Name "range" p) [a] [] pos) (tI B W (iR1 m)) := by
  refine PI.imp (pi_range1 hg hm (pa_cons ha pa_nil (by rw [hs]; rfl)) hs) fun σ H Q h => ?_
  obtain ⟨φ, F, ρ, R0, h⟩ := h
  refine ⟨φ, F, ρ, R0, Post.bind h fun d ρ1 _ h v φ1 F1 H1 s1 R1 k1 => ?_⟩
  cases d <;> try exact h.elim
  simp only at h
  split at h
  · rename_i hl
    obtain rfl := rep_int k1
    exact ⟨_, rfl, (rgSm_ok hl).1, (rgSm_ok hl).2, h _ φ1 F1 H1 s1 R1 gives_rng⟩
  · exact h.elim
def iR2 (m l : Env → R D) : Env → R (List D) := fun ρ => (m ρ).bind fun d ρ1 => (l ρ1).bind fun d2 ρ2 => match d, d2 with
  | .int i, .int j => if rgSm i = true ∧ rgSm j = true then .ok (rngD i (j - i).toNat) ρ2 else .no
  | _, _ => .no
theorem i_rng2 {tg a b : Expr} {p : Pos} {m l : Env → R D} (hg : Gl X "range") (hm : X.mg "range" = none) (ha : PE X a (tE B W (kP B.K B) m)) (hb : PE X b (tE B W (kP B.K B) l)) (hs : starEach [a, b] X.env = [(false, eval a X.env), (false, eval b X.env)] := by rfl) (hs2 : starEach [b] X.env = [(false, eval b X.env)] := by rfl) :
    PI X tg (.Call (.Name "range" p) [a, b] [] pos) (tI B W (iR2 m l)) := by
  refine PI.imp (pi_range2 hg hm (pa_cons ha (pa_cons hb pa_nil (by rw [hs2]; rfl)) (by rw [hs, hs2])) hs hs2) fun σ H Q h => ?_
  obtain ⟨φ, F, ρ, R0, h⟩ := h
  refine ⟨φ, F, ρ, R0, Post.bind h fun d ρ1 _ h v φ1 F1 H1 s1 R1 k1 => ?_⟩
  refine ⟨φ1, F1, ρ1, R1, Post.bind (Post.mono s1 h fun _ _ z => z) fun d2 ρ2 _ h v2 φ2 F2 H2 s2 R2 k2 => ?_⟩
  cases d <;> try exact h.elim
  cases d2 <;> try exact h.elim
  simp only at h
  split at h
  · rename_i hl
    obtain rfl := rep_int k1
    obtain rfl := rep_int k2
    exact ⟨_, _, rfl, ⟨(rgSm_ok hl.1).1, (rgSm_ok hl.1).2, (rgSm_ok hl.2).1, (rgSm_ok hl.2).2⟩, h _ φ2 F2 H2 (s1.trans s2) R2 gives_rng⟩
  · exact h.elim
def loopL (tg : D → Env → Option Env) (m : Env → R Flow) : List D → Env → R Flow
  | [], ρ => .ok .nx ρ
  | d :: ds, ρ => match tg d ρ with
    | none => .no
    | some ρ1 => (m ρ1).bind fun fl ρ2 => match fl with
      | .nx => loopL tg m ds ρ2
      | .ct => loopL tg m ds ρ2
      | .bk => .ok .nx ρ2
      | .rt v => .ok (.rt v) ρ2
def mFor (src : Env → R (List D)) (tg : D → Env → Option Env) (m : Env → R Flow) : Env → R Flow := fun ρ => (src ρ).bind fun ds ρ1 => loopL tg m ds ρ1
theorem b_for {vs : List Nat} {tg iter : Expr} {body : List Stmt} {src : Env → R (List D)} {t : D → Env → Option Env} {m : Env → R Flow} (g : Gd X B W n) (hi : PI X tg iter (tI B W src)) (hg : PG X tg (tG B vs t)) (hb : PSs X body (tS B W k m)) (hs : ∀ x, foldedSetIterable iter X.env x = pure x := by intro _; rfl) :
    PS X (.For tg iter body [] pos) (tS B W k (mFor src t m)) := by
  refine PS.imp (ps_for g.hp g.calm hi hg hb hs) fun D σ H h => ?_
  obtain ⟨φ, F, ρ, R0, h⟩ := h
  refine ⟨φ, F, ρ, R0, ?_⟩
  unfold mFor at h
  cases q : src ρ with
  | no => rw [q] at h; exact h
  | ex c fs ρ1 => rw [q] at h; exact sX.toE h σ
  | ok ds ρ1 =>
    rw [q] at h
    simp only [R.bind_ok] at h
    intro J φ1 F1 H1 s1 R1 gv
    refine ⟨fun i j σ2 H2 => j = ds.length - i ∧ i ≤ ds.length ∧ ∃ φ2 F2 ρ2, Same F1 F2 ∧ Rel B φ2 ρ2 σ2 H2 F2 ∧ PostS B W k D F2 (loopL t m (ds.drop i) ρ2), ⟨_, rfl, Nat.zero_le _, φ1, F1, ρ1, Same.refl _, R1, by rw [List.drop_zero]; exact PostS.mono s1 h⟩, ?_⟩
    rintro i j σ2 H2 ⟨rfl, hil, φ2, F2, ρ2, s2, R2, h2⟩
    obtain ⟨g1, g2⟩ := gv i B φ2 ρ2 σ2 F2 H2 rfl rfl s2 R2
    by_cases hlt : i < ds.length
    · obtain ⟨hgo, hy⟩ := g1 ds[i] (List.getElem?_eq_getElem hlt)
      refine .inr ⟨hgo, fun σ' H' => ∃ φ3 F3 ρ3, Same F1 F3 ∧ Rel B φ3 ρ3 σ' H' F3 ∧ PostS B W k D F3 (loopL t m (ds.drop (i + 1)) ρ3), fun σ' H' z => ⟨ds.length - (i + 1), by omega, rfl, hlt, z⟩, fun x H' y => ?_⟩
      obtain ⟨F3, s3, R3, rx⟩ := hy x H' y
      rw [List.drop_eq_getElem_cons hlt] at h2
      unfold loopL at h2
      cases qt : t ds[i] ρ2 with
      | none => rw [qt] at h2; exact h2.elim
      | some ρ3 =>
        rw [qt] at h2
        simp only at h2
        refine ⟨ds[i], φ2, F3, ρ2, ρ3, R3, rx, qt, fun φ4 σ4 F4 H4 s4 R4 _ => ?_⟩
        refine ⟨φ4, F4, ρ3, R4, ?_⟩
        have h3 := PostS.mono (s3.trans s4) h2
        cases qm : m ρ3 with
        | no => rw [qm] at h3; exact h3
        | ex c fs ρ5 => rw [qm] at h3; exact h3
        | ok fl ρ5 =>
          rw [qm] at h3
          simp only [R.bind_ok] at h3
          have s14 : Same F1 F4 := (s2.trans s3).trans s4
          cases fl with
          | nx => exact fun φ' σ' F' H' s' R' => ⟨φ', F', ρ5, s14.trans s', R', PostS.mono s' h3⟩
          | ct => exact fun φ' σ' F' H' s' R' => ⟨φ', F', ρ5, s14.trans s', R', PostS.mono s' h3⟩
          | bk => exact h3
          | rt v => exact h3
    · have e : i = ds.length := by omega
      refine .inl ⟨g2 (by omega), ?_⟩
      rw [e, List.drop_length] at h2
      exact h2 φ2 σ2 F2 H2 (Same.refl _) R2
def loopW (t : Env → R Bool) (m : Env → R Flow) : Nat → Env → R Flow
  | 0, _ => .no
  | j + 1, ρ => (t ρ).bind fun c ρ1 => if c = true then (m ρ1).bind fun fl ρ2 => match fl with
      | .nx => loopW t m j ρ2
      | .ct => loopW t m j ρ2
      | .bk => .ok .nx ρ2
      | .rt v => .ok (.rt v) ρ2
    else .ok .nx ρ1
def mWhile (j : Nat) (t : Env → R Bool) (m : Env → R Flow) : Env → R Flow := fun ρ => loopW t m j ρ
theorem b_while (j : Nat) {c : Expr} {body : List Stmt} {t : Env → R Bool} {m : Env → R Flow} (g : Gd X B W n) (hc : PT X c (tT B W t)) (hb : PSs X body (tS B W k m)) : PS X (.While c body [] pos) (tS B W k (mWhile j t m)) := by
  refine PS.imp (ps_while g.hp hc hb) fun D σ H h => ?_
  obtain ⟨φ, F, ρ, R0, h⟩ := h
  refine ⟨fun l σ2 H2 => ∃ φ2 F2 ρ2, Rel B φ2 ρ2 σ2 H2 F2 ∧ PostS B W k D F2 (loopW t m l ρ2), ⟨j, φ, F, ρ, R0, h⟩, ?_⟩
  rintro l σ2 H2 ⟨φ2, F2, ρ2, R2, h2⟩
  cases l with
  | zero => exact h2.elim
  | succ l =>
    refine ⟨φ2, F2, ρ2, R2, postT h2 fun b ρ3 _ h3 φ3 F3 H3 s3 R3 => ?_⟩
    cases b with
    | false => rw [if_neg Bool.false_ne_true] at h3 ⊢; exact h3 φ3 σ2 F3 H3 s3 R3
    | true =>
      rw [if_pos rfl] at h3 ⊢
      refine ⟨fun σ' H' => ∃ φ4 F4 ρ4, Rel B φ4 ρ4 σ' H' F4 ∧ PostS B W k D F4 (loopW t m l ρ4), fun σ' H' z => ⟨l, Nat.lt_succ_self _, z⟩, φ3, F3, ρ3, R3, ?_⟩
      have h3 := PostS.mono s3 h3
      cases qm : m ρ3 with
      | no => rw [qm] at h3; exact h3
      | ex c fs ρ5 => rw [qm] at h3; exact h3
      | ok fl ρ5 =>
        rw [qm] at h3
        simp only [R.bind_ok] at h3
        cases fl with
        | nx => exact fun φ' σ' F' H' s' R' => ⟨φ', F', ρ5, R', PostS.mono s' h3⟩
        | ct => exact fun φ' σ' F' H' s' R' => ⟨φ', F', ρ5, R', PostS.mono s' h3⟩
        | bk => exact h3
        | rt v => exact h3
def mApp (i : Nat) (m : Env → R D) : Env → R Flow := fun ρ => match ρ[i]? with
  | some (some (.lst _)) => (m ρ).bind fun d ρ1 => match ρ1[i]? with
    | some (some (.lst xs)) => if xs.length < LIM then .ok .nx (ρ1.set i (some (.lst (xs ++ [d])))) else .no
    | _ => .no
  | _ => .no
theorem b_app (i : Nat) {x : Str} {p1 p2 p3 : Pos} {m : Env → R D} (hK : X.K = B.K) (ho : B.md i = .o) (he : PE X e (tE B W (kP B.K B) m)) (hN : X.N[i]? = some x := by rfl) (hv : Vis X.env.scope x := by first | exact Or.inl rfl | exact Or.inr (Or.inl rfl) | exact Or.inr (Or.inr rfl)) (hd : (x == ("__debug__" : Str)) = false := by decide)
    (hcd : (x == ("__classdict__" : Str)) = false := by decide) (hbase : attributeBase (.Name x p1) "append" X.env (eval (.Name x p1) X.env) = eval (.Name x p1) X.env := by rfl)
    (hfew : ((backTo p3 (starEach [e] X.env)).all (fun x => !x.1) && (backToKw p3 (keywordEach [] X.env)).all (fun x => x.1.isSome) && decide ([e].length + ([] : List Keyword).length + (if ([] : List Keyword).isEmpty then 0 else 1) < 30)) = true := by rfl)
    (hline : (p2.endLine == p3.line) = true := by rfl) (hs1 : starEach [e] X.env = (false, eval e X.env) :: starEach [] X.env := by rfl) (hplain : (backTo p3 (starEach [] X.env)).any (·.1) = false := by rfl)
    (hs : swapsWith (.Call (.Attribute (.Name x p1) "append" p2) [e] [] p3) none pos.line X.env = pure false := by rfl) :
    PS X (.Expr (.Call (.Attribute (.Name x p1) "append" p2) [e] [] p3) pos) (tS B W k (mApp i m)) := by
  refine PS.imp (ps_expr (pe_bm PySem.F.plainAttrs_list PySem.F.slot_list_append PySem.F.type_list_append mt_append (pe_var hN hv hd hcd) (pa_cons he pa_nil hs1) hbase hfew hline hs1 hplain) hs) fun D σ H h => ?_
  obtain ⟨φ, F, ρ, R0, h⟩ := h
  unfold mApp at h
  cases q : ρ[i]? with
  | none => rw [q] at h; exact h.elim
  | some o =>
    cases o with
    | none => rw [q] at h; exact h.elim
    | some d0 =>
      cases d0 with
      | lst ys =>
        rw [q] at h
        simp only at h
        obtain ⟨a, vs, h1, h2, h3, h4⟩ := R0.mut (es := ys) ho q
        refine ⟨.ref a, h1, .inl ⟨rfl, vs, .inl (.inl h2)⟩, φ, F, ρ, R0, postE h fun d ρ1 _ h v φ1 F1 H1 s1 R1 k1 => ?_⟩
        cases q1 : ρ1[i]? with
        | none => rw [q1] at h; exact h.elim
        | some o1 =>
          cases o1 with
          | none => rw [q1] at h; exact h.elim
          | some d1 =>
            cases d1 with
            | lst xs =>
              rw [q1] at h
              simp only at h
              split at h
              · rename_i hl
                obtain ⟨a1, ws, g1, g2, g3, g4⟩ := R1.mut (es := xs ++ [d]) ho q1
                rw [h1] at g1; cases g1
                refine ⟨a, ws, v, rfl, rfl, g2, by rw [repL_length g3]; exact Nat.lt_of_lt_of_le hl (lim_ok (Nat.le_refl _)), ?_⟩
                exact h φ1 σ F1 _ s1 (g4 _ (repL_append g3 (repL_cons k1 repL_nil)))
              · exact h.elim
            | _ => rw [q1] at h; exact h.elim
      | _ => rw [q] at h; exact h.elim
end
end Mi

set_option Elab.async false
set_option linter.all false
set_option maxRecDepth 100000
namespace Mi
open PySem L2
def wipeE (ρ : Env) : List Nat → Env
  | [] => ρ
  | v :: vs => (wipeE ρ vs).set v none
def backE (ρ0 ρ : Env) : List Nat → Env
  | [] => ρ
  | v :: vs => (backE ρ0 ρ vs).set v (match ρ0[v]? with | some o => o | none => none)
theorem wipeE_length (ρ : Env) : ∀ vs, (wipeE ρ vs).length = ρ.length
  | [] => rfl
  | v :: vs => by unfold wipeE; rw [List.length_set, wipeE_length ρ vs]
theorem backE_length (ρ0 ρ : Env) : ∀ vs, (backE ρ0 ρ vs).length = ρ.length
  | [] => rfl
  | v :: vs => by unfold backE; rw [List.length_set, backE_length ρ0 ρ vs]
theorem wipeE_out {ρ : Env} {i : Nat} : ∀ {vs : List Nat}, i ∉ vs → (wipeE ρ vs)[i]? = ρ[i]?
  | [], _ => rfl
  | v :: vs, h => by
    have h1 : v ≠ i := fun e => h (by rw [e]; exact List.mem_cons_self)
    have h2 : i ∉ vs := fun m => h (List.mem_cons_of_mem _ m)
    unfold wipeE
    rw [List.getElem?_set_ne h1]
    exact wipeE_out h2
theorem wipeE_in {ρ : Env} {i : Nat} {d : D} : ∀ {vs : List Nat}, i ∈ vs → (wipeE ρ vs)[i]? ≠ some (some d)
  | [], h => by simp at h
  | v :: vs, h => by
    unfold wipeE
    intro e
    rcases get_set' e with ⟨_, e1, _⟩ | ⟨hne, e1⟩
    · cases e1
    · rcases List.mem_cons.mp h with z | z
      · exact hne z.symm
      · exact wipeE_in z e1
theorem backE_out {ρ0 ρ : Env} {i : Nat} : ∀ {vs : List Nat}, i ∉ vs → (backE ρ0 ρ vs)[i]? = ρ[i]?
  | [], _ => rfl
  | v :: vs, h => by
    have h1 : v ≠ i := fun e => h (by rw [e]; exact List.mem_cons_self)
    have h2 : i ∉ vs := fun m => h (List.mem_cons_of_mem _ m)
    unfold backE
    rw [List.getElem?_set_ne h1]
    exact backE_out h2
theorem backE_in {ρ0 ρ : Env} {i : Nat} {d : D} : ∀ {vs : List Nat}, i ∈ vs → (backE ρ0 ρ vs)[i]? = some (some d) → ρ0[i]? = some (some d)
  | [], h, _ => by simp at h
  | v :: vs, h, e => by
    unfold backE at e
    rcases get_set' e with ⟨rfl, e1, _⟩ | ⟨hne, e1⟩
    · cases q : ρ0[v]? with
      | none => rw [q] at e1; cases e1
      | some o => rw [q] at e1; exact congrArg some e1.symm
    · rcases List.mem_cons.mp h with z | z
      · exact absurd z.symm hne
      · exact backE_in z e1
section
variable {B : Bs} {W : WX} {φ : Nat → List Addr} {ρ : Env} {σ : L2.St} {H F : Hp}
theorem wipe_at' {σ : L2.St} {i : Nat} : ∀ {vs : List Nat}, i ∈ vs → (wipe σ vs)[i]? = if i < σ.length then some none else none
  | [], h => by simp at h
  | v :: vs, h => by
    unfold wipe
    by_cases e : v = i
    · subst e
      split
      · rename_i hl
        exact List.getElem?_set_self (by rw [wipe_length]; exact hl)
      · rename_i hl
        exact List.getElem?_eq_none (by rw [List.length_set, wipe_length]; exact Nat.le_of_not_lt hl)
    · rw [List.getElem?_set_ne e]
      rcases List.mem_cons.mp h with z | z
      · exact absurd z.symm e
      · exact wipe_at' z
theorem wipe_wipe (σ : L2.St) (vs : List Nat) : wipe (wipe σ vs) vs = wipe σ vs := by
  refine List.ext_getElem? fun i => ?_
  by_cases h : i ∈ vs
  · rw [wipe_at' h, wipe_at' h, wipe_length]
  · rw [wipe_out h]
theorem wipe_in' {σ : L2.St} {i : Nat} {v : V} {vs : List Nat} (h : i ∈ vs) : (wipe σ vs)[i]? ≠ some (some v) := fun e => (wipe_some e).2 h
theorem Rel.wiped (R : Rel B φ ρ σ H F) {vs : List Nat} (hv : ∀ i ∈ vs, B.md i = .p) (hx : ∀ i ∈ vs, B.xs i = none) : Rel B φ (wipeE ρ vs) (wipe σ vs) H F where
  sub := R.sub
  len := by rw [wipe_length, wipeE_length]; exact R.len
  pl := fun i d h1 h2 => by
    by_cases hi : i ∈ vs
    · exact absurd h1 (wipeE_in hi)
    · rw [wipeE_out hi] at h1
      rw [wipe_out hi]; exact R.pl i d h1 h2
  ow := fun i d h1 h2 => by
    by_cases hi : i ∈ vs
    · exact absurd h1 (wipeE_in hi)
    · rw [wipeE_out hi] at h1
      rw [wipe_out hi]; exact R.ow i d h1 h2
  und := fun i h => by
    by_cases hi : i ∈ vs
    · exact R.und i (.inr (hv i hi))
    · rw [wipeE_out hi] at h; exact R.und i h
  fr := R.fr
  dj := R.dj
  keep := R.keep
  dom := R.dom
  froz := R.froz
  fres := R.fres
  par := fun i a h => by
    obtain ⟨h1, h2, h3, d, h4⟩ := R.par i a h
    have hi : i ∉ vs := fun m => by rw [hv i m] at h2; cases h2
    exact ⟨h1, h2, by rw [wipe_out hi]; exact h3, d, by rw [wipeE_out hi]; exact h4⟩
  xsl := fun i a h => ⟨(R.xsl i a h).1, fun e => by
    have hi : i ∉ vs := fun m => by rw [hx i m] at h; cases h
    rw [wipeE_out hi] at e
    rw [wipe_out hi]; exact (R.xsl i a h).2 e⟩
theorem Rel.backed {φ' : Nat → List Addr} {ρ' : Env} {H' F' : Hp} {vs : List Nat} (R0 : Rel B φ ρ σ H F) (R : Rel B φ' ρ' (wipe σ vs) H' F') (s : Same F F') (hv : ∀ i ∈ vs, B.md i = .p) (hx : ∀ i ∈ vs, B.xs i = none) : Rel B φ' (backE ρ ρ' vs) σ H' F' where
  sub := R.sub
  len := by rw [backE_length, ← R.len, wipe_length]
  pl := fun i d h1 h2 => by
    by_cases hi : i ∈ vs
    · obtain ⟨v, h3, h4⟩ := R0.pl i d (backE_in hi h1) h2
      exact ⟨v, h3, Rep.mono s _ _ h4⟩
    · rw [backE_out hi] at h1
      obtain ⟨v, h3, h4⟩ := R.pl i d h1 h2
      rw [wipe_out hi] at h3
      exact ⟨v, h3, h4⟩
  ow := fun i d h1 h2 => by
    by_cases hi : i ∈ vs
    · exact absurd (hv i hi) h2
    · rw [backE_out hi] at h1
      obtain ⟨v, h3, h4⟩ := R.ow i d h1 h2
      rw [wipe_out hi] at h3
      exact ⟨v, h3, h4⟩
  und := fun i h => by
    by_cases hi : i ∈ vs
    · exact R.und i (.inr (hv i hi))
    · rw [backE_out hi] at h; exact R.und i h
  fr := R.fr
  dj := R.dj
  keep := R.keep
  dom := R.dom
  froz := R.froz
  fres := R.fres
  par := fun i a h => by
    obtain ⟨h1, h2, h3, d, h4⟩ := R.par i a h
    have hi : i ∉ vs := fun m => by rw [hv i m] at h2; cases h2
    exact ⟨h1, h2, by rw [wipe_out hi] at h3; exact h3, d, by rw [backE_out hi]; exact h4⟩
  xsl := fun i a h => ⟨(R.xsl i a h).1, fun e => by
    have hi : i ∉ vs := fun m => by rw [hx i m] at h; cases h
    rw [backE_out hi] at e
    have := (R.xsl i a h).2 e
    rw [wipe_out hi] at this; exact this⟩
/-- from here on as from a start -/
abbrev Bs.at (B : Bs) (H F : Hp) (φ : Nat → List Addr) (n : Nat) : Bs := ⟨B.K, B.cd, B.md, H, F, φ, B.mu, n, B.xs⟩
theorem Rel.rebase (R : Rel B φ ρ σ H F) : Rel (B.at H F φ (B.np + ρ.length)) φ ρ σ H F where
  sub := R.sub
  len := R.len
  pl := R.pl
  ow := R.ow
  und := R.und
  fr := fun i b hb => by
    refine ⟨(R.fr i b hb).1, .inl ⟨?_, hb⟩⟩
    show i < B.np + ρ.length
    rcases Nat.lt_or_ge i ρ.length with h | h
    · omega
    · rw [R.und i (.inl fun d e => by rw [List.getElem?_eq_none h] at e; cases e)] at hb; simp at hb
  dj := R.dj
  keep := fun c u h _ => h
  dom := fun c h => h
  froz := Same.refl _
  fres := fun c h => .inl h
  par := fun i a h => by
    obtain ⟨h1, h2⟩ := R.par i a h
    exact ⟨show i < B.np + ρ.length by omega, h2⟩
  xsl := R.xsl
theorem Rel.unbase {φ' : Nat → List Addr} {ρ' : Env} {σ' : L2.St} {H' F' : Hp} {n : Nat} (R0 : Rel B φ ρ σ H F) (R : Rel (B.at H F φ n) φ' ρ' σ' H' F') : Rel B φ' ρ' σ' H' F' where
  sub := R.sub
  len := R.len
  pl := R.pl
  ow := R.ow
  und := R.und
  fr := fun i b hb => by
    obtain ⟨h1, h2⟩ := R.fr i b hb
    refine ⟨h1, ?_⟩
    rcases h2 with h2 | h2
    · exact (R0.fr i b h2.2).2
    · exact .inr (R0.fresh0 h2)
  dj := R.dj
  keep := fun c u h1 h2 => R.keep c u (R0.keep c u h1 h2) fun i hi => by
    rcases (R0.fr i c hi).2 with z | z
    · exact h2 i z.2
    · rw [h1] at z; cases z
  dom := fun c h => R.dom c (R0.dom c h)
  froz := R0.froz.trans R.froz
  fres := fun c h => by
    rcases R.fres c h with z | z
    · exact R0.fres c z
    · exact .inr (R0.fresh0 z)
  par := fun i a h => by
    obtain ⟨_, h2⟩ := R.par i a h
    exact ⟨(R0.par i a h).1, h2⟩
  xsl := R.xsl
/-- a new list that none of ours takes -/
structure Out (B : Bs) (φ : Nat → List Addr) (H F : Hp) (L : Addr) (vs : List V) : Prop where
  at_ : H L = some (.lst vs)
  f : F L = none
  z : B.H0 L = none
  s : ∀ i, L ∉ φ i
theorem Out.step {φ' : Nat → List Addr} {ρ' : Env} {σ' : L2.St} {H' F' : Hp} {n : Nat} {L : Addr} {vs : List V} (o : Out B φ H F L vs) (R : Rel (B.at H F φ n) φ' ρ' σ' H' F') : Out B φ' H' F' L vs where
  at_ := R.keep L _ o.at_ o.s
  f := by
    cases q : F' L with
    | none => rfl
    | some u =>
      rcases R.fres L (by rw [q]; simp) with z | z
      · exact absurd o.f z
      · have := o.at_; rw [show H L = none from z] at this; cases this
  z := o.z
  s := fun i hi => by
    rcases (R.fr i L hi).2 with z | z
    · exact o.s i z.2
    · have := o.at_; rw [show H L = none from z] at this; cases this
theorem Out.put {L : Addr} {vs ws : List V} (o : Out B φ H F L vs) (R : Rel B φ ρ σ H F) : Rel B φ ρ σ (upd H L (.lst ws)) F ∧ Out B φ (upd H L (.lst ws)) F L ws := by
  have other : ∀ j, ∀ b ∈ φ j, (upd H L (.lst ws)) b = H b := fun j b hb => by
    rw [upd_ne]
    intro e; subst e
    exact o.s j hb
  refine ⟨⟨fun b u q => ?_, R.len, R.pl, fun j e h1 h2 => ?_, R.und, R.fr, R.dj, fun c u h1 h2 => ?_, fun c h => ?_, R.froz, R.fres, R.par, R.xsl⟩, upd_same, o.f, o.z, o.s⟩
  · have hb : b ≠ L := fun e => by subst e; rw [o.f] at q; cases q
    rw [upd_ne hb]; exact R.sub b u q
  · obtain ⟨a, h3, h4⟩ := R.ow j e h1 h2
    exact ⟨a, h3, h4.mono (Same.refl _) (other j)⟩
  · have hb : c ≠ L := fun e => by subst e; rw [o.z] at h1; cases h1
    rw [upd_ne hb]; exact R.keep c u h1 h2
  · by_cases hb : c = L
    · subst hb; rw [upd_same]; simp
    · rw [upd_ne hb]; exact R.dom c h
theorem Out.new {L : Addr} {vs : List V} (R : Rel B φ ρ σ H F) (hL : H L = none) : Rel B φ ρ σ (upd H L (.lst vs)) F ∧ Out B φ (upd H L (.lst vs)) F L vs := by
  have e1 : Same H (upd H L (.lst vs)) := fun b u q => by rw [upd_ne (ne_of_none q hL)]; exact q
  exact ⟨R.grow e1, upd_same, R.sub.free hL, R.fresh0 hL, fun i hm => R.here L hm hL⟩
theorem Out.frz {L : Addr} {vs : List V} {ds : List D} (o : Out B φ H F L vs) (R : Rel B φ ρ σ H F) (h : RepL B.K B.cd F ds vs) : Rel B φ ρ σ H (upd F L (.lst vs)) ∧ Same F (upd F L (.lst vs)) ∧ Rep B.K B.cd (upd F L (.lst vs)) (.lst ds) (.ref L) := by
  have e2 : Same F (upd F L (.lst vs)) := fun b u q => by rw [upd_ne (ne_of_none q o.f)]; exact q
  refine ⟨R.frost e2 (fun b u q => ?_) fun c h1 h2 => ?_, e2, ?_⟩
  · by_cases hb : b = L
    · subst hb; rw [upd_same] at q; cases q; exact o.at_
    · rw [upd_ne hb] at q; exact R.sub b u q
  · have hc : c = L := by
      by_cases hb : c = L
      · exact hb
      · rw [upd_ne hb] at h1; exact absurd h2 h1
    subst hc
    exact ⟨o.z, o.s⟩
  · simp only [Rep]
    exact ⟨L, vs, rfl, upd_same, RepL.mono e2 _ _ h⟩
theorem Out.own {L : Addr} {vs : List V} {ds : List D} (o : Out B φ H F L vs) (h : RepL B.K B.cd F ds vs) : kO B.K B φ F H (.ref L) (.lst ds) := by
  refine ⟨L, [L], rfl, ?_, fun b hb => ?_⟩
  · simp only [ORep, true_and]
    exact ⟨vs, o.at_, h⟩
  · simp at hb; subst hb
    exact ⟨o.f, o.z, o.s⟩
end
/-- no exception is let out of a block -/
def R.nox {α : Type} : R α → R α
  | .ex _ _ _ => .no
  | r => r
abbrev WF : WX := fun _ _ _ _ => False
theorem Post.nox {α β : Type} {B : Bs} {W : WX} {σ : L2.St} {F F1 : Hp} {r : R α} {f : α → Env → R β} {k : α → Env → Prop} {P : R β → Prop} (h : P (r.nox.bind f)) (hno : ¬ P .no) (g : ∀ a ρ', r = .ok a ρ' → P (f a ρ') → k a ρ') : Post B W σ F r k := by
  cases r with
  | ok a ρ' => exact g a ρ' rfl h
  | ex c fs ρ' => exact absurd h hno
  | no => exact absurd h hno
def tYesM : Env → R Bool := fun ρ => .ok true ρ
section
variable {X : Cx} {B : Bs} {W : WX} {n : Nat}
theorem PTs.imp {ifs : List Expr} {t t' : TT} (h : PTs X ifs t) (j : ∀ σ H Q, t' σ H Q → t σ H Q) : PTs X ifs t' := ⟨fun pins s σ H Q I q => h.run pins s σ H Q I (j _ _ _ q)⟩
theorem ts_nil : PTs X [] (tT B W tYesM) := by
  refine PTs.imp pts_nil fun σ H Q h => ?_
  obtain ⟨φ, F, ρ, R0, h⟩ := h
  exact h φ F H (Same.refl _) R0
theorem ts_one {c : Expr} {t : Env → R Bool} (h : PT X c (tT B W t)) : PTs X [c] (tT B W t) := pts_one h
/-- the turns of a list comprehension -/
def loopC (tg : D → Env → Option Env) (t : Env → R Bool) (m : Env → R D) (vs : List Nat) : List D → Env → List D → R (List D)
  | [], ρ, acc => .ok acc ρ
  | d :: ds, ρ, acc => match tg d ρ with
    | none => .no
    | some ρ1 => (t ρ1).nox.bind fun b ρ2 => if b = true then (m ρ2).nox.bind fun x ρ3 => if acc.length < LIM then loopC tg t m vs ds (wipeE ρ3 vs) (acc ++ [x]) else .no
      else loopC tg t m vs ds (wipeE ρ2 vs) acc
def eLc (vs : List Nat) (src : Env → R (List D)) (tg : D → Env → Option Env) (t : Env → R Bool) (m : Env → R D) : Env → R D := fun ρ => (src ρ).bind fun ds ρ1 => (loopC tg t m vs ds (wipeE ρ1 vs) []).bind fun xs ρ2 => .ok (.lst xs) (backE ρ1 ρ2 vs)
theorem lc_in {src : Env → R (List D)} {tg : D → Env → Option Env} {t : Env → R Bool} {m : Env → R D} {vs : List Nat} {rk : Bool} {g : TG} {tt : TT} {te : TE} (hv : ∀ i ∈ vs, B.md i = .p) (hx : ∀ i ∈ vs, B.xs i = none)
    (hg : ∀ v σ H Q, (∃ H0 F0 own np, tG (B.at H0 F0 own np) vs tg v σ H Q) → g v σ H Q) (ht : ∀ σ H Q, (∃ H0 F0 own np, tT (B.at H0 F0 own np) WF t σ H Q) → tt σ H Q)
    (he : ∀ σ H Q, (∃ H0 F0 own np, tE (B.at H0 F0 own np) WF (kP B.K B) m σ H Q) → te σ H Q) :
    ∀ σ H Q, tE B W (kR B.K B rk) (eLc vs src tg t m) σ H Q → tLc (tI B W src) g tt te vs σ H Q := by
  intro σ H Q h
  obtain ⟨φ, F, ρ, R0, h⟩ := h
  refine ⟨φ, F, ρ, R0, Post.bind h fun ds ρ1 _ h J φ1 F1 H1 s1 R1 gv => ?_⟩
  intro L hL
  -- what is wanted of the rest of the turns
  let Rest : List D → Env → List D → Prop := fun ds ρ acc => Post B W σ F1 ((loopC tg t m vs ds ρ acc).bind fun xs ρ2 => (.ok (.lst xs) (backE ρ1 ρ2 vs) : R D)) fun d ρ' => ∀ v φ' F' H', Same F1 F' → Rel B φ' ρ' σ H' F' → kR B.K B rk φ' F' H' v d → Q v H'
  have h0 : Rest ds (wipeE ρ1 vs) [] := Post.mono s1 h fun d ρ' z v φ' F' H' s' => z v φ' F' H' (s1.trans s')
  have rno : ∀ {α : Type} {r : α}, ¬ Post B W σ F1 (R.no : R D) (fun d ρ' => ∀ v φ' F' H', Same F1 F' → Rel B φ' ρ' σ H' F' → kR B.K B rk φ' F' H' v d → Q v H') := fun h => h
  let St : List D → Hp → Prop := fun es H2 => ∃ φ2 F2 ρ2 acc vs2, Same F1 F2 ∧ Rel B φ2 ρ2 (wipe σ vs) H2 F2 ∧ Out B φ2 H2 F2 L vs2 ∧ RepL B.K B.cd F2 acc vs2 ∧ Rest es ρ2 acc
  obtain ⟨Rn, On⟩ := Out.new (vs := []) R1 hL
  refine ⟨fun i j H2 => j = ds.length - i ∧ i ≤ ds.length ∧ St (ds.drop i) H2, ⟨_, rfl, Nat.zero_le _, φ1, F1, _, [], [], Same.refl _, Rn.wiped hv hx, On, repL_nil, by rw [List.drop_zero]; exact h0⟩, ?_⟩
  rintro i j H2 ⟨rfl, hil, φ2, F2, ρ2, acc, vs2, s2, R2, O2, k2, h2⟩
  have g' := gv i (B.at H2 F2 φ2 (B.np + ρ2.length)) φ2 ρ2 (wipe σ vs) F2 H2 rfl rfl s2 R2.rebase
  by_cases hlt : i < ds.length
  · obtain ⟨hgo, hy⟩ := g'.1 ds[i] (List.getElem?_eq_getElem hlt)
    refine .inr ⟨hgo, St (ds.drop (i + 1)), fun H' z => ⟨ds.length - (i + 1), by omega, rfl, hlt, z⟩, fun x H3 y => ?_⟩
    obtain ⟨F3, s3, R3', rx⟩ := hy x H3 y
    have O3 := O2.step R3'
    have R3 := R2.unbase R3'
    rw [List.drop_eq_getElem_cons hlt] at h2
    simp only [Rest] at h2
    unfold loopC at h2
    cases qt : tg ds[i] ρ2 with
    | none => rw [qt] at h2; exact h2.elim
    | some ρ3 =>
      rw [qt] at h2
      simp only at h2
      refine hg _ _ _ _ ⟨_, _, _, _, ds[i], φ2, F3, ρ2, ρ3, R3.rebase, rx, qt, fun φ4 σ4 F4 H4 s4 R4' w4 => ⟨w4.trans (wipe_wipe σ vs), ?_⟩⟩
      replace w4 := w4.trans (wipe_wipe σ vs)
      have O4 := O3.step R4'
      have R4 := R3.unbase R4'
      refine ht _ _ _ ⟨_, _, _, _, φ4, F4, ρ3, R4.rebase, ?_⟩
      cases q5 : t ρ3 with
      | no => rw [q5] at h2; exact h2.elim
      | ex c fs ρ5 => rw [q5] at h2; exact h2.elim
      | ok b ρ5 =>
        rw [q5] at h2
        simp only [R.nox, R.bind_ok] at h2
        intro φ5 F5 H5 s5 R5' 
        have O5 := O4.step R5'
        have R5 := R4.unbase R5'
        have s15 : Same F1 F5 := (((s2.trans s3).trans s4).trans s5)
        cases b with
        | false =>
          rw [if_neg Bool.false_ne_true] at h2 ⊢
          refine ⟨φ5, F5, wipeE ρ5 vs, acc, vs2, s15, ?_, O5, RepL.mono ((s3.trans s4).trans s5) _ _ k2, h2⟩
          rw [← w4]; exact R5.wiped hv hx
        | true =>
          rw [if_pos rfl] at h2 ⊢
          refine he _ _ _ ⟨_, _, _, _, φ5, F5, ρ5, R5.rebase, ?_⟩
          cases q6 : m ρ5 with
          | no => rw [q6] at h2; exact h2.elim
          | ex c fs ρ6 => rw [q6] at h2; exact h2.elim
          | ok x6 ρ6 =>
            rw [q6] at h2
            simp only [R.nox, R.bind_ok] at h2
            intro v6 φ6 F6 H6 s6 R6' k6
            have O6 := O5.step R6'
            have R6 := R5.unbase R6'
            split at h2
            · rename_i hlim
              have s26 : Same F2 F6 := ((s3.trans s4).trans s5).trans s6
              have k7 := repL_append (RepL.mono s26 _ _ k2) (repL_cons k6 repL_nil)
              obtain ⟨R7, O7⟩ := O6.put (ws := vs2 ++ [v6]) R6
              refine ⟨vs2, O6.at_, by rw [repL_length k2]; exact Nat.lt_of_lt_of_le hlim (lim_ok (Nat.le_refl _)), φ6, F6, wipeE ρ6 vs, acc ++ [x6], vs2 ++ [v6], s15.trans s6, ?_, O7, k7, h2⟩
              rw [← w4]; exact R7.wiped hv hx
            · exact h2.elim
  · have e : i = ds.length := by omega
    refine .inl ⟨g'.2 (by omega), ?_⟩
    rw [e, List.drop_length] at h2
    simp only [Rest, loopC, R.bind_ok] at h2
    have Rb := Rel.backed R1 R2 s2 hv hx
    cases rk with
    | false =>
      obtain ⟨r, s, z⟩ := O2.frz Rb k2
      exact h2 _ φ2 _ H2 (s2.trans s) r z
    | true => exact h2 _ φ2 F2 H2 s2 Rb (O2.own k2)
theorem Gd.blk {s : Shared} {H : Hp} {scope : Scope} {env : PySem.Env} {fp : List Addr} {H0 F0 : Hp} {own : Nat → List Addr} {np : Nat} (g : Gd X B W n) : Gd (X.blk s H scope env fp) (B.at H0 F0 own np) WF n where
  hK := g.hK
  calm := g.calm
  tk := fun u s' h => by
    obtain ⟨a, B, sI, pins, σ, H, cls, d, e, I, nb, up, sky, na, os, ag, w⟩ := h
    exact w
  hp := PassesOwn.never
  nd := g.nd
  room := g.room
/-- [elt for tg in iter if ..] -/
theorem c_lcR {elt tg iter : Expr} {ifs : List Expr} {scope : Scope} {pos : Pos} {rk : Bool} {src : Env → R (List D)} {t : D → Env → Option Env} {tt : Env → R Bool} {m : Env → R D} (own : List (Str × Nat)) (g : Gd X B W n) (hi : PI X tg iter (tI B W src))
    (hg : ∀ s H C cl fp H0 F0 ow np, PG (X.blk s H scope (compEnvC scope cl C X.env) fp) tg (tG (B.at H0 F0 ow np) (own.map (·.2)) t))
    (ht : ∀ s H C cl fp H0 F0 ow np, Gd (X.blk s H scope (compEnvC scope cl C X.env) fp) (B.at H0 F0 ow np) WF n → PTs (X.blk s H scope (compEnvC scope cl C X.env) fp) ifs (tT (B.at H0 F0 ow np) WF tt))
    (he : ∀ s H C cl fp H0 F0 ow np, Gd (X.blk s H scope (compEnvC scope cl C X.env) fp) (B.at H0 F0 ow np) WF n → PE (X.blk s H scope (compEnvC scope cl C X.env) fp) elt (tE (B.at H0 F0 ow np) WF (kP B.K B) m))
    (hv : ∀ i ∈ own.map (·.2), B.md i = .p) (hx : ∀ i ∈ own.map (·.2), B.xs i = none) (ok : blkC X.N X.env.scope scope own = true) (hs : ∀ x, foldedSetIterable iter X.env x = pure x) :
    PE X (.ListComp elt [⟨tg, iter, ifs, 0⟩] scope pos) (tE B W (kR B.K B rk) (eLc (own.map (·.2)) src t tt m)) := by
  refine PE.imp (pe_lc (g := fun v σ H Q => ∃ H0 F0 ow np, tG (B.at H0 F0 ow np) (own.map (·.2)) t v σ H Q) (tt := fun σ H Q => ∃ H0 F0 ow np, tT (B.at H0 F0 ow np) WF tt σ H Q) (te := fun σ H Q => ∃ H0 F0 ow np, tE (B.at H0 F0 ow np) WF (kP B.K B) m σ H Q)
    g.calm g.nd hi (blkOk_by ok) (fun s H C cl fp => ⟨fun pins s' σ H v u Q I r ⟨H0, F0, ow, np, q⟩ => (hg _ _ _ _ _ H0 F0 ow np).run pins s' σ H v u Q I r q⟩) (fun s H C cl fp => ⟨fun pins s' σ H Q I ⟨H0, F0, ow, np, q⟩ => (ht _ _ _ _ _ H0 F0 ow np g.blk).run pins s' σ H Q I q⟩)
    (fun s H C cl fp => ⟨fun pins s' σ H Q I ⟨H0, F0, ow, np, q⟩ => (he _ _ _ _ _ H0 F0 ow np g.blk).run pins s' σ H Q I q⟩) hs) fun σ H Q h => ?_
  exact lc_in hv hx (fun _ _ _ _ z => z) (fun _ _ _ z => z) (fun _ _ _ z => z) σ H Q h
theorem c_lc {elt tg iter : Expr} {ifs : List Expr} {scope : Scope} {pos : Pos} {src : Env → R (List D)} {t : D → Env → Option Env} {tt : Env → R Bool} {m : Env → R D} (own : List (Str × Nat)) (g : Gd X B W n) (hi : PI X tg iter (tI B W src))
    (hg : ∀ s H C cl fp H0 F0 ow np, PG (X.blk s H scope (compEnvC scope cl C X.env) fp) tg (tG (B.at H0 F0 ow np) (own.map (·.2)) t))
    (ht : ∀ s H C cl fp H0 F0 ow np, Gd (X.blk s H scope (compEnvC scope cl C X.env) fp) (B.at H0 F0 ow np) WF n → PTs (X.blk s H scope (compEnvC scope cl C X.env) fp) ifs (tT (B.at H0 F0 ow np) WF tt))
    (he : ∀ s H C cl fp H0 F0 ow np, Gd (X.blk s H scope (compEnvC scope cl C X.env) fp) (B.at H0 F0 ow np) WF n → PE (X.blk s H scope (compEnvC scope cl C X.env) fp) elt (tE (B.at H0 F0 ow np) WF (kP B.K B) m))
    (hv : ∀ i ∈ own.map (·.2), B.md i = .p := by decide) (hx : ∀ i ∈ own.map (·.2), B.xs i = none := by intro i _; rfl) (ok : blkC X.N X.env.scope scope own = true := by rfl) (hs : ∀ x, foldedSetIterable iter X.env x = pure x := by intro _; rfl) :
    PE X (.ListComp elt [⟨tg, iter, ifs, 0⟩] scope pos) (tE B W (kP B.K B) (eLc (own.map (·.2)) src t tt m)) := c_lcR (rk := false) own g hi hg ht he hv hx ok hs
theorem c_lcO {elt tg iter : Expr} {ifs : List Expr} {scope : Scope} {pos : Pos} {src : Env → R (List D)} {t : D → Env → Option Env} {tt : Env → R Bool} {m : Env → R D} (own : List (Str × Nat)) (g : Gd X B W n) (hi : PI X tg iter (tI B W src))
    (hg : ∀ s H C cl fp H0 F0 ow np, PG (X.blk s H scope (compEnvC scope cl C X.env) fp) tg (tG (B.at H0 F0 ow np) (own.map (·.2)) t))
    (ht : ∀ s H C cl fp H0 F0 ow np, Gd (X.blk s H scope (compEnvC scope cl C X.env) fp) (B.at H0 F0 ow np) WF n → PTs (X.blk s H scope (compEnvC scope cl C X.env) fp) ifs (tT (B.at H0 F0 ow np) WF tt))
    (he : ∀ s H C cl fp H0 F0 ow np, Gd (X.blk s H scope (compEnvC scope cl C X.env) fp) (B.at H0 F0 ow np) WF n → PE (X.blk s H scope (compEnvC scope cl C X.env) fp) elt (tE (B.at H0 F0 ow np) WF (kP B.K B) m))
    (hv : ∀ i ∈ own.map (·.2), B.md i = .p := by decide) (hx : ∀ i ∈ own.map (·.2), B.xs i = none := by intro i _; rfl) (ok : blkC X.N X.env.scope scope own = true := by rfl) (hs : ∀ x, foldedSetIterable iter X.env x = pure x := by intro _; rfl) :
    PE X (.ListComp elt [⟨tg, iter, ifs, 0⟩] scope pos) (tE B W (kO B.K B) (eLc (own.map (·.2)) src t tt m)) := c_lcR (rk := true) own g hi hg ht he hv hx ok hs
end
end Mi

set_option Elab.async false
set_option linter.all false
set_option maxRecDepth 100000
namespace Mi
open PySem L2
section
variable {B : Bs} {W : WX} {φ : Nat → List Addr} {ρ : Env} {σ : L2.St} {H F : Hp}
abbrev Bs.vw (B : Bs) (H : Hp) : Bs := ⟨B.K, B.cd, fun _ => .p, H, H, fun _ => [], fun _ => none, 0, B.xs⟩
theorem Rel.view (R : Rel B φ ρ σ H F) : Rel (B.vw H) (fun _ => []) ρ σ H H where
  sub := Same.refl _
  len := R.len
  pl := fun i d h1 _ => by
    by_cases hp : B.md i = .p
    · obtain ⟨v, h2, h3⟩ := R.pl i d h1 hp
      exact ⟨v, h2, Rep.mono R.sub _ _ h3⟩
    · obtain ⟨a, h2, h3⟩ := R.ow i d h1 hp
      exact ⟨.ref a, h2, h3.frz R.sub fun _ _ => rfl⟩
  ow := fun i d _ h2 => absurd rfl h2
  und := fun _ _ => rfl
  fr := fun i b hb => by simp at hb
  dj := fun i j _ b hb => by simp at hb
  keep := fun c u h _ => h
  dom := fun c h => h
  froz := Same.refl _
  fres := fun c h => .inl h
  par := fun i a h => by cases h
  xsl := fun i a h => ⟨rfl, (R.xsl i a h).2⟩
theorem Rel.unview {φ' : Nat → List Addr} {ρ' : Env} {σ' : L2.St} {H' F' : Hp} (R0 : Rel B φ ρ σ H F) (R : Rel (B.vw H) φ' ρ' σ' H' F') : Rel B φ ρ σ H' F :=
  R0.grow fun b u e => R.keep b u e fun i hi => by simp at hi
/-- a number, a truth value, a text or None -/
def scal : D → Bool
  | .int _ => true
  | .bl _ => true
  | .str _ => true
  | .non => true
  | _ => false
theorem scal_rep {K : PySem.W.Frag} {cd : CD} {F F' : Hp} {d : D} {v : V} (h : scal d = true) (r : Rep K cd F d v) : Rep K cd F' d v := by
  cases d <;> first | (simp only [scal] at h; cases h; done) | (simp only [Rep] at r ⊢; exact r)
theorem scal_repL {K : PySem.W.Frag} {cd : CD} {F F' : Hp} : ∀ {ds : List D} {vs : List V}, ds.all scal = true → RepL K cd F ds vs → RepL K cd F' ds vs
  | [], vs, _, r => by simp only [RepL] at r ⊢; exact r
  | d :: ds, vs, h, r => by
    simp only [List.all_cons, Bool.and_eq_true] at h
    simp only [RepL] at r ⊢
    obtain ⟨v, ws, e, r1, r2⟩ := r
    exact ⟨v, ws, e, scal_rep h.1 r1, scal_repL h.2 r2⟩
def eVw (m : Env → R D) : Env → R D := fun ρ => match m ρ with
  | .ok d _ => if scal d = true then .ok d ρ else .no
  | .ex c fs _ => if fs.all scal = true then .ex c fs ρ else .no
  | .no => .no
def tVw (m : Env → R Bool) : Env → R Bool := fun ρ => match m ρ with
  | .ok d _ => .ok d ρ
  | .ex c fs _ => if fs.all scal = true then .ex c fs ρ else .no
  | .no => .no
theorem vw_ex {ρ' : Env} {c : Nat} {fs : List D} (R0 : Rel B φ ρ σ H F) (hs : fs.all scal = true) (h : tX B W ρ c fs σ F) : tX (B.vw H) W ρ' c fs σ H := fun φ' F' H' dx I vs s r hc hx hw =>
  h φ F H' dx I vs (Same.refl _) (R0.unview r) hc hx (scal_repL hs hw)
end
section
variable {X : Cx} {B : Bs} {W : WX} {n : Nat} {e c : Expr}
theorem Gd.vw (g : Gd X B W n) (H : Hp) : Gd X (B.vw H) W n := ⟨g.hK, g.calm, g.tk, g.hp, g.nd, g.room⟩
/-- all that one owns looked at as plain data; what comes of it is a number, a truth value, a text or None -/
theorem c_view {m : Env → R D} (g : Gd X B W n) (h : ∀ H, Gd X (B.vw H) W n → PE X e (tE (B.vw H) W (kP B.K (B.vw H)) m)) : PE X e (tE B W (kP B.K B) (eVw m)) := by
  refine ⟨fun pins s σ H Q I q => ?_⟩
  refine (h H (g.vw H)).run pins s σ H Q I ?_
  obtain ⟨φ, F, ρ, R0, q⟩ := q
  refine ⟨_, _, ρ, R0.view, ?_⟩
  unfold eVw at q
  cases z : m ρ with
  | no => rw [z] at q; exact q
  | ex c fs ρ1 =>
    rw [z] at q
    simp only at q
    split at q
    · exact vw_ex R0 (by assumption) q
    · exact q.elim
  | ok d ρ1 =>
    rw [z] at q
    simp only at q
    split at q
    · exact fun v φ' F' H' s' R' k' => q v φ F H' (Same.refl _) (R0.unview R') (scal_rep (by assumption) k')
    · exact q.elim
theorem c_viewT {m : Env → R Bool} (g : Gd X B W n) (h : ∀ H, Gd X (B.vw H) W n → PT X e (tT (B.vw H) W m)) : PT X e (tT B W (tVw m)) := by
  refine ⟨fun pins s σ H Q I q => ?_⟩
  refine (h H (g.vw H)).run pins s σ H Q I ?_
  obtain ⟨φ, F, ρ, R0, q⟩ := q
  refine ⟨_, _, ρ, R0.view, ?_⟩
  unfold tVw at q
  cases z : m ρ with
  | no => rw [z] at q; exact q
  | ex c fs ρ1 =>
    rw [z] at q
    simp only at q
    split at q
    · exact vw_ex R0 (by assumption) q
    · exact q.elim
  | ok d ρ1 =>
    rw [z] at q
    simp only at q
    exact fun φ' F' H' s' R' => q φ F H' (Same.refl _) (R0.unview R')
def eMove (i : Nat) : Env → R D := fun ρ => match ρ[i]? with
  | some (some d) => .ok d (ρ.set i none)
  | _ => .no
variable {pos : Pos}
theorem c_move (i : Nat) {x : Str} (ho : B.md i = .o := by rfl) (hnp : B.np ≤ i := by decide) (hN : X.N[i]? = some x := by rfl) (hv : Vis X.env.scope x := by first | exact Or.inl rfl | exact Or.inr (Or.inl rfl) | exact Or.inr (Or.inr rfl)) (hd : (x == ("__debug__" : Str)) = false := by decide)
    (hcd : (x == ("__classdict__" : Str)) = false := by decide) : PE X (.Name x pos) (tE B W (kP B.K B) (eMove i)) := by
  refine PE.imp (pe_var hN hv hd hcd) fun σ H Q h => ?_
  obtain ⟨φ, F, ρ, R0, h⟩ := h
  unfold eMove at h
  cases q : ρ[i]? with
  | none => rw [q] at h; exact h.elim
  | some o =>
    cases o with
    | none => rw [q] at h; exact h.elim
    | some d =>
      rw [q] at h
      obtain ⟨a, φ', F', h1, R1, s1, k1⟩ := R0.move ho hnp q
      exact ⟨.ref a, h1, h _ φ' F' H s1 R1 k1⟩
theorem Rel.give {φ : Nat → List Addr} {ρ : Env} {σ : L2.St} {H F : Hp} (R : Rel B φ ρ σ H F) {i : Nat} {d : D} (ho : B.md i = .o) (hnp : B.np ≤ i) (h : ρ[i]? = some (some d)) :
    ∃ a φ', σ[i]? = some (some (.ref a)) ∧ Rel B φ' (ρ.set i none) σ H F ∧ kO B.K B φ' F H (.ref a) d := by
  obtain ⟨a, h1, h2⟩ := R.ow i d h (by rw [ho]; decide)
  refine ⟨a, fun j => if j = i then [] else φ j, h1, ?_, a, φ i, rfl, h2, fun b hb => ⟨(R.fr i b hb).1, ?_, fun j => ?_⟩⟩
  · refine ⟨R.sub, by rw [List.length_set]; exact R.len, fun j e h3 h4 => ?_, fun j e h3 h4 => ?_, fun j h3 => ?_, fun j b hb => ?_, fun j l hjl b hb => ?_, R.keep, R.dom, R.froz, R.fres, fun j b h3 => ?_, fun j b h' => ⟨(R.xsl j b h').1, fun e => by
    rcases get_set' e with ⟨hji, z, _⟩ | ⟨hne, z⟩
    · have := (R.xsl j b h').1; rw [← hji, ho] at this; cases this
    · exact (R.xsl j b h').2 z⟩⟩
    · rcases get_set' h3 with ⟨rfl, e1, hl⟩ | ⟨hne, h5⟩
      · cases e1
      · exact R.pl j e h5 h4
    · rcases get_set' h3 with ⟨rfl, e1, hl⟩ | ⟨hne, h5⟩
      · cases e1
      · simp only [if_neg (Ne.symm hne)]
        exact R.ow j e h5 h4
    · by_cases hj : j = i
      · simp only [if_pos hj]
      · simp only [if_neg hj]
        refine R.und j ?_
        rcases h3 with h3 | h3
        · exact .inl fun e he => h3 e (by rw [List.getElem?_set_ne (Ne.symm hj)]; exact he)
        · exact .inr h3
    · by_cases hj : j = i
      · simp only [if_pos hj] at hb; simp at hb
      · simp only [if_neg hj] at hb; exact R.fr j b hb
    · by_cases hj : j = i
      · simp only [if_pos hj] at hb; simp at hb
      · simp only [if_neg hj] at hb
        by_cases hl : l = i
        · simp only [if_pos hl]; simp
        · simp only [if_neg hl]; exact R.dj j l hjl b hb
    · obtain ⟨h4, h5, h6, e, h7⟩ := R.par j b h3
      have hj : i ≠ j := fun e => by omega
      exact ⟨h4, h5, h6, e, by rw [List.getElem?_set_ne hj]; exact h7⟩
  · rcases (R.fr i b hb).2 with z | z
    · exact absurd z.1 (Nat.not_lt.mpr hnp)
    · exact z
  · by_cases hj : j = i
    · simp only [if_pos hj]; simp
    · simp only [if_neg hj]; exact R.dj i j (Ne.symm hj) b hb
/-- as a thing that the taker may change -/
theorem c_give (i : Nat) {x : Str} (ho : B.md i = .o := by rfl) (hnp : B.np ≤ i := by decide) (hN : X.N[i]? = some x := by rfl) (hv : Vis X.env.scope x := by first | exact Or.inl rfl | exact Or.inr (Or.inl rfl) | exact Or.inr (Or.inr rfl)) (hd : (x == ("__debug__" : Str)) = false := by decide)
    (hcd : (x == ("__classdict__" : Str)) = false := by decide) : PE X (.Name x pos) (tE B W (kO B.K B) (eMove i)) := by
  refine PE.imp (pe_var hN hv hd hcd) fun σ H Q h => ?_
  obtain ⟨φ, F, ρ, R0, h⟩ := h
  unfold eMove at h
  cases q : ρ[i]? with
  | none => rw [q] at h; exact h.elim
  | some o =>
    cases o with
    | none => rw [q] at h; exact h.elim
    | some d =>
      rw [q] at h
      obtain ⟨a, φ', h1, R1, k1⟩ := R0.give ho hnp q
      exact ⟨.ref a, h1, h _ φ' F H (Same.refl _) R1 k1⟩
/-- what one has made is taken as plain data -/
theorem c_own {m : Env → R D} (h : PE X e (tE B W (kO B.K B) m)) : PE X e (tE B W (kP B.K B) m) := by
  refine PE.imp h fun σ H Q h => ?_
  obtain ⟨φ, F, ρ, R0, h⟩ := h
  refine ⟨φ, F, ρ, R0, Post.mono (Same.refl _) h fun d ρ' z v φ' F' H' s' R' k' => ?_⟩
  obtain ⟨a, fp, rfl, h1, h2⟩ := k'
  have sF : Same F' (lay F' H' fp) := lay_same fun b hb => (h2 b hb).1
  have sH : Same (lay F' H' fp) H' := lay_sub R'.sub
  refine z _ φ' (lay F' H' fp) H' (s'.trans sF) (R'.frost sF sH fun c h3 h4 => ?_) (h1.frz sF fun b hb => lay_at hb)
  by_cases hc : c ∈ fp
  · exact (h2 c hc).2
  · rw [lay_none hc] at h3; exact absurd h4 h3
theorem Rel.mutG {φ : Nat → List Addr} {ρ : Env} {σ : L2.St} {H F : Hp} (R : Rel B φ ρ σ H F) {i : Nat} {d e : D} {a : Addr} {o : HO} (ho : B.md i = .o) (h : ρ[i]? = some (some d)) (h1 : σ[i]? = some (some (.ref a))) (ha : a ∈ φ i) (h2 : ORep B.K B.cd F (upd H a o) e a (φ i)) :
    Rel B φ (ρ.set i (some e)) σ (upd H a o) F := by
  obtain ⟨hF, hown⟩ := R.fr i a ha
  have hil : i < ρ.length := (List.getElem?_eq_some_iff.mp h).1
  have other : ∀ j, j ≠ i → ∀ b ∈ φ j, (upd H a o) b = H b := fun j hj b hb => by
    rw [upd_ne]
    intro e; subst e
    exact R.dj i j (Ne.symm hj) b ha hb
  refine ⟨fun b u q => ?_, by rw [List.length_set]; exact R.len, fun j e h5 h6 => ?_, fun j e h5 h6 => ?_, fun j h5 => ?_, R.fr, R.dj, fun c u h5 h6 => ?_, fun c h5 => ?_, R.froz, R.fres, fun j b h5 => ?_, fun j b h' => ⟨(R.xsl j b h').1, fun e => by
    rcases get_set' e with ⟨_, z, _⟩ | ⟨hne, z⟩
    · cases z
    · first | (rw [List.getElem?_set_ne hne]; exact (R.xsl j b h').2 z) | exact (R.xsl j b h').2 z⟩⟩
  · have hb : b ≠ a := fun e => by subst e; rw [hF] at q; cases q
    rw [upd_ne hb]; exact R.sub b u q
  · rcases get_set' h5 with ⟨rfl, e1, hl⟩ | ⟨hne, h7⟩
    · rw [ho] at h6; cases h6
    · exact R.pl j e h7 h6
  · rcases get_set' h5 with ⟨rfl, e1, hl⟩ | ⟨hne, h7⟩
    · cases e1
      exact ⟨a, h1, h2⟩
    · obtain ⟨w, h8, h9⟩ := R.ow j e h7 h6
      exact ⟨w, h8, h9.mono (Same.refl _) (other j (Ne.symm hne))⟩
  · by_cases hj : i = j
    · subst hj
      rcases h5 with h5 | h5
      · exact absurd (List.getElem?_set_self hil) (h5 _)
      · rw [ho] at h5; cases h5
    · refine R.und j ?_
      rcases h5 with h5 | h5
      · exact .inl fun e he => h5 e (by rw [List.getElem?_set_ne hj]; exact he)
      · exact .inr h5
  · have hc : c ≠ a := fun e => by
      subst e
      rcases hown with z | z
      · exact h6 i z.2
      · rw [h5] at z; cases z
    rw [upd_ne hc]; exact R.keep c u h5 h6
  · by_cases hc : c = a
    · subst hc; rw [upd_same]; simp
    · rw [upd_ne hc]; exact R.dom c h5
  · obtain ⟨h6, h7, h8, e, h9⟩ := R.par j b h5
    refine ⟨h6, h7, h8, ?_⟩
    by_cases hj : i = j
    · subst hj; exact ⟨_, List.getElem?_set_self hil⟩
    · exact ⟨e, by rw [List.getElem?_set_ne hj]; exact h9⟩
def mSetIx (i : Nat) (m l : Env → R D) : Env → R Flow := fun ρ => (m ρ).bind fun d ρ1 => match ρ1[i]? with
  | some (some (.lst _)) => (l ρ1).bind fun j ρ2 => match ρ2[i]?, j with
    | some (some (.lst xs)), .int k => match ixN xs.length k with
      | some j => .ok .nx (ρ2.set i (some (.lst (xs.set j d))))
      | none => .no
    | _, _ => .no
  | _ => .no
theorem b_setIx (i : Nat) {x : Str} {ix : Expr} {p1 p2 : Pos} {k : RK} {m l : Env → R D} (he : PE X e (tE B W (kP B.K B) m)) (hi : PE X ix (tE B W (kP B.K B) l)) (ho : B.md i = .o := by rfl) (hN : X.N[i]? = some x := by rfl) (hv : Vis X.env.scope x := by first | exact Or.inl rfl | exact Or.inr (Or.inl rfl) | exact Or.inr (Or.inr rfl)) (hd : (x == ("__debug__" : Str)) = false := by decide)
    (hcd : (x == ("__classdict__" : Str)) = false := by decide)
    (ha : ∀ v, assign (.Subscript (.Name x p1) ix p2) X.env v = (do
      let ov ← holding [v] (eval (.Name x p1) X.env)
      let iv ← holding [v, ov] (eval ix X.env)
      standAt p2
      holding [v, ov, iv] (setItem ov iv v)
      release [v, ov, iv] []) := by intro _; rfl)
    (hs : swapsWithSole [.Subscript (.Name x p1) ix p2] e pos.line X.env = pure false := by rfl) (hw : swappedStores [.Subscript (.Name x p1) ix p2] e X.env = pure none := by rfl)
    (h1 : (assignEach [.Subscript (.Name x p1) ix p2] X.env).map (·.2) = [assign (.Subscript (.Name x p1) ix p2) X.env] := by rfl) :
    PS X (.Assign [.Subscript (.Name x p1) ix p2] e pos) (tS B W k (mSetIx i m l)) := by
  refine PS.imp (ps_asg he (pg_sub (pe_var hN hv hd hcd) hi set_list ha) hs hw h1) fun D σ H h => ?_
  obtain ⟨φ, F, ρ, R0, h⟩ := h
  refine ⟨φ, F, ρ, R0, postE h fun d ρ1 _ h v φ1 F1 H1 s1 R1 k1 => ?_⟩
  cases q : ρ1[i]? with
  | none => rw [q] at h; exact h.elim
  | some o =>
    cases o with
    | none => rw [q] at h; exact h.elim
    | some d0 =>
      cases d0 with
      | lst ys =>
        rw [q] at h
        simp only at h
        obtain ⟨a, vs, g1, g2, g3, g4⟩ := R1.mut (es := ys) ho q
        refine ⟨.ref a, g1, φ1, F1, ρ1, R1, postE (PostS.mono s1 h) fun dj ρ2 _ h v2 φ2 F2 H2 s2 R2 k2 => ?_⟩
        cases q1 : ρ2[i]? with
        | none => rw [q1] at h; exact h.elim
        | some o1 =>
          cases o1 with
          | none => rw [q1] at h; exact h.elim
          | some d1 =>
            cases d1 with
            | lst xs =>
              cases dj with
              | int jj =>
                rw [q1] at h
                simp only at h
                cases qj : ixN xs.length jj with
                | none => rw [qj] at h; exact h.elim
                | some j =>
                  rw [qj] at h
                  simp only at h
                  obtain rfl := rep_int k2
                  obtain ⟨a1, ws, f1, f2, f3, f4⟩ := R2.mut (es := xs.set j d) ho q1
                  rw [g1] at f1; cases f1
                  refine ⟨a, ws, jj, j, rfl, rfl, f2, by rw [repL_length f3]; exact qj, ?_⟩
                  exact h φ2 σ F2 _ s2 (f4 _ (repL_set j f3 (Rep.mono s2 _ _ k1)))
              | _ => rw [q1] at h; exact h.elim
            | _ => rw [q1] at h; exact h.elim
      | _ => rw [q] at h; exact h.elim
def setA {α : Type} (xs : List α) (j : Nat) (x : α) : List α := if j < xs.length then xs.set j x else xs ++ [x]
theorem putF_zip {f : Str} {v : V} : ∀ {ns : List Str} {vs : List V} {j : Nat}, ns.Nodup → ns[j]? = some f → j ≤ vs.length → putF f v (ns.zip vs) = ns.zip (setA vs j v)
  | [], vs, j, _, h, _ => by simp at h
  | n :: ns, [], j, nd, h, hl => by
    have : j = 0 := by simpa using hl
    subst this
    simp at h
    subst h
    simp [setA, putF]
  | n :: ns, w :: vs, 0, nd, h, hl => by
    simp at h; subst h
    simp [setA, putF]
  | n :: ns, w :: vs, j + 1, nd, h, hl => by
    have h' : ns[j]? = some f := by simpa using h
    have hne : n ≠ f := fun e => (List.nodup_cons.mp nd).1 (e ▸ List.mem_of_getElem? h')
    have ih := putF_zip (v := v) (vs := vs) (List.nodup_cons.mp nd).2 h' (by simpa using hl)
    simp only [List.zip_cons_cons, putF, if_neg hne, ih]
    unfold setA
    simp only [List.length_cons, Nat.add_lt_add_iff_right]
    split <;> simp
theorem setA_length {α : Type} {xs : List α} {j : Nat} {x : α} (h : j ≤ xs.length) : (setA xs j x).length = max xs.length (j + 1) := by
  unfold setA
  split
  · rw [List.length_set]; omega
  · rw [List.length_append, List.length_singleton]; omega
theorem oFld_set {K : PySem.W.Frag} {cd : CD} {F H : Hp} {d : D} {v : V} (r : Rep K cd F d v) : ∀ {fl : List Bool} {ds : List D} {vs : List V} {fp : List Addr} {j : Nat}, j ≤ ds.length → fl.getD j false = false → OFld K cd F H fl ds vs fp → OFld K cd F H fl (setA ds j d) (setA vs j v) fp
  | fl, [], vs, fp, j, hj, hf, h => by
    simp only [OFld] at h
    obtain ⟨rfl, rfl⟩ := h
    have : j = 0 := by simpa using hj
    subst this
    have e1 : setA ([] : List D) 0 d = [d] := rfl
    have e2 : setA ([] : List V) 0 v = [v] := rfl
    rw [e1, e2]
    cases fl with
    | nil => simp only [OFld]; exact ⟨v, [], rfl, r, by simp only [OFld]; trivial⟩
    | cons b fl =>
      cases b with
      | false => simp only [OFld]; exact ⟨v, [], rfl, r, by simp only [OFld]; trivial⟩
      | true => simp at hf
  | true :: fl, d0 :: ds, vs, fp, 0, hj, hf, h => by simp at hf
  | true :: fl, d0 :: ds, vs, fp, j + 1, hj, hf, h => by
    simp only [OFld] at h
    obtain ⟨b, ws, es, us, fp', rfl, rfl, rfl, h4, h5, h6⟩ := h
    have ih := oFld_set r (j := j) (by simpa using hj) (by simpa using hf) h6
    have e1 : setA (D.lst es :: ds) (j + 1) d = D.lst es :: setA ds j d := by unfold setA; simp only [List.length_cons, Nat.add_lt_add_iff_right]; split <;> simp
    have e2 : setA (V.ref b :: ws) (j + 1) v = V.ref b :: setA ws j v := by unfold setA; simp only [List.length_cons, Nat.add_lt_add_iff_right]; split <;> simp
    rw [e1, e2]
    simp only [OFld]
    exact ⟨b, _, es, us, fp', rfl, rfl, rfl, h4, h5, ih⟩
  | false :: fl, d0 :: ds, vs, fp, j, hj, hf, h => by
    simp only [OFld] at h
    obtain ⟨w, ws, rfl, h2, h3⟩ := h
    cases j with
    | zero =>
      have e1 : setA (d0 :: ds) 0 d = d :: ds := rfl
      have e2 : setA (w :: ws) 0 v = v :: ws := rfl
      rw [e1, e2]
      simp only [OFld]
      exact ⟨v, ws, rfl, r, h3⟩
    | succ j =>
      have ih := oFld_set r (j := j) (by simpa using hj) (by simpa using hf) h3
      have e1 : setA (d0 :: ds) (j + 1) d = d0 :: setA ds j d := by unfold setA; simp only [List.length_cons, Nat.add_lt_add_iff_right]; split <;> simp
      have e2 : setA (w :: ws) (j + 1) v = w :: setA ws j v := by unfold setA; simp only [List.length_cons, Nat.add_lt_add_iff_right]; split <;> simp
      rw [e1, e2]
      simp only [OFld]
      exact ⟨w, _, rfl, h2, ih⟩
  | [], d0 :: ds, vs, fp, j, hj, hf, h => by
    simp only [OFld] at h
    obtain ⟨w, ws, rfl, h2, h3⟩ := h
    cases j with
    | zero =>
      have e1 : setA (d0 :: ds) 0 d = d :: ds := rfl
      have e2 : setA (w :: ws) 0 v = v :: ws := rfl
      rw [e1, e2]
      simp only [OFld]
      exact ⟨v, ws, rfl, r, h3⟩
    | succ j =>
      have ih := oFld_set (fl := []) r (j := j) (by simpa using hj) (by simp) h3
      have e1 : setA (d0 :: ds) (j + 1) d = d0 :: setA ds j d := by unfold setA; simp only [List.length_cons, Nat.add_lt_add_iff_right]; split <;> simp
      have e2 : setA (w :: ws) (j + 1) v = w :: setA ws j v := by unfold setA; simp only [List.length_cons, Nat.add_lt_add_iff_right]; split <;> simp
      rw [e1, e2]
      simp only [OFld]
      exact ⟨w, _, rfl, h2, ih⟩
theorem oFld_len {K : PySem.W.Frag} {cd : CD} {F H : Hp} : ∀ {fl : List Bool} {ds : List D} {vs : List V} {fp : List Addr}, OFld K cd F H fl ds vs fp → vs.length = ds.length
  | _, [], vs, fp, h => by simp only [OFld] at h; rw [h.1]; rfl
  | true :: fl, d0 :: ds, vs, fp, h => by
    simp only [OFld] at h
    obtain ⟨b, ws, es, us, fp', rfl, rfl, rfl, h4, h5, h6⟩ := h
    simp [oFld_len h6]
  | false :: fl, d0 :: ds, vs, fp, h => by
    simp only [OFld] at h
    obtain ⟨w, ws, rfl, h2, h3⟩ := h
    simp [oFld_len h3]
  | [], d0 :: ds, vs, fp, h => by
    simp only [OFld] at h
    obtain ⟨w, ws, rfl, h2, h3⟩ := h
    simp [oFld_len h3]
/-- where the own object keeps the field, and that it is no list of its own -/
def OwnOk (K : PySem.W.Frag) (cd : CD) (f : Str) (c j : Nat) : Prop := ∃ I, cd c = some I ∧ Cls K I.C ∧ NoAttr K I.C f ∧ I.ns[j]? = some f ∧ I.ns.Nodup ∧ I.ow.getD j false = false ∧ I.ns.length < 1000
def mFset (i c j : Nat) (m : Env → R D) : Env → R Flow := fun ρ => (m ρ).bind fun d ρ1 => match ρ1[i]? with
  | some (some (.obj c' ds)) => if c' = c ∧ j ≤ ds.length then .ok .nx (ρ1.set i (some (.obj c (setA ds j d)))) else .no
  | _ => .no
theorem b_fset (i c j : Nat) {x f : Str} {p1 p2 : Pos} {k : RK} {m : Env → R D} (hK : X.K = B.K) (hf : OwnOk B.K B.cd f c j) (he : PE X e (tE B W (kP B.K B) m)) (ho : B.md i = .o := by rfl) (hN : X.N[i]? = some x := by rfl) (hv : Vis X.env.scope x := by first | exact Or.inl rfl | exact Or.inr (Or.inl rfl) | exact Or.inr (Or.inr rfl)) (hd : (x == ("__debug__" : Str)) = false := by decide)
    (hcd : (x == ("__classdict__" : Str)) = false := by decide) (hs : swapsWith e (some (.Attribute (.Name x p1) f p2)) pos.line X.env = pure false := by rfl) :
    PS X (.Assign [.Attribute (.Name x p1) f p2] e pos) (tS B W k (mFset i c j m)) := by
  have h := ps_fld (pos' := p2) (pos := pos) (f := f) (pe_var hN hv hd hcd) he hs
  rw [hK] at h
  refine PS.imp h fun D σ H h => ?_
  obtain ⟨φ, F, ρ, R0, h⟩ := h
  refine ⟨φ, F, ρ, R0, postE h fun d ρ1 _ h v φ1 F1 H1 s1 R1 k1 => ?_⟩
  cases q : ρ1[i]? with
  | none => rw [q] at h; exact h.elim
  | some o =>
    cases o with
    | none => rw [q] at h; exact h.elim
    | some d0 =>
      cases d0 with
      | obj c' ds =>
        rw [q] at h
        simp only at h
        split at h
        · rename_i hc
          obtain ⟨rfl, hj⟩ := hc
          obtain ⟨I, h1, h2, h3, h4, h5, h6, h7⟩ := hf
          obtain ⟨a, g1, g2⟩ := R1.ow i _ q (by rw [ho]; decide)
          have g2' := g2
          simp only [ORep] at g2
          obtain ⟨I', dx, vs, fp', hφ, hI', hH, hof, hnd⟩ := g2
          rw [h1] at hI'; cases hI'
          have hl := oFld_len hof
          refine ⟨.ref a, g1, a, I.C, dx, _, rfl, hH, h2, h3, ?_, h φ1 σ F1 _ s1 (R1.mutG ho q g1 (by rw [hφ]; simp) ?_)⟩
          · rw [List.length_zip]; omega
          · simp only [ORep]
            refine ⟨I, dx, setA vs j v, fp', hφ, h1, ?_, ?_, hnd⟩
            · rw [upd_same, putF_zip h5 h4 (by rw [hl]; exact hj)]
            · have hz := oFld_set k1 hj h6 hof
              refine hz.mono (Same.refl _) fun b hb => ?_
              rw [upd_ne]
              intro e; subst e
              rw [hφ] at hnd
              exact (List.nodup_cons.mp hnd).1 hb
        · exact h.elim
      | _ => rw [q] at h; exact h.elim
end
end Mi

set_option Elab.async false
set_option linter.all false
set_option maxRecDepth 100000
namespace Mi
open PySem L2
section
variable {X : Cx} {B : Bs} {W : WX} {n k : Nat} {e : Expr} {es : List Expr} {kws : List Keyword} {pos p kpos : Pos} {x : Str} {nm : Option Str}
theorem PK.imp {t t' : TA} (h : PK X kws t) (j : ∀ σ H Q, t' σ H Q → t σ H Q) : PK X kws t' := ⟨fun pos pins s σ H Q I q => h.run pos pins s σ H Q I (j _ _ _ q)⟩
theorem k_nil : PK X [] (tA B W aNil) := by
  refine PK.imp pk_nil fun σ H Q h => ?_
  obtain ⟨φ, F, ρ, R0, h⟩ := h
  exact h [] φ F H (Same.refl _) R0 repL_nil
theorem k_cons {ma : Env → R D} {mr : Env → R (List D)} (ha : PE X e (tE B W (kP B.K B) ma)) (hr : PK X kws (tA B W mr)) : PK X (⟨nm, e, kpos⟩ :: kws) (tA B W (aCons ma mr)) := by
  refine PK.imp (pk_cons ha hr) fun σ H Q h => ?_
  obtain ⟨φ, F, ρ, R0, h⟩ := h
  refine ⟨φ, F, ρ, R0, Post.bind h fun d1 ρ1 _ h v1 φ1 F1 H1 s1 R1 k1 => ?_⟩
  refine ⟨φ1, F1, ρ1, R1, Post.bind (Post.mono s1 h fun _ _ z => z) fun ds ρ2 _ h vs φ2 F2 H2 s2 R2 k2 => ?_⟩
  exact h (v1 :: vs) φ2 F2 H2 (s1.trans s2) R2 (repL_cons (Rep.mono s2 _ _ k1) k2)
/-- a new instance: its __init__ keeps fn; n values, keywords ks; gD lays the values and defaults in the parameters' order -/
structure MakeOk (P : Program) (w : World) (K : PySem.W.Frag) (mg : Str → Option Value) (base : Heap) (cd : CD) (k : Nat) (x : Str) (c n : Nat) (ks : List Str) (gD : List D → List D) (fn : List D → FR) : Prop where
  ex : ∃ (f : Addr) (fd : FuncData) (ps : List Str) (I : CI) (pm : List Md) (g : List Value → List Value → List Value) (gV : List V → List V → List V), FnOk P w K mg base (L2.CX P w) k f fd ps (spM K cd (.o :: pm) false fn) ∧ Mk K I.C f ∧ mg x = some (.ref I.C) ∧ cd c = some I ∧
    KBn K fd ps (n + 1) ks g gV ∧ (∀ (i : Nat), pm[i]? ≠ some Md.o) ∧
    ∀ F (ds : List D) (vs zs : List V) (a : Addr), vs.length = n → zs.length = ks.length → RepL K cd F ds (vs ++ zs) → ∃ ws, gV (.ref a :: vs) zs = .ref a :: ws ∧ RepL K cd F (gD ds) ws ∧ ws.length = pm.length
def eMake (c n j : Nat) (gD : List D → List D) (fn : List D → FR) (m mk : Env → R (List D)) : Env → R D := fun ρ => (m ρ).bind fun ds ρ1 => (mk ρ1).bind fun es ρ2 =>
  if ds.length = n ∧ es.length = j then match fn (.obj c [] :: gD (ds ++ es)) with
    | .ok .non (some d) => .ok d ρ2
    | .ex c' fs _ => .ex c' fs ρ2
    | _ => .no
  else .no
/-- how a new thing is made, told by values -/
def tMk (C : Addr) (n m : Nat) (sp : Sp) (gV : List V → List V → List V) (W : WX) (t tk : TA) : TE := fun σ H Q => t σ H fun vs H1 => tk σ H1 fun zs H2 => vs.length = n ∧ zs.length = m ∧ ∀ x dx, H2 x = none → H2 dx = none → dx ≠ x →
  sp (gV (.ref x :: vs) zs) (upd (upd H2 dx (.own x)) x (.ins C dx [])) (fun v H3 => v = .non ∧ Q (.ref x) H3) (WE W σ)
theorem run_mk {f C : Addr} {fd : FuncData} {ps ks : List Str} {sp : Sp} {g : List Value → List Value → List Value} {gV : List V → List V → List V} {pins : List (Addr × Obj)} {σ : L2.St} {H : Hp} {s : Shared} {Q : VK} {us ws : List Value} {vs zs : List V} (M : Mk X.K C f) (F : FnOk X.prog X.w X.K X.mg X.base (L2.CX X.prog X.w) k f fd ps sp)
    (hr : Room (k + 1) X.A) (hb : KBn X.K fd ps (n + 1) ks g gV) (tk : Takes X W) (I : Inv X pins σ H s) (r : Vals vs us) (rz : Vals zs ws) (l1 : vs.length = n) (l2 : zs.length = ks.length)
    (h : ∀ x dx, H x = none → H dx = none → dx ≠ x → sp (gV (.ref x :: vs) zs) (upd (upd H dx (.own x)) x (.ins C dx [])) (fun v H2 => v = .non ∧ Q (.ref x) H2) (WE W σ)) :
    wpAny (model X.prog X.w) X.A (call (.ref C) us (ks.zip ws)) (EP X pins σ Q) X.xe s := by
  have hq := h (s.heap.objs.size + 1) s.heap.objs.size (I.hok.fresh (Nat.le_succ _)) (I.hok.fresh (Nat.le_refl _)) (Nat.ne_of_lt (Nat.lt_succ_self _))
  have I2 := Inv.made (C := C) I
  have r1 : Vals (V.ref (s.heap.objs.size + 1) :: vs) (Value.ref (s.heap.objs.size + 1) :: us) := .cons rfl r
  have r2 := hb.rel r1 rz
  have n1 : (Value.ref (s.heap.objs.size + 1) :: us).length = n + 1 := by
    rw [List.length_cons, ← r.length, l1]
  refine wpAny_call (make_map (f := f) I.kIn M.makes M.init (beq_iff_eq.mp M.fn) (codeAny_mono (F.run _ X.stack _ _ ⟨Value.ref (s.heap.objs.size + 1) :: us, ks.zip ws⟩ (g (Value.ref (s.heap.objs.size + 1) :: us) ws) _ _ _ (hr.make C us (ks.zip ws))
    (I2.env0.make C us (ks.zip ws)) (hb.to _ (Value.ref (s.heap.objs.size + 1) :: us) ws I2.kIn n1 (rz.length.symm.trans l2)) r2 hq) fun r s' hq' => ?_))
  cases r with
  | error e => exact passAt tk σ pins _ _ e s' I2 hq'
  | ok fl =>
    cases fl with
    | ret u =>
      obtain ⟨v, H', I3, rv, ev, q3⟩ := I2.after hq'
      subst ev
      exact ⟨rv, ⟨V.ref (s.heap.objs.size + 1), H', I3, rfl, q3⟩⟩
    | next => exact False.elim hq'
    | brk => exact False.elim hq'
    | cont => exact False.elim hq'
section
variable {f C : Addr} {fd : FuncData} {ps ks : List Str} {sp : Sp} {g : List Value → List Value → List Value} {gV : List V → List V → List V} {t tk : TA}
theorem mk_00 (M : Mk X.K C f) (F : FnOk X.prog X.w X.K X.mg X.base (L2.CX X.prog X.w) k f fd ps sp) (hr : Room (k + 1) X.A) (hg : Gl X x) (hm : X.mg x = some (.ref C)) (hb : KBn X.K fd ps 1 [] g gV) (hx : Takes X W)
    (hdb : (x == ("__debug__" : Str)) = false := by decide) : PE X (.Call (.Name x p) [] [] pos) (tMk C 0 0 sp gV W (tA B W aNil) (tA B W aNil)) := by
  refine ⟨fun pins s σ H Q I h => ?_⟩
  refine wpAny_Call_Name_kw (ld_glob I hg hm ?_ hdb)
  obtain ⟨φ, F0, ρ, R0, h⟩ := h
  obtain ⟨φ1, F1, ρ1, R1, h⟩ := h [] φ F0 H (Same.refl _) R0 repL_nil
  obtain ⟨l1, l2, q⟩ := h [] φ1 F1 H (Same.refl _) R1 repL_nil
  exact PySem.W.callWith_K0 I.kIn M.kp (run_mk (ks := []) (us := []) (ws := []) M F hr hb hx I .nil .nil rfl rfl q)
theorem mk_n0 (M : Mk X.K C f) (F : FnOk X.prog X.w X.K X.mg X.base (L2.CX X.prog X.w) k f fd ps sp) (hr : Room (k + 1) X.A) (hg : Gl X x) (hm : X.mg x = some (.ref C)) (hb : KBn X.K fd ps (n + 1) [] g gV) (hx : Takes X W) (ha : PA X (e :: es) t)
    (hdb : (x == ("__debug__" : Str)) = false := by decide) (he : starEach (e :: es) X.env = (false, eval e X.env) :: starEach es X.env := by rfl) (hpl : (backTo pos (starEach es X.env)).any (·.1) = false := by rfl) : PE X (.Call (.Name x p) (e :: es) [] pos) (tMk C n 0 sp gV W t (tA B W aNil)) := by
  refine ⟨fun pins s σ H Q I h => ?_⟩
  refine wpAny_Call_Name_kw (ld_glob I hg hm ?_ hdb)
  refine PySem.W.callWith_K (h₀ := X.base) I.ok.mod.kin M.kp (thn (ha.run pos pins s σ H _ I h) fun us s1 ⟨vs, H1, I1, r, q⟩ => ⟨I1.kIn, ?_⟩) he hpl
  obtain ⟨φ1, F1, ρ1, R1, h⟩ := q
  obtain ⟨l1, l2, q⟩ := h [] φ1 F1 H1 (Same.refl _) R1 repL_nil
  exact run_mk (ks := []) (ws := []) M F hr hb hx I1 r .nil l1 rfl q
theorem mk_0k (M : Mk X.K C f) (F : FnOk X.prog X.w X.K X.mg X.base (L2.CX X.prog X.w) k f fd ps sp) (hr : Room (k + 1) X.A) (hg : Gl X x) (hm : X.mg x = some (.ref C)) (hb : KBn X.K fd ps 1 ks g gV) (hx : Takes X W) (hkw : PK X kws tk)
    (hall : (backToKw pos (keywordEach kws X.env)).all (·.1.isSome) = true := by rfl) (hks : (backToKw pos (keywordEach kws X.env)).filterMap (·.1) = ks := by rfl) (hdb : (x == ("__debug__" : Str)) = false := by decide)
    (hpl : ((backTo pos (starEach [] X.env)).any (·.1) || (backToKw pos (keywordEach kws X.env)).any (·.1.isNone)) = false := by rfl) : PE X (.Call (.Name x p) [] kws pos) (tMk C 0 ks.length sp gV W (tA B W aNil) tk) := by
  refine ⟨fun pins s σ H Q I h => ?_⟩
  refine wpAny_Call_Name_kw (ld_glob I hg hm ?_ hdb)
  refine PySem.W.callWith_KW0 (h₀ := X.base) I.ok.mod.kin M.kp hall ?_ hpl
  obtain ⟨φ, F0, ρ, R0, h⟩ := h
  refine thn (hkw.run pos pins s σ H _ I (h [] φ F0 H (Same.refl _) R0 repL_nil)) fun ws s2 ⟨zs, H2, I2, rz, l1, l2, q2⟩ => ⟨I2.kIn, ?_⟩
  rw [hks]
  exact run_mk (us := []) M F hr hb hx I2 .nil rz l1 l2 q2
theorem mk_nk (M : Mk X.K C f) (F : FnOk X.prog X.w X.K X.mg X.base (L2.CX X.prog X.w) k f fd ps sp) (hr : Room (k + 1) X.A) (hg : Gl X x) (hm : X.mg x = some (.ref C)) (hb : KBn X.K fd ps (n + 1) ks g gV) (hx : Takes X W) (ha : PA X (e :: es) t) (hkw : PK X kws tk)
    (hall : (backToKw pos (keywordEach kws X.env)).all (·.1.isSome) = true := by rfl) (hks : (backToKw pos (keywordEach kws X.env)).filterMap (·.1) = ks := by rfl) (hdb : (x == ("__debug__" : Str)) = false := by decide)
    (he : starEach (e :: es) X.env = (false, eval e X.env) :: starEach es X.env := by rfl) (hpl : ((backTo pos (starEach (e :: es) X.env)).any (·.1) || (backToKw pos (keywordEach kws X.env)).any (·.1.isNone)) = false := by rfl) :
    PE X (.Call (.Name x p) (e :: es) kws pos) (tMk C n ks.length sp gV W t tk) := by
  refine ⟨fun pins s σ H Q I h => ?_⟩
  refine wpAny_Call_Name_kw (ld_glob I hg hm ?_ hdb)
  refine PySem.W.callWith_KW (h₀ := X.base) I.ok.mod.kin M.kp hall (thn (ha.run pos pins s σ H _ I h) fun us s1 ⟨vs, H1, I1, r, q⟩ => ?_) hpl he
  refine thn (hkw.run pos pins s1 σ H1 _ I1 q) fun ws s2 ⟨zs, H2, I2, rz, l1, l2, q2⟩ => ⟨I2.kIn, ?_⟩
  rw [hks]
  exact run_mk M F hr hb hx I2 r rz l1 l2 q2
end
theorem mk_post {c : Nat} {I : CI} {pm : List Md} {ks : List Str} {gV : List V → List V → List V} {gD : List D → List D} {fn : List D → FR} {m mk : Env → R (List D)} {σ : L2.St} {H : Hp} {Q : VK} (hI : B.cd c = some I) (hpm : ∀ (i : Nat), pm[i]? ≠ some Md.o)
    (hgv : ∀ F (ds : List D) (vs zs : List V) (a : Addr), vs.length = n → zs.length = ks.length → RepL B.K B.cd F ds (vs ++ zs) → ∃ ws, gV (.ref a :: vs) zs = .ref a :: ws ∧ RepL B.K B.cd F (gD ds) ws ∧ ws.length = pm.length)
    (h : tE B W (kO B.K B) (eMake c n ks.length gD fn m mk) σ H Q) : tMk I.C n ks.length (spM B.K B.cd (.o :: pm) false fn) gV W (tA B W m) (tA B W mk) σ H Q := by
  obtain ⟨φ, F, ρ, R0, h⟩ := h
  refine ⟨φ, F, ρ, R0, Post.bind h fun ds ρ1 _ h vs φ1 F1 H1 s1 R1 k1 => ?_⟩
  refine ⟨φ1, F1, ρ1, R1, Post.bind (Post.mono s1 h fun _ _ z => z) fun ds2 ρ2 _ h zs φ2 F2 H2 s2 R2 k2 => ?_⟩
  split at h
  · rename_i hl
    have l1 : vs.length = n := by rw [repL_length k1]; exact hl.1
    have l2 : zs.length = ks.length := by rw [repL_length k2]; exact hl.2
    refine ⟨l1, l2, fun a dx ha hdx hne => ?_⟩
    obtain ⟨ws, e1, e2, e3⟩ := hgv F2 (ds ++ ds2) vs zs a l1 l2 (repL_append (RepL.mono s2 _ _ k1) k2)
    rw [e1]
    have hFa : F2 a = none := R2.sub.free ha
    have up : ∀ b u, H2 b = some u → (upd (upd H2 dx (.own a)) a (.ins I.C dx [])) b = some u := fun b u q => by
      rw [upd_ne (ne_of_none q ha), upd_ne (ne_of_none q hdx)]; exact q
    have dn : ∀ b, (upd (upd H2 dx (.own a)) a (.ins I.C dx [])) b = none → H2 b = none := fun b q => by
      cases z : H2 b with
      | none => rfl
      | some u => rw [up b u z] at q; cases q
    refine ⟨.obj c [] :: gD (ds ++ ds2), F2, fun i => if i = 0 then [a] else [], fun b u q => up b u (R2.sub b u q), ?_, ?_⟩
    · refine ⟨by simp [e3], ?_, fun i v d h1 h2 h3 => ?_, fun i mm v d h1 hm h2 h3 => ?_, fun i h1 => ?_, fun i h1 b hb => ?_, fun i j hij h1 b hb => ?_⟩
      · rw [List.length_cons, List.length_cons, ← e3, repL_length e2]
      · cases i with
        | zero => simp at h1
        | succ i =>
          obtain ⟨v', h4, h5⟩ := repL_get e2 (show (gD (ds ++ ds2))[i]? = some d by simpa using h3)
          rw [show ws[i]? = some v by simpa using h2] at h4
          cases h4
          exact h5
      · cases i with
        | zero =>
          simp at h2 h3
          subst h2 h3
          refine ⟨a, rfl, ?_⟩
          simp only [if_true, ORep]
          exact ⟨I, dx, [], [], rfl, hI, by rw [upd_same, List.zip_nil_right], by simp only [OFld]; trivial, by simp⟩
        | succ i =>
          exfalso
          cases mm with
          | p => exact hm rfl
          | o => exact hpm i (by simpa using h1)
      · cases i with
        | zero => rcases h1 with h1 | h1 <;> simp at h1
        | succ i => simp
      · cases i with
        | zero => simp at hb; subst hb; exact hFa
        | succ i => simp at hb
      · cases i with
        | zero => simp [Ne.symm hij]
        | succ i => simp at hb
    · have h := Post.mono (F1 := F2) s2 h fun _ _ z => z
      cases qf : fn (.obj c [] :: gD (ds ++ ds2)) with
      | no => rw [qf] at h; exact h.elim
      | ex c' fs out =>
        rw [qf] at h
        simp only at h ⊢
        intro F' H' fp dx' I' ws' bk hc hx hw
        have sH : Same H2 H' := fun b u q => bk.keep b u (up b u q) fun i _ => by
          by_cases hi : i = 0
          · rw [if_pos hi]; simp; exact ne_of_none q ha
          · rw [if_neg hi]; simp
        have R3 : Rel B φ2 ρ2 σ H' F' := (R2.grow sH).frost bk.sf bk.sub fun c' h3 h4 => by
          rcases bk.fres c' h3 with z | z
          · exact absurd h4 z
          · have hn := dn c' z
            exact ⟨R2.fresh0 hn, fun i hm => R2.here c' hm hn⟩
        exact h φ2 F' H' dx' I' ws' bk.sf R3 hc hx hw
      | ok d out =>
        rw [qf] at h
        simp only at h ⊢
        cases d with
        | non =>
          cases out with
          | none => exact h.elim
          | some d' =>
            simp only at h
            intro v F' H' fp bk h1 _
            have hv := h1 trivial
            simp only [Rep] at hv
            refine ⟨hv, ?_⟩
            have sH : Same H2 H' := fun b u q => bk.keep b u (up b u q) fun i _ => by
              by_cases hi : i = 0
              · rw [if_pos hi]; simp; exact ne_of_none q ha
              · rw [if_neg hi]; simp
            have R3 : Rel B φ2 ρ2 σ H' F' := (R2.grow sH).frost bk.sf bk.sub fun c' h3 h4 => by
              rcases bk.fres c' h3 with z | z
              · exact absurd h4 z
              · have hn := dn c' z
                exact ⟨R2.fresh0 hn, fun i hm => R2.here c' hm hn⟩
            obtain ⟨d2, a2, g1, g2, g3, g4⟩ := bk.out 0 rfl
            cases g1
            simp at g2
            subst g2
            refine h (.ref a) φ2 F' H' (s1.trans (s2.trans bk.sf)) R3 ⟨a, fp, rfl, g3, fun b hb => ?_⟩
            obtain ⟨g5, g6⟩ := g4 b hb
            have hb2 : H2 b = none := by
              rcases g6 with g6 | g6
              · simp at g6; subst g6; exact ha
              · exact dn b g6
            exact ⟨g5, R2.fresh0 hb2, fun i hm => R2.here b hm hb2⟩
        | _ => exact h.elim
  · exact h.elim
theorem c_make00 {c : Nat} {gD : List D → List D} {fn : List D → FR} (g : Gd X B W n) (F : MakeOk X.prog X.w B.K X.mg X.base B.cd k x c 0 [] gD fn) (hk : k + 1 ≤ n := by decide) (hg : Gl X x := by rfl) (hdb : (x == ("__debug__" : Str)) = false := by decide) :
    PE X (.Call (.Name x p) [] [] pos) (tE B W (kO B.K B) (eMake c 0 0 gD fn aNil aNil)) := by
  obtain ⟨f, fd, ps, I, pm, gg, gV, F, M, hm, hI, hb, hpm, hgv⟩ := F.ex
  rw [← g.hK] at F hb M
  refine PE.imp (mk_00 (B := B) M F (g.room.mono hk) hg hm hb g.tk hdb) fun σ H Q h => ?_
  rw [g.hK]
  exact mk_post (ks := []) hI hpm hgv h
theorem c_makeN {c j : Nat} {gD : List D → List D} {fn : List D → FR} {m : Env → R (List D)} (g : Gd X B W n) (F : MakeOk X.prog X.w B.K X.mg X.base B.cd k x c j [] gD fn) (ha : PA X (e :: es) (tA B W m)) (hk : k + 1 ≤ n := by decide) (hg : Gl X x := by rfl)
    (hdb : (x == ("__debug__" : Str)) = false := by decide) (he : starEach (e :: es) X.env = (false, eval e X.env) :: starEach es X.env := by rfl) (hpl : (backTo pos (starEach es X.env)).any (·.1) = false := by rfl) :
    PE X (.Call (.Name x p) (e :: es) [] pos) (tE B W (kO B.K B) (eMake c j 0 gD fn m aNil)) := by
  obtain ⟨f, fd, ps, I, pm, gg, gV, F, M, hm, hI, hb, hpm, hgv⟩ := F.ex
  rw [← g.hK] at F hb M
  refine PE.imp (mk_n0 (B := B) M F (g.room.mono hk) hg hm hb g.tk ha hdb he hpl) fun σ H Q h => ?_
  rw [g.hK]
  exact mk_post (ks := []) hI hpm hgv h
theorem c_make0K {c : Nat} {ks : List Str} {gD : List D → List D} {fn : List D → FR} {mk : Env → R (List D)} (g : Gd X B W n) (F : MakeOk X.prog X.w B.K X.mg X.base B.cd k x c 0 ks gD fn) (hkw : PK X kws (tA B W mk)) (hk : k + 1 ≤ n := by decide) (hg : Gl X x := by rfl)
    (hall : (backToKw pos (keywordEach kws X.env)).all (·.1.isSome) = true := by rfl) (hks : (backToKw pos (keywordEach kws X.env)).filterMap (·.1) = ks := by rfl) (hdb : (x == ("__debug__" : Str)) = false := by decide)
    (hpl : ((backTo pos (starEach [] X.env)).any (·.1) || (backToKw pos (keywordEach kws X.env)).any (·.1.isNone)) = false := by rfl) :
    PE X (.Call (.Name x p) [] kws pos) (tE B W (kO B.K B) (eMake c 0 ks.length gD fn aNil mk)) := by
  obtain ⟨f, fd, ps, I, pm, gg, gV, F, M, hm, hI, hb, hpm, hgv⟩ := F.ex
  rw [← g.hK] at F hb M
  refine PE.imp (mk_0k (B := B) M F (g.room.mono hk) hg hm hb g.tk hkw hall hks hdb hpl) fun σ H Q h => ?_
  rw [g.hK]
  exact mk_post hI hpm hgv h
theorem c_makeNK {c j : Nat} {ks : List Str} {gD : List D → List D} {fn : List D → FR} {m mk : Env → R (List D)} (g : Gd X B W n) (F : MakeOk X.prog X.w B.K X.mg X.base B.cd k x c j ks gD fn) (ha : PA X (e :: es) (tA B W m)) (hkw : PK X kws (tA B W mk)) (hk : k + 1 ≤ n := by decide) (hg : Gl X x := by rfl)
    (hall : (backToKw pos (keywordEach kws X.env)).all (·.1.isSome) = true := by rfl) (hks : (backToKw pos (keywordEach kws X.env)).filterMap (·.1) = ks := by rfl) (hdb : (x == ("__debug__" : Str)) = false := by decide)
    (he : starEach (e :: es) X.env = (false, eval e X.env) :: starEach es X.env := by rfl) (hpl : ((backTo pos (starEach (e :: es) X.env)).any (·.1) || (backToKw pos (keywordEach kws X.env)).any (·.1.isNone)) = false := by rfl) :
    PE X (.Call (.Name x p) (e :: es) kws pos) (tE B W (kO B.K B) (eMake c j ks.length gD fn m mk)) := by
  obtain ⟨f, fd, ps, I, pm, gg, gV, F, M, hm, hI, hb, hpm, hgv⟩ := F.ex
  rw [← g.hK] at F hb M
  refine PE.imp (mk_nk M F (g.room.mono hk) hg hm hb g.tk ha hkw hall hks hdb he hpl) fun σ H Q h => ?_
  rw [g.hK]
  exact mk_post hI hpm hgv h
end
end Mi

set_option Elab.async false
set_option linter.all false
set_option maxRecDepth 100000
namespace Mi
open PySem L2 ClX
section
variable {X : Cx} {e : Expr} {es : List Expr} {ta : TA} {p1 p2 pos p p' : Pos}
/-- Base.__init__(self, ..), Base an own exception without an own __init__ -/
theorem pe_oinit {pl : Sem Bool} {x : Str} {C : Addr} {mc : Value} (hg : Gl X x) (hm : X.mg x = some (.ref C)) (hr : CRead X.K C mc) (hv : PySem.W.findCls X.K (.ref C) mc "__init__" = some (.val (.builtin "ValueError.__init__"))) (ha : PA X (e :: es) ta)
    (hdb : (x == ("__debug__" : Str)) = false)
    (hc : eval (.Call (.Attribute (.Name x p1) "__init__" p2) (e :: es) [] pos) X.env = (do
      let ov ← eval (.Name x p1) X.env
      standAt p2.atName
      let (f, first) ← holding [ov] (getMethod ov "__init__" pl)
      callWith pos f first (backTo pos (starEach (e :: es) X.env)) (backToKw pos (keywordEach [] X.env))))
    (he : starEach (e :: es) X.env = (false, eval e X.env) :: starEach es X.env) (hpl : (backTo pos (starEach es X.env)).any (·.1) = false) :
    PE X (.Call (.Attribute (.Name x p1) "__init__" p2) (e :: es) [] pos) (tVeI X.K ta) := by
  refine ⟨fun pins s σ H Q I h => ?_⟩
  refine PySem.W.methodCall_KW (ld_glob I hg hm ?_ hdb) hc
  refine PySem.W.method_cls I.kIn hr.ga ?_
  refine PySem.W.cls_value I.kIn hr.rd hv (by decide +kernel) ?_
  show wpAny _ _ (callWith pos (Value.builtin "ValueError.__init__") [] (backTo pos (starEach (e :: es) X.env)) []) _ _ _
  refine PyProof.Rows.callWith_method1 (thn (ha.run pos pins _ σ H _ (I.tok _) h) fun us s1 ⟨vs, H1, I1, r1, a, C, ws, ev, hl, T, ea, q⟩ => ?_) he hpl
  subst ev
  cases r1 with
  | @cons _ u0 _ ur ra rw' =>
    obtain rfl : u0 = Value.ref a := ra
    have hlen : ur.length ≤ sizeLine := by
      rw [← Paired.length rw', sizeLine_eq]
      omega
    exact oinit_ok T I1 ea hlen fun s' J => ⟨.non, H1, J, rfl, q⟩
end
abbrev Bv (K : PySem.W.Frag) (cd : CD) (H F : Hp) : Bs := ⟨K, cd, fun _ => .p, H, F, fun _ => [], fun _ => none, 0, fun _ => none⟩
/-- the slots, read alone -/
structure Pl (K : PySem.W.Frag) (cd : CD) (ρ : Env) (σ : L2.St) (F H : Hp) : Prop where
  sub : Same F H
  len : σ.length = ρ.length
  pl : ∀ (i : Nat) d, ρ[i]? = some (some d) → ∃ v, σ[i]? = some (some v) ∧ Rep K cd F d v
section
variable {K : PySem.W.Frag} {cd : CD} {ρ : Env} {σ : L2.St} {F H : Hp}
theorem Pl.rel (P : Pl K cd ρ σ F H) : Rel (Bv K cd H F) (fun _ => []) ρ σ H F where
  sub := P.sub
  len := P.len
  pl := fun i d h _ => P.pl i d h
  ow := fun i d _ h => absurd rfl h
  und := fun _ _ => rfl
  fr := fun i b hb => by simp at hb
  dj := fun i j _ b hb => by simp at hb
  keep := fun c u h _ => h
  dom := fun c h => h
  froz := Same.refl _
  fres := fun c h => .inl h
  par := fun i a h => by cases h
  xsl := fun i a h => by cases h
theorem Pl.step {φ' : Nat → List Addr} {ρ' : Env} {σ' : L2.St} {F' H' : Hp} (P : Pl K cd ρ σ F H) (R : Rel (Bv K cd H F) φ' ρ' σ' H' F') : Pl K cd ρ σ F' H' ∧ Same F F' ∧ Same H H' ∧ ∀ b, F' b ≠ none → F b ≠ none ∨ H b = none :=
  ⟨⟨R.sub, P.len, fun i d h => by
    obtain ⟨v, h1, h2⟩ := P.pl i d h
    exact ⟨v, h1, Rep.mono R.froz _ _ h2⟩⟩, R.froz, fun b u h => R.keep b u h fun i hi => by simp at hi, R.fres⟩
theorem Pl.upd {a : Addr} {o : HO} (P : Pl K cd ρ σ F H) (ha : F a = none) : Pl K cd ρ σ F (upd H a o) :=
  ⟨fun b u h => by rw [upd_ne (fun e => by rw [e, ha] at h; cases h)]; exact P.sub b u h, P.len, P.pl⟩
/-- in the __init__ of an exception of C's, which stands at a; fields are stored from the back -/
def Xs (K : PySem.W.Frag) (cd : CD) (a C : Addr) (H0 F0 : Hp) (ρ : Env) (ns : List Str) (ds : List D) (σ : L2.St) (H : Hp) : Prop :=
  ∃ F ws, Pl K cd ρ σ F H ∧ σ[0]? = some (some (.ref a)) ∧ F a = none ∧ Same F0 F ∧ (∀ b u, b ≠ a → H0 b = some u → H b = some u) ∧ (∀ b, F b ≠ none → F0 b ≠ none ∨ H0 b = none) ∧ RepL K cd F ds ws ∧
    ((ns = [] ∧ ds = [] ∧ H a = some (exo a C none)) ∨ ∃ d, ns ≠ [] ∧ H a = some (exo a C (some d)) ∧ H d = some (exd d (ns.zip ws)) ∧ F d = none ∧ H0 d = none ∧ d ≠ a)
/-- the spec -/
def spX (K : PySem.W.Frag) (cd : CD) (ns : List Str) (n : Nat) (fn : List D → Option (List D)) : Sp := fun vs H Q E => ∃ a C us F ds fs, vs = .ref a :: us ∧ us.length = n ∧ OexC K C ∧ (∀ f ∈ ns, PySem.W.findIn K (.ref C) f = some none) ∧ H a = some (exo a C none) ∧ F a = none ∧ Same F H ∧ RepL K cd F ds us ∧ fn ds = some fs ∧
  ∀ F' H' d ws, Same F F' → Same F' H' → F' a = none → F' d = none → (∀ b u, b ≠ a → H b = some u → H' b = some u) → H' a = some (exo a C (some d)) → H' d = some (exd d (ns.zip ws)) → H d = none → d ≠ a → (∀ b, F' b ≠ none → F b ≠ none ∨ H b = none) → RepL K cd F' fs ws → Q .non H'
theorem Xs.start {a C : Addr} {us : List V} {ds : List D} {N : List Str} (hn : N.length = us.length + 1) (hH : H a = some (exo a C none)) (hF : F a = none) (s : Same F H) (r : RepL K cd F ds us) : Xs K cd a C H F (none :: ds.map some) [] [] (L2.start N (.ref a :: us)) H := by
  refine ⟨F, [], ⟨s, ?_, fun i d h => ?_⟩, ?_, hF, Same.refl _, fun b u _ h => h, fun b h => .inl h, repL_nil, .inl ⟨rfl, rfl, hH⟩⟩
  · unfold L2.start
    simp only [List.length_append, List.length_map, List.length_replicate, List.length_cons]
    have := repL_length r
    omega
  · cases i with
    | zero => simp at h
    | succ i =>
      have h' : ds[i]? = some d := by
        simp only [List.getElem?_cons_succ, List.getElem?_map, Option.map_eq_some_iff] at h
        obtain ⟨x, h1, h2⟩ := h
        cases h2
        exact h1
      obtain ⟨v, h1, h2⟩ := repL_get r h'
      exact ⟨v, start_get (show (V.ref a :: us)[i + 1]? = some v by simpa using h1), h2⟩
  · exact start_get (show (V.ref a :: us)[0]? = some (V.ref a) by rfl)
def tXi (K : PySem.W.Frag) (cd : CD) (mt : Env → R D) : TS := fun D σ H => ∃ a C H0 F0 ρ, OexC K C ∧ Xs K cd a C H0 F0 ρ [] [] σ H ∧ (∃ d ρ', mt ρ = .ok d ρ') ∧ ∀ σ' H', Xs K cd a C H0 F0 ρ [] [] σ' H' → D.nx σ' H'
def tXf (K : PySem.W.Frag) (cd : CD) (f : Str) (i : Nat) : TS := fun D σ H => ∃ a C H0 F0 ρ ns ds d, OexC K C ∧ PySem.W.findIn K (.ref C) f = some none ∧ Xs K cd a C H0 F0 ρ ns ds σ H ∧ ns.length ≤ 900 ∧ ρ[i]? = some (some d) ∧ ∀ σ' H', Xs K cd a C H0 F0 ρ (f :: ns) (d :: ds) σ' H' → D.nx σ' H'
end
section
variable {X : Cx} {cd : CD} {p1 p2 p3 pos pos' : Pos}
theorem x_init {pl : Sem Bool} {x sv : Str} {C : Addr} {mc : Value} {txt : Expr} {mt : Env → R D} {K : PySem.W.Frag} (hK : X.K = K) (hg : Gl X x) (hm : X.mg x = some (.ref C)) (hr : CRead K C mc) (hv : PySem.W.findCls K (.ref C) mc "__init__" = some (.val (.builtin "ValueError.__init__")))
    (ht : ∀ H F, PE X txt (tE (Bv K cd H F) WF (kP K (Bv K cd H F)) mt)) (hN : X.N[0]? = some sv := by rfl) (hvs : Vis X.env.scope sv := by first | exact Or.inl rfl | exact Or.inr (Or.inl rfl) | exact Or.inr (Or.inr rfl)) (hd : (sv == ("__debug__" : Str)) = false := by decide) (hcd : (sv == ("__classdict__" : Str)) = false := by decide)
    (hdb : (x == ("__debug__" : Str)) = false := by decide)
    (hc : eval (.Call (.Attribute (.Name x p1) "__init__" p2) [.Name sv p3, txt] [] pos) X.env = (do
      let ov ← eval (.Name x p1) X.env
      standAt p2.atName
      let (f, first) ← holding [ov] (getMethod ov "__init__" pl)
      callWith pos f first (backTo pos (starEach [.Name sv p3, txt] X.env)) (backToKw pos (keywordEach [] X.env))) := by rfl)
    (he : starEach [.Name sv p3, txt] X.env = (false, eval (.Name sv p3) X.env) :: starEach [txt] X.env := by rfl) (hpl : (backTo pos (starEach [txt] X.env)).any (·.1) = false := by rfl) (he2 : starEach [txt] X.env = (false, eval txt X.env) :: starEach [] X.env := by rfl)
    (hs : swapsWith (.Call (.Attribute (.Name x p1) "__init__" p2) [.Name sv p3, txt] [] pos) none pos'.line X.env = pure false := by rfl) :
    PS X (.Expr (.Call (.Attribute (.Name x p1) "__init__" p2) [.Name sv p3, txt] [] pos) pos') (tXi K cd mt) := by
  subst hK
  have ht' : PE X txt (fun σ H Q => ∃ H0 F0, tE (Bv X.K cd H0 F0) WF (kP X.K (Bv X.K cd H0 F0)) mt σ H Q) := ⟨fun pins s σ H Q I ⟨H0, F0, q⟩ => (ht H0 F0).run pins s σ H Q I q⟩
  refine PS.imp (ps_expr (pe_oinit hg hm hr hv (pa_cons (pe_var hN hvs hd hcd) (pa_cons ht' pa_nil he2) he) hdb hc he hpl) hs) fun D σ H h => ?_
  obtain ⟨a, C', H0, F0, ρ, T, hx, ⟨d, ρ', hmt⟩, h⟩ := h
  obtain ⟨F, ws, P, h0, hFa, s0, hk, hfr, hr', hst⟩ := hx
  have hHa : H a = some (exo a C' none) := by
    rcases hst with ⟨_, _, z⟩ | ⟨d, z1, _⟩
    · exact z
    · exact absurd rfl z1
  refine ⟨.ref a, h0, H, F, _, F, ρ, P.rel, ?_⟩
  rw [hmt]
  intro v φ' F' H' s' R' k'
  obtain ⟨P', s1, s2, s3⟩ := P.step R'
  refine ⟨a, C', [v], rfl, by simp, T, s2 _ _ hHa, h σ H' ⟨F', ws, P', h0, ?_, s0.trans s1, fun b u hb hb2 => s2 _ _ (hk b u hb hb2), fun b hb => ?_, RepL.mono s1 _ _ hr', ?_⟩⟩
  · cases q : F' a with
    | none => rfl
    | some u =>
      rcases s3 a (by rw [q]; simp) with z | z
      · exact absurd hFa z
      · rw [hHa] at z; cases z
  · rcases s3 b hb with z | z
    · exact hfr b z
    · right
      cases q : H0 b with
      | none => rfl
      | some u =>
        by_cases hba : b = a
        · subst hba; rw [hHa] at z; cases z
        · rw [hk b u hba q] at z; cases z
  · exact .inl ⟨rfl, rfl, s2 _ _ hHa⟩
theorem x_set (i : Nat) {sv f y : Str} {K : PySem.W.Frag} (hK : X.K = K) (hN : X.N[0]? = some sv := by rfl) (hvs : Vis X.env.scope sv := by first | exact Or.inl rfl | exact Or.inr (Or.inl rfl) | exact Or.inr (Or.inr rfl)) (hd : (sv == ("__debug__" : Str)) = false := by decide) (hcd : (sv == ("__classdict__" : Str)) = false := by decide)
    (hN2 : X.N[i]? = some y := by rfl) (hvs2 : Vis X.env.scope y := by first | exact Or.inl rfl | exact Or.inr (Or.inl rfl) | exact Or.inr (Or.inr rfl)) (hd2 : (y == ("__debug__" : Str)) = false := by decide) (hcd2 : (y == ("__classdict__" : Str)) = false := by decide)
    (hs : swapsWith (.Name y p3) (some (.Attribute (.Name sv p1) f p2)) pos.line X.env = pure false := by rfl) :
    PS X (.Assign [.Attribute (.Name sv p1) f p2] (.Name y p3) pos) (tXf K cd f i) := by
  subst hK
  refine PS.imp (ps_ost (pe_var hN hvs hd hcd) (pe_var hN2 hvs2 hd2 hcd2) hs) fun D σ H h => ?_
  obtain ⟨a, C, H0, F0, ρ, ns, ds, d, T, hf, hx, hl, hi, h⟩ := h
  obtain ⟨F, ws, P, h0, hFa, s0, hk, hfr, hr', hst⟩ := hx
  obtain ⟨v, h1, h2⟩ := P.pl i d hi
  refine ⟨v, h1, .ref a, h0, a, C, rfl, T, hf, ?_⟩
  rcases hst with ⟨rfl, rfl, z⟩ | ⟨dx, zn, z1, z2, z3, z4, z5⟩
  · refine .inl ⟨z, fun dx hdx hne => h σ _ ⟨F, [v], (P.upd (P.sub.free hdx)).upd hFa, h0, hFa, s0, fun b u hb hb2 => ?_, hfr, repL_cons h2 repL_nil, .inr ⟨dx, by simp, upd_same, ?_, P.sub.free hdx, ?_, hne⟩⟩⟩
    · rw [upd_ne hb, upd_ne (ne_of_none (hk b u hb hb2) hdx)]; exact hk b u hb hb2
    · rw [upd_ne hne, upd_same]
      simp only [RepL] at hr'
      subst hr'
      rfl
    · cases q : H0 dx with
      | none => rfl
      | some u =>
        have := hk dx u hne q
        rw [hdx] at this; cases this
  · refine .inr ⟨dx, _, z1, z2, ?_, h σ _ ⟨F, v :: ws, P.upd z3, h0, hFa, s0, fun b u hb hb2 => ?_, hfr, repL_cons h2 hr', .inr ⟨dx, by simp, ?_, ?_, z3, z4, z5⟩⟩⟩
    · rw [List.length_zip]; omega
    · rw [upd_ne (fun e => by rw [e, z4] at hb2; cases hb2)]; exact hk b u hb hb2
    · rw [upd_ne (Ne.symm z5)]; exact z1
    · rw [upd_same]; rfl
end
/-- the end of the body -/
theorem xs_end {K : PySem.W.Frag} {cd : CD} {a C : Addr} {H F : Hp} {ρ : Env} {ns : List Str} {fs : List D} {Q : VK} {σ : L2.St} {H' : Hp} (hne : ns ≠ []) (hx : Xs K cd a C H F ρ ns fs σ H')
    (h : ∀ F' H' d ws, Same F F' → Same F' H' → F' a = none → F' d = none → (∀ b u, b ≠ a → H b = some u → H' b = some u) → H' a = some (exo a C (some d)) → H' d = some (exd d (ns.zip ws)) → H d = none → d ≠ a → (∀ b, F' b ≠ none → F b ≠ none ∨ H b = none) → RepL K cd F' fs ws → Q .non H') : Q .non H' := by
  obtain ⟨F', ws, P, h0, hFa, s0, hk, hfr, hr', hst⟩ := hx
  rcases hst with ⟨z, _⟩ | ⟨d, _, z1, z2, z3, z4, z5⟩
  · exact absurd z hne
  · exact h F' H' d ws s0 P.sub hFa z3 hk z1 z2 z4 z5 hfr hr'
section
variable {P : Program} {w : World} {K : PySem.W.Frag} {mg : Str → Option Value} {base : Heap} {cd : CD} {k : Nat} {f : Addr} {fd : FuncData} {ps N : List Str} {XX : Value → Around → List PySem.Env → Shared → Hp → XK → Cx} {mt : Env → R D} {s1 s2 s3 : Stmt} {f1 f2 : Str}
/-- one field: what raise C(a) keeps; mt: the text -/
def X1 (mt : Env → R D) : List D → Option (List D)
  | [a] => match mt [none, some a] with
    | .ok _ _ => some [a]
    | _ => none
  | _ => none
/-- two fields -/
def X2 (mt : Env → R D) : List D → Option (List D)
  | [a, b] => match mt [none, some a, some b] with
    | .ok _ _ => some [b, a]
    | _ => none
  | _ => none
theorem X1_len {mt : Env → R D} : ∀ ds fs, X1 mt ds = some fs → ds.length = 1
  | [a], fs, h => rfl
  | [], fs, h => by simp [X1] at h
  | _ :: _ :: _, fs, h => by simp [X1] at h
theorem X2_len {mt : Env → R D} : ∀ ds fs, X2 mt ds = some fs → ds.length = 2
  | [a, b], fs, h => rfl
  | [], fs, h => by simp [X2] at h
  | [_], fs, h => by simp [X2] at h
  | _ :: _ :: _ :: _, fs, h => by simp [X2] at h
theorem exc_def1 (ok : ∀ sp : Sp, (∀ vs H Q E, sp vs H Q E → vs.length = ps.length) → (∀ (cdv : Value) (A : Around) (outer : List PySem.Env) (s : Shared) (H : Hp) (vs : List V) (Q : VK) (E : XK), Room k (XX cdv A outer s H E).A → sp vs H Q E →
      ∃ t, PSs (XX cdv A outer s H E) [s1, s2] t ∧ t { nx := fun _ H' => Q .non H', rt := Q } (L2.start N vs) H) → FnOk P w K mg base (L2.CX P w) (k + 1) f fd ps sp)
    (hp : ps.length = 2) (hN : N.length = 2) (h1 : ∀ cdv A outer s H E, PS (XX cdv A outer s H E) s1 (tXi K cd mt)) (h2 : ∀ cdv A outer s H E, PS (XX cdv A outer s H E) s2 (tXf K cd f1 1)) :
    FnOk P w K mg base (L2.CX P w) (k + 1) f fd ps (spX K cd [f1] 1 (X1 mt)) := by
  refine ok _ (fun vs H Q E h => ?_) fun cdv A outer s H vs Q E hr h => ?_
  · obtain ⟨a, C, us, F, ds, fs, rfl, hl, _⟩ := h
    rw [hp, List.length_cons, hl]
  · obtain ⟨a, C, us, F, ds, fs, rfl, hl, T, hf, ha, hFa, sF, hr, hfn, h⟩ := h
    have hld := repL_length hr
    match ds, hfn, hr, hld with
    | [d1], hfn, hr, hld =>
      simp only [X1] at hfn
      refine ⟨_, pss_cons (h1 cdv A outer s H E) (pss_one (h2 cdv A outer s H E)), ?_⟩
      refine ⟨a, C, H, F, [none, some d1], T, Xs.start (by rw [hN, hl]) ha hFa sF hr, ?_, fun σ' H' hx => ?_⟩
      · cases q : mt [none, some d1] with
        | ok d ρ' => exact ⟨d, ρ', rfl⟩
        | ex c fs ρ' => rw [q] at hfn; cases hfn
        | no => rw [q] at hfn; cases hfn
      · refine ⟨a, C, H, F, _, _, _, d1, T, hf f1 (by simp), hx, by simp, rfl, fun σ2 H2 hx2 => xs_end (by simp) hx2 ?_⟩
        have : fs = [d1] := by
          split at hfn
          · exact (Option.some.inj hfn).symm
          · cases hfn
        subst this
        exact h
/-- two fields -/
theorem exc_def2 (ok : ∀ sp : Sp, (∀ vs H Q E, sp vs H Q E → vs.length = ps.length) → (∀ (cdv : Value) (A : Around) (outer : List PySem.Env) (s : Shared) (H : Hp) (vs : List V) (Q : VK) (E : XK), Room k (XX cdv A outer s H E).A → sp vs H Q E →
      ∃ t, PSs (XX cdv A outer s H E) [s1, s2, s3] t ∧ t { nx := fun _ H' => Q .non H', rt := Q } (L2.start N vs) H) → FnOk P w K mg base (L2.CX P w) (k + 1) f fd ps sp)
    (hp : ps.length = 3) (hN : N.length = 3) (h1 : ∀ cdv A outer s H E, PS (XX cdv A outer s H E) s1 (tXi K cd mt)) (h2 : ∀ cdv A outer s H E, PS (XX cdv A outer s H E) s2 (tXf K cd f1 1)) (h3 : ∀ cdv A outer s H E, PS (XX cdv A outer s H E) s3 (tXf K cd f2 2)) :
    FnOk P w K mg base (L2.CX P w) (k + 1) f fd ps (spX K cd [f2, f1] 2 (X2 mt)) := by
  refine ok _ (fun vs H Q E h => ?_) fun cdv A outer s H vs Q E hr h => ?_
  · obtain ⟨a, C, us, F, ds, fs, rfl, hl, _⟩ := h
    rw [hp, List.length_cons, hl]
  · obtain ⟨a, C, us, F, ds, fs, rfl, hl, T, hf, ha, hFa, sF, hr, hfn, h⟩ := h
    have hld := repL_length hr
    match ds, hfn, hr, hld with
    | [d1, d2], hfn, hr, hld =>
      simp only [X2] at hfn
      refine ⟨_, pss_cons (h1 cdv A outer s H E) (pss_cons (h2 cdv A outer s H E) (pss_one (h3 cdv A outer s H E))), ?_⟩
      refine ⟨a, C, H, F, [none, some d1, some d2], T, Xs.start (by rw [hN, hl]) ha hFa sF hr, ?_, fun σ' H' hx => ?_⟩
      · cases q : mt [none, some d1, some d2] with
        | ok d ρ' => exact ⟨d, ρ', rfl⟩
        | ex c fs ρ' => rw [q] at hfn; cases hfn
        | no => rw [q] at hfn; cases hfn
      · refine ⟨a, C, H, F, _, _, _, d1, T, hf f1 (by simp), hx, by simp, rfl, fun σ2 H2 hx2 => ?_⟩
        refine ⟨a, C, H, F, _, _, _, d2, T, hf f2 (by simp), hx2, by simp, rfl, fun σ3 H3 hx3 => xs_end (by simp) hx3 ?_⟩
        have : fs = [d2, d1] := by
          split at hfn
          · exact (Option.some.inj hfn).symm
          · cases hfn
        subst this
        exact h
end
structure ExcOk (P : Program) (w : World) (K : PySem.W.Frag) (mg : Str → Option Value) (base : Heap) (cd : CD) (k : Nat) (x : Str) (c : Nat) (fn : List D → Option (List D)) : Prop where
  ex : ∃ (f : Addr) (fd : FuncData) (ps : List Str) (I : CI) (n : Nat), FnOk P w K mg base (L2.CX P w) k f fd ps (spX K cd I.ns n fn) ∧ OexC K I.C ∧ PySem.W.findIn K (.ref I.C) "__init__" = some (some (.ref f)) ∧ PySem.W.typeIn K (.ref f) = some (.type "function") ∧ mg x = some (.ref I.C) ∧ cd c = some I ∧ Binds K fd ps [] ∧
    (∀ f ∈ I.ns, PySem.W.findIn K (.ref I.C) f = some none) ∧ n ≤ 900 ∧ ∀ ds fs, fn ds = some fs → ds.length = n
def mRaise (c : Nat) (fn : List D → Option (List D)) (m : Env → R (List D)) : Env → R Flow := fun ρ => (m ρ).bind fun ds ρ1 => match fn ds with
  | some fs => .ex c fs ρ1
  | none => .no
theorem b_raise {X : Cx} {B : Bs} {W : WX} {rk : RK} {n k c : Nat} {x : Str} {e : Expr} {es : List Expr} {p pos pos' : Pos} {fn : List D → Option (List D)} {m : Env → R (List D)} (g : Gd X B W n) (Fx : ExcOk X.prog X.w B.K X.mg X.base B.cd k x c fn) (ha : PA X (e :: es) (tA B W m)) (hk : k + 1 ≤ n := by decide) (hg : Gl X x := by rfl)
    (hdb : (x == ("__debug__" : Str)) = false := by decide) (he : starEach (e :: es) X.env = (false, eval e X.env) :: starEach es X.env := by rfl) (hpl : (backTo pos (starEach es X.env)).any (·.1) = false := by rfl) :
    PS X (.Raise (some (.Call (.Name x p) (e :: es) [] pos)) none pos') (tS B W rk (mRaise c fn m)) := by
  obtain ⟨f, fd, ps, I, nn, F, T, iC, tI, hm, hI, hb, hf, hn, hfl⟩ := Fx.ex
  rw [← g.hK] at F T iC tI hb
  refine PS.imp (ps_raise g.calm g.tk (pmk_oex T iC tI F (g.room.mono hk) hb .nil (fun pins σ H s e s' I' ⟨_, _, _, _, _, _, _, _, _, _, _, _, z⟩ => z.elim) hg hm ha hdb he hpl)) fun D σ H h => ?_
  obtain ⟨φ, F0, ρ, R0, h⟩ := h
  refine ⟨φ, F0, ρ, R0, ?_⟩
  unfold mRaise at h
  cases q : m ρ with
  | no => rw [q] at h; exact h
  | ex c' fs ρ1 => rw [q] at h; exact sX.toE h σ
  | ok ds ρ1 =>
    rw [q] at h
    simp only [R.bind_ok] at h
    intro vs φ1 F1 H1 s1 R1 k1
    cases qf : fn ds with
    | none => rw [qf] at h; exact h.elim
    | some fs =>
      rw [qf] at h
      simp only at h
      have hl := repL_length k1
      have hl2 := hfl ds fs qf
      refine ⟨by omega, fun a ha1 => ?_⟩
      rw [List.append_nil]
      refine ⟨a, I.C, vs, F1, ds, fs, rfl, by rw [hl]; exact hl2, T, ?_, upd_same, R1.sub.free ha1, fun b u z => by rw [upd_ne (ne_of_none (R1.sub b u z) ha1)]; exact R1.sub b u z, by rw [g.hK]; exact k1, qf, ?_⟩
      · rw [g.hK]; exact hf
      intro F' H' d ws g1 g2 g3 g4 g5 g6 g7 g8 g9 g10 g11
      have hd1 : H1 d = none := by rw [upd_ne g9] at g8; exact g8
      refine ⟨rfl, d, _, g6, g7, hd1, ?_⟩
      have sH : Same H1 (upd (del H' a) d (.xd (I.ns.zip ws))) := fun b u z => by
        have hba : b ≠ a := ne_of_none z ha1
        rw [upd_ne (ne_of_none z hd1), del_ne hba]
        exact g5 b u hba (by rw [upd_ne hba]; exact z)
      have sF : Same F' (upd (del H' a) d (.xd (I.ns.zip ws))) := fun b u z => by
        have hba : b ≠ a := fun e => by rw [e, g3] at z; cases z
        have hbd : b ≠ d := fun e => by rw [e, g4] at z; cases z
        rw [upd_ne hbd, del_ne hba]
        exact g2 b u z
      have R2 : Rel B φ1 ρ1 σ (upd (del H' a) d (.xd (I.ns.zip ws))) F' := (R1.grow sH).frost g1 sF fun b h3 h4 => by
        rcases g10 b h3 with z | z
        · exact absurd h4 z
        · have hn : H1 b = none := by
            by_cases hba : b = a
            · rw [hba]; exact ha1
            · rw [upd_ne hba] at z; exact z
          exact ⟨R1.fresh0 hn, fun i hm => R1.here b hm hn⟩
      exact h φ1 σ F' _ d I ws (s1.trans g1) R2 hI upd_same (by rw [← g.hK]; exact g11)
end Mi

set_option Elab.async false
set_option linter.all false
set_option maxRecDepth 100000
namespace Mi
open PySem L2 ClX
abbrev Bs.hd (B : Bs) (H F : Hp) (φ : Nat → List Addr) (n i : Nat) (a : Addr) : Bs := ⟨B.K, B.cd, B.md, H, F, φ, B.mu, n, fun j => if j = i then some a else B.xs j⟩
/-- what is known of a caught exception -/
structure Cau (B : Bs) (a : Addr) (oe : Obj) (cls : Value) (d : Option Addr) (c : Nat) (fs : List D) : Prop where
  hz : Zc cls d oe
  hf : ∃ vs, oe.data = .fields vs
  fld : ∃ I dx ws, cls = .ref I.C ∧ d = some dx ∧ B.cd c = some I ∧ B.H0 dx = some (.xd (I.ns.zip ws)) ∧ (∀ j, dx ∉ B.own j) ∧ RepL B.K B.cd B.F0 fs ws
section
variable {X : Cx} {B : Bs} {W : WX} {n : Nat}
def XfOk (K : PySem.W.Frag) (cd : CD) (f : Str) (fx : Nat → Option Nat) : Prop := ∀ c j, fx c = some j → ∃ I, cd c = some I ∧ XfC K I.C ∧ PySem.W.findIn K (.ref I.C) f = some none ∧ I.ns[j]? = some f ∧ I.ns.Nodup
def eXf (i : Nat) (fx : Nat → Option Nat) (c : Nat) (fs : List D) : Env → R D := fun ρ => match ρ[i]? with
  | some none => (match fx c with
    | some j => opt fs[j]? ρ
    | none => .no)
  | _ => .no
/-- e.f, e the caught exception -/
theorem c_xf (i : Nat) {a : Addr} {oe : Obj} {cls : Value} {d : Option Addr} {c : Nat} {fs : List D} {pn : List (Addr × Obj)} {x f : Str} {p pos : Pos} {fx : Nat → Option Nat} (hK : X.K = B.K) (hc : Cau B a oe cls d c fs) (hx : B.xs i = some a) (ht : XfOk B.K B.cd f fx) (hN : X.N[i]? = some x := by rfl) (hv : Vis X.env.scope x := by first | exact Or.inl rfl | exact Or.inr (Or.inl rfl) | exact Or.inr (Or.inr rfl)) (hd : (x == ("__debug__" : Str)) = false := by decide)
    (hcd : (x == ("__classdict__" : Str)) = false := by decide) (hb : attributeBase (.Name x p) f X.env (eval (.Name x p) X.env) = eval (.Name x p) X.env := by rfl) : PE (X.suite a ((a, oe) :: pn)) (.Attribute (.Name x p) f pos) (tE B W (kP B.K B) (eXf i fx c fs)) := by
  subst_vars
  cases q : fx c with
  | none =>
    refine ⟨fun pins s σ H Q I h => ?_⟩
    obtain ⟨φ, F, ρ, R0, h⟩ := h
    unfold eXf at h
    rw [q] at h
    split at h <;> exact h.elim
  | some j =>
    obtain ⟨I, hI, T, hno, hj, hnd⟩ := ht c j q
    obtain ⟨I', dx, ws, e1, e2, e3, e4, e5, e6⟩ := hc.fld
    rw [hI] at e3; cases e3
    rw [← hK] at T hno
    refine PE.imp (pe_xf T hno hc.hz hc.hf (pe_var (X := X.suite a ((a, oe) :: pn)) hN hv hd hcd) hb) fun σ H Q h => ?_
    obtain ⟨φ, F, ρ, R0, h⟩ := h
    unfold eXf at h
    rw [q] at h
    split at h
    · rename_i qi
      obtain ⟨d0, qf, h⟩ := Post.opt h
      have hs := (R0.xsl i a hx).2 qi
      obtain ⟨v, h1, h2⟩ := repL_get e6 qf
      exact ⟨.ref a, hs, rfl, e1, dx, _, v, e2, R0.keep dx _ e4 e5, lookup_zip hnd hj h1, h v φ F H (Same.refl _) R0 (Rep.mono R0.froz _ _ h2)⟩
    · exact h.elim
/-- which classes of exceptions the clause takes -/
def Caught (K : PySem.W.Frag) (cd : CD) (v : Value) (ct : Nat → Option Bool) : Prop := ∀ c b, ct c = some b → ∃ I, cd c = some I ∧ PySem.W.exmOne K (.ref I.C) v = some b
def noxS (r : R Flow) : R Flow := match r with
  | .ex _ _ _ => .no
  | r => r
def wipe1 (i : Nat) (r : R Flow) : R Flow := match r with
  | .ok fl ρ => .ok fl (ρ.set i none)
  | r => r
def mTry (i : Nat) (ct : Nat → Option Bool) (mb : Env → R Flow) (mh : Nat → List D → Env → R Flow) : Env → R Flow := fun ρ => match mb ρ with
  | .ex c fs ρ1 => (match ct c with
    | some true => wipe1 i (noxS (mh c fs (ρ1.set i none)))
    | some false => .ex c fs ρ1
    | none => .no)
  | r => r
theorem ORep.no_xd {K : PySem.W.Frag} {cd : CD} {F H : Hp} {fs : List (Str × V)} : ∀ {d : D} {a : Addr} {fp : List Addr}, ORep K cd F H d a fp → ∀ b ∈ fp, H b ≠ Option.some (HO.xd fs)
  | .lst ds, a, fp, h => by
    simp only [ORep] at h
    obtain ⟨rfl, vs, h1, h2⟩ := h
    intro b hb; simp at hb; subst hb; rw [h1]; intro z; cases z
  | .dct ks ds, a, fp, h => by
    simp only [ORep] at h
    obtain ⟨rfl, vs, h1, h2, h3⟩ := h
    intro b hb; simp at hb; subst hb; rw [h1]; intro z; cases z
  | .obj c ds, a, fp, h => by
    simp only [ORep] at h
    obtain ⟨I, dx, vs, fp', rfl, h1, h2, h3, h4⟩ := h
    have key : ∀ {fl : List Bool} {ds : List D} {vs : List V} {fp : List Addr}, OFld K cd F H fl ds vs fp → ∀ b ∈ fp, H b ≠ Option.some (HO.xd fs) := by
      intro fl ds
      induction ds generalizing fl with
      | nil =>
        intro vs fp h b hb
        simp only [OFld] at h
        rw [h.2] at hb; simp at hb
      | cons d ds ih =>
        intro vs fp h b hb
        cases fl with
        | nil =>
          simp only [OFld] at h
          obtain ⟨w, ws, _, _, h3⟩ := h
          exact ih h3 b hb
        | cons f fl =>
          cases f with
          | false =>
            simp only [OFld] at h
            obtain ⟨w, ws, _, _, h3⟩ := h
            exact ih h3 b hb
          | true =>
            simp only [OFld] at h
            obtain ⟨b0, ws, es, us, fp', _, rfl, _, h4, _, h6⟩ := h
            rcases List.mem_cons.mp hb with e | hb
            · subst e; rw [h4]; intro z; cases z
            · exact ih h6 b hb
    intro b hb
    rcases List.mem_cons.mp hb with e | hb
    · subst e; rw [h2]; intro z; cases z
    · exact key h3 b hb
  | .non, _, _, h => by simp only [ORep] at h
  | .bl _, _, _, h => by simp only [ORep] at h
  | .int _, _, _, h => by simp only [ORep] at h
  | .str _, _, _, h => by simp only [ORep] at h
  | .tup _, _, _, h => by simp only [ORep] at h
  | .scr _, _, _, h => by simp only [ORep] at h
theorem Rel.no_xd {φ : Nat → List Addr} {ρ : Env} {σ : L2.St} {H F : Hp} (R : Rel B φ ρ σ H F) {dx : Addr} {fs : List (Str × V)} (h : H dx = some (.xd fs)) : ∀ i, dx ∉ φ i := fun i hi => by
  by_cases hp : B.md i = .p
  · rw [R.und i (.inr hp)] at hi; simp at hi
  · by_cases hd : ∀ d, ρ[i]? ≠ some (some d)
    · rw [R.und i (.inl hd)] at hi; simp at hi
    · obtain ⟨d, hd⟩ := Classical.not_forall.mp hd
      obtain ⟨a, _, h2⟩ := R.ow i d (Classical.not_not.mp hd) hp
      exact h2.no_xd dx hi h
/-- into the clause's suite -/
theorem Rel.caught {φ : Nat → List Addr} {ρ : Env} {σ : L2.St} {H F : Hp} (R : Rel B φ ρ σ H F) {i : Nat} {a : Addr} (hp : B.md i = .p) (hx : B.xs i = none) : Rel (B.hd H F φ (B.np + ρ.length) i a) φ (ρ.set i none) (σ.set i (some (.ref a))) H F := by
  have R' := R.rebase
  refine ⟨R'.sub, by rw [List.length_set, List.length_set]; exact R.len, fun j e h1 h2 => ?_, fun j e h1 h2 => ?_, fun j h1 => ?_, R'.fr, R'.dj, R'.keep, R'.dom, R'.froz, R'.fres, fun j b h1 => ?_, fun j b h1 => ?_⟩
  · rcases get_set' h1 with ⟨rfl, e1, _⟩ | ⟨hne, h3⟩
    · cases e1
    · rw [List.getElem?_set_ne hne]; exact R.pl j e h3 h2
  · rcases get_set' h1 with ⟨rfl, e1, _⟩ | ⟨hne, h3⟩
    · cases e1
    · rw [List.getElem?_set_ne hne]; exact R.ow j e h3 h2
  · by_cases hj : i = j
    · subst hj; exact R.und i (.inr hp)
    · refine R.und j ?_
      rcases h1 with h1 | h1
      · exact .inl fun e he => h1 e (by rw [List.getElem?_set_ne hj]; exact he)
      · exact .inr h1
  · obtain ⟨h2, h3, h4, e, h5⟩ := R'.par j b h1
    have hj : i ≠ j := fun e => by
      have : B.md j = .o := h3
      rw [← e, hp] at this; cases this
    exact ⟨h2, h3, by rw [List.getElem?_set_ne hj]; exact h4, e, by rw [List.getElem?_set_ne hj]; exact h5⟩
  · by_cases hj : j = i
    · subst hj
      simp only [if_true, Option.some.injEq] at h1
      subst h1
      exact ⟨hp, fun e => List.getElem?_set_self (by rw [R.len]; have := (List.getElem?_eq_some_iff.mp e).1; rwa [List.length_set] at this)⟩
    · simp only [if_neg hj] at h1
      refine ⟨(R.xsl j b h1).1, fun e => ?_⟩
      rw [List.getElem?_set_ne (Ne.symm hj)] at e ⊢
      exact (R.xsl j b h1).2 e
/-- and out of it -/
theorem Rel.uncaught {φ φ' : Nat → List Addr} {ρ ρ' : Env} {σ σ' : L2.St} {H F H' F' : Hp} {m i : Nat} {a : Addr} (R0 : Rel B φ ρ σ H F) (hx : B.xs i = none) (hp : B.md i = .p) (R : Rel (B.hd H F φ m i a) φ' ρ' σ' H' F') : Rel B φ' (ρ'.set i none) (σ'.set i none) H' F' := by
  refine ⟨R.sub, by rw [List.length_set, List.length_set]; exact R.len, fun j e h1 h2 => ?_, fun j e h1 h2 => ?_, fun j h1 => ?_, fun j b hb => ?_, R.dj, fun c u h1 h2 => ?_, fun c h => R.dom c (R0.dom c h), R0.froz.trans R.froz, fun c h => ?_, fun j b h1 => ?_, fun j b h1 => ?_⟩
  · rcases get_set' h1 with ⟨rfl, e1, _⟩ | ⟨hne, h3⟩
    · cases e1
    · rw [List.getElem?_set_ne hne]; exact R.pl j e h3 h2
  · rcases get_set' h1 with ⟨rfl, e1, _⟩ | ⟨hne, h3⟩
    · cases e1
    · rw [List.getElem?_set_ne hne]; exact R.ow j e h3 h2
  · by_cases hj : i = j
    · subst hj; exact R.und i (.inr hp)
    · refine R.und j ?_
      rcases h1 with h1 | h1
      · exact .inl fun e he => h1 e (by rw [List.getElem?_set_ne hj]; exact he)
      · exact .inr h1
  · obtain ⟨h1, h2⟩ := R.fr j b hb
    refine ⟨h1, ?_⟩
    rcases h2 with h2 | h2
    · exact (R0.fr j b h2.2).2
    · exact .inr (R0.fresh0 h2)
  · refine R.keep c u (R0.keep c u h1 h2) fun j hj => ?_
    rcases (R0.fr j c hj).2 with z | z
    · exact h2 j z.2
    · rw [h1] at z; cases z
  · rcases R.fres c h with z | z
    · exact R0.fres c z
    · exact .inr (R0.fresh0 z)
  · obtain ⟨_, h3, h4, e, h5⟩ := R.par j b h1
    have hj : i ≠ j := fun e => by
      have : B.md j = .o := h3
      rw [← e, hp] at this; cases this
    exact ⟨(R0.par j b h1).1, h3, by rw [List.getElem?_set_ne hj]; exact h4, e, by rw [List.getElem?_set_ne hj]; exact h5⟩
  · have hj : j ≠ i := fun e => by rw [e, hx] at h1; cases h1
    have z := R.xsl j b (by show (if j = i then some a else B.xs j) = some b; rw [if_neg hj]; exact h1)
    refine ⟨z.1, fun e => ?_⟩
    rw [List.getElem?_set_ne (Ne.symm hj)] at e ⊢
    exact z.2 e
theorem kR_hd {φ φ' : Nat → List Addr} {ρ : Env} {σ : L2.St} {H F H' F' : Hp} {m i : Nat} {a : Addr} {rk : Bool} {v : V} {d : D} (R0 : Rel B φ ρ σ H F) (k : kR B.K (B.hd H F φ m i a) rk φ' F' H' v d) : kR B.K B rk φ' F' H' v d := by
  cases rk with
  | false => exact k
  | true =>
    obtain ⟨a, fp, e, h1, h2⟩ := k
    exact ⟨a, fp, e, h1, fun b hb => ⟨(h2 b hb).1, R0.fresh0 (h2 b hb).2.1, (h2 b hb).2.2⟩⟩
theorem b_try_as (i : Nat) {rk : Bool} {x nm : Str} {v : Value} {ct : Nat → Option Bool} {body suite : List Stmt} {b₀ : Stmt} {np pos pos' : Pos} {mb : Env → R Flow} {mh : Nat → List D → Env → R Flow} (g : Gd X B W n) (hcl : Names X x v) (hct : Caught B.K B.cd v ct)
    (hb : ∀ W' pn xe, Gd (X.tr pn xe) B W' n → PSs (X.tr pn xe) body (tS B W' (kR B.K B rk) mb))
    (hsu : ∀ a oe cls d pn c fs H0 F0 own np, Cau (B.hd H0 F0 own np i a) a oe cls d c fs → PSs (X.suite a ((a, oe) :: pn)) (b₀ :: suite) (tS (B.hd H0 F0 own np i a) WF (kR B.K (B.hd H0 F0 own np i a) rk) (mh c fs)))
    (hp : B.md i = .p := by rfl) (hx : B.xs i = none := by rfl) (hi : X.N[i]? = some nm := by rfl) (hln : X.env.kindOf nm = some .local := by rfl) (hs : X.stack = X.env :: X.outer := by rfl) (hf : X.env.frame = some X.env.locals := by rfl) :
    PS X (.Try body [.ExceptHandler (some (.Name x np)) (some nm) (b₀ :: suite) pos'] [] [] pos) (tS B W (kR B.K B rk) (mTry i ct mb mh)) := by
  let ts : Addr → Value → Option Addr → TS := fun a cls d D σ H => ∃ c fs H0 F0 own np, (∃ I dx ws, cls = .ref I.C ∧ d = some dx ∧ B.cd c = some I ∧ H0 dx = some (.xd (I.ns.zip ws)) ∧ (∀ j, dx ∉ own j) ∧ RepL B.K B.cd F0 fs ws) ∧ tS (B.hd H0 F0 own np i a) WF (kR B.K (B.hd H0 F0 own np i a) rk) (mh c fs) D σ H
  have h := ps_try_as (X := X) (pos := pos) (pos' := pos') (np := np) (tb := fun W' => tS B W' (kR B.K B rk) mb) (ts := ts) hs hf g.nd hi hln hcl g.tk (fun W' pn xe tk pf => hb W' pn xe ⟨g.hK, g.calm, tk, pf, g.nd, g.room⟩) (fun a oe cls d pn hz hff => ⟨fun pins s σ H D I ⟨c, fs, H0, F0, own, np, hfl, q⟩ => (hsu a oe cls d pn c fs H0 F0 own np ⟨hz, hff, hfl⟩).run pins s σ H D I q⟩)
  refine PS.imp h fun D σ H h => ?_
  obtain ⟨φ, F, ρ, R0, h⟩ := h
  refine ⟨φ, F, ρ, R0, ?_⟩
  unfold mTry at h
  cases q : mb ρ with
  | no => rw [q] at h; exact h.elim
  | ok fl ρ1 => rw [q] at h; cases fl <;> exact h
  | ex c fs ρ1 =>
    rw [q] at h
    simp only at h
    intro φ' σ' F' H' dx I vs s1 R1 hI hxd hr
    cases qc : ct c with
    | none => rw [qc] at h; exact h.elim
    | some b =>
      rw [qc] at h
      obtain ⟨I', hI', hm⟩ := hct c b qc
      rw [hI] at hI'; cases hI'
      rw [← g.hK] at hm
      refine ⟨b, hm, fun hbt a ha => ?_, fun hbf => ?_⟩
      · subst hbt
        simp only at h
        refine ⟨c, fs, H', F', φ', B.np + ρ1.length, ⟨I, dx, vs, rfl, rfl, hI, hxd, R1.no_xd hxd, hr⟩, φ', F', ρ1.set i none, R1.caught hp hx, ?_⟩
        have h := PostS.mono s1 h
        cases q2 : mh c fs (ρ1.set i none) with
        | no => rw [q2] at h; exact h.elim
        | ex c2 fs2 ρ2 => rw [q2] at h; exact h.elim
        | ok fl ρ2 =>
          rw [q2] at h
          cases fl with
          | nx => exact fun φ2 σ2 F2 H2 s2 R2 => h φ2 _ F2 H2 s2 (R1.uncaught hx hp R2)
          | bk => exact fun φ2 σ2 F2 H2 s2 R2 => h φ2 _ F2 H2 s2 (R1.uncaught hx hp R2)
          | ct => exact fun φ2 σ2 F2 H2 s2 R2 => h φ2 _ F2 H2 s2 (R1.uncaught hx hp R2)
          | rt d2 => exact fun v2 φ2 σ2 F2 H2 s2 R2 k2 => h v2 φ2 _ F2 H2 s2 (R1.uncaught hx hp R2) (kR_hd R1 k2)
      · subst hbf
        simp only at h
        exact h φ' σ' F' H' dx I vs s1 R1 hI hxd hr
end
end Mi

set_option Elab.async false
set_option linter.all false
set_option maxRecDepth 100000
namespace Mi
open PySem L2 ClX
section
variable {B : Bs} {W : WX} {φ : Nat → List Addr} {ρ : Env} {σ : L2.St} {H F : Hp}
/-- a call in which all is plain -/
theorem plain_call {pm : List Md} {ds : List D} {vs : List V} {fn : List D → FR} {Q : VK} {E : XK} (hpm : ∀ (i : Nat), pm[i]? ≠ some Md.o) (R0 : Rel B φ ρ σ H F) (hl : vs.length = pm.length) (hr : RepL B.K B.cd F ds vs)
    (h : match fn ds with
      | .ok d _ => ∀ v F' H', Same F F' → Rel B φ ρ σ H' F' → Rep B.K B.cd F' d v → Q v H'
      | .ex c fs _ => ∀ F' H' dx I ws, Same F F' → Rel B φ ρ σ H' F' → B.cd c = some I → H' dx = some (.xd (I.ns.zip ws)) → RepL B.K B.cd F' fs ws → E (.ref I.C) (some dx) H'
      | .no => False) : spM B.K B.cd pm false fn vs H Q E := by
  have bk : ∀ {F' H' out fp}, Back B.K B.cd pm vs (fun _ => []) F H F' H' out fp → Rel B φ ρ σ H' F' := fun {F' H' out fp} bk => by
    refine (R0.grow fun b u e => bk.keep b u e fun i _ => by simp).frost bk.sf bk.sub fun c h1 h2 => ?_
    rcases bk.fres c h1 with z | z
    · exact absurd h2 z
    · exact ⟨R0.fresh0 z, fun i hm => R0.here c hm z⟩
  refine ⟨ds, F, fun _ => [], R0.sub, ⟨hl, by rw [← repL_length hr]; exact hl, fun i v d _ h2 h3 => ?_, fun i m v d h1 hm _ _ => ?_, fun i _ => rfl, fun i _ b hb => by simp at hb, fun i j _ _ b hb => by simp at hb⟩, ?_⟩
  · obtain ⟨v', h4, h5⟩ := repL_get hr h3
    rw [h2] at h4; cases h4; exact h5
  · cases m with
    | p => exact absurd rfl hm
    | o => exact absurd h1 (hpm i)
  · cases q : fn ds with
    | no => rw [q] at h; exact h
    | ex c fs out =>
      rw [q] at h
      exact fun F' H' fp dx I ws b hc hx hw => h F' H' dx I ws b.sf (bk b) hc hx hw
    | ok d out =>
      rw [q] at h
      exact fun v F' H' fp b h1 _ => h v F' H' b.sf (bk b) (h1 rfl)
end
section
variable {X : Cx} {B : Bs} {W : WX} {n k : Nat} {e fe : Expr} {es : List Expr} {pos : Pos}
/-- nothing is let out -/
theorem noPasses {X : Cx} : Passes (L2.CX X.prog X.w) X (fun _ _ _ => False) := fun pins σ H s e s' I' h => by
  obtain ⟨_, _, _, _, _, _, _, _, _, _, _, _, z⟩ := h
  exact False.elim z
structure CallOk (P : Program) (w : World) (K : PySem.W.Frag) (mg : Str → Option Value) (base : Heap) (cd : CD) (k c np : Nat) (fn : List D → FR) : Prop where
  ex : ∃ (f : Addr) (fd : FuncData) (ps : List Str) (I : CI) (pm : List Md), FnOk P w K mg base (L2.CX P w) k f fd ps (spM K cd pm false fn) ∧ cd c = some I ∧ StX.CallO K I.C f ∧ Binds K fd ps [] ∧ (∀ (i : Nat), pm[i]? ≠ some Md.o) ∧ pm.length = np
def eInst (c np : Nat) (fn : List D → FR) (mo : Env → R D) (m : Env → R (List D)) : Env → R D := fun ρ => (mo ρ).bind fun x ρ0 => match x with
  | .obj c' fs => if c' = c then (m ρ0).bind fun ds ρ1 => if ds.length + 1 = np then (match fn (.obj c' fs :: ds) with
      | .ok d _ => .ok d ρ1
      | .ex c2 fs _ => .ex c2 fs ρ1
      | .no => .no) else .no
    else .no
  | _ => .no
def tInst (X : Cx) (C : Addr) (sp : Sp) (W : WX) (tf : TE) (t : TA) : TE := fun σ H Q => tf σ H fun y H1 => ∃ a, y = V.ref a ∧ t σ H1 fun vs H2 => StX.InsC X H2 a C ∧ sp (V.ref a :: vs) H2 Q (WE W σ)
theorem pe_inst {C g : Addr} {fd : FuncData} {ps : List Str} {sp : Sp} {tf : TE} {t : TA} (hf : PE X fe tf) (c : StX.CallO X.K C g) (F : FnOk X.prog X.w X.K X.mg X.base (L2.CX X.prog X.w) k g fd ps sp) (hb : Binds X.K fd ps []) (hr : Room k X.A) (tk : Takes X W) (ha : PA X (e :: es) t)
    (ht : eval (.Call fe (e :: es) [] pos) X.env = (do callWith pos (← eval fe X.env) [] (backTo pos (starEach (e :: es) X.env)) (backToKw pos (keywordEach [] X.env))))
    (he : starEach (e :: es) X.env = (false, eval e X.env) :: starEach es X.env) (hpl : (backTo pos (starEach es X.env)).any (·.1) = false) : PE X (.Call fe (e :: es) [] pos) (tInst X C sp W tf t) := by
  refine ⟨fun pins s σ H Q I h => ?_⟩
  refine PyProof.Rows.Call_ (thn (hf.run pins s σ H _ I h) fun u s1 ⟨y, H1, I1, ry, a, ey, q⟩ => ?_) ht
  subst ey
  obtain rfl : u = Value.ref a := ry
  refine StX.callO_with (thn (ha.run pos pins s1 σ H1 _ I1 q) fun us s2 ⟨vs, H2, I2, r, hi, q2⟩ => ?_) he hpl
  obtain ⟨ox, od, J, hd⟩ := StX.insC_at I2 hi
  refine ⟨⟨C, ox, od, J, hd⟩, wpAny_call (PySem.W.kco_code I2.kIn J hd c.at_ c.fn c.fi ?_)⟩
  have hl : (Value.ref a :: us).length = ps.length := by
    rw [← F.len _ _ _ _ q2, List.length_cons, List.length_cons, r.length]
  have b := hb s2 (.ref a :: us) I2.kIn (by rw [List.append_nil]; exact hl)
  rw [List.append_nil] at b
  refine codeAny_mono (F.run X.A X.stack s2 H2 ⟨.ref a :: us, []⟩ (.ref a :: us) (.ref a :: vs) Q _ hr I2.env0 b (.cons rfl r) q2) fun r s' hq => ?_
  cases r with
  | error e => exact passAt tk σ pins _ _ e s' I2 hq
  | ok fl =>
    cases fl with
    | ret u => exact I2.after hq
    | next => exact False.elim hq
    | brk => exact False.elim hq
    | cont => exact False.elim hq
theorem c_inst {c np : Nat} {fn : List D → FR} {mo : Env → R D} {m : Env → R (List D)} (g : Gd X B W n) (F : CallOk X.prog X.w B.K X.mg X.base B.cd k c np fn) (ho : PE X fe (tE B W (kP B.K B) mo)) (ha : PA X (e :: es) (tA B W m)) (hk : k ≤ n := by decide)
    (ht : eval (.Call fe (e :: es) [] pos) X.env = (do callWith pos (← eval fe X.env) [] (backTo pos (starEach (e :: es) X.env)) (backToKw pos (keywordEach [] X.env))) := by rfl)
    (he : starEach (e :: es) X.env = (false, eval e X.env) :: starEach es X.env := by rfl) (hpl : (backTo pos (starEach es X.env)).any (·.1) = false := by rfl) :
    PE X (.Call fe (e :: es) [] pos) (tE B W (kP B.K B) (eInst c np fn mo m)) := by
  obtain ⟨f, fd, ps, I, pm, F, hI, C, hb, hpm, hpl2⟩ := F.ex
  rw [← g.hK] at F C hb
  refine PE.imp (pe_inst ho C F hb (g.room.mono hk) g.tk ha ht he hpl) fun σ H Q h => ?_
  rw [g.hK]
  obtain ⟨φ, F0, ρ, R0, h⟩ := h
  refine ⟨φ, F0, ρ, R0, Post.bind h fun d ρ0 _ g1 v φ1 F1 H1 s1 R1 k1 => ?_⟩
  clear h
  cases d <;> try exact g1.elim
  rename_i c' fs _
  simp only at g1
  split at g1
  · rename_i hc
    subst hc
    obtain ⟨a, dx, I', vs, rfl, hI', hF, hv⟩ := rep_obj k1
    rw [hI] at hI'; cases hI'
    refine ⟨a, rfl, φ1, F1, ρ0, R1, Post.bind (Post.mono s1 g1 fun _ _ z => z) fun ds ρ1 _ h us φ2 F2 H2 s2 R2 k2 => ⟨.inr ⟨dx, _, R2.sub _ _ (s2 _ _ hF)⟩, ?_⟩⟩
    have hrl : RepL B.K B.cd F2 (.obj c' fs :: ds) (.ref a :: us) := repL_cons (Rep.mono s2 _ _ k1) k2
    split at h
    · rename_i hl
      refine plain_call hpm R2 (by rw [repL_length hrl, List.length_cons, hl, hpl2]) hrl ?_
      cases qf : fn (.obj c' fs :: ds) with
      | no => rw [qf] at h; exact h
      | ex c2 fs2 out =>
        rw [qf] at h
        exact fun F' H' dx' I' ws s3 R3 hc hx hw => h φ2 F' H' dx' I' ws (s2.trans s3) R3 hc hx hw
      | ok d out =>
        rw [qf] at h
        exact fun v F' H' s3 R3 k3 => h v φ2 F' H' ((s1.trans s2).trans s3) R3 k3
    · exact h.elim
  · exact g1.elim
structure OpOk (P : Program) (w : World) (K : PySem.W.Frag) (mg : Str → Option Value) (base : Heap) (cd : CD) (k : Nat) (op : CmpOp) (c : Nat) (cs : Nat → Bool) (fn : List D → FR) : Prop where
  ex : ∃ (f : Addr) (fd : FuncData) (ps : List Str) (I : CI), FnOk P w K mg base (L2.CX P w) k f fd ps (spM K cd [.p, .p] false fn) ∧ cd c = some I ∧ PySem.W.findIn K (.ref I.C) (cmpInfo op).2.1 = some (some (.ref f)) ∧ PySem.W.isFn K (.ref f) = true ∧ Binds K fd ps [] ∧
    ∀ c', cs c' = true → ∃ I', cd c' = some I' ∧ PySem.W.notFirst K I.C (.ref I'.C) = true
def rOwnI (K : PySem.W.Frag) (C : Addr) (sp : Sp) : R2 := fun x y H Q => ∃ a dx fs b C' dy gs, x = .ref a ∧ y = .ref b ∧ H a = some (.ins C dx fs) ∧ H b = some (.ins C' dy gs) ∧ PySem.W.notFirst K C (.ref C') = true ∧ sp [x, y] H Q (fun _ _ _ => False)
theorem or_own {op : CmpOp} {C g : Addr} {fd : FuncData} {ps : List Str} {sp : Sp} (hop : ∀ a b, compareOp op a b = richCompare op a b) (hs : PySem.W.findIn X.K (.ref C) (cmpInfo op).2.1 = some (some (.ref g))) (hf : PySem.W.isFn X.K (.ref g) = true) (F : FnOk X.prog X.w X.K X.mg X.base (L2.CX X.prog X.w) k g fd ps sp)
    (hb : Binds X.K fd ps []) (hr : Room k X.A) : OpR X (compareOp op) (rOwnI X.K C sp) := by
  intro pins s σ H x y v u Q I rx ry h
  obtain ⟨a, dx, fs, b, C', dy, gs, rfl, rfl, ha, hb', hn, q⟩ := h
  cases (show v = Value.ref a from rx)
  cases (show u = Value.ref b from ry)
  obtain ⟨ox, od, J, _⟩ := StX.insC_at I (.inr ⟨dx, fs, ha⟩)
  obtain ⟨ox', od', J', _⟩ := StX.insC_at I (.inr ⟨dy, gs, hb'⟩)
  obtain ⟨m, hF⟩ := I.fr
  rw [hop]
  refine PySem.W.cmp_K (op := op) (tb := .ref C') hr.units0 hF I.ok.mod.kin J J'.type hn hs hf ?_
  have Fr := F.raw hb .nil
  refine wpAny_mono (wpAny_call (run_fnR (us := [.ref a, .ref b]) (vs := [.ref a, .ref b]) Fr hr noPasses I (.cons rfl (.cons rfl .nil)) (by rw [List.append_nil]; exact q))) (fun w s' z => ?_) fun _ _ x => x
  obtain ⟨z', H', I', rz, qz⟩ := z
  exact SlX.cmpback rz ⟨z', H', I', rz, qz⟩
def dOwn (c : Nat) (cs : Nat → Bool) (fn : List D → FR) : D → D → Option D
  | .obj c1 xs, .obj c2 ys => if c1 = c ∧ cs c2 = true then (match fn [.obj c1 xs, .obj c2 ys] with
      | .ok d _ => some d
      | _ => none) else none
  | _, _ => none
theorem own_op {op : CmpOp} {c : Nat} {cs : Nat → Bool} {fn : List D → FR} (g : Gd X B W n) (Fo : OpOk X.prog X.w B.K X.mg X.base B.cd k op c cs fn) (hk : k ≤ n) (hop : ∀ a b, compareOp op a b = richCompare op a b) : ∃ r, OpR X (compareOp op) r ∧ OpS B r (dOwn c cs fn) := by
  obtain ⟨f, fd, ps, I, F, hI, hs, hf, hbd, hcs⟩ := Fo.ex
  rw [← g.hK] at F hs hf hbd
  refine ⟨_, or_own hop hs hf F hbd (g.room.mono hk), ?_⟩
  intro φ F0 ρ σ H x y dx dy d Q R0 hx hy hq k
  cases dx <;> cases dy <;> simp only [dOwn] at hq <;> try cases hq
  rename_i c1 xs c2 ys
  split at hq
  · rename_i hc
    obtain ⟨rfl, hc2⟩ := hc
    replace hx := rh_plain hx fun _ e => by cases e
    replace hy := rh_plain hy fun _ e => by cases e
    obtain ⟨a1, d1, I1, vs1, rfl, hI1, hF1, hv1⟩ := rep_obj hx
    obtain ⟨a2, d2, I2, vs2, rfl, hI2, hF2, hv2⟩ := rep_obj hy
    rw [hI] at hI1; cases hI1
    obtain ⟨I', hI', hnf⟩ := hcs c2 hc2
    rw [hI2] at hI'; cases hI'
    rw [g.hK]
    refine ⟨a1, d1, _, a2, I2.C, d2, _, rfl, rfl, R0.sub _ _ hF1, R0.sub _ _ hF2, hnf, ?_⟩
    refine plain_call (fun i => by match i with | 0 => simp | 1 => simp | i + 2 => simp) R0 rfl (repL_cons hx (repL_cons hy repL_nil)) ?_
    cases qf : fn [.obj c1 xs, .obj c2 ys] with
    | no => rw [qf] at hq; cases hq
    | ex c fs out => rw [qf] at hq; cases hq
    | ok d' out =>
      rw [qf] at hq
      cases hq
      exact fun v F' H' s R' k' => k v F' H' s R' k'
  · cases hq
theorem c_cmpO {a b : Expr} {op : CmpOp} {c : Nat} {cs : Nat → Bool} {fn : List D → FR} {ma mb : Env → R D} (g : Gd X B W n) (Fo : OpOk X.prog X.w B.K X.mg X.base B.cd k op c cs fn) (ha : PE X a (tE B W (kP B.K B) ma)) (hb : PE X b (tE B W (kP B.K B) mb)) (hk : k ≤ n := by decide) (hop : ∀ a b, compareOp op a b = richCompare op a b := by intro _ _; rfl) (hm : behindInMarks op b = false := by first | rfl | exact nomark _) :
    PE X (.Compare a [op] [b] pos) (tE B W (kP B.K B) (e2 (dOwn c cs fn) ma mb)) := by
  obtain ⟨r, h1, h2⟩ := own_op g Fo hk hop
  exact c_cmp h1 h2 hm ha hb
theorem t_cmpO {a b : Expr} {op : CmpOp} {c : Nat} {cs : Nat → Bool} {fn : List D → FR} {ma mb : Env → R D} (g : Gd X B W n) (Fo : OpOk X.prog X.w B.K X.mg X.base B.cd k op c cs fn) (ha : PE X a (tE B W (kP B.K B) ma)) (hb : PE X b (tE B W (kP B.K B) mb)) (hk : k ≤ n := by decide) (hop : ∀ a b, compareOp op a b = richCompare op a b := by intro _ _; rfl) (hm : behindInMarks op b = false := by first | rfl | exact nomark _) :
    PT X (.Compare a [op] [b] pos) (tT B W (mBool (e2 (dOwn c cs fn) ma mb))) := by
  obtain ⟨r, h1, h2⟩ := own_op g Fo hk hop
  exact t_cmp h1 h2 hm ha hb
structure PropOk (P : Program) (w : World) (K : PySem.W.Frag) (mg : Str → Option Value) (base : Heap) (cd : CD) (k : Nat) (f : Str) (c : Nat) (fn : List D → FR) : Prop where
  ex : ∃ (g : Addr) (fd : FuncData) (ps : List Str) (I : CI) (p : Addr), FnOk P w K mg base (L2.CX P w) k g fd ps (spM K cd [.p] false fn) ∧ cd c = some I ∧ Cls K I.C ∧ PropOf K I.C f p g ∧ Binds K fd ps []
def dProp (c : Nat) (fn : List D → FR) : D → Option D
  | .obj c1 xs => if c1 = c then (match fn [.obj c1 xs] with
      | .ok d _ => some d
      | _ => none) else none
  | _ => none
theorem c_prop {f : Str} {c : Nat} {fn : List D → FR} {m : Env → R D} (g : Gd X B W n) (Fp : PropOk X.prog X.w B.K X.mg X.base B.cd k f c fn) (he : PE X e (tE B W (kP B.K B) m)) (hk : k + 1 ≤ n := by decide) (hb : attributeBase e f X.env (eval e X.env) = eval e X.env := by rfl) :
    PE X (.Attribute e f pos) (tE B W (kP B.K B) (e1 (dProp c fn) m)) := by
  obtain ⟨gg, fd, ps, I, p, F, hI, cl, hp, hbd⟩ := Fp.ex
  rw [← g.hK] at F cl hp hbd
  refine PE.imp (pe_prop he cl hp F (g.room.mono hk) hbd .nil (E := fun _ _ _ => False) noPasses hb) fun σ H Q h => ?_
  rw [g.hK]
  obtain ⟨φ, F0, ρ, R0, h⟩ := h
  refine ⟨φ, F0, ρ, R0, Post.bind h fun d ρ1 _ h v φ1 F1 H1 s1 R1 k1 => ?_⟩
  obtain ⟨r, qf, hk2⟩ := Post.opt h
  clear h
  cases d <;> simp only [dProp] at qf <;> try cases qf
  rename_i c1 xs _
  split at qf
  · rename_i hc
    subst hc
    obtain ⟨a, dx, I', vs, rfl, hI', hF, hv⟩ := rep_obj k1
    rw [hI] at hI'; cases hI'
    refine ⟨a, dx, _, rfl, R1.sub _ _ hF, ?_⟩
    refine plain_call (fun i => by match i with | 0 => simp | i + 1 => simp) R1 rfl (repL_cons k1 repL_nil) ?_
    cases qq : fn [.obj c1 xs] with
    | no => rw [qq] at qf; cases qf
    | ex c fs out => rw [qq] at qf; cases qf
    | ok d' out =>
      rw [qq] at qf
      cases qf
      exact fun v F' H' s R' k' => hk2 v φ1 F' H' (s1.trans s) R' k'
  · cases qf
def rgOk (a b : Int) : Bool := decide (-(2 ^ 62) ≤ a ∧ a < 2 ^ 62 ∧ -(2 ^ 62) ≤ b ∧ b < 2 ^ 62 ∧ (b - a).toNat ≤ LIM)
def dLRg : D → D → Option D
  | .int i, .int j => if rgOk i j = true then some (.lst (rngD i (j - i).toNat)) else none
  | _, _ => none
theorem rgV_rep {i : Int} {F : Hp} {n : Nat} : RepL B.K B.cd F (rngD i n) ((List.range n).map fun (m : Nat) => V.int (i + (m : Nat))) := by
  unfold rngD
  generalize List.range n = l
  induction l with
  | nil => exact repL_nil
  | cons x l ih => exact repL_cons rep_of_int ih
theorem c_listR2 {a b : Expr} {p p2 pos2 : Pos} {ma mb : Env → R D} (g : Gd X B W n) (ha : PE X a (tE B W (kP B.K B) ma)) (hb : PE X b (tE B W (kP B.K B) mb)) (hg : Gl X "list" := by rfl) (hm : X.mg "list" = none := by rfl) (hg2 : Gl X "range" := by rfl) (hm2 : X.mg "range" = none := by rfl)
    (na : starEach [a, b] X.env = (false, eval a X.env) :: starEach [b] X.env := by rfl) (nb : starEach [b] X.env = (false, eval b X.env) :: starEach [] X.env := by rfl) (hp : (backTo pos2 (starEach [b] X.env)).any (·.1) = false := by rfl)
    (nc : starEach [.Call (.Name "range" p2) [a, b] [] pos2] X.env = (false, eval (.Call (.Name "range" p2) [a, b] [] pos2) X.env) :: starEach [] X.env := by rfl) :
    PE X (.Call (.Name "list" p) [.Call (.Name "range" p2) [a, b] [] pos2] [] pos) (tE B W (kP B.K B) (e2 dLRg ma mb)) := by
  refine PE.imp (pe_listRg g.calm hg hm (prg_2 hg2 hm2 ha hb na nb hp) nc) fun σ H Q h => ?_
  obtain ⟨φ, F, ρ, R0, h⟩ := h
  refine ⟨φ, F, ρ, R0, Post.bind h fun d1 ρ1 _ h v1 φ1 F1 H1 s1 R1 k1 => ?_⟩
  refine ⟨φ1, F1, ρ1, R1, Post.bind (Post.mono s1 h fun _ _ z => z) fun d2 ρ2 _ h v2 φ2 F2 H2 s2 R2 k2 => ?_⟩
  obtain ⟨d, qf, hk⟩ := Post.opt h
  clear h
  cases d1 <;> cases d2 <;> simp only [dLRg] at qf <;> try cases qf
  rename_i i _ j _
  split at qf
  · rename_i hr
    cases qf
    unfold rgOk at hr
    obtain ⟨h1, h2, h3, h4, h5⟩ := of_decide_eq_true hr
    obtain rfl := rep_int k1
    obtain rfl := rep_int k2
    refine ⟨i, j, rfl, rfl, ⟨h1, h2, h3, h4, by have : LIM = 1000000 := rfl; omega⟩, fun q hq => ?_⟩
    obtain ⟨r, s, z⟩ := R2.mkLst (rgV_rep (B := B) (i := i) (n := (j - i).toNat)) hq
    exact hk _ φ2 _ _ ((s1.trans s2).trans s) r z
  · cases qf
def isiC (ct : Nat → Option Bool) (d : D) : Option Bool := match d with
  | .obj c _ => ct c
  | _ => (tyD d).map fun _ => false
structure ICls (K : PySem.W.Frag) (C : Addr) : Prop where
  cl : Cls K C
  ha : PySem.W.findIn K (.ref C) "__class__" = some (some (.builtin "object.__class__"))
  hn : PySem.W.specialIn K (.builtin "object.__class__") "__get__" = some (some (.builtin "getset_descriptor.__get__"))
  htk : PySem.W.takesIn K (.builtin "object.__class__") = some true
  hm : PySem.W.mroIn K C (.type "object") = some true
theorem isi_cls {u : Value} {ct : Nat → Option Bool} (hct : ∀ c b, ct c = some b → ∃ I, B.cd c = some I ∧ ICls B.K I.C ∧ PySem.W.kitOne B.K (.ref I.C) u = some b)
    (hb : ∀ T ∈ ["NoneType", "bool", "int", "str", "tuple", "list", "dict"], PySem.W.kitOne B.K (.type T) u = some false) : IsiOk B u (isiC ct) := by
  intro F H d x b s h e
  have base : ∀ T, tyD d = some T → isiC ct d = some false → T ∈ ["NoneType", "bool", "int", "str", "tuple", "list", "dict"] → ∃ t, TyX B.K H x t ∧ PySem.W.kitOne B.K t u = some b := fun T hT hf hm => by
    rw [hf] at e; cases e
    exact ⟨_, tyX_of s h hT, hb T hm⟩
  cases d with
  | obj c xs =>
    obtain ⟨I, hI, hc, hk⟩ := hct c b e
    replace h := rh_plain h fun _ e => by cases e
    obtain ⟨a, dx, I', vs, rfl, hI', hF, hv⟩ := rep_obj h
    rw [hI] at hI'; cases hI'
    exact ⟨.ref I.C, .base (.ins (s _ _ hF) hc.cl hc.ha hc.hn hc.htk hc.hm), hk⟩
  | scr ns => simp [isiC, tyD] at e
  | non => exact base _ rfl rfl (by simp)
  | bl _ => exact base _ rfl rfl (by simp)
  | int _ => exact base _ rfl rfl (by simp)
  | str _ => exact base _ rfl rfl (by simp)
  | tup _ => exact base _ rfl rfl (by simp)
  | lst _ => exact base _ rfl rfl (by simp)
  | dct _ _ => exact base _ rfl rfl (by simp)
theorem b_no {st : Stmt} {k : RK} : PS X st (tS B W k fun _ => .no) := ⟨fun pins s σ H D I h => by
  obtain ⟨_, _, _, _, h⟩ := h
  exact h.elim⟩
theorem c_no {k : RK} : PE X e (tE B W k fun _ => .no) := ⟨fun pins s σ H Q I h => by
  obtain ⟨_, _, _, _, h⟩ := h
  exact h.elim⟩
end
end Mi

set_option Elab.async false
set_option linter.all false
set_option maxRecDepth 100000
namespace Mi
open PySem L2 ClX
abbrev Bf := PySem.W.Frag → Bool
def obsM (fa : List He.Fa) (bs : List Bf) (fn : List He.DefD) (K : PySem.W.Frag) : He.AlD := ((fa.all fun f => f.ok K) && ((bs.all fun b => b K) && fn.all fun d => d.ok K), fn.map fun d => He.fnW K d.at_)
def SaysM (fa : List He.Fa) (bs : List Bf) (fn : List He.DefD) (K : PySem.W.Frag) : Prop := obsM fa bs fn K = He.valD fn
def obsMG (n : Nat) (fa : List He.Fa) (bs : List Bf) (fn : List He.DefD) (g : Addr → Option Obj) : He.AlD := obsM fa bs fn (He.frG g (cStatics :: He.asD g n))
def hookM (n : Nat) (fa : List He.Fa) (bs : List Bf) (fn : List He.DefD) : PySem.W.Hook where
  α := He.AlD
  obs := fun s => obsMG n fa bs fn s.heap.get?
  val := fun _ => He.valD fn
  says := fun _ h => ∃ K : PySem.W.Frag, K.In h ∧ SaysM fa bs fn K
  of := fun _ _ e => ⟨_, He.frG_in, e⟩
  keeps := fun _ _ _ ⟨K, hK, c⟩ k => ⟨K, PySem.W.Frag.In.keeps hK k, c⟩
theorem obsMG_eq {n : Nat} {fa : List He.Fa} {bs : List Bf} {fn : List He.DefD} {g : Addr → Option Obj} {s : Shared} (h : ∀ a, g a = s.heap.get? a) : obsMG n fa bs fn g = (hookM n fa bs fn).obs s := by
  have e : g = s.heap.get? := funext h
  rw [e] <;> rfl
section
variable {fa : List He.Fa} {bs : List Bf} {fn : List He.DefD} {K : PySem.W.Frag}
theorem SaysM.fact (c : SaysM fa bs fn K) (i : Nat) {f : He.Fa} (h : fa[i]? = some f := by rfl) : f.ok K = true := by
  have c1 := (He.ba (show ((fa.all fun f => f.ok K) && ((bs.all fun b => b K) && fn.all fun d => d.ok K)) = true from congrArg (fun z : He.AlD => z.1) c)).1
  exact List.all_eq_true.mp c1 f (List.mem_of_getElem? h)
theorem SaysM.test (c : SaysM fa bs fn K) (i : Nat) {b : Bf} (h : bs[i]? = some b := by rfl) : b K = true := by
  have c1 := (He.ba (He.ba (show ((fa.all fun f => f.ok K) && ((bs.all fun b => b K) && fn.all fun d => d.ok K)) = true from congrArg (fun z : He.AlD => z.1) c)).2).1
  exact List.all_eq_true.mp c1 b (List.mem_of_getElem? h)
theorem SaysM.def_ (c : SaysM fa bs fn K) (i : Nat) {d : He.DefD} (h : fn[i]? = some d := by rfl) : ∃ fd, FunD K d.name d.qual d.params d.body d.scope (d.dvs K) (d.kws K) (He.fAd K d.at_) fd := by
  have c2 := (He.ba (He.ba (show ((fa.all fun f => f.ok K) && ((bs.all fun b => b K) && fn.all fun d => d.ok K)) = true from congrArg (fun z : He.AlD => z.1) c)).2).2
  have e : fn.map (fun d => He.fnW K d.at_) = fn.map He.DefD.val := congrArg (fun z : He.AlD => z.2) c
  have e2 : (fn.map fun d => He.fnW K d.at_)[i]? = (fn.map He.DefD.val)[i]? := by rw [e]
  rw [List.getElem?_map, List.getElem?_map, h] at e2
  exact He.DefD.funD (Option.some.inj e2) (List.all_eq_true.mp c2 d (List.mem_of_getElem? h))
end
open He (ga ma)
def bXf (x : Str) : Bf := fun K => xfB K (ga K x)
theorem bXf_ok {K : PySem.W.Frag} {x : Str} (h : bXf x K = true) : XfC K (ga K x) := xfB_ok h
def bO (f : PySem.W.Frag → Option (Option Value)) (g : PySem.W.Frag → Option (Option Value)) : Bf := fun K => He.eqO (f K) (g K)
/-- no class of it has the name -/
def bNo (x f : Str) : Bf := fun K => He.eqO (PySem.W.findIn K (.ref (ga K x)) f) (some none)
theorem bNo_ok {K : PySem.W.Frag} {x f : Str} (h : bNo x f K = true) : PySem.W.findIn K (.ref (ga K x)) f = some none := He.eqO_ok h
/-- the class's __init__ is the one of the class y -/
def bIni (x y : Str) : Bf := fun K => He.eqO (PySem.W.findIn K (.ref (ga K x)) "__init__") (some (some (.ref (ma K (ga K y) "__init__")))) && decide (PySem.W.typeIn K (.ref (ma K (ga K y) "__init__")) = some (.type "function"))
theorem bIni_ok {K : PySem.W.Frag} {x y : Str} (h : bIni x y K = true) : PySem.W.findIn K (.ref (ga K x)) "__init__" = some (some (.ref (ma K (ga K y) "__init__"))) ∧ PySem.W.typeIn K (.ref (ma K (ga K y) "__init__")) = some (.type "function") := by
  obtain ⟨h1, h2⟩ := He.ba h
  exact ⟨He.eqO_ok h1, of_decide_eq_true h2⟩
/-- an own exception -/
def oexB (K : PySem.W.Frag) (C : Addr) : Bool := match K.lookup C with
  | some ⟨.type "type", _, .cls cd, sl⟩ => (match cd.mro, sl.toList with
    | .ref C' :: bm, [_, _, _, _, some (.builtin n), _] => C' == C && (n == "ValueError.__new__" && (!cd.hasDel && (cd.hasDict && PySem.HandSPX.refsVE bm)))
    | _, _ => false)
  | _ => false
def bExc (x : Str) : Bf := fun K => oexB K (ga K x) && (PySem.W.keepIn K (.ref (ga K x)) && (decide (PySem.W.subIn K (.ref (ga K x)) (.type "BaseException") = some true) && (decide (PySem.W.typeIn K (.ref (ga K x)) = some (.type "type")) && He.eqO (PySem.W.findIn K (.ref (ga K x)) "__setattr__") (some (some (.builtin "object.__setattr__"))))))
theorem oexB_ok {K : PySem.W.Frag} {C : Addr} (q : oexB K C = true) : ∃ nm q N bs bm sn sub ab col dd k0 k1 k2 k3 k5, K.lookup C = some (excClassObj nm q C N bs bm true sn sub ab col dd k0 k1 k2 k3 k5 "ValueError.__new__") ∧ PySem.HandSPX.refsVE bm = true := by
  unfold oexB at q
  split at q
  · rename_i dd cd sl ho
    split at q
    · rename_i C' bm k0 k1 k2 k3 n k5 hm hs
      simp only [Bool.and_eq_true, beq_iff_eq, Bool.not_eq_true'] at q
      obtain ⟨rfl, rfl, hdel, hd1, hr⟩ := q
      obtain ⟨nm, bs, mro, ns, qn, hd, sn, sub, ab, col, del⟩ := cd
      dsimp only at hm hdel hd1
      subst hm hdel hd1
      have hsl : sl = #[k0, k1, k2, k3, some (.builtin "ValueError.__new__"), k5] := by
        obtain ⟨l⟩ := sl
        simp only at hs
        rw [hs]
      subst hsl
      exact ⟨nm, qn, ns, bs, bm, sn, sub, ab, col, dd, k0, k1, k2, k3, k5, ho, hr⟩
    · cases q
  · cases q
theorem bExc_ok {K : PySem.W.Frag} {x : Str} (h : bExc x K = true) : OexC K (ga K x) := by
  obtain ⟨h1, h⟩ := He.ba h
  obtain ⟨h2, h⟩ := He.ba h
  obtain ⟨h3, h⟩ := He.ba h
  obtain ⟨h4, h5⟩ := He.ba h
  exact ⟨oexB_ok h1, He.eqO_ok h5, of_decide_eq_true h3, of_decide_eq_true h4, h2⟩
/-- Base.__init__ of an own exception without its own -/
def bRead (x : Str) : Bf := fun K => PySem.W.readsIn K (ga K x) (.type "type") && (He.eqO (PySem.W.specialIn K (.ref (ga K x)) "__getattribute__") (some (some (.builtin "type.__getattribute__"))) && (match PySem.W.findCls K (.ref (ga K x)) (.type "type") "__init__" with
  | some (.val (.builtin n)) => decide (n = "ValueError.__init__")
  | _ => false))
theorem bRead_ok {K : PySem.W.Frag} {x : Str} (h : bRead x K = true) : CRead K (ga K x) (.type "type") ∧ PySem.W.findCls K (.ref (ga K x)) (.type "type") "__init__" = some (.val (.builtin "ValueError.__init__")) := by
  obtain ⟨h1, h2⟩ := He.ba h
  obtain ⟨h2, h3⟩ := He.ba h2
  refine ⟨⟨h1, He.eqO_ok h2⟩, ?_⟩
  revert h3
  split
  · rename_i n e
    intro h3
    rw [e, of_decide_eq_true h3]
  · intro h3; cases h3
def bInst (x : Str) : Bf := fun K => He.eqO (PySem.W.findIn K (.ref (ga K x)) "__class__") (some (some (.builtin "object.__class__"))) && (He.eqO (PySem.W.specialIn K (.builtin "object.__class__") "__get__") (some (some (.builtin "getset_descriptor.__get__"))) && (decide (PySem.W.takesIn K (.builtin "object.__class__") = some true) && decide (PySem.W.mroIn K (ga K x) (.type "object") = some true)))
theorem bInst_ok {K : PySem.W.Frag} {x : Str} (c : Cls K (ga K x)) (h : bInst x K = true) : ICls K (ga K x) := by
  obtain ⟨h1, h⟩ := He.ba h
  obtain ⟨h2, h⟩ := He.ba h
  obtain ⟨h3, h4⟩ := He.ba h
  exact ⟨c, He.eqO_ok h1, He.eqO_ok h2, of_decide_eq_true h3, of_decide_eq_true h4⟩
def bKit (x y : Str) (b : Bool) : Bf := fun K => decide (PySem.W.kitOne K (.ref (ga K x)) (.ref (ga K y)) = some b)
theorem bKit_ok {K : PySem.W.Frag} {x y : Str} {b : Bool} (h : bKit x y b K = true) : PySem.W.kitOne K (.ref (ga K x)) (.ref (ga K y)) = some b := of_decide_eq_true h
def bKitB (y : Str) : Bf := fun K => ["NoneType", "bool", "int", "str", "tuple", "list", "dict"].all fun T => decide (PySem.W.kitOne K (.type T) (.ref (ga K y)) = some false)
theorem bKitB_ok {K : PySem.W.Frag} {y : Str} (h : bKitB y K = true) : ∀ T ∈ ["NoneType", "bool", "int", "str", "tuple", "list", "dict"], PySem.W.kitOne K (.type T) (.ref (ga K y)) = some false := fun T hT => of_decide_eq_true (List.all_eq_true.mp h T hT)
def bCall (x : Str) : Bf := fun K => PySem.W.fnIn K (ma K (ga K x) "__call__")
def bFst (x y : Str) : Bf := fun K => PySem.W.notFirst K (ga K x) (.ref (ga K y))
theorem walk_ofM {l : PySem.W.OpenLaw} {n k : Nat} {q : Program} {loose : List Str} {XP : (Str → Option Value) → Heap → Prop} {YP : World → Heap → Prop} {d : DefRec} {CX : World → CXT} {x : Str}
    (hn : l.most = some n) (hn2 : n ≤ sizeLine) (hdf : d.params.defaults = []) (hr : Room k callerA)
    (F : ∀ (w : World) (mg : Str → Option Value) (fa : Addr) (h : Heap), YP w h → h.Ns mainGlobals mg → mg d.name = some (.ref fa) →
      ∃ (K : PySem.W.Frag) (fd : FuncData) (sp : Sp), K.In h ∧ (∀ (s : Shared) (u : Value), BindsTo s fd ⟨[u], []⟩ [(x, u)]) ∧
        (∀ (H : Hp) (a : Addr) (ns : List Int), ns.length ≤ n → Only H → SqL K H a (ns.map V.int) → sp [.ref a] H (fun v _ => v = .bl true) fun _ _ _ => False) ∧
        ∀ base : Heap, K.In base → base.Ns mainGlobals mg → FnOk l.prog w K mg base (CX w) k fa fd [x] sp)
    (hCX : ∀ (w : World) (H : Hp) (s : Shared) (e : Value) (s' : Shared), CX w [] H s (fun _ _ _ => False) e s' → False) :
    PySem.W.WalkO q loose XP YP l.row.toRowW d [] (fun f vs => PySem.call f vs) := by
  refine Att.attach_call hn hdf fun w s₀ s₁ mg mb fa o pm cd doc a vs ns G Y ho hd hcd hmg hobj hints hlen hg => ?_
  obtain ⟨K, fd, sp, KX, hb, hsp, hF⟩ := F w mg fa _ Y G.T.g hmg
  exact law_call KX G.T.g G.T.b G.T.builtins G.T.nolimit hg hobj hints (Nat.le_trans hlen hn2) hr hF hb (fun H hO hS => hsp H a ns hlen hO hS) fun H e s' => hCX w H s₁ e s'
theorem noCX {P : Program} {w : World} {H : Hp} {s : Shared} {e : Value} {s' : Shared} (h : L2.CX P w [] H s (fun _ _ _ => False) e s') : False := by
  obtain ⟨_, _, _, _, _, _, _, _, _, _, _, _, z⟩ := h
  exact False.elim z
/-- the law's promise from what its reading comes to -/
theorem law_sp {K : PySem.W.Frag} {cd : CD} {fn : List D → FR} {n : Nat} (h : ∀ ns : List Int, ns.length ≤ n → ∃ out, fn [.scr ns] = .ok (.bl true) out) (H : Hp) (a : Addr) (ns : List Int) (hl : ns.length ≤ n) (hS : SqL K H a (ns.map V.int)) :
    spM K cd [.p] false fn [.ref a] H (fun v _ => v = .bl true) fun _ _ _ => False := by
  obtain ⟨out, e⟩ := h ns hl
  refine ⟨[.scr ns], H, fun _ => [], Same.refl _, ⟨rfl, rfl, fun i v d h1 h2 h3 => ?_, fun i m v d h1 hm _ _ => ?_, fun i _ => rfl, fun i _ b hb => by simp at hb, fun i j _ _ b hb => by simp at hb⟩, ?_⟩
  · cases i with
    | zero =>
      simp at h2 h3
      subst h2 h3
      simp only [Rep]
      exact ⟨a, rfl, hS⟩
    | succ i => simp at h1
  · cases i with
    | zero => simp at h1; exact absurd h1.symm hm
    | succ i => simp at h1
  · rw [e]
    intro v F' H' fp _ h1 _
    have := h1 rfl
    simpa only [Rep] using this
section
variable {P : Program} {w : World} {K : PySem.W.Frag} {mg : Str → Option Value} {base : Heap} {N : List Str} {qual : Str} {scope : Scope} {f : Addr} {cdv : Value} {A : Around} {outer : List PySem.Env} {s : Shared} {H : Hp} {E : XK}
theorem gd_cx (hN : N.Nodup) : (cxOf (L2.CX P w) P w K mg base N qual scope f cdv A outer s H E).K = K ∧ (cxOf (L2.CX P w) P w K mg base N qual scope f cdv A outer s H E).calm = true ∧ (cxOf (L2.CX P w) P w K mg base N qual scope f cdv A outer s H E).N.Nodup ∧
    Takes (cxOf (L2.CX P w) P w K mg base N qual scope f cdv A outer s H E) (fun cls d _ H => E cls d H) ∧
    PassesOwn (model (cxOf (L2.CX P w) P w K mg base N qual scope f cdv A outer s H E).prog (cxOf (L2.CX P w) P w K mg base N qual scope f cdv A outer s H E).w) (cxOf (L2.CX P w) P w K mg base N qual scope f cdv A outer s H E).A (cxOf (L2.CX P w) P w K mg base N qual scope f cdv A outer s H E).env (cxOf (L2.CX P w) P w K mg base N qual scope f cdv A outer s H E).xe :=
  ⟨rfl, rfl, hN, takes_of (X := cxOf (L2.CX P w) P w K mg base N qual scope f cdv A outer s H E) rfl rfl rfl rfl, passes_of (X := cxOf (L2.CX P w) P w K mg base N qual scope f cdv A outer s H E) rfl⟩
end
end Mi

set_option Elab.async false
set_option linter.all false
set_option maxRecDepth 100000
namespace Mi
open PySem L2 ClX
section
variable {X : Cx} {B : Bs} {W : WX} {n : Nat} {e a b c : Expr} {es : List Expr} {pos p p2 : Pos} {ma mb mc : Env → R D} {x : Str}
theorem Gd.hu64 (g : Gd X B W n) : X.A.units + 64 < cLine := by have := g.hu; omega
theorem eAdd (g : Gd X B W n) (ha : PE X a (tE B W (kP B.K B) ma)) (hb : PE X b (tE B W (kP B.K B) mb)) : PE X (.BinOp a .Add b pos) (tE B W (kP B.K B) (e2 dAdd ma mb)) := by
  have h := @or_add X
  try rw [g.hK] at h
  exact c_op h os_add ha hb
theorem eSub (g : Gd X B W n) (ha : PE X a (tE B W (kP B.K B) ma)) (hb : PE X b (tE B W (kP B.K B) mb)) : PE X (.BinOp a .Sub b pos) (tE B W (kP B.K B) (e2 dSub ma mb)) := by
  have h := @op_sub X
  try rw [g.hK] at h
  exact c_op h os_sub ha hb
theorem eMul (g : Gd X B W n) (ha : PE X a (tE B W (kP B.K B) ma)) (hb : PE X b (tE B W (kP B.K B) mb)) : PE X (.BinOp a .Mult b pos) (tE B W (kP B.K B) (e2 dMul ma mb)) := by
  have h := @or_mul X
  try rw [g.hK] at h
  exact c_op h os_mul ha hb
theorem eFdv (g : Gd X B W n) (ha : PE X a (tE B W (kP B.K B) ma)) (hb : PE X b (tE B W (kP B.K B) mb)) : PE X (.BinOp a .FloorDiv b pos) (tE B W (kP B.K B) (e2 dFdv ma mb)) := by
  have h := @op_fdivW X
  try rw [g.hK] at h
  exact c_op h os_fdv ha hb
theorem eMod (g : Gd X B W n) (ha : PE X a (tE B W (kP B.K B) ma)) (hb : PE X b (tE B W (kP B.K B) mb)) : PE X (.BinOp a .Mod b pos) (tE B W (kP B.K B) (e2 dMod ma mb)) := by
  have h := @op_mod X
  try rw [g.hK] at h
  exact c_op h os_mod ha hb
theorem ePow (g : Gd X B W n) (ha : PE X a (tE B W (kP B.K B) ma)) (hb : PE X b (tE B W (kP B.K B) mb)) : PE X (.BinOp a .Pow b pos) (tE B W (kP B.K B) (e2 dPow ma mb)) := by
  have h := @op_pow X
  try rw [g.hK] at h
  exact c_op h os_pow ha hb
theorem eLt (g : Gd X B W n) (ha : PE X a (tE B W (kP B.K B) ma)) (hb : PE X b (tE B W (kP B.K B) mb)) (hm : behindInMarks .Lt b = false := by first | rfl | exact nomark _) : PE X (.Compare a [.Lt] [b] pos) (tE B W (kP B.K B) (e2 dLt ma mb)) := by
  have h := @op_lt X
  try rw [g.hK] at h
  exact c_cmp h (os_cmp _) hm ha hb
theorem qLt (g : Gd X B W n) (ha : PE X a (tE B W (kP B.K B) ma)) (hb : PE X b (tE B W (kP B.K B) mb)) (hm : behindInMarks .Lt b = false := by first | rfl | exact nomark _) : PT X (.Compare a [.Lt] [b] pos) (tT B W (mBool (e2 dLt ma mb))) := by
  have h := @op_lt X
  try rw [g.hK] at h
  exact t_cmp h (os_cmp _) hm ha hb
theorem eLe (g : Gd X B W n) (ha : PE X a (tE B W (kP B.K B) ma)) (hb : PE X b (tE B W (kP B.K B) mb)) (hm : behindInMarks .LtE b = false := by first | rfl | exact nomark _) : PE X (.Compare a [.LtE] [b] pos) (tE B W (kP B.K B) (e2 dLe ma mb)) := by
  have h := @op_le X
  try rw [g.hK] at h
  exact c_cmp h (os_cmp _) hm ha hb
theorem qLe (g : Gd X B W n) (ha : PE X a (tE B W (kP B.K B) ma)) (hb : PE X b (tE B W (kP B.K B) mb)) (hm : behindInMarks .LtE b = false := by first | rfl | exact nomark _) : PT X (.Compare a [.LtE] [b] pos) (tT B W (mBool (e2 dLe ma mb))) := by
  have h := @op_le X
  try rw [g.hK] at h
  exact t_cmp h (os_cmp _) hm ha hb
theorem eGt (g : Gd X B W n) (ha : PE X a (tE B W (kP B.K B) ma)) (hb : PE X b (tE B W (kP B.K B) mb)) (hm : behindInMarks .Gt b = false := by first | rfl | exact nomark _) : PE X (.Compare a [.Gt] [b] pos) (tE B W (kP B.K B) (e2 dGt ma mb)) := by
  have h := @op_gt X
  try rw [g.hK] at h
  exact c_cmp h (os_cmp _) hm ha hb
theorem qGt (g : Gd X B W n) (ha : PE X a (tE B W (kP B.K B) ma)) (hb : PE X b (tE B W (kP B.K B) mb)) (hm : behindInMarks .Gt b = false := by first | rfl | exact nomark _) : PT X (.Compare a [.Gt] [b] pos) (tT B W (mBool (e2 dGt ma mb))) := by
  have h := @op_gt X
  try rw [g.hK] at h
  exact t_cmp h (os_cmp _) hm ha hb
theorem eGe (g : Gd X B W n) (ha : PE X a (tE B W (kP B.K B) ma)) (hb : PE X b (tE B W (kP B.K B) mb)) (hm : behindInMarks .GtE b = false := by first | rfl | exact nomark _) : PE X (.Compare a [.GtE] [b] pos) (tE B W (kP B.K B) (e2 dGe ma mb)) := by
  have h := @op_ge X
  try rw [g.hK] at h
  exact c_cmp h (os_cmp _) hm ha hb
theorem qGe (g : Gd X B W n) (ha : PE X a (tE B W (kP B.K B) ma)) (hb : PE X b (tE B W (kP B.K B) mb)) (hm : behindInMarks .GtE b = false := by first | rfl | exact nomark _) : PT X (.Compare a [.GtE] [b] pos) (tT B W (mBool (e2 dGe ma mb))) := by
  have h := @op_ge X
  try rw [g.hK] at h
  exact t_cmp h (os_cmp _) hm ha hb
theorem eEq (g : Gd X B W n) (ha : PE X a (tE B W (kP B.K B) ma)) (hb : PE X b (tE B W (kP B.K B) mb)) (hm : behindInMarks .Eq b = false := by first | rfl | exact nomark _) : PE X (.Compare a [.Eq] [b] pos) (tE B W (kP B.K B) (e2 dEq ma mb)) := by
  have h := (op_eqD g.hu64)
  try rw [g.hK] at h
  exact c_cmp h os_eq hm ha hb
theorem qEq (g : Gd X B W n) (ha : PE X a (tE B W (kP B.K B) ma)) (hb : PE X b (tE B W (kP B.K B) mb)) (hm : behindInMarks .Eq b = false := by first | rfl | exact nomark _) : PT X (.Compare a [.Eq] [b] pos) (tT B W (mBool (e2 dEq ma mb))) := by
  have h := (op_eqD g.hu64)
  try rw [g.hK] at h
  exact t_cmp h os_eq hm ha hb
theorem eNe (g : Gd X B W n) (ha : PE X a (tE B W (kP B.K B) ma)) (hb : PE X b (tE B W (kP B.K B) mb)) (hm : behindInMarks .NotEq b = false := by first | rfl | exact nomark _) : PE X (.Compare a [.NotEq] [b] pos) (tE B W (kP B.K B) (e2 dNe ma mb)) := by
  have h := (op_neD g.hu64)
  try rw [g.hK] at h
  exact c_cmp h os_ne hm ha hb
theorem qNe (g : Gd X B W n) (ha : PE X a (tE B W (kP B.K B) ma)) (hb : PE X b (tE B W (kP B.K B) mb)) (hm : behindInMarks .NotEq b = false := by first | rfl | exact nomark _) : PT X (.Compare a [.NotEq] [b] pos) (tT B W (mBool (e2 dNe ma mb))) := by
  have h := (op_neD g.hu64)
  try rw [g.hK] at h
  exact t_cmp h os_ne hm ha hb
theorem eIs (g : Gd X B W n) (ha : PE X a (tE B W (kP B.K B) ma)) (hb : PE X b (tE B W (kP B.K B) mb)) (hm : behindInMarks .Is b = false := by first | rfl | exact nomark _) : PE X (.Compare a [.Is] [b] pos) (tE B W (kP B.K B) (e2 dIs ma mb)) := by
  have h := @or_is X
  try rw [g.hK] at h
  exact c_cmp h os_is hm ha hb
theorem qIs (g : Gd X B W n) (ha : PE X a (tE B W (kP B.K B) ma)) (hb : PE X b (tE B W (kP B.K B) mb)) (hm : behindInMarks .Is b = false := by first | rfl | exact nomark _) : PT X (.Compare a [.Is] [b] pos) (tT B W (mBool (e2 dIs ma mb))) := by
  have h := @or_is X
  try rw [g.hK] at h
  exact t_cmp h os_is hm ha hb
theorem eIsNot (g : Gd X B W n) (ha : PE X a (tE B W (kP B.K B) ma)) (hb : PE X b (tE B W (kP B.K B) mb)) (hm : behindInMarks .IsNot b = false := by first | rfl | exact nomark _) : PE X (.Compare a [.IsNot] [b] pos) (tE B W (kP B.K B) (e2 dIsNot ma mb)) := by
  have h := @or_isnot X
  try rw [g.hK] at h
  exact c_cmp h os_isnot hm ha hb
theorem qIsNot (g : Gd X B W n) (ha : PE X a (tE B W (kP B.K B) ma)) (hb : PE X b (tE B W (kP B.K B) mb)) (hm : behindInMarks .IsNot b = false := by first | rfl | exact nomark _) : PT X (.Compare a [.IsNot] [b] pos) (tT B W (mBool (e2 dIsNot ma mb))) := by
  have h := @or_isnot X
  try rw [g.hK] at h
  exact t_cmp h os_isnot hm ha hb
theorem eIn (g : Gd X B W n) (ha : PE X a (tE B W (kP B.K B) ma)) (hb : PE X b (tE B W (kP B.K B) mb)) (hm : behindInMarks .In b = false := by first | rfl | exact nomark _) : PE X (.Compare a [.In] [b] pos) (tE B W (kP B.K B) (e2 dIn ma mb)) := by
  have h := (or_in g.hu)
  try rw [g.hK] at h
  exact c_cmp h (os_in false) hm ha hb
theorem qIn (g : Gd X B W n) (ha : PE X a (tE B W (kP B.K B) ma)) (hb : PE X b (tE B W (kP B.K B) mb)) (hm : behindInMarks .In b = false := by first | rfl | exact nomark _) : PT X (.Compare a [.In] [b] pos) (tT B W (mBool (e2 dIn ma mb))) := by
  have h := (or_in g.hu)
  try rw [g.hK] at h
  exact t_cmp h (os_in false) hm ha hb
theorem eNotIn (g : Gd X B W n) (ha : PE X a (tE B W (kP B.K B) ma)) (hb : PE X b (tE B W (kP B.K B) mb)) (hm : behindInMarks .NotIn b = false := by first | rfl | exact nomark _) : PE X (.Compare a [.NotIn] [b] pos) (tE B W (kP B.K B) (e2 dNotIn ma mb)) := by
  have h := (or_notin g.hu)
  try rw [g.hK] at h
  exact c_cmp h (os_in true) hm ha hb
theorem qNotIn (g : Gd X B W n) (ha : PE X a (tE B W (kP B.K B) ma)) (hb : PE X b (tE B W (kP B.K B) mb)) (hm : behindInMarks .NotIn b = false := by first | rfl | exact nomark _) : PT X (.Compare a [.NotIn] [b] pos) (tT B W (mBool (e2 dNotIn ma mb))) := by
  have h := (or_notin g.hu)
  try rw [g.hK] at h
  exact t_cmp h (os_in true) hm ha hb
/-- a <= b <= c and the like: on whole numbers -/
structure ICmp (op : CmpOp) (p : Int → Int → Bool) : Prop where
  ok : ∀ X : Cx, OpR X (compareOp op) (rI0 fun i j => .bl (p i j))
theorem iLt : ICmp .Lt fun i j => decide (i < j) := ⟨fun X => op_lt⟩
theorem iLe : ICmp .LtE fun i j => decide (i ≤ j) := ⟨fun X => op_le⟩
theorem iGt : ICmp .Gt fun i j => decide (j < i) := ⟨fun X => op_gt⟩
theorem iGe : ICmp .GtE fun i j => decide (j ≤ i) := ⟨fun X => op_ge⟩
theorem eChn {op op' : CmpOp} {f f' : Int → Int → Bool} (h : ICmp op f) (h' : ICmp op' f') (ha : PE X a (tE B W (kP B.K B) ma)) (hb : PE X b (tE B W (kP B.K B) mb)) (hc : PE X c (tE B W (kP B.K B) mc)) (hm : lastMarks [op, op'] [b, c] = false := by with_unfolding_all rfl) :
    PE X (.Compare a [op, op'] [b, c] pos) (tE B W (kP B.K B) (eChain (dCmp f) (dCmp f') ma mb mc)) := c_chain (h.ok X) (os_cmp f) (h'.ok X) (os_cmp f') ha hb hc hm
theorem qChn {op op' : CmpOp} {f f' : Int → Int → Bool} (h : ICmp op f) (h' : ICmp op' f') (ha : PE X a (tE B W (kP B.K B) ma)) (hb : PE X b (tE B W (kP B.K B) mb)) (hc : PE X c (tE B W (kP B.K B) mc)) (hm : lastMarks [op, op'] [b, c] = false := by with_unfolding_all rfl) :
    PT X (.Compare a [op, op'] [b, c] pos) (tT B W (mBool (eChain (dCmp f) (dCmp f') ma mb mc))) := t_chain (h.ok X) (os_cmp f) (h'.ok X) (os_cmp f') ha hb hc hm
theorem eIx (g : Gd X B W n) (ha : PE X a (tE B W (kP B.K B) ma)) (hb : PE X b (tE B W (kP B.K B) mb)) (hs : PlainIx b := by intro _ _; rfl) : PE X (.Subscript a b pos) (tE B W (kP B.K B) (e2 dIx ma mb)) := c_ix g.hK hs ha hb
theorem eSlc {lo hi : Option Expr} {ml mu : Env → R (Option Int)} (g : Gd X B W n) (he : PE X e (tE B W (kP B.K B) ma)) (hl : PO X lo (tO B W ml)) (hu : PO X hi (tO B W mu)) : PE X (.Subscript e (.Slice lo hi none p2) pos) (tE B W (kP B.K B) (eSl ma ml mu)) := c_sl g.hK he hl hu
theorem eFld {f : Str} {fx : Nat → Option Nat} (g : Gd X B W n) (hf : FldOk B.K B.cd f fx) (he : PE X e (tE B W (kP B.K B) ma)) (hb : attributeBase e f X.env (eval e X.env) = eval e X.env := by rfl) : PE X (.Attribute e f pos) (tE B W (kP B.K B) (e1 (dFld fx) ma)) := c_fld g.hK hf he hb
theorem eVal (g : Gd X B W n) (h : PE X e (tE B W (kP B.K B) ma)) (he : ∀ whole, isTrue e X.env whole = (do let v ← whole; standAt e.pos; holding [v] (PySem.truthy v)) := by intro _; rfl) : PT X e (tT B W (mTruth ma)) := t_val h g.hK he
theorem gInt {i : Int} (h : ∃ t, X.mg x = some (.int i t)) (hg : Gl X x := by rfl) (hd : (x == ("__debug__" : Str)) = false := by decide) : PE X (.Name x pos) (tE B W (kP B.K B) (eC (.int i))) := by
  obtain ⟨t, h⟩ := h
  exact c_glob (v := .int i) hg h ⟨t, rfl⟩ (fun F => by simp only [Rep]) hd
theorem gStr {i : Str} (h : ∃ t, X.mg x = some (.str i t)) (hg : Gl X x := by rfl) (hd : (x == ("__debug__" : Str)) = false := by decide) : PE X (.Name x pos) (tE B W (kP B.K B) (eC (.str i))) := by
  obtain ⟨t, h⟩ := h
  exact c_glob (v := .str i) hg h ⟨t, rfl⟩ (fun F => by simp only [Rep]) hd
theorem fLen' {m : Env → R (List D)} (g : Gd X B W n) (hm : X.mg "len" = none) (ha : PA X (e :: es) (tA B W m)) (hg : Gl X "len" := by rfl) (he : starEach (e :: es) X.env = (false, eval e X.env) :: starEach es X.env := by rfl) (hpl : (backTo pos (starEach es X.env)).any (·.1) = false := by rfl) :
    PE X (.Call (.Name "len" p) (e :: es) [] pos) (tE B W (kP B.K B) (eB fLen m)) := by
  have h := @call_len X
  try rw [g.hK] at h
  exact c_callB h cs_len hg hm PySem.boot_len ha (by decide) (by decide) he hpl
theorem fAbs' {m : Env → R (List D)} (g : Gd X B W n) (hm : X.mg "abs" = none) (ha : PA X (e :: es) (tA B W m)) (hg : Gl X "abs" := by rfl) (he : starEach (e :: es) X.env = (false, eval e X.env) :: starEach es X.env := by rfl) (hpl : (backTo pos (starEach es X.env)).any (·.1) = false := by rfl) :
    PE X (.Call (.Name "abs" p) (e :: es) [] pos) (tE B W (kP B.K B) (eB fAbs m)) := by
  have h := @call_abs X
  try rw [g.hK] at h
  exact c_callB h cs_abs hg hm (by decide +kernel) ha (by decide) (by decide) he hpl
theorem fDivmod' {m : Env → R (List D)} (g : Gd X B W n) (hm : X.mg "divmod" = none) (ha : PA X (e :: es) (tA B W m)) (hg : Gl X "divmod" := by rfl) (he : starEach (e :: es) X.env = (false, eval e X.env) :: starEach es X.env := by rfl) (hpl : (backTo pos (starEach es X.env)).any (·.1) = false := by rfl) :
    PE X (.Call (.Name "divmod" p) (e :: es) [] pos) (tE B W (kP B.K B) (eB fDivmod m)) := by
  have h := @call_divmod X
  try rw [g.hK] at h
  exact c_callB h cs_divmod hg hm (by decide +kernel) ha (by decide) (by decide) he hpl
theorem fAll' {m : Env → R (List D)} (g : Gd X B W n) (hm : X.mg "all" = none) (ha : PA X (e :: es) (tA B W m)) (hg : Gl X "all" := by rfl) (he : starEach (e :: es) X.env = (false, eval e X.env) :: starEach es X.env := by rfl) (hpl : (backTo pos (starEach es X.env)).any (·.1) = false := by rfl) :
    PE X (.Call (.Name "all" p) (e :: es) [] pos) (tE B W (kP B.K B) (eB fAll m)) := by
  have h := (cr_all g.calm)
  try rw [g.hK] at h
  exact c_callB h cs_all hg hm (by decide +kernel) ha (by decide) (by decide) he hpl
theorem fAny' {m : Env → R (List D)} (g : Gd X B W n) (hm : X.mg "any" = none) (ha : PA X (e :: es) (tA B W m)) (hg : Gl X "any" := by rfl) (he : starEach (e :: es) X.env = (false, eval e X.env) :: starEach es X.env := by rfl) (hpl : (backTo pos (starEach es X.env)).any (·.1) = false := by rfl) :
    PE X (.Call (.Name "any" p) (e :: es) [] pos) (tE B W (kP B.K B) (eB fAny m)) := by
  have h := (cr_any g.calm)
  try rw [g.hK] at h
  exact c_callB h cs_any hg hm (by decide +kernel) ha (by decide) (by decide) he hpl
theorem fSum' {m : Env → R (List D)} (g : Gd X B W n) (hm : X.mg "sum" = none) (ha : PA X (e :: es) (tA B W m)) (hg : Gl X "sum" := by rfl) (he : starEach (e :: es) X.env = (false, eval e X.env) :: starEach es X.env := by rfl) (hpl : (backTo pos (starEach es X.env)).any (·.1) = false := by rfl) :
    PE X (.Call (.Name "sum" p) (e :: es) [] pos) (tE B W (kP B.K B) (eB fSum m)) := by
  have h := (cr_sum g.calm)
  try rw [g.hK] at h
  exact c_callB h cs_sum hg hm (by decide +kernel) ha (by decide) (by decide) he hpl
theorem fInt' {m : Env → R (List D)} (g : Gd X B W n) (hm : X.mg "int" = none) (ha : PA X (e :: es) (tA B W m)) (hg : Gl X "int" := by rfl) (he : starEach (e :: es) X.env = (false, eval e X.env) :: starEach es X.env := by rfl) (hpl : (backTo pos (starEach es X.env)).any (·.1) = false := by rfl) :
    PE X (.Call (.Name "int" p) (e :: es) [] pos) (tE B W (kP B.K B) (eB fInt m)) := by
  have h := @call_int1 X
  try rw [g.hK] at h
  exact c_callTy h cs_int hg hm (by decide +kernel) ha (by decide) (by decide) he hpl
theorem fStrI' {m : Env → R (List D)} (g : Gd X B W n) (hm : X.mg "str" = none) (ha : PA X (e :: es) (tA B W m)) (hg : Gl X "str" := by rfl) (he : starEach (e :: es) X.env = (false, eval e X.env) :: starEach es X.env := by rfl) (hpl : (backTo pos (starEach es X.env)).any (·.1) = false := by rfl) :
    PE X (.Call (.Name "str" p) (e :: es) [] pos) (tE B W (kP B.K B) (eB fStrI m)) := by
  have h := @call_str_int X
  try rw [g.hK] at h
  exact c_callTy h cs_strI hg hm (by decide +kernel) ha (by decide) (by decide) he hpl
theorem fTup' {m : Env → R (List D)} (g : Gd X B W n) (hm : X.mg "tuple" = none) (ha : PA X (e :: es) (tA B W m)) (hg : Gl X "tuple" := by rfl) (he : starEach (e :: es) X.env = (false, eval e X.env) :: starEach es X.env := by rfl) (hpl : (backTo pos (starEach es X.env)).any (·.1) = false := by rfl) :
    PE X (.Call (.Name "tuple" p) (e :: es) [] pos) (tE B W (kP B.K B) (eB fTup m)) := by
  have h := @cr_tup X
  try rw [g.hK] at h
  exact c_callTy h cs_tup hg hm (by decide +kernel) ha (by decide) (by decide) he hpl
theorem fLst' {m : Env → R (List D)} (g : Gd X B W n) (hm : X.mg "list" = none) (ha : PA X (e :: es) (tA B W m)) (hg : Gl X "list" := by rfl) (he : starEach (e :: es) X.env = (false, eval e X.env) :: starEach es X.env := by rfl) (hpl : (backTo pos (starEach es X.env)).any (·.1) = false := by rfl) :
    PE X (.Call (.Name "list" p) (e :: es) [] pos) (tE B W (kP B.K B) (eB (fun ds => (fList ds).map .lst) m)) := by
  have h := @cr_list X
  try rw [g.hK] at h
  exact c_callTy h cs_list hg hm (by decide +kernel) ha (by decide) (by decide) he hpl
theorem fLstO {m : Env → R (List D)} (g : Gd X B W n) (hm : X.mg "list" = none) (ha : PA X (e :: es) (tA B W m)) (hg : Gl X "list" := by rfl) (he : starEach (e :: es) X.env = (false, eval e X.env) :: starEach es X.env := by rfl) (hpl : (backTo pos (starEach es X.env)).any (·.1) = false := by rfl) :
    PE X (.Call (.Name "list" p) (e :: es) [] pos) (tE B W (kO B.K B) (eB (fun ds => (fList ds).map .lst) m)) := by
  have h := @cr_list X
  rw [g.hK] at h
  exact c_callTyO h co_list hg hm (by decide +kernel) ha (by decide) (by decide) he hpl
theorem fIsiT {T : String} {y : Str} (g : Gd X B W n) (hm : X.mg "isinstance" = none) (hm2 : X.mg y = none) (hv : bootBuiltins y = some (.type T)) (ha : PE X e (tE B W (kP B.K B) ma)) (hg : Gl X "isinstance" := by rfl) (hg2 : Gl X y := by rfl) (hn : y ≠ "__name__" := by decide) (hd : (y == ("__debug__" : Str)) = false := by decide)
    (hs : starEach (e :: [.Name y p2]) X.env = (false, eval e X.env) :: starEach [.Name y p2] X.env := by rfl) (hs2 : starEach (.Name y p2 :: []) X.env = (false, eval (.Name y p2) X.env) :: starEach [] X.env := by rfl) :
    PE X (.Call (.Name "isinstance" p) [e, .Name y p2] [] pos) (tE B W (kP B.K B) (e1 (fun d => (isiB T d).map .bl) ma)) := c_isi (p2 := p2) g.hK (isi_ty T) (.ty T) (pe_bltn hg2 hm2 hv rfl hn hd) hg hm ha hs hs2
theorem fIsiC {C : Addr} {y : Str} {ct : Nat → Option Bool} (g : Gd X B W n) (hm : X.mg "isinstance" = none) (hm2 : X.mg y = some (.ref C)) (hi : IsiOk B (.ref C) (isiC ct)) (ha : PE X e (tE B W (kP B.K B) ma)) (hg : Gl X "isinstance" := by rfl) (hg2 : Gl X y := by rfl) (hd : (y == ("__debug__" : Str)) = false := by decide)
    (hs : starEach (e :: [.Name y p2]) X.env = (false, eval e X.env) :: starEach [.Name y p2] X.env := by rfl) (hs2 : starEach (.Name y p2 :: []) X.env = (false, eval (.Name y p2) X.env) :: starEach [] X.env := by rfl) :
    PE X (.Call (.Name "isinstance" p) [e, .Name y p2] [] pos) (tE B W (kP B.K B) (e1 (fun d => (isiC ct d).map .bl) ma)) := c_isi (p2 := p2) g.hK hi (.own C) (pe_glob hg2 hm2 rfl hd) hg hm ha hs hs2
end
end Mi

set_option Elab.async false
set_option linter.all false
set_option maxRecDepth 100000
namespace Mi
open PySem L2 ClX
theorem mdOf_ok {ms pm : List Md} (h : ms.take pm.length = pm) : ∀ (i : Nat) m, pm[i]? = some m → mdOf ms i = m := fun i m e => by
  unfold mdOf
  rw [← h] at e
  have hl := (List.getElem?_eq_some_iff.mp e).1
  rw [List.getElem?_take] at e
  split at e
  · rw [List.getD_eq_getElem?_getD, e]; rfl
  · cases e
section
variable {X : Cx} {B : Bs} {W : WX} {n : Nat} {elt tg iter : Expr} {ifs : List Expr} {scope : Scope} {pos spos py : Pos} {src : Env → R (List D)} {t : D → Env → Option Env} {tt : Env → R Bool} {m : Env → R D}
theorem all_of {l : List Nat} {p : Nat → Prop} [DecidablePred p] (h : (l.all fun i => decide (p i)) = true) : ∀ i ∈ l, p i := fun i hi => of_decide_eq_true (List.all_eq_true.mp h i hi)
theorem xs_of {l : List Nat} {f : Nat → Option Addr} (h : (l.all fun i => (f i).isNone) = true) : ∀ i ∈ l, f i = none := fun i hi => Option.isNone_iff_eq_none.mp (List.all_eq_true.mp h i hi)
theorem e_lc (own : List (Str × Nat)) (g : Gd X B W n) (hi : PI X tg iter (tI B W src))
    (hg : ∀ s H C cl fp H0 F0 ow np, PG (X.blk s H scope (compEnvC scope cl C X.env) fp) tg (tG (B.at H0 F0 ow np) (own.map (·.2)) t))
    (ht : ∀ s H C cl fp H0 F0 ow np, Gd (X.blk s H scope (compEnvC scope cl C X.env) fp) (B.at H0 F0 ow np) WF n → PTs (X.blk s H scope (compEnvC scope cl C X.env) fp) ifs (tT (B.at H0 F0 ow np) WF tt))
    (he : ∀ s H C cl fp H0 F0 ow np, Gd (X.blk s H scope (compEnvC scope cl C X.env) fp) (B.at H0 F0 ow np) WF n → PE (X.blk s H scope (compEnvC scope cl C X.env) fp) elt (tE (B.at H0 F0 ow np) WF (kP B.K B) m))
    (hv : ((own.map (·.2)).all fun i => decide (B.md i = .p)) = true := by rfl) (hx : ((own.map (·.2)).all fun i => (B.xs i).isNone) = true := by rfl) (ok : blkC X.N X.env.scope scope own = true := by rfl) (hs : ∀ x, foldedSetIterable iter X.env x = pure x := by intro _; rfl) :
    PE X (.ListComp elt [⟨tg, iter, ifs, 0⟩] scope pos) (tE B W (kP B.K B) (eLc (own.map (·.2)) src t tt m)) := c_lcR (rk := false) own g hi hg ht he (all_of hv) (xs_of hx) ok hs
theorem e_lcO (own : List (Str × Nat)) (g : Gd X B W n) (hi : PI X tg iter (tI B W src))
    (hg : ∀ s H C cl fp H0 F0 ow np, PG (X.blk s H scope (compEnvC scope cl C X.env) fp) tg (tG (B.at H0 F0 ow np) (own.map (·.2)) t))
    (ht : ∀ s H C cl fp H0 F0 ow np, Gd (X.blk s H scope (compEnvC scope cl C X.env) fp) (B.at H0 F0 ow np) WF n → PTs (X.blk s H scope (compEnvC scope cl C X.env) fp) ifs (tT (B.at H0 F0 ow np) WF tt))
    (he : ∀ s H C cl fp H0 F0 ow np, Gd (X.blk s H scope (compEnvC scope cl C X.env) fp) (B.at H0 F0 ow np) WF n → PE (X.blk s H scope (compEnvC scope cl C X.env) fp) elt (tE (B.at H0 F0 ow np) WF (kP B.K B) m))
    (hv : ((own.map (·.2)).all fun i => decide (B.md i = .p)) = true := by rfl) (hx : ((own.map (·.2)).all fun i => (B.xs i).isNone) = true := by rfl) (ok : blkC X.N X.env.scope scope own = true := by rfl) (hs : ∀ x, foldedSetIterable iter X.env x = pure x := by intro _; rfl) :
    PE X (.ListComp elt [⟨tg, iter, ifs, 0⟩] scope pos) (tE B W (kO B.K B) (eLc (own.map (·.2)) src t tt m)) := c_lcR (rk := true) own g hi hg ht he (all_of hv) (xs_of hx) ok hs
/-- name = [..] on one line -/
theorem b_asgLcR {k : RK} {rk : Bool} {y : Str} (i : Nat) (own : List (Str × Nat)) (g : Gd X B W n) (ha : ∀ {te : TE}, (∀ σ H Q, tE B W (kR B.K B rk) (eLc (own.map (·.2)) src t tt m) σ H Q → te σ H Q) → ∀ D σ H, tS B W k (mAsg i (eLc (own.map (·.2)) src t tt m)) D σ H → tAsg te (gName i) D σ H) (hi : PI X tg iter (tI B W src))
    (hg : ∀ s H C cl fp H0 F0 ow np, PG (X.blk s H scope (compEnvC scope cl C X.env) fp) tg (tG (B.at H0 F0 ow np) (own.map (·.2)) t))
    (ht : ∀ s H C cl fp H0 F0 ow np, Gd (X.blk s H scope (compEnvC scope cl C X.env) fp) (B.at H0 F0 ow np) WF n → PTs (X.blk s H scope (compEnvC scope cl C X.env) fp) ifs (tT (B.at H0 F0 ow np) WF tt))
    (he : ∀ s H C cl fp H0 F0 ow np, Gd (X.blk s H scope (compEnvC scope cl C X.env) fp) (B.at H0 F0 ow np) WF n → PE (X.blk s H scope (compEnvC scope cl C X.env) fp) elt (tE (B.at H0 F0 ow np) WF (kP B.K B) m))
    (hv : ((own.map (·.2)).all fun i => decide (B.md i = .p)) = true) (hx : ((own.map (·.2)).all fun i => (B.xs i).isNone) = true) (ok : blkC X.N X.env.scope scope own = true) (hs : ∀ x, foldedSetIterable iter X.env x = pure x)
    (hy : X.N[i]? = some y) (hyl : X.env.scope.names.lookup y = some .local) (hsw : swapsWith (.ListComp elt [⟨tg, iter, ifs, 0⟩] scope pos) (some (.Name y py)) spos.line X.env = pure true) :
    PS X (.Assign [.Name y py] (.ListComp elt [⟨tg, iter, ifs, 0⟩] scope pos) spos) (tS B W k (mAsg i (eLc (own.map (·.2)) src t tt m))) := by
  refine PS.imp (ps_setLc (g := fun v σ H Q => ∃ H0 F0 ow np, tG (B.at H0 F0 ow np) (own.map (·.2)) t v σ H Q) (tt := fun σ H Q => ∃ H0 F0 ow np, tT (B.at H0 F0 ow np) WF tt σ H Q) (te := fun σ H Q => ∃ H0 F0 ow np, tE (B.at H0 F0 ow np) WF (kP B.K B) m σ H Q)
    g.calm g.nd hy hyl hsw hi (blkOk_by ok) (fun s H C cl fp => ⟨fun pins s' σ H v u Q I r ⟨H0, F0, ow, np, q⟩ => (hg _ _ _ _ _ H0 F0 ow np).run pins s' σ H v u Q I r q⟩) (fun s H C cl fp => ⟨fun pins s' σ H Q I ⟨H0, F0, ow, np, q⟩ => (ht _ _ _ _ _ H0 F0 ow np g.blk).run pins s' σ H Q I q⟩)
    (fun s H C cl fp => ⟨fun pins s' σ H Q I ⟨H0, F0, ow, np, q⟩ => (he _ _ _ _ _ H0 F0 ow np g.blk).run pins s' σ H Q I q⟩) hs) ?_
  exact ha fun σ H Q h => lc_in (rk := rk) (all_of hv) (xs_of hx) (fun _ _ _ _ z => z) (fun _ _ _ z => z) (fun _ _ _ z => z) σ H Q h
theorem b_asgLc {k : RK} {y : Str} (i : Nat) (own : List (Str × Nat)) (g : Gd X B W n) (hi : PI X tg iter (tI B W src))
    (hg : ∀ s H C cl fp H0 F0 ow np, PG (X.blk s H scope (compEnvC scope cl C X.env) fp) tg (tG (B.at H0 F0 ow np) (own.map (·.2)) t))
    (ht : ∀ s H C cl fp H0 F0 ow np, Gd (X.blk s H scope (compEnvC scope cl C X.env) fp) (B.at H0 F0 ow np) WF n → PTs (X.blk s H scope (compEnvC scope cl C X.env) fp) ifs (tT (B.at H0 F0 ow np) WF tt))
    (he : ∀ s H C cl fp H0 F0 ow np, Gd (X.blk s H scope (compEnvC scope cl C X.env) fp) (B.at H0 F0 ow np) WF n → PE (X.blk s H scope (compEnvC scope cl C X.env) fp) elt (tE (B.at H0 F0 ow np) WF (kP B.K B) m))
    (hp : B.md i = .p := by rfl) (hv : ((own.map (·.2)).all fun i => decide (B.md i = .p)) = true := by rfl) (hx : ((own.map (·.2)).all fun i => (B.xs i).isNone) = true := by rfl) (ok : blkC X.N X.env.scope scope own = true := by rfl) (hs : ∀ x, foldedSetIterable iter X.env x = pure x := by intro _; rfl)
    (hy : X.N[i]? = some y := by rfl) (hyl : X.env.scope.names.lookup y = some .local := by rfl) (hsw : swapsWith (.ListComp elt [⟨tg, iter, ifs, 0⟩] scope pos) (some (.Name y py)) spos.line X.env = pure true := by exact sw_true rfl rfl rfl rfl) :
    PS X (.Assign [.Name y py] (.ListComp elt [⟨tg, iter, ifs, 0⟩] scope pos) spos) (tS B W k (mAsg i (eLc (own.map (·.2)) src t tt m))) := b_asgLcR (rk := false) i own g (fun h => asg_in hp h) hi hg ht he hv hx ok hs hy hyl hsw
theorem b_asgLcO {k : RK} {y : Str} (i : Nat) (own : List (Str × Nat)) (g : Gd X B W n) (hi : PI X tg iter (tI B W src))
    (hg : ∀ s H C cl fp H0 F0 ow np, PG (X.blk s H scope (compEnvC scope cl C X.env) fp) tg (tG (B.at H0 F0 ow np) (own.map (·.2)) t))
    (ht : ∀ s H C cl fp H0 F0 ow np, Gd (X.blk s H scope (compEnvC scope cl C X.env) fp) (B.at H0 F0 ow np) WF n → PTs (X.blk s H scope (compEnvC scope cl C X.env) fp) ifs (tT (B.at H0 F0 ow np) WF tt))
    (he : ∀ s H C cl fp H0 F0 ow np, Gd (X.blk s H scope (compEnvC scope cl C X.env) fp) (B.at H0 F0 ow np) WF n → PE (X.blk s H scope (compEnvC scope cl C X.env) fp) elt (tE (B.at H0 F0 ow np) WF (kP B.K B) m))
    (ho : B.md i = .o := by rfl) (hnp : B.np ≤ i := by exact Nat.le_of_ble_eq_true rfl) (hv : ((own.map (·.2)).all fun i => decide (B.md i = .p)) = true := by rfl) (hx : ((own.map (·.2)).all fun i => (B.xs i).isNone) = true := by rfl) (ok : blkC X.N X.env.scope scope own = true := by rfl) (hs : ∀ x, foldedSetIterable iter X.env x = pure x := by intro _; rfl)
    (hy : X.N[i]? = some y := by rfl) (hyl : X.env.scope.names.lookup y = some .local := by rfl) (hsw : swapsWith (.ListComp elt [⟨tg, iter, ifs, 0⟩] scope pos) (some (.Name y py)) spos.line X.env = pure true := by exact sw_true rfl rfl rfl rfl) :
    PS X (.Assign [.Name y py] (.ListComp elt [⟨tg, iter, ifs, 0⟩] scope pos) spos) (tS B W k (mAsg i (eLc (own.map (·.2)) src t tt m))) := b_asgLcR (rk := true) i own g (fun h => asgO_in ho hnp h) hi hg ht he hv hx ok hs hy hyl hsw
/-- a body that is not looked into -/
theorem bs_no {st : List Stmt} {k : RK} : PSs X st (tS B W k fun _ => .no) := ⟨fun pins s σ H D I h => by
  obtain ⟨_, _, _, _, h⟩ := h
  exact h.elim⟩
end
section
variable {P : Program} {w : World} {K : PySem.W.Frag} {mg : Str → Option Value} {base : Heap} {cd : CD} {k n : Nat} {x : Str} {pm : List Md} {rk : Bool} {fn : List D → FR} {f : Addr} {fd : FuncData} {ps : List Str}
theorem DefOk.of (F : FnOk P w K mg base (L2.CX P w) k f fd ps (spM K cd pm rk fn)) (hm : mg x = some (.ref f)) (kp : PySem.W.keepIn K (.ref f) = true) (hb : Binds K fd ps []) : DefOk P w K mg base cd k x pm rk [] fn := ⟨f, fd, ps, [], [], F, hm, kp, hb, .nil, fun _ => repL_nil⟩
theorem MethOk.of {c : Nat} {I : CI} (F : FnOk P w K mg base (L2.CX P w) k f fd ps (spM K cd (.p :: pm) rk fn)) (hI : cd c = some I) (cl : Cls K I.C) (hm : Meth K I.C x f) (hx : x ∉ I.ns) (hb : Binds K fd ps []) : MethOk P w K mg base cd k c x pm rk [] fn := ⟨f, fd, ps, [], [], I, F, hI, cl, hm, hx, hb, .nil, fun _ => repL_nil⟩
theorem FldOk.one {f : Str} {fx : Nat → Option Nat} (h : ∀ c j, fx c = some j → ∃ I, cd c = some I ∧ Cls K I.C ∧ NoAttr K I.C f ∧ I.ns[j]? = some f ∧ I.ns.Nodup) : FldOk K cd f fx := h
end
end Mi

set_option Elab.async false
set_option linter.all false
set_option maxRecDepth 100000
namespace Mi
open PySem L2 ClX
abbrev Tab (β : Type) := List (Nat × β)
def Tab.at {β : Type} (l : Tab β) (c : Nat) : Option β := match l with
  | [] => none
  | (k, v) :: r => if c = k then some v else Tab.at r c
section
variable {K : PySem.W.Frag} {cd : CD} {f : Str} {I : CI} {c j : Nat} {l : Tab Nat}
theorem FldOk.nil : FldOk K cd f (Tab.at []) := fun c j h => by cases h
theorem FldOk.cons (hI : cd c = some I) (cl : Cls K I.C) (na : NoAttr K I.C f) (hn : I.ns[j]? = some f) (hd : I.ns.Nodup) (r : FldOk K cd f (Tab.at l)) : FldOk K cd f (Tab.at ((c, j) :: l)) := fun c' j' h => by
  simp only [Tab.at] at h
  split at h
  · rename_i e
    subst e
    cases h
    exact ⟨I, hI, cl, na, hn, hd⟩
  · exact r c' j' h
theorem XfOk.nil : XfOk K cd f (Tab.at []) := fun c j h => by cases h
theorem XfOk.cons (hI : cd c = some I) (cl : XfC K I.C) (na : PySem.W.findIn K (.ref I.C) f = some none) (hn : I.ns[j]? = some f) (hd : I.ns.Nodup) (r : XfOk K cd f (Tab.at l)) : XfOk K cd f (Tab.at ((c, j) :: l)) := fun c' j' h => by
  simp only [Tab.at] at h
  split at h
  · rename_i e
    subst e
    cases h
    exact ⟨I, hI, cl, na, hn, hd⟩
  · exact r c' j' h
theorem Caught.nil {v : Value} : Caught K cd v (Tab.at []) := fun c j h => by cases h
theorem Caught.cons {v : Value} {b : Bool} {l : Tab Bool} (hI : cd c = some I) (e : PySem.W.exmOne K (.ref I.C) v = some b) (r : Caught K cd v (Tab.at l)) : Caught K cd v (Tab.at ((c, b) :: l)) := fun c' j' h => by
  simp only [Tab.at] at h
  split at h
  · rename_i e
    subst e
    cases h
    exact ⟨I, hI, by assumption⟩
  · exact r c' j' h
def IcOk (K : PySem.W.Frag) (cd : CD) (u : Value) (ct : Nat → Option Bool) : Prop := ∀ c b, ct c = some b → ∃ I, cd c = some I ∧ ICls K I.C ∧ PySem.W.kitOne K (.ref I.C) u = some b
theorem IcOk.nil {u : Value} : IcOk K cd u (Tab.at []) := fun c j h => by cases h
theorem IcOk.cons {u : Value} {b : Bool} {l : Tab Bool} (hI : cd c = some I) (i : ICls K I.C) (e : PySem.W.kitOne K (.ref I.C) u = some b) (r : IcOk K cd u (Tab.at l)) : IcOk K cd u (Tab.at ((c, b) :: l)) := fun c' j' h => by
  simp only [Tab.at] at h
  split at h
  · rename_i e
    subst e
    cases h
    exact ⟨I, hI, i, by assumption⟩
  · exact r c' j' h
theorem IcOk.isi {u : Value} {ct : Nat → Option Bool} (h : IcOk K cd u ct) (hb : ∀ T ∈ ["NoneType", "bool", "int", "str", "tuple", "list", "dict"], PySem.W.kitOne K (.type T) u = some false) : ∀ B : Bs, B.K = K → B.cd = cd → IsiOk B u (isiC ct) := fun B e1 e2 => by
  subst e1 e2
  exact isi_cls h hb
def NfOk (K : PySem.W.Frag) (cd : CD) (C : Addr) (cs : Nat → Bool) : Prop := ∀ c', cs c' = true → ∃ I', cd c' = some I' ∧ PySem.W.notFirst K C (.ref I'.C) = true
theorem NfOk.nil {C : Addr} : NfOk K cd C fun _ => false := fun c h => by cases h
theorem NfOk.cons {C : Addr} {cs : Nat → Bool} (hI : cd c = some I) (e : PySem.W.notFirst K C (.ref I.C) = true) (r : NfOk K cd C cs) : NfOk K cd C fun c' => if c' = c then true else cs c' := fun c' h => by
  simp only at h
  split at h
  · rename_i e
    subst e
    exact ⟨I, hI, by assumption⟩
  · exact r c' h
end
theorem kbn_of {K : PySem.W.Frag} {fd : FuncData} {ps : List Str} {n : Nat} {dvs : List V} {ds : List Value} (hb : Binds K fd ps ds) (hd : Vals dvs ds) (hn : n + ds.length = ps.length) : KBn K fd ps n [] (fun us _ => us ++ ds) (fun vs _ => vs ++ dvs) :=
  ⟨fun s us ws X l1 l2 => by
    have e : ws = [] := List.length_eq_zero_iff.mp l2
    subst e
    exact hb s us X (by rw [List.length_append]; omega), fun r _ => r.append hd⟩
end Mi
namespace Mi
open PySem L2 ClX
theorem vals_take {vs : List V} {us : List Value} (r : Vals vs us) : ∀ n : Nat, Vals (vs.take n) (us.take n) := fun n => by
  induction r generalizing n with
  | nil => simp only [List.take_nil]; exact .nil
  | cons h r ih =>
    cases n with
    | zero => simp only [List.take_zero]; exact .nil
    | succ n => simp only [List.take_succ_cons]; exact .cons h (ih n)
/-- one of them -/
abbrev pk {α : Type} (xs : List α) (i : Nat) : List α := (xs.drop i).take 1
theorem vals_pk {vs : List V} {us : List Value} (r : Vals vs us) (i : Nat) : Vals (pk vs i) (pk us i) := vals_take (r.drop i) 1
theorem repL_pk {K : PySem.W.Frag} {cd : CD} {F : Hp} {ds : List D} {vs : List V} (h : RepL K cd F ds vs) (i : Nat) : RepL K cd F (pk ds i) (pk vs i) := repL_take 1 (repL_drop i h)
end Mi

set_option Elab.async false
set_option linter.all false
set_option maxRecDepth 100000
namespace Mi
open PySem L2
section
variable {ρ : Env} {i j n c : Nat} {d x y : D} {m l ma mb mc mk : Env → R D} {ml mu : Env → R (Option Int)} {t tt : Env → R Bool} {a b : Env → R Flow} {ms mr : Env → R (List D)} {f f' : D → D → Option D} {u : D → Option D} {g : List D → Option D} {fn : List D → FR} {sh : List (Option Nat)} {pm : List Md} {ds dds : List D} {vs : List Nat} {tg : D → Env → Option Env}
@[simp] theorem ev_var : eVar i ρ = match ρ[i]? with | some (some d) => .ok d ρ | _ => .no := (rfl)
@[simp] theorem ev_move : eMove i ρ = match ρ[i]? with | some (some d) => .ok d (ρ.set i none) | _ => .no := (rfl)
@[simp] theorem ev_c : eC d ρ = .ok d ρ := (rfl)
@[simp] theorem ev_2 : e2 f ma mb ρ = (ma ρ).bind fun x ρ1 => (mb ρ1).bind fun y ρ2 => opt (f x y) ρ2 := (rfl)
@[simp] theorem ev_1 : e1 u ma ρ = (ma ρ).bind fun x ρ1 => opt (u x) ρ1 := (rfl)
@[simp] theorem ev_B : eB g ms ρ = (ms ρ).bind fun x ρ1 => opt (g x) ρ1 := (rfl)
@[simp] theorem ev_nil : aNil ρ = .ok [] ρ := (rfl)
@[simp] theorem ev_cons : aCons ma mr ρ = (ma ρ).bind fun d ρ1 => (mr ρ1).bind fun ds ρ2 => .ok (d :: ds) ρ2 := (rfl)
@[simp] theorem ev_slot : aSlot i mr ρ = match ρ[i]? with | some (some _) => mr ρ | _ => .no := (rfl)
@[simp] theorem ev_tup : eTup ms ρ = (ms ρ).bind fun ds ρ1 => lim (ds.length ≤ LIM) (.tup ds) ρ1 := (rfl)
@[simp] theorem ev_lst : eLst ms ρ = (ms ρ).bind fun ds ρ1 => lim (ds.length ≤ LIM) (.lst ds) ρ1 := (rfl)
@[simp] theorem ev_lim {ρ : Env} {cc : Bool} : lim cc d ρ = if cc = true then .ok d ρ else .no := (rfl)
@[simp] theorem ev_vw : eVw m ρ = match m ρ with | .ok d _ => (if scal d = true then .ok d ρ else .no) | .ex c fs _ => (if fs.all scal = true then .ex c fs ρ else .no) | .no => .no := (rfl)
@[simp] theorem ev_tvw : tVw t ρ = match t ρ with | .ok d _ => .ok d ρ | .ex c fs _ => (if fs.all scal = true then .ex c fs ρ else .no) | .no => .no := (rfl)
@[simp] theorem ev_truth : mTruth m ρ = (m ρ).bind fun d ρ1 => opt (truD d) ρ1 := (rfl)
@[simp] theorem ev_bool : mBool m ρ = (m ρ).bind fun d ρ1 => match d with | .bl b => .ok b ρ1 | _ => .no := (rfl)
@[simp] theorem ev_not : mNot t ρ = (t ρ).bind fun b ρ1 => .ok (!b) ρ1 := (rfl)
@[simp] theorem ev_and : mAnd t tt ρ = (t ρ).bind fun b ρ1 => if b = true then tt ρ1 else .ok false ρ1 := (rfl)
@[simp] theorem ev_or : mOr t tt ρ = (t ρ).bind fun b ρ1 => if b = true then .ok true ρ1 else tt ρ1 := (rfl)
@[simp] theorem ev_yes : tYesM ρ = .ok true ρ := (rfl)
@[simp] theorem ev_if : eIf t m l ρ = (t ρ).bind fun b ρ1 => if b = true then m ρ1 else l ρ1 := (rfl)
@[simp] theorem ev_eand : eAnd m l ρ = (m ρ).bind fun d ρ1 => match d with | .bl b => (if b = true then l ρ1 else .ok (.bl false) ρ1) | _ => .no := (rfl)
@[simp] theorem ev_eor : eOr m l ρ = (m ρ).bind fun d ρ1 => match d with | .bl b => (if b = true then .ok (.bl true) ρ1 else l ρ1) | _ => .no := (rfl)
@[simp] theorem ev_enot : eNot m ρ = (m ρ).bind fun d ρ1 => match d with | .bl b => .ok (.bl (!b)) ρ1 | _ => .no := (rfl)
@[simp] theorem ev_chain : eChain f f' ma mb mc ρ = (ma ρ).bind fun x ρ1 => (mb ρ1).bind fun y ρ2 => match f x y with | some (.bl b) => (if b = true then (mc ρ2).bind fun z ρ3 => opt (f' y z) ρ3 else .ok (.bl false) ρ2) | _ => .no := (rfl)
@[simp] theorem ev_seq : mSeq a b ρ = (a ρ).bind fun fl ρ1 => match fl with | .nx => b ρ1 | f => .ok f ρ1 := (rfl)
@[simp] theorem ev_mif : mIf t a b ρ = (t ρ).bind fun c ρ1 => if c = true then a ρ1 else b ρ1 := (rfl)
@[simp] theorem ev_asg : mAsg i m ρ = (m ρ).bind fun d ρ1 => .ok .nx (ρ1.set i (some d)) := (rfl)
@[simp] theorem ev_exp : mExp m ρ = (m ρ).bind fun _ ρ1 => .ok .nx ρ1 := (rfl)
@[simp] theorem ev_ret : mRet m ρ = (m ρ).bind fun d ρ1 => .ok (.rt d) ρ1 := (rfl)
@[simp] theorem ev_retN : mRetN ρ = .ok (.rt .non) ρ := (rfl)
@[simp] theorem ev_nx : mNx ρ = .ok .nx ρ := (rfl)
@[simp] theorem ev_bk : mBk ρ = .ok .bk ρ := (rfl)
@[simp] theorem ev_ct : mCt ρ = .ok .ct ρ := (rfl)
@[simp] theorem ev_call : eCall fn sh pm dds ms ρ = (ms ρ).bind fun ds ρ1 => match fill sh ds ρ1 with | some as => callR fn sh pm (as ++ dds) ρ1 | none => .no := (rfl)
@[simp] theorem ev_callR : callR fn sh pm ds ρ = match fn ds with | .ok d out => .ok d (put sh pm out ρ) | .ex c fs out => .ex c fs (put sh pm out ρ) | .no => .no := (rfl)
@[simp] theorem ev_meth : eMeth c fn sh pm dds m ms ρ = (m ρ).bind fun x ρ0 => match x with | .obj c' fs => (if c' = c then (ms ρ0).bind fun ds ρ1 => match fill sh ds ρ1 with | some as => callR fn (none :: sh) (.p :: pm) (.obj c' fs :: (as ++ dds)) ρ1 | none => .no else .no) | _ => .no := by
  unfold eMeth
  cases m ρ with
  | ok x ρ0 => cases x <;> rfl
  | _ => rfl
@[simp] theorem ev_inst : eInst c n fn m ms ρ = (m ρ).bind fun x ρ0 => match x with | .obj c' fs => (if c' = c then (ms ρ0).bind fun ds ρ1 => if ds.length + 1 = n then (match fn (.obj c' fs :: ds) with | .ok d _ => .ok d ρ1 | .ex c2 fs _ => .ex c2 fs ρ1 | .no => .no) else .no else .no) | _ => .no := by
  unfold eInst
  cases m ρ with
  | ok x ρ0 => cases x <;> rfl
  | _ => rfl
@[simp] theorem ev_make {gD : List D → List D} : eMake c n j gD fn ms mr ρ = (ms ρ).bind fun ds ρ1 => (mr ρ1).bind fun es ρ2 => if ds.length = n ∧ es.length = j then (match fn (.obj c [] :: gD (ds ++ es)) with | .ok .non (some d) => .ok d ρ2 | .ex c' fs _ => .ex c' fs ρ2 | _ => .no) else .no := (rfl)
@[simp] theorem ev_setIx : mSetIx i m l ρ = (m ρ).bind fun d ρ1 => match ρ1[i]? with | some (some (.lst _)) => (l ρ1).bind fun j ρ2 => (match ρ2[i]?, j with | some (some (.lst xs)), .int k => (match ixN xs.length k with | some j => .ok .nx (ρ2.set i (some (.lst (xs.set j d)))) | none => .no) | _, _ => .no) | _ => .no := (rfl)
@[simp] theorem ev_fset : mFset i c j m ρ = (m ρ).bind fun d ρ1 => match ρ1[i]? with | some (some (.obj c' ds)) => (if c' = c ∧ j ≤ ds.length then .ok .nx (ρ1.set i (some (.obj c (setA ds j d)))) else .no) | _ => .no := (rfl)
@[simp] theorem ev_app : mApp i m ρ = match ρ[i]? with | some (some (.lst _)) => ((m ρ).bind fun d ρ1 => match ρ1[i]? with | some (some (.lst xs)) => (if xs.length < LIM then .ok .nx (ρ1.set i (some (.lst (xs ++ [d])))) else .no) | _ => .no) | _ => .no := (rfl)
@[simp] theorem ev_raise {xf : List D → Option (List D)} : mRaise c xf ms ρ = (ms ρ).bind fun ds ρ1 => match xf ds with | some fs => .ex c fs ρ1 | none => .no := (rfl)
@[simp] theorem ev_asgT : mAsgT tg m ρ = (m ρ).bind fun d ρ1 => match tg d ρ1 with | some ρ2 => .ok .nx ρ2 | none => .no := (rfl)
@[simp] theorem ev_gtName : gtName i d ρ = some (ρ.set i (some d)) := (rfl)
@[simp] theorem ev_gtTup {r : List D → Env → Option Env} : gtTup n r (.tup ds) ρ = if ds.length = n then r ds ρ else none := (rfl)
@[simp] theorem ev_gsNil : gsNil [] ρ = some ρ := (rfl)
@[simp] theorem ev_gsCons {r : List D → Env → Option Env} : gsCons tg r (d :: ds) ρ = (tg d ρ).bind fun ρ1 => r ds ρ1 := (rfl)
@[simp] theorem ev_iLst : iLst m ρ = (m ρ).bind fun d ρ1 => match d with | .lst xs => .ok xs ρ1 | .tup xs => .ok xs ρ1 | _ => .no := (rfl)
@[simp] theorem ev_iR1 : iR1 m ρ = (m ρ).bind fun d ρ1 => match d with | .int j => (if rgSm j = true then .ok (rngD 0 j.toNat) ρ1 else .no) | _ => .no := (rfl)
@[simp] theorem ev_iR2 : iR2 m l ρ = (m ρ).bind fun d ρ1 => (l ρ1).bind fun d2 ρ2 => match d, d2 with | .int i, .int j => (if rgSm i = true ∧ rgSm j = true then .ok (rngD i (j - i).toNat) ρ2 else .no) | _, _ => .no := (rfl)
@[simp] theorem ev_for {src : Env → R (List D)} : mFor src tg a ρ = (src ρ).bind fun ds ρ1 => loopL tg a ds ρ1 := (rfl)
@[simp] theorem ev_lc {src : Env → R (List D)} : eLc vs src tg t m ρ = (src ρ).bind fun ds ρ1 => (loopC tg t m vs ds (wipeE ρ1 vs) []).bind fun xs ρ2 => .ok (.lst xs) (backE ρ1 ρ2 vs) := (rfl)
@[simp] theorem ev_try {ct : Nat → Option Bool} {mh : Nat → List D → Env → R Flow} : mTry i ct a mh ρ = match a ρ with | .ex c fs ρ1 => (match ct c with | some true => wipe1 i (noxS (mh c fs (ρ1.set i none))) | some false => .ex c fs ρ1 | none => .no) | r => r := (rfl)
@[simp] theorem ev_xf {fx : Nat → Option Nat} : eXf i fx c ds ρ = match ρ[i]? with | some none => (match fx c with | some j => opt ds[j]? ρ | none => .no) | _ => .no := (rfl)
@[simp] theorem ev_oNone : oNone ρ = .ok none ρ := (rfl)
@[simp] theorem ev_oSome : oSome m ρ = (m ρ).bind fun d ρ1 => match d with | .int i => .ok (some i) ρ1 | _ => .no := (rfl)
@[simp] theorem ev_sl : eSl m ml mu ρ = (m ρ).bind fun d ρ1 => (ml ρ1).bind fun l ρ2 => (mu ρ2).bind fun u ρ3 => opt (dSl l u d) ρ3 := (rfl)
@[simp] theorem ev_wipe1 {fl : Flow} : wipe1 i (.ok fl ρ) = .ok fl (ρ.set i none) := (rfl)
@[simp] theorem ev_noxS {fl : Flow} : noxS (.ok fl ρ) = .ok fl ρ := (rfl)
@[simp] theorem ev_nox {α : Type} {x : α} : (R.ok x ρ).nox = .ok x ρ := (rfl)
@[simp] theorem loopL_nil : loopL tg a [] ρ = .ok .nx ρ := (rfl)
theorem loopL_cons : loopL tg a (d :: ds) ρ = match tg d ρ with | none => .no | some ρ1 => (a ρ1).bind fun fl ρ2 => match fl with | .nx => loopL tg a ds ρ2 | .ct => loopL tg a ds ρ2 | .bk => .ok .nx ρ2 | .rt v => .ok (.rt v) ρ2 := (rfl)
@[simp] theorem loopC_nil {acc : List D} : loopC tg t m vs [] ρ acc = .ok acc ρ := (rfl)
theorem loopC_cons {acc : List D} : loopC tg t m vs (d :: ds) ρ acc = match tg d ρ with | none => .no | some ρ1 => (t ρ1).nox.bind fun b ρ2 => if b = true then (m ρ2).nox.bind fun x ρ3 => if acc.length < LIM then loopC tg t m vs ds (wipeE ρ3 vs) (acc ++ [x]) else .no else loopC tg t m vs ds (wipeE ρ2 vs) acc := (rfl)
end
end Mi

set_option Elab.async false
set_option linter.all false
set_option maxRecDepth 100000
namespace Mi
open PySem L2
section
variable {i j : Int} {x y : Str} {xs ys ds es : List D} {d e : D} {b c : Bool} {k : Nat} {neg : Bool}
@[simp] theorem dAdd_int : dAdd (.int i) (.int j) = some (.int (i + j)) := (rfl)
@[simp] theorem dAdd_lst : dAdd (.lst xs) (.lst ys) = if xs.length + ys.length ≤ LIM then some (.lst (xs ++ ys)) else none := (rfl)
@[simp] theorem dAdd_tup : dAdd (.tup xs) (.tup ys) = if xs.length + ys.length ≤ LIM then some (.tup (xs ++ ys)) else none := (rfl)
@[simp] theorem dAdd_str : dAdd (.str x) (.str y) = if x.length + y.length ≤ LIM then some (.str (x ++ y)) else none := (rfl)
@[simp] theorem dSub_int : dSub (.int i) (.int j) = some (.int (i - j)) := (rfl)
@[simp] theorem dMul_int : dMul (.int i) (.int j) = if mulOk i j then some (.int (i * j)) else none := (rfl)
@[simp] theorem dFdv_int : dFdv (.int i) (.int j) = if divOk j then some (.int (i / j)) else none := (rfl)
@[simp] theorem dMod_int : dMod (.int i) (.int j) = if 0 < j then some (.int (i % j)) else none := (rfl)
@[simp] theorem dPow_int : dPow (.int i) (.int j) = if powOk i j then some (.int (i ^ j.toNat)) else none := (rfl)
@[simp] theorem dCmp_int {p : Int → Int → Bool} : dCmp p (.int i) (.int j) = some (.bl (p i j)) := (rfl)
theorem shp_of {p : PyData} (h : p.canLay0 = true) (h2 : p.depth ≤ 64) : SeqAt.shaped p = true := by
  unfold SeqAt.shaped; rw [h, decide_eq_true h2]; rfl
@[simp] theorem dEq_int : dEqB neg (.int i) (.int j) = some (.bl (if neg then !(i == j) else i == j)) := by
  simp [dEqB, toPy, SeqAt.shaped, PyData.canLay0, PyData.depth, PyData.eqv]
@[simp] theorem dEq_bl : dEqB neg (.bl b) (.bl c) = some (.bl (if neg then !(b == c) else b == c)) := by
  simp [dEqB, toPy, SeqAt.shaped, PyData.canLay0, PyData.depth, PyData.eqv]
@[simp] theorem dEq_non : dEqB neg .non .non = some (.bl (if neg then false else true)) := by
  simp [dEqB, toPy, SeqAt.shaped, PyData.canLay0, PyData.depth, PyData.eqv]
@[simp] theorem dEq_non_int : dEqB neg .non (.int i) = some (.bl (if neg then true else false)) := by
  simp [dEqB, toPy, SeqAt.shaped, PyData.canLay0, PyData.depth, PyData.eqv]
@[simp] theorem dEq_int_non : dEqB neg (.int i) .non = some (.bl (if neg then true else false)) := by
  simp [dEqB, toPy, SeqAt.shaped, PyData.canLay0, PyData.depth, PyData.eqv]
@[simp] theorem dIs_non : dIs d .non = some (.bl (isNon d)) := by cases d <;> exact (rfl)
@[simp] theorem dIsNot_non : dIsNot d .non = some (.bl (!isNon d)) := by cases d <;> exact (rfl)
@[simp] theorem isNon_non : isNon .non = true := (rfl)
@[simp] theorem isNon_int : isNon (.int i) = false := (rfl)
@[simp] theorem isNon_bl : isNon (.bl b) = false := (rfl)
@[simp] theorem isNon_str : isNon (.str x) = false := (rfl)
@[simp] theorem isNon_tup : isNon (.tup xs) = false := (rfl)
@[simp] theorem isNon_lst : isNon (.lst xs) = false := (rfl)
@[simp] theorem isNon_obj : isNon (.obj k xs) = false := (rfl)
@[simp] theorem truD_bl : truD (.bl b) = some b := (rfl)
@[simp] theorem truD_non : truD .non = some false := (rfl)
@[simp] theorem truD_int : truD (.int i) = some (i != 0) := (rfl)
@[simp] theorem truD_lst : truD (.lst xs) = some (!xs.isEmpty) := (rfl)
@[simp] theorem truD_tup : truD (.tup xs) = some (!xs.isEmpty) := (rfl)
@[simp] theorem scal_int : scal (.int i) = true := (rfl)
@[simp] theorem scal_bl : scal (.bl b) = true := (rfl)
@[simp] theorem scal_str : scal (.str x) = true := (rfl)
@[simp] theorem scal_non : scal .non = true := (rfl)
theorem ixN_nat {n k : Nat} (h : k < n) : ixN n (k : Int) = some k := by
  unfold ixN
  rw [if_pos (by omega), if_pos (by omega)]
  simp
theorem atI_nat {xs : List D} {k : Nat} : atI xs (k : Int) = xs[k]? := by
  unfold atI
  by_cases h : k < xs.length
  · rw [ixN_nat h]; rfl
  · have : ixN xs.length (k : Int) = none := by
      unfold ixN
      rw [if_pos (by omega), if_neg (by omega)]
    rw [this, List.getElem?_eq_none (by omega)]; rfl
@[simp] theorem atI_lit {xs : List D} {k : Nat} : atI xs (no_index (OfNat.ofNat k)) = xs[k]? := atI_nat
@[simp] theorem rgSm_lit {k : Nat} : rgSm (no_index (OfNat.ofNat k)) = decide (k < 4611686018427387904) := by
  show rgSm (k : Int) = _
  unfold rgSm
  rw [Int.natAbs_natCast]
theorem rgSm_len {n : Nat} (h : n ≤ LIM) : rgSm (n : Int) = true := by
  have e : LIM = 1000000 := (rfl)
  rw [e] at h
  exact rgSm_of (by omega)
@[simp] theorem ixN_lit {n k : Nat} : ixN n (no_index (OfNat.ofNat k)) = if k < n then some k else none := by
  by_cases h : k < n
  · rw [if_pos h]; exact ixN_nat h
  · rw [if_neg h]
    show ixN n (k : Int) = none
    unfold ixN
    rw [if_pos (by omega), if_neg (by omega)]
@[simp] theorem dIx_lst : dIx (.lst xs) (.int i) = atI xs i := (rfl)
@[simp] theorem dIx_tup : dIx (.tup xs) (.int i) = atI xs i := (rfl)
@[simp] theorem fLen_lst : fLen [.lst xs] = some (.int xs.length) := (rfl)
@[simp] theorem fLen_tup : fLen [.tup xs] = some (.int xs.length) := (rfl)
@[simp] theorem fLen_str : fLen [.str x] = if x.length ≤ LIM then some (.int x.length) else none := (rfl)
@[simp] theorem fAbs_int : fAbs [.int i] = some (.int (if i < 0 then -i else i)) := (rfl)
@[simp] theorem fInt_int : fInt [.int i] = some (.int i) := (rfl)
@[simp] theorem fInt_bl : fInt [.bl b] = some (.int (if b then 1 else 0)) := (rfl)
@[simp] theorem fDivmod_int : fDivmod [.int i, .int j] = if 0 < j ∧ j < 1073741824 then some (.tup [.int (i / j), .int (i % j)]) else none := (rfl)
@[simp] theorem fTup_lst : fTup [.lst xs] = some (.tup xs) := (rfl)
@[simp] theorem fTup_tup : fTup [.tup xs] = some (.tup xs) := (rfl)
@[simp] theorem fList_lst : fList [.lst xs] = some xs := (rfl)
@[simp] theorem fList_tup : fList [.tup xs] = some xs := (rfl)
@[simp] theorem fList_scr {ns : List Int} : fList [.scr ns] = some (ns.map .int) := (rfl)
@[simp] theorem fAll_lst : fAll [.lst xs] = (blsOf xs).map fun bs => .bl (bs.all id) := (rfl)
@[simp] theorem fAny_lst : fAny [.lst xs] = (blsOf xs).map fun bs => .bl (bs.any id) := (rfl)
theorem blsOf_map {bs : List Bool} : blsOf (bs.map .bl) = some bs := by
  induction bs with
  | nil => rfl
  | cons b bs ih => simp [blsOf, ih]
@[simp] theorem dFld_obj {fx : Nat → Option Nat} : dFld fx (.obj k xs) = match fx k with | some j => xs[j]? | none => none := (rfl)
@[simp] theorem fill_nil {ρ : Env} : fill [] [] ρ = some [] := (rfl)
@[simp] theorem fill_p {ρ : Env} {sh : List (Option Nat)} : fill (none :: sh) (d :: ds) ρ = (fill sh ds ρ).map (d :: ·) := (rfl)
@[simp] theorem fill_o {ρ : Env} {sh : List (Option Nat)} : fill (some k :: sh) ds ρ = match ρ[k]? with | some (some d) => (fill sh ds ρ).map (d :: ·) | _ => none := by cases ds <;> exact (rfl)
@[simp] theorem put_nil {pm : List Md} {ρ : Env} {o : Option D} : put [] pm o ρ = ρ := by cases pm <;> exact (rfl)
@[simp] theorem put_p {sh : List (Option Nat)} {pm : List Md} {ρ : Env} {o : Option D} {q : Option Nat} : put (q :: sh) (.p :: pm) o ρ = put sh pm o ρ := by cases q <;> exact (rfl)
@[simp] theorem put_o {sh : List (Option Nat)} {pm : List Md} {ρ : Env} : put (some k :: sh) (.o :: pm) (some d) ρ = ρ.set k (some d) := (rfl)
@[simp] theorem outOf_o {pm : List Md} {ρ : Env} {o : Option D} : outOf (.o :: pm) (o :: ρ) = o := (rfl)
@[simp] theorem outOf_p {pm : List Md} {ρ : Env} {o : Option D} : outOf (.p :: pm) (o :: ρ) = outOf pm ρ := (rfl)
@[simp] theorem outOf_nil {ρ : Env} : outOf [] ρ = none := by cases ρ <;> exact (rfl)
@[simp] theorem wipeE_nil {ρ : Env} : wipeE ρ [] = ρ := (rfl)
@[simp] theorem wipeE_cons {ρ : Env} {v : Nat} {vs : List Nat} : wipeE ρ (v :: vs) = (wipeE ρ vs).set v none := (rfl)
@[simp] theorem backE_nil {ρ ρ' : Env} : backE ρ ρ' [] = ρ' := (rfl)
@[simp] theorem backE_cons {ρ ρ' : Env} {v : Nat} {vs : List Nat} : backE ρ ρ' (v :: vs) = (backE ρ ρ' vs).set v (match ρ[v]? with | some o => o | none => none) := (rfl)
theorem setA_lt (h : k < xs.length) : setA xs k d = xs.set k d := if_pos h
@[simp] theorem X1_ok {mt : Env → R D} : X1 mt [d] = match mt [none, some d] with | .ok _ _ => some [d] | _ => none := (rfl)
@[simp] theorem X2_ok {mt : Env → R D} : X2 mt [d, e] = match mt [none, some d, some e] with | .ok _ _ => some [e, d] | _ => none := (rfl)
theorem loopC_filter {tg : D → Env → Option Env} {t : Env → R Bool} {m : Env → R D} {vs : List Nat} {ρ : Env} (p : D → Bool) (f : D → D) : ∀ {ds : List D} {acc : List D}, (∀ d ∈ ds, ∃ ρ1 ρ2, tg d ρ = some ρ1 ∧ t ρ1 = .ok (p d) ρ2 ∧ ((p d = true ∧ ∃ ρ3, m ρ2 = .ok (f d) ρ3 ∧ wipeE ρ3 vs = ρ) ∨ (p d = false ∧ wipeE ρ2 vs = ρ))) → acc.length + ds.length ≤ LIM →
    loopC tg t m vs ds ρ acc = .ok (acc ++ (ds.filter p).map f) ρ
  | [], acc, _, _ => by simp
  | d :: ds, acc, h, hl => by
    obtain ⟨ρ1, ρ2, h1, h2, h3⟩ := h d (by simp)
    simp only [List.length_cons] at hl
    rw [loopC_cons, h1]
    simp only [h2, ev_nox, R.bind_ok]
    rcases h3 with ⟨hp, ρ3, h4, h5⟩ | ⟨hp, h5⟩
    · rw [if_pos hp, h4]
      simp only [ev_nox, R.bind_ok]
      rw [if_pos (by omega), h5, loopC_filter p f (fun e he => h e (by simp [he])) (by simp only [List.length_append, List.length_singleton]; omega)]
      simp [hp]
    · rw [if_neg (by rw [hp]; simp), h5, loopC_filter p f (fun e he => h e (by simp [he])) (by omega)]
      simp [hp]
theorem loopC_map {tg : D → Env → Option Env} {m : Env → R D} {vs : List Nat} {ρ : Env} (f : D → D) {ds : List D} (h : ∀ d ∈ ds, ∃ ρ1 ρ3, tg d ρ = some ρ1 ∧ m ρ1 = .ok (f d) ρ3 ∧ wipeE ρ3 vs = ρ) (hl : ds.length ≤ LIM) :
    loopC tg tYesM m vs ds ρ [] = .ok (ds.map f) ρ := by
  have := loopC_filter (tg := tg) (t := tYesM) (m := m) (vs := vs) (ρ := ρ) (fun _ => true) f (ds := ds) (acc := []) (fun d hd => by
    obtain ⟨ρ1, ρ3, h1, h2, h3⟩ := h d hd
    exact ⟨ρ1, ρ1, h1, rfl, .inl ⟨rfl, ρ3, h2, h3⟩⟩) (by simpa using hl)
  rw [List.filter_eq_self.mpr (by simp), List.nil_append] at this
  exact this
/-- a comprehension that changes what one owns: by an invariant -/
theorem loopC_inv {tg : D → Env → Option Env} {m : Env → R D} {vs : List Nat} (I : Env → Prop) (P : D → Prop) : ∀ {ds : List D} {ρ : Env} {acc : List D}, (∀ d ∈ ds, ∀ ρ, I ρ → ∃ ρ1 x ρ3, tg d ρ = some ρ1 ∧ m ρ1 = .ok x ρ3 ∧ P x ∧ I (wipeE ρ3 vs)) → acc.length + ds.length ≤ LIM → I ρ → (∀ x ∈ acc, P x) →
    ∃ xs ρ', loopC tg tYesM m vs ds ρ acc = .ok xs ρ' ∧ (∀ x ∈ xs, P x) ∧ I ρ' ∧ xs.length = acc.length + ds.length
  | [], ρ, acc, _, _, hI, hP => ⟨acc, ρ, rfl, hP, hI, rfl⟩
  | d :: ds, ρ, acc, h, hl, hI, hP => by
    simp only [List.length_cons] at hl
    obtain ⟨ρ1, x, ρ3, h1, h2, h3, h4⟩ := h d (by simp) ρ hI
    obtain ⟨xs, ρ', e, g1, g2, g3⟩ := loopC_inv I P (ds := ds) (ρ := wipeE ρ3 vs) (acc := acc ++ [x]) (fun e he => h e (by simp [he])) (by simp only [List.length_append, List.length_singleton]; omega) h4 (fun y hy => by
      rcases List.mem_append.mp hy with z | z
      · exact hP y z
      · simp at z; subst z; exact h3)
    refine ⟨xs, ρ', ?_, g1, g2, by rw [g3]; simp; omega⟩
    rw [loopC_cons, h1]
    simp only [ev_yes, ev_nox, R.bind_ok, if_true, h2]
    rw [if_pos (by omega), e]
theorem loopL_inv {tg : D → Env → Option Env} {m : Env → R Flow} (I : Env → Prop) : ∀ {ds : List D} {ρ : Env}, (∀ d ∈ ds, ∀ ρ, I ρ → ∃ ρ1 ρ2, tg d ρ = some ρ1 ∧ m ρ1 = .ok .nx ρ2 ∧ I ρ2) → I ρ → ∃ ρ', loopL tg m ds ρ = .ok .nx ρ' ∧ I ρ'
  | [], ρ, _, hI => ⟨ρ, rfl, hI⟩
  | d :: ds, ρ, h, hI => by
    obtain ⟨ρ1, ρ2, h1, h2, h3⟩ := h d (by simp) ρ hI
    obtain ⟨ρ', e, g⟩ := loopL_inv I (ds := ds) (fun e he => h e (by simp [he])) h3
    refine ⟨ρ', ?_, g⟩
    rw [loopL_cons, h1]
    simp only [h2, R.bind_ok]
    exact e
/-- data that is equal to itself, piece by piece -/
def ScalD : D → Prop
  | .int _ => True
  | .bl _ => True
  | .non => True
  | .str x => PyData.canLay0 (.str x) = true
  | _ => False
def Good : Nat → D → Prop
  | 0, d => ScalD d
  | j + 1, d => ScalD d ∨ ∃ xs, (d = .tup xs ∨ d = .lst xs) ∧ xs.length < LIM ∧ ∀ x ∈ xs, Good j x
theorem Good.scal {j : Nat} {d : D} (h : ScalD d) : Good j d := by
  cases j with
  | zero => exact h
  | succ j => exact .inl h
theorem rngD_length {lo : Int} {n : Nat} : (rngD lo n).length = n := by simp [rngD]
theorem rngD_mem {lo : Int} {n : Nat} {d : D} (h : d ∈ rngD lo n) : ∃ i : Nat, i < n ∧ d = .int (lo + (i : Nat)) := by
  unfold rngD at h
  obtain ⟨i, h1, h2⟩ := List.mem_map.mp h
  exact ⟨i, List.mem_range.mp h1, h2.symm⟩
theorem dEq_str (h : PyData.canLay0 (.str x) = true) : dEqB false (.str x) (.str x) = some (.bl true) := by
  have e : SeqAt.shaped (.str x) = true := shp_of h (by simp [PyData.depth])
  simp [dEqB, toPy, e, PyData.eqv]
@[simp] theorem isi_tuple_int : isiB "tuple" (.int i) = some false := by
  show kitB "int" "tuple" = _
  decide +kernel
@[simp] theorem isi_tuple_bl : isiB "tuple" (.bl b) = some false := by
  show kitB "bool" "tuple" = _
  decide +kernel
@[simp] theorem isi_tuple_non : isiB "tuple" (.non) = some false := by
  show kitB "NoneType" "tuple" = _
  decide +kernel
@[simp] theorem isi_tuple_str : isiB "tuple" (.str x) = some false := by
  show kitB "str" "tuple" = _
  decide +kernel
@[simp] theorem isi_tuple_tup : isiB "tuple" (.tup xs) = some true := by
  show kitB "tuple" "tuple" = _
  decide +kernel
@[simp] theorem isi_tuple_lst : isiB "tuple" (.lst xs) = some false := by
  show kitB "list" "tuple" = _
  decide +kernel
@[simp] theorem isi_list_int : isiB "list" (.int i) = some false := by
  show kitB "int" "list" = _
  decide +kernel
@[simp] theorem isi_list_bl : isiB "list" (.bl b) = some false := by
  show kitB "bool" "list" = _
  decide +kernel
@[simp] theorem isi_list_non : isiB "list" (.non) = some false := by
  show kitB "NoneType" "list" = _
  decide +kernel
@[simp] theorem isi_list_str : isiB "list" (.str x) = some false := by
  show kitB "str" "list" = _
  decide +kernel
@[simp] theorem isi_list_tup : isiB "list" (.tup xs) = some false := by
  show kitB "tuple" "list" = _
  decide +kernel
@[simp] theorem isi_list_lst : isiB "list" (.lst xs) = some true := by
  show kitB "list" "list" = _
  decide +kernel
@[simp] theorem isi_bool_int : isiB "bool" (.int i) = some false := by
  show kitB "int" "bool" = _
  decide +kernel
@[simp] theorem isi_bool_bl : isiB "bool" (.bl b) = some true := by
  show kitB "bool" "bool" = _
  decide +kernel
@[simp] theorem isi_bool_non : isiB "bool" (.non) = some false := by
  show kitB "NoneType" "bool" = _
  decide +kernel
@[simp] theorem isi_bool_str : isiB "bool" (.str x) = some false := by
  show kitB "str" "bool" = _
  decide +kernel
@[simp] theorem isi_bool_tup : isiB "bool" (.tup xs) = some false := by
  show kitB "tuple" "bool" = _
  decide +kernel
@[simp] theorem isi_bool_lst : isiB "bool" (.lst xs) = some false := by
  show kitB "list" "bool" = _
  decide +kernel
@[simp] theorem isi_int_int : isiB "int" (.int i) = some true := by
  show kitB "int" "int" = _
  decide +kernel
@[simp] theorem isi_int_bl : isiB "int" (.bl b) = some true := by
  show kitB "bool" "int" = _
  decide +kernel
@[simp] theorem isi_int_non : isiB "int" (.non) = some false := by
  show kitB "NoneType" "int" = _
  decide +kernel
@[simp] theorem isi_int_str : isiB "int" (.str x) = some false := by
  show kitB "str" "int" = _
  decide +kernel
@[simp] theorem isi_int_tup : isiB "int" (.tup xs) = some false := by
  show kitB "tuple" "int" = _
  decide +kernel
@[simp] theorem isi_int_lst : isiB "int" (.lst xs) = some false := by
  show kitB "list" "int" = _
  decide +kernel
@[simp] theorem isi_str_int : isiB "str" (.int i) = some false := by
  show kitB "int" "str" = _
  decide +kernel
@[simp] theorem isi_str_bl : isiB "str" (.bl b) = some false := by
  show kitB "bool" "str" = _
  decide +kernel
@[simp] theorem isi_str_non : isiB "str" (.non) = some false := by
  show kitB "NoneType" "str" = _
  decide +kernel
@[simp] theorem isi_str_str : isiB "str" (.str x) = some true := by
  show kitB "str" "str" = _
  decide +kernel
@[simp] theorem isi_str_tup : isiB "str" (.tup xs) = some false := by
  show kitB "tuple" "str" = _
  decide +kernel
@[simp] theorem isi_str_lst : isiB "str" (.lst xs) = some false := by
  show kitB "list" "str" = _
  decide +kernel
end
end Mi

set_option Elab.async false
set_option linter.all false
set_option maxRecDepth 100000
namespace K64
open PySem L2 ClX Mi
def top (i : Nat) : Stmt := PySem.Challenge.pw_stepstell_k64_clocks.main.body.getD i (.Pass ⟨0, 0, 0, 0⟩)
abbrev s__law_box : Stmt := top 10
abbrev s__turning : Stmt := top 7
abbrev s_M_BadCount___init__ : Stmt := inClass (top 3) 0
abbrev s_M_Clock___init__ : Stmt := inClass (top 8) 0
abbrev s_M_Clock_moves_at : Stmt := inClass (top 8) 4
abbrev s_M_Clock_turns : Stmt := inClass (top 8) 3
abbrev s__law_draw : Stmt := top 11
abbrev s__law_same : Stmt := top 12
abbrev s__law_made : Stmt := top 14
abbrev s_M_Clock___call__ : Stmt := inClass (top 8) 1
abbrev s__law_asked : Stmt := top 15
abbrev s_M_Clock_coarser : Stmt := inClass (top 8) 2
abbrev s__law_shows : Stmt := top 13
abbrev s__law_coarser : Stmt := top 16
abbrev s_M_Clock___le__ : Stmt := inClass (top 8) 7
abbrev s_law : Stmt := top 17
abbrev ns_BadCount : List Str := ["number"]
theorem nd_BadCount : ns_BadCount.Nodup := by decide
theorem nl_BadCount : ns_BadCount.length < 1000 := by decide
abbrev ns_Clock : List Str := ["fineness", "begin", "bound", "form"]
theorem nd_Clock : ns_Clock.Nodup := by decide
theorem nl_Clock : ns_Clock.length < 1000 := by decide
def cd (K : PySem.W.Frag) : CD
  | 1 => some ⟨He.ga K "BadCount", ns_BadCount, []⟩
  | 2 => some ⟨He.ga K "Clock", ns_Clock, []⟩
  | _ => none
def fx_begin : Nat → Option Nat := Tab.at [(2, 1)]
def fx_bound : Nat → Option Nat := Tab.at [(2, 2)]
def fx_fineness : Nat → Option Nat := Tab.at [(2, 0)]
def xx_number : Nat → Option Nat := Tab.at [(1, 0)]
def ct_BadCount : Nat → Option Bool := Tab.at [(1, true)]
def ic_Clock : Nat → Option Bool := Tab.at [(2, true)]
def cs_Clock : Nat → Bool := fun c' => if c' = 2 then true else (fun _ => false) c'
/-- what the top has written -/
structure Tx (K : PySem.W.Frag) (mg : Str → Option Value) : Prop where
  z_abs : mg "abs" = none
  z_all : mg "all" = none
  z_bool : mg "bool" = none
  z_divmod : mg "divmod" = none
  z_int : mg "int" = none
  z_isinstance : mg "isinstance" = none
  z_len : mg "len" = none
  z_list : mg "list" = none
  z_range : mg "range" = none
  z_tuple : mg "tuple" = none
  i_COARSEST : ∃ t, mg "COARSEST" = some (.int (12) t)
  i_LATEST : ∃ t, mg "LATEST" = some (.int (12) t)
  m_BadCount : mg "BadCount" = some (.ref (He.ga K "BadCount"))
  m_Clock : mg "Clock" = some (.ref (He.ga K "Clock"))
  m_TellError : mg "TellError" = some (.ref (He.ga K "TellError"))
  r_TellError : CRead K (He.ga K "TellError") (.type "type") ∧ PySem.W.findCls K (.ref (He.ga K "TellError")) (.type "type") "__init__" = some (.val (.builtin "ValueError.__init__"))
  f_begin : FldOk K (cd K) "begin" fx_begin
  f_bound : FldOk K (cd K) "bound" fx_bound
  f_fineness : FldOk K (cd K) "fineness" fx_fineness
  x_number : XfOk K (cd K) "number" xx_number
  o_Clock_begin : OwnOk K (cd K) "begin" 2 1
  o_Clock_bound : OwnOk K (cd K) "bound" 2 2
  o_Clock_fineness : OwnOk K (cd K) "fineness" 2 0
  o_Clock_form : OwnOk K (cd K) "form" 2 3
  ct_BadCount : Caught K (cd K) (.ref (He.ga K "BadCount")) ct_BadCount
  ic_Clock : ∀ B : Bs, B.K = K → B.cd = cd K → IsiOk B (.ref (He.ga K "Clock")) (isiC ic_Clock)
def SB__law_box : Mi.Env → R Mi.Flow := mRet (eLst (aCons (eB (fun ds => (fList ds).map .lst) (aCons (eVar 0) (aNil))) (aCons (eC (.int 0)) (aCons (eC (.int 0)) (aCons (eC (.int 0)) (aCons (eC (.int 0)) (aNil)))))))
def S__law_box : List D → FR := runDef true 1 [.p] SB__law_box
def SB__turning : Mi.Env → R Mi.Flow := mSeq (mIf (mBool (e2 dIs (eVar 2) (eC .non))) (mRet (eTup (aCons (eVar 0) (aCons (e2 dMod (eB fInt (aCons (eVar 1) (aNil))) (eVar 0)) (aNil))))) (mNx))
  (mRet (e2 dAdd (eTup (aCons (eC (.str "bound")) (aNil))) (eB fTup (aCons (eLc [3] (iR2 (eC (.int 1)) (e2 dAdd (eVar 2) (eC (.int 1)))) (gtName 3) (mBool (e2 dGt (e2 dMul (eVar 3) (eVar 0)) (eVar 1))) (e2 dSub (e2 dMul (eVar 3) (eVar 0)) (eVar 1))) (aNil)))))
def S__turning : List D → FR := runDef false 4 [.p, .p, .p] SB__turning
def T_BadCount : Mi.Env → R D := eC (.str "number is out of range")
def X_BadCount : List D → Option (List D) := X1 T_BadCount
def SB_M_Clock___init__ : Mi.Env → R Mi.Flow := mSeq (mIf (mNot (mBool (eChain (dCmp (fun i j => decide (i ≤ j))) (dCmp (fun i j => decide (i ≤ j))) (eC (.int 1)) (eVar 1) (eC (.int (12)))))) (mRaise 1 X_BadCount (aCons (eVar 1) (aNil))) (mNx))
  (mSeq (mIf (mBool (e2 dLt (eVar 2) (eC (.int 0)))) (mRaise 1 X_BadCount (aCons (eVar 2) (aNil))) (mNx))
  (mSeq (mIf (mAnd (mBool (e2 dIsNot (eVar 3) (eC .non))) (mNot (mBool (eChain (dCmp (fun i j => decide (i ≤ j))) (dCmp (fun i j => decide (i ≤ j))) (eC (.int 0)) (eVar 3) (eC (.int (12))))))) (mRaise 1 X_BadCount (aCons (eVar 3) (aNil))) (mNx))
  (mSeq (mFset 0 2 0 (eVar 1))
  (mSeq (mFset 0 2 1 (eVar 2))
  (mSeq (mFset 0 2 2 (eVar 3))
  (mFset 0 2 3 (eCall (S__turning) [none, none, none] [.p, .p, .p] [] (aCons (eVar 1) (aCons (eVar 2) (aCons (eVar 3) (aNil)))))))))))
def S_M_Clock___init__ : List D → FR := runDef false 4 [.o, .p, .p, .p] SB_M_Clock___init__
def SB_M_Clock_moves_at : Mi.Env → R Mi.Flow := mSeq (mAsgT (gtTup 2 (gsCons (gtName 2) (gsCons (gtName 3) (gsNil)))) (eB fDivmod (aCons (e2 dAdd (e1 (dFld fx_begin) (eVar 0)) (eVar 1)) (aCons (e1 (dFld fx_fineness) (eVar 0)) (aNil)))))
  (mRet (eAnd (e2 dEq (eVar 3) (eC (.int 0))) (eAnd (e2 dGt (eVar 1) (eC (.int 0))) (eOr (e2 dIs (e1 (dFld fx_bound) (eVar 0)) (eC .non)) (e2 dLe (eVar 2) (e1 (dFld fx_bound) (eVar 0)))))))
def S_M_Clock_moves_at : List D → FR := runDef false 4 [.p, .p] SB_M_Clock_moves_at
def SB_M_Clock_turns : Mi.Env → R Mi.Flow := mRet (eLc [2] (iR2 (eC (.int 1)) (e2 dAdd (eVar 1) (eC (.int 1)))) (gtName 2) (mTruth (eMeth 2 (S_M_Clock_moves_at) [none] [.p] [] (eVar 0) (aCons (eVar 2) (aNil)))) (eVar 2))
def S_M_Clock_turns : List D → FR := runDef true 3 [.p, .p] SB_M_Clock_turns
def SB__law_draw : Mi.Env → R Mi.Flow := mSeq (mIf (tVw (mBool (e2 dEq (e2 dIx (eVar 0) (eC (.int 3))) (eC (.int 0))))) (mSeq (mIf (tVw (mBool (e2 dGe (e2 dIx (eVar 0) (eC (.int 1))) (eB fLen (aCons (e2 dIx (eVar 0) (eC (.int 0))) (aNil)))))) (mRet (eC (.int 0))) (mNx))
  (mSeq (mSetIx 0 (eVw (eB fAbs (aCons (eB fInt (aCons (e2 dIx (e2 dIx (eVar 0) (eC (.int 0))) (e2 dIx (eVar 0) (eC (.int 1)))) (aNil))) (aNil)))) (eC (.int 2)))
  (mSeq (mSetIx 0 (eVw (e2 dAdd (e2 dIx (eVar 0) (eC (.int 1))) (eC (.int 1)))) (eC (.int 1)))
  (mSeq (mSetIx 0 (eVw (eB fInt (aCons (e2 dGe (e2 dIx (eVar 0) (eC (.int 2))) (e2 dPow (eC (.int 10)) (eC (.int 18)))) (aNil)))) (eC (.int 4)))
  (mSetIx 0 (eVw (e2 dAdd (eC (.int 12)) (e2 dMul (eC (.int 48)) (e2 dIx (eVar 0) (eC (.int 4)))))) (eC (.int 3))))))) (mNx))
  (mSeq (mSetIx 0 (eVw (e2 dSub (e2 dIx (eVar 0) (eC (.int 3))) (eC (.int 1)))) (eC (.int 3)))
  (mSeq (mIf (tVw (mBool (e2 dEq (e2 dIx (eVar 0) (eC (.int 4))) (eC (.int 1))))) (mSeq (mAsg 2 (eVw (e2 dMod (eB fInt (aCons (e2 dIx (eVar 0) (eC (.int 2))) (aNil))) (eVar 1))))
  (mSeq (mSetIx 0 (eVw (e2 dFdv (eB fInt (aCons (e2 dIx (eVar 0) (eC (.int 2))) (aNil))) (eVar 1))) (eC (.int 2)))
  (mSeq (mIf (tVw (mBool (e2 dEq (e2 dIx (eVar 0) (eC (.int 2))) (eC (.int 0))))) (mSetIx 0 (eC (.int 0)) (eC (.int 3))) (mNx))
  (mRet (eVar 2))))) (mNx))
  (mSeq (mAsg 3 (eVw (e2 dMod (eB fInt (aCons (e2 dAdd (e2 dAdd (e2 dMul (eB fInt (aCons (e2 dIx (eVar 0) (eC (.int 2))) (aNil))) (eC (.int 48271))) (e2 dMul (e2 dIx (eVar 0) (eC (.int 3))) (eC (.int 69621)))) (eC (.int 13))) (aNil))) (eC (.int 2147483647)))))
  (mSeq (mAsg 3 (eVw (e2 dMod (eB fInt (aCons (e2 dAdd (e2 dAdd (e2 dMul (eVar 3) (eC (.int 16807))) (e2 dMul (e2 dIx (eVar 0) (eC (.int 3))) (eC (.int 40692)))) (eC (.int 7))) (aNil))) (eC (.int 2147483629)))))
  (mRet (e2 dMod (eB fInt (aCons (eVar 3) (aNil))) (eVar 1)))))))
def S__law_draw : List D → FR := runDef false 4 [.o, .p] SB__law_draw
def SB__law_same (rec : List D → FR) : Mi.Env → R Mi.Flow := mSeq (mIf (mOr (mBool (e2 dNe (e1 (fun d => (isiB "tuple" d).map .bl) (eVar 1)) (e1 (fun d => (isiB "tuple" d).map .bl) (eVar 0)))) (mBool (e2 dNe (e1 (fun d => (isiB "list" d).map .bl) (eVar 1)) (e1 (fun d => (isiB "list" d).map .bl) (eVar 0))))) (mRet (eC (.bl false))) (mNx))
  (mSeq (mIf (mOr (mTruth (e1 (fun d => (isiB "tuple" d).map .bl) (eVar 1))) (mTruth (e1 (fun d => (isiB "list" d).map .bl) (eVar 1)))) (mRet (eAnd (e2 dEq (eB fLen (aCons (eVar 0) (aNil))) (eB fLen (aCons (eVar 1) (aNil)))) (eB fAll (aCons (eLc [2] (iR1 (eB fLen (aCons (eVar 1) (aNil)))) (gtName 2) (tYesM) (eCall rec [none, none] [.p, .p] [] (aCons (e2 dIx (eVar 0) (eVar 2)) (aCons (e2 dIx (eVar 1) (eVar 2)) (aNil))))) (aNil))))) (mNx))
  (mRet (eAnd (e2 dEq (e1 (fun d => (isiB "bool" d).map .bl) (eVar 0)) (e1 (fun d => (isiB "bool" d).map .bl) (eVar 1))) (e2 dEq (eVar 0) (eVar 1)))))
def SR__law_same : Nat → List D → FR
  | 0 => fun _ => .no
  | j + 1 => runDef false 3 [.p, .p] (SB__law_same (SR__law_same j))
abbrev S__law_same : List D → FR := SR__law_same 12
def gD_Clock_1_begin_bound : List D → List D := fun ds => ds.take 1 ++ pk (ds.drop 1) 0 ++ pk (ds.drop 1) 1
def SB__law_made : Mi.Env → R Mi.Flow := mSeq (mTry 4 ct_BadCount (mAsg 3 (eMake 2 1 2 gD_Clock_1_begin_bound (S_M_Clock___init__) (aCons (eVar 0) (aNil)) (aCons (eVar 1) (aCons (eVar 2) (aNil))))) (fun c fs => mRet (eTup (aCons (eC (.str "count")) (aCons (eXf 4 xx_number c fs) (aNil))))))
  (mRet (eTup (aCons (e1 (dFld fx_fineness) (eVar 3)) (aCons (e1 (dFld fx_begin) (eVar 3)) (aCons (e1 (dFld fx_bound) (eVar 3)) (aNil))))))
def S__law_made : List D → FR := runDef false 5 [.p, .p, .p] SB__law_made
def SB_M_Clock___call__ : Mi.Env → R Mi.Flow := mSeq (mIf (mBool (e2 dLt (eVar 1) (eC (.int 0)))) (mRaise 1 X_BadCount (aCons (eVar 1) (aNil))) (mNx))
  (mSeq (mAsg 2 (e2 dFdv (e2 dAdd (e1 (dFld fx_begin) (eVar 0)) (eVar 1)) (e1 (dFld fx_fineness) (eVar 0))))
  (mSeq (mIf (mAnd (mBool (e2 dIsNot (e1 (dFld fx_bound) (eVar 0)) (eC .non))) (mBool (e2 dGt (eVar 2) (e1 (dFld fx_bound) (eVar 0))))) (mRet (e1 (dFld fx_bound) (eVar 0))) (mNx))
  (mRet (eVar 2))))
def S_M_Clock___call__ : List D → FR := runDef false 3 [.p, .p] SB_M_Clock___call__
def SB__law_asked : Mi.Env → R Mi.Flow := mSeq (mTry 3 ct_BadCount (mAsg 2 (eInst 2 2 (S_M_Clock___call__) (eVar 0) (aCons (eVar 1) (aNil)))) (fun c fs => mRet (eTup (aCons (eC (.str "count")) (aCons (eXf 3 xx_number c fs) (aNil))))))
  (mRet (eTup (aCons (eC (.str "shows")) (aCons (eVar 2) (aNil)))))
def S__law_asked : List D → FR := runDef false 4 [.p, .p] SB__law_asked
def SB_M_Clock_coarser : Mi.Env → R Mi.Flow := mSeq (mIf (mNot (mBool (eChain (dCmp (fun i j => decide (i ≤ j))) (dCmp (fun i j => decide (i ≤ j))) (eC (.int 1)) (eVar 1) (e2 dFdv (eC (.int (12))) (e1 (dFld fx_fineness) (eVar 0)))))) (mRaise 1 X_BadCount (aCons (eVar 1) (aNil))) (mNx))
  (mSeq (mAsg 2 (eIf (mBool (e2 dIs (e1 (dFld fx_bound) (eVar 0)) (eC .non))) (eC .non) (e2 dFdv (e1 (dFld fx_bound) (eVar 0)) (eVar 1))))
  (mRet (eMake 2 1 2 gD_Clock_1_begin_bound (S_M_Clock___init__) (aCons (e2 dMul (e1 (dFld fx_fineness) (eVar 0)) (eVar 1)) (aNil)) (aCons (e1 (dFld fx_begin) (eVar 0)) (aCons (eVar 2) (aNil))))))
def S_M_Clock_coarser : List D → FR := runDef false 3 [.p, .p] SB_M_Clock_coarser
def SB__law_shows : Mi.Env → R Mi.Flow := mSeq (mAsg 2 (e2 dFdv (e2 dAdd (e2 dIx (eVar 0) (eC (.int 1))) (eVar 1)) (e2 dIx (eVar 0) (eC (.int 0)))))
  (mRet (eIf (mAnd (mBool (e2 dIsNot (e2 dIx (eVar 0) (eC (.int 2))) (eC .non))) (mBool (e2 dGt (eVar 2) (e2 dIx (eVar 0) (eC (.int 2)))))) (e2 dIx (eVar 0) (eC (.int 2))) (eVar 2)))
def S__law_shows : List D → FR := runDef false 3 [.p, .p] SB__law_shows
def SB__law_coarser : Mi.Env → R Mi.Flow := mSeq (mTry 3 ct_BadCount (mAsg 2 (eMeth 2 (S_M_Clock_coarser) [none] [.p] [] (eVar 0) (aCons (eVar 1) (aNil)))) (fun c fs => mRet (eTup (aCons (eC (.str "count")) (aCons (eXf 3 xx_number c fs) (aNil))))))
  (mRet (eTup (aCons (e1 (dFld fx_fineness) (eVar 2)) (aCons (e1 (dFld fx_begin) (eVar 2)) (aCons (e1 (dFld fx_bound) (eVar 2)) (aNil))))))
def S__law_coarser : List D → FR := runDef false 4 [.p, .p] SB__law_coarser
def SB_M_Clock___le__ : Mi.Env → R Mi.Flow := mSeq (mIf (mNot (mTruth (e1 (fun d => (isiC ic_Clock d).map .bl) (eVar 1)))) (fun _ => .no) (mNx))
  (mSeq (mIf (mBool (e2 dIs (e1 (dFld fx_bound) (eVar 0)) (eC .non))) (mSeq (mIf (mBool (e2 dIsNot (e1 (dFld fx_bound) (eVar 1)) (eC .non))) (mRet (eC (.bl false))) (mNx))
  (mRet (eAnd (e2 dEq (e2 dMod (eB fInt (aCons (e1 (dFld fx_fineness) (eVar 0)) (aNil))) (e1 (dFld fx_fineness) (eVar 1))) (eC (.int 0))) (e2 dEq (e2 dMod (eB fInt (aCons (e2 dSub (e1 (dFld fx_begin) (eVar 0)) (e1 (dFld fx_begin) (eVar 1))) (aNil))) (e1 (dFld fx_fineness) (eVar 1))) (eC (.int 0)))))) (mNx))
  (mSeq (mFor (iR2 (eC (.int 1)) (e2 dAdd (e1 (dFld fx_bound) (eVar 0)) (eC (.int 1)))) (gtName 2) (mSeq (mAsg 3 (e2 dSub (e2 dMul (eVar 2) (e1 (dFld fx_fineness) (eVar 0))) (e1 (dFld fx_begin) (eVar 0))))
  (mIf (mAnd (mBool (e2 dGt (eVar 3) (eC (.int 0)))) (mNot (mTruth (eMeth 2 (S_M_Clock_moves_at) [none] [.p] [] (eVar 1) (aCons (eVar 3) (aNil)))))) (mRet (eC (.bl false))) (mNx))))
  (mRet (eC (.bl true)))))
def S_M_Clock___le__ : List D → FR := runDef false 4 [.p, .p] SB_M_Clock___le__
def gD_Clock_0 : List D → List D := fun ds => ds.take 0 ++ [D.int (1)] ++ [D.int (0)] ++ [D.non]
def gD_Clock_1 : List D → List D := fun ds => ds.take 1 ++ [D.int (0)] ++ [D.non]
def ST_law_0 : Mi.Env → R Mi.Flow := mAsg 1 (eCall (S__law_box) [none] [.p] [] (aCons (eVar 0) (aNil)))
def ST_law_1 : Mi.Env → R Mi.Flow := mAsg 2 (e2 dAdd (eC (.int 1)) (eCall (S__law_draw) [some 1, none] [.o, .p] [] (aSlot 1 (aCons (eC (.int 12)) (aNil)))))
def ST_law_2 : Mi.Env → R Mi.Flow := mAsg 3 (e2 dIx (eLst (aCons (eCall (S__law_draw) [some 1, none] [.o, .p] [] (aSlot 1 (aCons (eC (.int 41)) (aNil)))) (aCons (eCall (S__law_draw) [some 1, none] [.o, .p] [] (aSlot 1 (aCons (e2 dPow (eC (.int 10)) (eC (.int 40))) (aNil)))) (aCons (e2 dSub (e2 dPow (eC (.int 10)) (eC (.int 40))) (eC (.int 1))) (aNil))))) (eCall (S__law_draw) [some 1, none] [.o, .p] [] (aSlot 1 (aCons (eC (.int 3)) (aNil)))))
def ST_law_3 : Mi.Env → R Mi.Flow := mAsg 4 (e2 dIx (eLst (aCons (eC .non) (aCons (eCall (S__law_draw) [some 1, none] [.o, .p] [] (aSlot 1 (aCons (eC (.int 13)) (aNil)))) (aNil)))) (eCall (S__law_draw) [some 1, none] [.o, .p] [] (aSlot 1 (aCons (eC (.int 2)) (aNil)))))
def ST_law_4 : Mi.Env → R Mi.Flow := mAsg 5 (eTup (aCons (eVar 2) (aCons (eVar 3) (aCons (eVar 4) (aNil)))))
def ST_law_5 : Mi.Env → R Mi.Flow := mIf (mNot (mTruth (eCall (S__law_same) [none, none] [.p, .p] [] (aCons (eCall (S__law_made) [none, none, none] [.p, .p, .p] [] (aCons (eVar 2) (aCons (eVar 3) (aCons (eVar 4) (aNil))))) (aCons (eVar 5) (aNil)))))) (mRet (eC (.bl false))) (mNx)
def ST_law_6 : Mi.Env → R Mi.Flow := mAsg 6 (eMake 2 1 2 gD_Clock_1_begin_bound (S_M_Clock___init__) (aCons (eVar 2) (aNil)) (aCons (eVar 3) (aCons (eVar 4) (aNil))))
def ST_law_7 : Mi.Env → R Mi.Flow := mAsg 7 (eMake 2 0 0 gD_Clock_0 (S_M_Clock___init__) (aNil) (aNil))
def ST_law_8 : Mi.Env → R Mi.Flow := mIf (mOr (mNot (mTruth (eCall (S__law_same) [none, none] [.p, .p] [] (aCons (eTup (aCons (e1 (dFld fx_fineness) (eVar 7)) (aCons (e1 (dFld fx_begin) (eVar 7)) (aCons (e1 (dFld fx_bound) (eVar 7)) (aNil))))) (aCons (eTup (aCons (eC (.int 1)) (aCons (eC (.int 0)) (aCons (eC .non) (aNil))))) (aNil)))))) (mNot (mTruth (eCall (S__law_same) [none, none] [.p, .p] [] (aCons (eInst 2 2 (S_M_Clock___call__) (eMake 2 1 0 gD_Clock_1 (S_M_Clock___init__) (aCons (eC (.int 7)) (aNil)) (aNil)) (aCons (eC (.int 20)) (aNil))) (aCons (eC (.int 2)) (aNil))))))) (mRet (eC (.bl false))) (mNx)
def ST_law_9 : Mi.Env → R Mi.Flow := mAsg 8 (e2 dAdd (e2 dAdd (eLc [9] (iR1 (eC (.int 3))) (gtName 9) (tYesM) (eCall (S__law_draw) [some 1, none] [.o, .p] [] (aSlot 1 (aCons (e2 dPow (eC (.int 10)) (eC (.int 39))) (aNil))))) (e2 dLRg (eC (.int 0)) (eC (.int 30)))) (eLst (aCons (e2 dPow (eC (.int 10)) (eC (.int 39))) (aNil))))
def ST_law_10 : Mi.Env → R Mi.Flow := mFor (iR1 (eC (.int 3))) (gtName 9) (mSeq (mAsg 10 (e2 dSub (e2 dMul (e2 dAdd (eCall (S__law_draw) [some 1, none] [.o, .p] [] (aSlot 1 (aCons (eC (.int 14)) (aNil)))) (eC (.int 1))) (eVar 2)) (eVar 3)))
  (mAsg 8 (e2 dAdd (eVar 8) (eLc [11] (iLst (eLst (aCons (e2 dSub (eVar 10) (eC (.int 1))) (aCons (eVar 10) (aCons (e2 dAdd (eVar 10) (eC (.int 1))) (aNil)))))) (gtName 11) (mBool (e2 dGe (eVar 11) (eC (.int 0)))) (eVar 11)))))
def ST_law_11 : Mi.Env → R Mi.Flow := mFor (iLst (eVar 8)) (gtName 11) (mIf (mOr (mNot (mTruth (eCall (S__law_same) [none, none] [.p, .p] [] (aCons (eInst 2 2 (S_M_Clock___call__) (eVar 6) (aCons (eVar 11) (aNil))) (aCons (eCall (S__law_shows) [none, none] [.p, .p] [] (aCons (eVar 5) (aCons (eVar 11) (aNil)))) (aNil)))))) (mNot (mTruth (eCall (S__law_same) [none, none] [.p, .p] [] (aCons (eInst 2 2 (S_M_Clock___call__) (eVar 7) (aCons (eVar 11) (aNil))) (aCons (eVar 11) (aNil))))))) (mRet (eC (.bl false))) (mNx))
def ST_law_12 : Mi.Env → R Mi.Flow := mAsg 12 (e2 dIx (eLst (aCons (eCall (S__law_draw) [some 1, none] [.o, .p] [] (aSlot 1 (aCons (eC (.int 60)) (aNil)))) (aCons (eC (.int 400)) (aCons (eC (.int 0)) (aNil))))) (eCall (S__law_draw) [some 1, none] [.o, .p] [] (aSlot 1 (aCons (eC (.int 3)) (aNil)))))
def ST_law_13 : Mi.Env → R Mi.Flow := mAsg 13 (eLc [21] (iR2 (eC (.int 1)) (e2 dAdd (eVar 12) (eC (.int 1)))) (gtName 21) (mBool (e2 dGt (eCall (S__law_shows) [none, none] [.p, .p] [] (aCons (eVar 5) (aCons (eVar 21) (aNil)))) (eCall (S__law_shows) [none, none] [.p, .p] [] (aCons (eVar 5) (aCons (e2 dSub (eVar 21) (eC (.int 1))) (aNil)))))) (eVar 21))
def ST_law_14 : Mi.Env → R Mi.Flow := mAsg 14 (eMeth 2 (S_M_Clock_turns) [none] [.p] [] (eVar 6) (aCons (eVar 12) (aNil)))
def ST_law_15 : Mi.Env → R Mi.Flow := mIf (tVw (mNot (mTruth (eCall (S__law_same) [none, none] [.p, .p] [] (aCons (eVar 14) (aCons (eVar 13) (aNil))))))) (mRet (eC (.bl false))) (mNx)
def ST_law_16 : Mi.Env → R Mi.Flow := mApp 14 (eC (.int 0))
def ST_law_17 : Mi.Env → R Mi.Flow := mIf (mOr (mNot (mTruth (eCall (S__law_same) [none, none] [.p, .p] [] (aCons (eMeth 2 (S_M_Clock_turns) [none] [.p] [] (eVar 6) (aCons (eVar 12) (aNil))) (aCons (eVar 13) (aNil)))))) (mBool (e2 dNe (eCall (S__law_asked) [none, none] [.p, .p] [] (aCons (eVar 6) (aCons (e2 dSub (eC (.int 0)) (eC (.int 1))) (aNil)))) (eTup (aCons (eC (.str "count")) (aCons (e2 dSub (eC (.int 0)) (eC (.int 1))) (aNil))))))) (mRet (eC (.bl false))) (mNx)
def ST_law_18 : Mi.Env → R Mi.Flow := mFor (iR2 (eC (.int 0)) (eC (.int 14))) (gtName 15) (mSeq (mAsg 16 (eAnd (e2 dGt (eVar 15) (eC (.int 0))) (e2 dLe (e2 dMul (eVar 2) (eVar 15)) (eC (.int 12)))))
  (mSeq (mAsg 17 (eIf (mTruth (eVar 16)) (eTup (aCons (e2 dMul (eVar 2) (eVar 15)) (aCons (eVar 3) (aCons (eIf (mBool (e2 dIs (eVar 4) (eC .non))) (eC .non) (e2 dFdv (eVar 4) (eVar 15))) (aNil))))) (eTup (aCons (eC (.str "count")) (aCons (eVar 15) (aNil))))))
  (mSeq (mIf (mNot (mTruth (eCall (S__law_same) [none, none] [.p, .p] [] (aCons (eCall (S__law_coarser) [none, none] [.p, .p] [] (aCons (eVar 6) (aCons (eVar 15) (aNil)))) (aCons (eVar 17) (aNil)))))) (mRet (eC (.bl false))) (mNx))
  (mIf (mTruth (eVar 16)) (mSeq (mAsg 18 (eMeth 2 (S_M_Clock_coarser) [none] [.p] [] (eVar 6) (aCons (eVar 15) (aNil))))
  (mIf (mOr (mNot (mBool (e2 (dOwn 2 cs_Clock S_M_Clock___le__) (eVar 18) (eVar 6)))) (mNot (mTruth (eB fAll (aCons (eLc [21] (iLst (eVar 8)) (gtName 21) (tYesM) (eCall (S__law_same) [none, none] [.p, .p] [] (aCons (eInst 2 2 (S_M_Clock___call__) (eVar 18) (aCons (eVar 21) (aNil))) (aCons (eCall (S__law_shows) [none, none] [.p, .p] [] (aCons (eVar 17) (aCons (eVar 21) (aNil)))) (aNil))))) (aNil)))))) (mRet (eC (.bl false))) (mNx))) (mNx)))))
def ST_law_19 : Mi.Env → R Mi.Flow := mAsg 19 (eLst (aCons (eTup (aCons (eC (.int 0)) (aCons (eC (.int 0)) (aCons (eC .non) (aNil))))) (aCons (eTup (aCons (eC (.int 13)) (aCons (eC (.int 0)) (aCons (eC .non) (aNil))))) (aCons (eTup (aCons (e2 dSub (eC (.int 0)) (eC (.int 2))) (aCons (e2 dSub (eC (.int 0)) (eC (.int 1))) (aCons (eC (.int 13)) (aNil))))) (aCons (eTup (aCons (eC (.int 1)) (aCons (e2 dSub (eC (.int 0)) (eC (.int 1))) (aCons (eC .non) (aNil))))) (aCons (eTup (aCons (eC (.int 12)) (aCons (e2 dSub (eC (.int 0)) (eC (.int 7))) (aCons (eC (.int 13)) (aNil))))) (aCons (eTup (aCons (eC (.int 5)) (aCons (eC (.int 0)) (aCons (e2 dSub (eC (.int 0)) (eC (.int 1))) (aNil))))) (aCons (eTup (aCons (eC (.int 5)) (aCons (eC (.int 0)) (aCons (eC (.int 13)) (aNil))))) (aNil)))))))))
def ST_law_20 : Mi.Env → R Mi.Flow := mAsg 20 (eLst (aCons (eC (.int 0)) (aCons (eC (.int 13)) (aCons (e2 dSub (eC (.int 0)) (eC (.int 2))) (aCons (e2 dSub (eC (.int 0)) (eC (.int 1))) (aCons (e2 dSub (eC (.int 0)) (eC (.int 7))) (aCons (e2 dSub (eC (.int 0)) (eC (.int 1))) (aCons (eC (.int 13)) (aNil)))))))))
def ST_law_21 : Mi.Env → R Mi.Flow := mFor (iR1 (eC (.int 7))) (gtName 9) (mIf (mBool (e2 dNe (eCall (S__law_made) [none, none, none] [.p, .p, .p] [] (aCons (e2 dIx (e2 dIx (eVar 19) (eVar 9)) (eC (.int 0))) (aCons (e2 dIx (e2 dIx (eVar 19) (eVar 9)) (eC (.int 1))) (aCons (e2 dIx (e2 dIx (eVar 19) (eVar 9)) (eC (.int 2))) (aNil))))) (eTup (aCons (eC (.str "count")) (aCons (e2 dIx (eVar 20) (eVar 9)) (aNil)))))) (mRet (eC (.bl false))) (mNx))
def ST_law_22 : Mi.Env → R Mi.Flow := mRet (eAnd (eCall (S__law_same) [none, none] [.p, .p] [] (aCons (eCall (S__law_made) [none, none, none] [.p, .p, .p] [] (aCons (eC (.int 12)) (aCons (eC (.int 0)) (aCons (eC (.int 12)) (aNil))))) (aCons (eTup (aCons (eC (.int 12)) (aCons (eC (.int 0)) (aCons (eC (.int 12)) (aNil))))) (aNil)))) (eCall (S__law_same) [none, none] [.p, .p] [] (aCons (eCall (S__law_made) [none, none, none] [.p, .p, .p] [] (aCons (eC (.int 1)) (aCons (eC (.int 0)) (aCons (eC (.int 0)) (aNil))))) (aCons (eTup (aCons (eC (.int 1)) (aCons (eC (.int 0)) (aCons (eC (.int 0)) (aNil))))) (aNil)))))
def SB_law : Mi.Env → R Mi.Flow := mSeq ST_law_0 (mSeq ST_law_1 (mSeq ST_law_2 (mSeq ST_law_3 (mSeq ST_law_4 (mSeq ST_law_5 (mSeq ST_law_6 (mSeq ST_law_7 (mSeq ST_law_8 (mSeq ST_law_9 (mSeq ST_law_10 (mSeq ST_law_11 (mSeq ST_law_12 (mSeq ST_law_13 (mSeq ST_law_14 (mSeq ST_law_15 (mSeq ST_law_16 (mSeq ST_law_17 (mSeq ST_law_18 (mSeq ST_law_19 (mSeq ST_law_20 (mSeq ST_law_21 (ST_law_22))))))))))))))))))))))
def S_law : List D → FR := runDef false 22 [.p] SB_law
section
variable {P : Program} {w : World} {K : PySem.W.Frag} {mg : Str → Option Value} {base : Heap}
theorem sc__law_box : FnScope ["script"] ["script"] (defScope s__law_box) := ⟨rfl, rfl, rfl, by decide +kernel, rfl, by decide +kernel, by decide +kernel⟩
theorem ok__law_box (T : Tx K mg) {f : Addr} {fd : FuncData} (F : FunD K "_law_box" "_law_box" (defArgs s__law_box) (defBody s__law_box) (defScope s__law_box) [] [] f fd) : FnOk P w K mg base (L2.CX P w) 2 f fd ["script"] (spM K (cd K) [.p] true S__law_box) :=
  mk_def (md := mdOf [.p]) (XX := fun cdv A outer s H E => cxOf (L2.CX P w) P w K mg base ["script"] "_law_box" (defScope s__law_box) f cdv A outer s H E) (fun sp len h => F.ok sc__law_box len h) rfl rfl (by decide) (one_of rfl) (mdOf_ok rfl) (fun cdv A outer s H E => gd_cx sc__law_box.nd) (fun cdv A outer s H E F0 own mu g =>
  (b_one (b_ret (c_lstO (a_cons (fLst' g T.z_list (a_cons (c_var 0) a_nil)) (a_cons c_int (a_cons c_int (a_cons c_int (a_cons c_int a_nil)))))))))
theorem sc__turning : FnScope ["fineness", "begin", "bound", "shown"] ["fineness", "begin", "bound"] (defScope s__turning) := ⟨rfl, rfl, rfl, by decide +kernel, rfl, by decide +kernel, by decide +kernel⟩
theorem ok__turning (T : Tx K mg) {f : Addr} {fd : FuncData} (F : FunD K "_turning" "_turning" (defArgs s__turning) (defBody s__turning) (defScope s__turning) [] [] f fd) : FnOk P w K mg base (L2.CX P w) 2 f fd ["fineness", "begin", "bound"] (spM K (cd K) [.p, .p, .p] false S__turning) :=
  mk_def (md := mdOf [.p, .p, .p, .p]) (XX := fun cdv A outer s H E => cxOf (L2.CX P w) P w K mg base ["fineness", "begin", "bound", "shown"] "_turning" (defScope s__turning) f cdv A outer s H E) (fun sp len h => F.ok sc__turning len h) rfl rfl (by decide) (one_of rfl) (mdOf_ok rfl) (fun cdv A outer s H E => gd_cx sc__turning.nd) (fun cdv A outer s H E F0 own mu g =>
  (b_cons (b_if (qIs g (c_var 2) c_non) (b_one (b_ret (c_tup (a_cons (c_var 0) (a_cons (eMod g (fInt' g T.z_int (a_cons (c_var 1) a_nil)) (c_var 0)) a_nil))))) b_nil)
  (b_one (b_ret (eAdd g (c_tup (a_cons c_str a_nil)) (fTup' g T.z_tuple (a_cons (e_lc [("shown", 3)] g (i_rng2 rfl T.z_range c_int (eAdd g (c_var 2) c_int)) (fun s H C cl fp H0 F0 ow np => (gt_name 3 g.nd)) (fun s H C cl fp H0 F0 ow np g => (ts_one (qGt g (eMul g (c_var 3) (c_var 0)) (c_var 1)))) (fun s H C cl fp H0 F0 ow np g => (eSub g (eMul g (c_var 3) (c_var 0)) (c_var 1)))) a_nil)))))))
theorem sc_M_BadCount___init__ : FnScope ["self", "number"] ["self", "number"] (defScope s_M_BadCount___init__) := ⟨rfl, rfl, rfl, by decide +kernel, rfl, by decide +kernel, by decide +kernel⟩
theorem ok_M_BadCount___init__ (T : Tx K mg) {f : Addr} {fd : FuncData} (F : FunD K "__init__" "BadCount.__init__" (defArgs s_M_BadCount___init__) (defBody s_M_BadCount___init__) (defScope s_M_BadCount___init__) [] [] f fd) : FnOk P w K mg base (L2.CX P w) 1 f fd ["self", "number"] (spX K (cd K) ["number"] 1 (X1 T_BadCount)) :=
  exc_def1 (mt := T_BadCount) (XX := fun cdv A outer s H E => cxOf (L2.CX P w) P w K mg base ["self", "number"] "BadCount.__init__" (defScope s_M_BadCount___init__) f cdv A outer s H E) (fun sp len h => F.ok sc_M_BadCount___init__ len h) rfl rfl (fun cdv A outer s H E => x_init rfl rfl T.m_TellError T.r_TellError.1 T.r_TellError.2 (fun H F => c_str)) (fun cdv A outer s H E => x_set 1 rfl)
theorem sc_M_Clock___init__ : FnScope ["self", "fineness", "begin", "bound"] ["self", "fineness", "begin", "bound"] (defScope s_M_Clock___init__) := ⟨rfl, rfl, rfl, by decide +kernel, rfl, by decide +kernel, by decide +kernel⟩
theorem ok_M_Clock___init__ (T : Tx K mg) (D__turning : DefOk P w K mg base (cd K) 2 "_turning" [.p, .p, .p] false [] S__turning) (E_BadCount : ExcOk P w K mg base (cd K) 1 "BadCount" 1 X_BadCount) {f : Addr} {fd : FuncData} (F : FunD K "__init__" "Clock.__init__" (defArgs s_M_Clock___init__) (defBody s_M_Clock___init__) (defScope s_M_Clock___init__) [V.int (1)] [("begin", V.int (0)), ("bound", V.non)] f fd) : FnOk P w K mg base (L2.CX P w) 3 f fd ["self", "fineness", "begin", "bound"] (spM K (cd K) [.o, .p, .p, .p] false S_M_Clock___init__) :=
  mk_def (md := mdOf [.o, .p, .p, .p]) (XX := fun cdv A outer s H E => cxOf (L2.CX P w) P w K mg base ["self", "fineness", "begin", "bound"] "Clock.__init__" (defScope s_M_Clock___init__) f cdv A outer s H E) (fun sp len h => F.ok sc_M_Clock___init__ len h) rfl rfl (by decide) (one_of rfl) (mdOf_ok rfl) (fun cdv A outer s H E => gd_cx sc_M_Clock___init__.nd) (fun cdv A outer s H E F0 own mu g =>
  (b_cons (b_if (t_not (qChn iLe iLe c_int (c_var 1) (gInt T.i_COARSEST))) (b_one (b_raise g E_BadCount (a_cons (c_var 1) a_nil))) b_nil)
  (b_cons (b_if (qLt g (c_var 2) c_int) (b_one (b_raise g E_BadCount (a_cons (c_var 2) a_nil))) b_nil)
  (b_cons (b_if (w_and (qIsNot g (c_var 3) c_non) (w_and1 (t_not (qChn iLe iLe c_int (c_var 3) (gInt T.i_LATEST))))).pt (b_one (b_raise g E_BadCount (a_cons (c_var 3) a_nil))) b_nil)
  (b_cons (b_fset 0 2 0 g.hK T.o_Clock_fineness (c_var 1))
  (b_cons (b_fset 0 2 1 g.hK T.o_Clock_begin (c_var 2))
  (b_cons (b_fset 0 2 2 g.hK T.o_Clock_bound (c_var 3))
  (b_one (b_fset 0 2 3 g.hK T.o_Clock_form (c_call g D__turning (s_cons (c_var 1) (s_cons (c_var 2) (s_cons (c_var 3) s_nil)))))))))))))
theorem sc_M_Clock_moves_at : FnScope ["self", "ticks", "shown", "rest"] ["self", "ticks"] (defScope s_M_Clock_moves_at) := ⟨rfl, rfl, rfl, by decide +kernel, rfl, by decide +kernel, by decide +kernel⟩
theorem ok_M_Clock_moves_at (T : Tx K mg) {f : Addr} {fd : FuncData} (F : FunD K "moves_at" "Clock.moves_at" (defArgs s_M_Clock_moves_at) (defBody s_M_Clock_moves_at) (defScope s_M_Clock_moves_at) [] [] f fd) : FnOk P w K mg base (L2.CX P w) 2 f fd ["self", "ticks"] (spM K (cd K) [.p, .p] false S_M_Clock_moves_at) :=
  mk_def (md := mdOf [.p, .p, .p, .p]) (XX := fun cdv A outer s H E => cxOf (L2.CX P w) P w K mg base ["self", "ticks", "shown", "rest"] "Clock.moves_at" (defScope s_M_Clock_moves_at) f cdv A outer s H E) (fun sp len h => F.ok sc_M_Clock_moves_at len h) rfl rfl (by decide) (one_of rfl) (mdOf_ok rfl) (fun cdv A outer s H E => gd_cx sc_M_Clock_moves_at.nd) (fun cdv A outer s H E F0 own mu g =>
  (b_cons (b_asgT (vs := [0, 1, 2, 3]) (fDivmod' g T.z_divmod (a_cons (eAdd g (eFld g T.f_begin (c_var 0)) (c_var 1)) (a_cons (eFld g T.f_fineness (c_var 0)) a_nil))) (gt_tup g.hK g.calm (gs_cons (gt_name 2 g.nd) (gs_cons (gt_name 3 g.nd) gs_nil))))
  (b_one (b_ret (c_and (eEq g (c_var 3) c_int) (c_and (eGt g (c_var 1) c_int) (c_one (c_or (eIs g (eFld g T.f_bound (c_var 0)) c_non) (c_one (eLe g (c_var 2) (eFld g T.f_bound (c_var 0))))))))))))
theorem sc_M_Clock_turns : FnScope ["self", "most", "ticks"] ["self", "most"] (defScope s_M_Clock_turns) := ⟨rfl, rfl, rfl, by decide +kernel, rfl, by decide +kernel, by decide +kernel⟩
theorem ok_M_Clock_turns (T : Tx K mg) (M_M_Clock_moves_at : MethOk P w K mg base (cd K) 2 2 "moves_at" [.p] false [] S_M_Clock_moves_at) {f : Addr} {fd : FuncData} (F : FunD K "turns" "Clock.turns" (defArgs s_M_Clock_turns) (defBody s_M_Clock_turns) (defScope s_M_Clock_turns) [] [] f fd) : FnOk P w K mg base (L2.CX P w) 3 f fd ["self", "most"] (spM K (cd K) [.p, .p] true S_M_Clock_turns) :=
  mk_def (md := mdOf [.p, .p, .p]) (XX := fun cdv A outer s H E => cxOf (L2.CX P w) P w K mg base ["self", "most", "ticks"] "Clock.turns" (defScope s_M_Clock_turns) f cdv A outer s H E) (fun sp len h => F.ok sc_M_Clock_turns len h) rfl rfl (by decide) (one_of rfl) (mdOf_ok rfl) (fun cdv A outer s H E => gd_cx sc_M_Clock_turns.nd) (fun cdv A outer s H E F0 own mu g =>
  (b_one (b_ret (e_lcO [("ticks", 2)] g (i_rng2 rfl T.z_range c_int (eAdd g (c_var 1) c_int)) (fun s H C cl fp H0 F0 ow np => (gt_name 2 g.nd)) (fun s H C cl fp H0 F0 ow np g => (ts_one (eVal g (c_methR g M_M_Clock_moves_at (by decide) rfl rfl rfl (c_var 0) (s_cons (c_var 2) s_nil))))) (fun s H C cl fp H0 F0 ow np g => (c_var 2))))))
theorem sc__law_draw : FnScope ["box", "size", "drawn", "mixed"] ["box", "size"] (defScope s__law_draw) := ⟨rfl, rfl, rfl, by decide +kernel, rfl, by decide +kernel, by decide +kernel⟩
theorem ok__law_draw (T : Tx K mg) {f : Addr} {fd : FuncData} (F : FunD K "_law_draw" "_law_draw" (defArgs s__law_draw) (defBody s__law_draw) (defScope s__law_draw) [] [] f fd) : FnOk P w K mg base (L2.CX P w) 2 f fd ["box", "size"] (spM K (cd K) [.o, .p] false S__law_draw) :=
  mk_def (md := mdOf [.o, .p, .p, .p]) (XX := fun cdv A outer s H E => cxOf (L2.CX P w) P w K mg base ["box", "size", "drawn", "mixed"] "_law_draw" (defScope s__law_draw) f cdv A outer s H E) (fun sp len h => F.ok sc__law_draw len h) rfl rfl (by decide) (one_of rfl) (mdOf_ok rfl) (fun cdv A outer s H E => gd_cx sc__law_draw.nd) (fun cdv A outer s H E F0 own mu g =>
  (b_cons (b_if (c_viewT g (fun H g => (qEq g (eIx g (c_var 0) c_int) c_int))) (b_cons (b_if (c_viewT g (fun H g => (qGe g (eIx g (c_var 0) c_int) (fLen' g T.z_len (a_cons (eIx g (c_var 0) c_int) a_nil))))) (b_one (b_ret c_int)) b_nil)
  (b_cons (b_setIx 0 (c_view g (fun H g => (fAbs' g T.z_abs (a_cons (fInt' g T.z_int (a_cons (eIx g (eIx g (c_var 0) c_int) (eIx g (c_var 0) c_int)) a_nil)) a_nil)))) c_int)
  (b_cons (b_setIx 0 (c_view g (fun H g => (eAdd g (eIx g (c_var 0) c_int) c_int))) c_int)
  (b_cons (b_setIx 0 (c_view g (fun H g => (fInt' g T.z_int (a_cons (eGe g (eIx g (c_var 0) c_int) (ePow g c_int c_int)) a_nil)))) c_int)
  (b_one (b_setIx 0 (c_view g (fun H g => (eAdd g c_int (eMul g c_int (eIx g (c_var 0) c_int))))) c_int)))))) b_nil)
  (b_cons (b_setIx 0 (c_view g (fun H g => (eSub g (eIx g (c_var 0) c_int) c_int))) c_int)
  (b_cons (b_if (c_viewT g (fun H g => (qEq g (eIx g (c_var 0) c_int) c_int))) (b_cons (b_asg 2 g (c_view g (fun H g => (eMod g (fInt' g T.z_int (a_cons (eIx g (c_var 0) c_int) a_nil)) (c_var 1)))))
  (b_cons (b_setIx 0 (c_view g (fun H g => (eFdv g (fInt' g T.z_int (a_cons (eIx g (c_var 0) c_int) a_nil)) (c_var 1)))) c_int)
  (b_cons (b_if (c_viewT g (fun H g => (qEq g (eIx g (c_var 0) c_int) c_int))) (b_one (b_setIx 0 c_int c_int)) b_nil)
  (b_one (b_ret (c_var 2)))))) b_nil)
  (b_cons (b_asg 3 g (c_view g (fun H g => (eMod g (fInt' g T.z_int (a_cons (eAdd g (eAdd g (eMul g (fInt' g T.z_int (a_cons (eIx g (c_var 0) c_int) a_nil)) c_int) (eMul g (eIx g (c_var 0) c_int) c_int)) c_int) a_nil)) c_int))))
  (b_cons (b_asg 3 g (c_view g (fun H g => (eMod g (fInt' g T.z_int (a_cons (eAdd g (eAdd g (eMul g (c_var 3) c_int) (eMul g (eIx g (c_var 0) c_int) c_int)) c_int) a_nil)) c_int))))
  (b_one (b_ret (eMod g (fInt' g T.z_int (a_cons (c_var 3) a_nil)) (c_var 1))))))))))
theorem sc__law_same : FnScope ["one", "two", "k"] ["one", "two"] (defScope s__law_same) := ⟨rfl, rfl, rfl, by decide +kernel, rfl, by decide +kernel, by decide +kernel⟩
theorem okR__law_same (T : Tx K mg) {f : Addr} {fd : FuncData} (F : FunD K "_law_same" "_law_same" (defArgs s__law_same) (defBody s__law_same) (defScope s__law_same) [] [] f fd) (hm : mg "_law_same" = some (.ref f)) (hb : Binds K fd ["one", "two"] []) : ∀ j, FnOk P w K mg base (L2.CX P w) (1 + j + 1) f fd ["one", "two"] (spM K (cd K) [.p, .p] false (SR__law_same j))
  | 0 => by
    have z := mk_def (k := 1) (rk := false) (pm := [.p, .p]) (n := 3) (m := fun _ => .no) (cd := cd K) (md := mdOf [.p, .p, .p]) (XX := fun cdv A outer s H E => cxOf (L2.CX P w) P w K mg base ["one", "two", "k"] "_law_same" (defScope s__law_same) f cdv A outer s H E) (fun sp len h => F.ok sc__law_same len h) rfl rfl (by decide) (one_of rfl) (mdOf_ok rfl) (fun cdv A outer s H E => gd_cx sc__law_same.nd) (fun cdv A outer s H E F0 own mu g => bs_no)
    exact z
  | j + 1 =>
    have DR : DefOk P w K mg base (cd K) (1 + j + 1) "_law_same" [.p, .p] false [] (SR__law_same j) := .of (okR__law_same T F hm hb j) hm F.kp hb
    mk_def (md := mdOf [.p, .p, .p]) (XX := fun cdv A outer s H E => cxOf (L2.CX P w) P w K mg base ["one", "two", "k"] "_law_same" (defScope s__law_same) f cdv A outer s H E) (fun sp len h => F.ok sc__law_same len h) rfl rfl (by decide) (one_of rfl) (mdOf_ok rfl) (fun cdv A outer s H E => gd_cx sc__law_same.nd) (fun cdv A outer s H E F0 own mu g =>
  (b_cons (b_if (w_or (qNe g (fIsiT g T.z_isinstance T.z_tuple (by decide +kernel) (c_var 1)) (fIsiT g T.z_isinstance T.z_tuple (by decide +kernel) (c_var 0))) (w_or1 (qNe g (fIsiT g T.z_isinstance T.z_list (by decide +kernel) (c_var 1)) (fIsiT g T.z_isinstance T.z_list (by decide +kernel) (c_var 0))))).pt (b_one (b_ret c_bl)) b_nil)
  (b_cons (b_if (w_or (eVal g (fIsiT g T.z_isinstance T.z_tuple (by decide +kernel) (c_var 1))) (w_or1 (eVal g (fIsiT g T.z_isinstance T.z_list (by decide +kernel) (c_var 1))))).pt (b_one (b_ret (c_and (eEq g (fLen' g T.z_len (a_cons (c_var 0) a_nil)) (fLen' g T.z_len (a_cons (c_var 1) a_nil))) (c_one (fAll' g T.z_all (a_cons (e_lc [("k", 2)] g (i_rng1 rfl T.z_range (fLen' g T.z_len (a_cons (c_var 1) a_nil))) (fun s H C cl fp H0 F0 ow np => (gt_name 2 g.nd)) (fun s H C cl fp H0 F0 ow np g => ts_nil) (fun s H C cl fp H0 F0 ow np g => (c_call g DR (hk := Nat.le_refl _) (s_cons (eIx g (c_var 0) (c_var 2)) (s_cons (eIx g (c_var 1) (c_var 2)) s_nil))))) a_nil)))))) b_nil)
  (b_one (b_ret (c_and (eEq g (fIsiT g T.z_isinstance T.z_bool (by decide +kernel) (c_var 0)) (fIsiT g T.z_isinstance T.z_bool (by decide +kernel) (c_var 1))) (c_one (eEq g (c_var 0) (c_var 1)))))))))
theorem sc__law_made : FnScope ["fine", "begun", "end", "made", "e"] ["fine", "begun", "end"] (defScope s__law_made) := ⟨rfl, rfl, rfl, by decide +kernel, rfl, by decide +kernel, by decide +kernel⟩
theorem ok__law_made (T : Tx K mg) (K_Clock_1_begin_bound : MakeOk P w K mg base (cd K) 3 "Clock" 2 1 ["begin", "bound"] gD_Clock_1_begin_bound S_M_Clock___init__) {f : Addr} {fd : FuncData} (F : FunD K "_law_made" "_law_made" (defArgs s__law_made) (defBody s__law_made) (defScope s__law_made) [] [] f fd) : FnOk P w K mg base (L2.CX P w) 5 f fd ["fine", "begun", "end"] (spM K (cd K) [.p, .p, .p] false S__law_made) :=
  mk_def (md := mdOf [.p, .p, .p, .p, .p]) (XX := fun cdv A outer s H E => cxOf (L2.CX P w) P w K mg base ["fine", "begun", "end", "made", "e"] "_law_made" (defScope s__law_made) f cdv A outer s H E) (fun sp len h => F.ok sc__law_made len h) rfl rfl (by decide) (one_of rfl) (mdOf_ok rfl) (fun cdv A outer s H E => gd_cx sc__law_made.nd) (fun cdv A outer s H E F0 own mu g =>
  (b_cons (b_try_as 4 g ⟨rfl, by decide, .inl T.m_BadCount⟩ T.ct_BadCount (fun W' pn xe g => (b_one (b_asg 3 g (c_own (c_makeNK g K_Clock_1_begin_bound (a_cons (c_var 0) a_nil) (k_cons (c_var 1) (k_cons (c_var 2) k_nil))))))) (fun a oe cls d pn c fs H0 F0 own np hc => (b_one (b_ret (c_tup (a_cons c_str (a_cons (c_xf 4 g.hK hc (by rfl) T.x_number) a_nil)))))))
  (b_one (b_ret (c_tup (a_cons (eFld g T.f_fineness (c_var 3)) (a_cons (eFld g T.f_begin (c_var 3)) (a_cons (eFld g T.f_bound (c_var 3)) a_nil))))))))
theorem sc_M_Clock___call__ : FnScope ["self", "ticks", "shown"] ["self", "ticks"] (defScope s_M_Clock___call__) := ⟨rfl, rfl, rfl, by decide +kernel, rfl, by decide +kernel, by decide +kernel⟩
theorem ok_M_Clock___call__ (T : Tx K mg) (E_BadCount : ExcOk P w K mg base (cd K) 1 "BadCount" 1 X_BadCount) {f : Addr} {fd : FuncData} (F : FunD K "__call__" "Clock.__call__" (defArgs s_M_Clock___call__) (defBody s_M_Clock___call__) (defScope s_M_Clock___call__) [] [] f fd) : FnOk P w K mg base (L2.CX P w) 3 f fd ["self", "ticks"] (spM K (cd K) [.p, .p] false S_M_Clock___call__) :=
  mk_def (md := mdOf [.p, .p, .p]) (XX := fun cdv A outer s H E => cxOf (L2.CX P w) P w K mg base ["self", "ticks", "shown"] "Clock.__call__" (defScope s_M_Clock___call__) f cdv A outer s H E) (fun sp len h => F.ok sc_M_Clock___call__ len h) rfl rfl (by decide) (one_of rfl) (mdOf_ok rfl) (fun cdv A outer s H E => gd_cx sc_M_Clock___call__.nd) (fun cdv A outer s H E F0 own mu g =>
  (b_cons (b_if (qLt g (c_var 1) c_int) (b_one (b_raise g E_BadCount (a_cons (c_var 1) a_nil))) b_nil)
  (b_cons (b_asg 2 g (eFdv g (eAdd g (eFld g T.f_begin (c_var 0)) (c_var 1)) (eFld g T.f_fineness (c_var 0))))
  (b_cons (b_if (w_and (qIsNot g (eFld g T.f_bound (c_var 0)) c_non) (w_and1 (qGt g (c_var 2) (eFld g T.f_bound (c_var 0))))).pt (b_one (b_ret (eFld g T.f_bound (c_var 0)))) b_nil)
  (b_one (b_ret (c_var 2)))))))
theorem sc__law_asked : FnScope ["clock", "ticks", "shown", "e"] ["clock", "ticks"] (defScope s__law_asked) := ⟨rfl, rfl, rfl, by decide +kernel, rfl, by decide +kernel, by decide +kernel⟩
theorem ok__law_asked (T : Tx K mg) (I_M_Clock___call__ : CallOk P w K mg base (cd K) 3 2 2 S_M_Clock___call__) {f : Addr} {fd : FuncData} (F : FunD K "_law_asked" "_law_asked" (defArgs s__law_asked) (defBody s__law_asked) (defScope s__law_asked) [] [] f fd) : FnOk P w K mg base (L2.CX P w) 4 f fd ["clock", "ticks"] (spM K (cd K) [.p, .p] false S__law_asked) :=
  mk_def (md := mdOf [.p, .p, .p, .p]) (XX := fun cdv A outer s H E => cxOf (L2.CX P w) P w K mg base ["clock", "ticks", "shown", "e"] "_law_asked" (defScope s__law_asked) f cdv A outer s H E) (fun sp len h => F.ok sc__law_asked len h) rfl rfl (by decide) (one_of rfl) (mdOf_ok rfl) (fun cdv A outer s H E => gd_cx sc__law_asked.nd) (fun cdv A outer s H E F0 own mu g =>
  (b_cons (b_try_as 3 g ⟨rfl, by decide, .inl T.m_BadCount⟩ T.ct_BadCount (fun W' pn xe g => (b_one (b_asg 2 g (c_inst g I_M_Clock___call__ (c_var 0) (a_cons (c_var 1) a_nil))))) (fun a oe cls d pn c fs H0 F0 own np hc => (b_one (b_ret (c_tup (a_cons c_str (a_cons (c_xf 3 g.hK hc (by rfl) T.x_number) a_nil)))))))
  (b_one (b_ret (c_tup (a_cons c_str (a_cons (c_var 2) a_nil)))))))
theorem sc_M_Clock_coarser : FnScope ["self", "many", "bound"] ["self", "many"] (defScope s_M_Clock_coarser) := ⟨rfl, rfl, rfl, by decide +kernel, rfl, by decide +kernel, by decide +kernel⟩
theorem ok_M_Clock_coarser (T : Tx K mg) (E_BadCount : ExcOk P w K mg base (cd K) 1 "BadCount" 1 X_BadCount) (K_Clock_1_begin_bound : MakeOk P w K mg base (cd K) 3 "Clock" 2 1 ["begin", "bound"] gD_Clock_1_begin_bound S_M_Clock___init__) {f : Addr} {fd : FuncData} (F : FunD K "coarser" "Clock.coarser" (defArgs s_M_Clock_coarser) (defBody s_M_Clock_coarser) (defScope s_M_Clock_coarser) [] [] f fd) : FnOk P w K mg base (L2.CX P w) 5 f fd ["self", "many"] (spM K (cd K) [.p, .p] false S_M_Clock_coarser) :=
  mk_def (md := mdOf [.p, .p, .p]) (XX := fun cdv A outer s H E => cxOf (L2.CX P w) P w K mg base ["self", "many", "bound"] "Clock.coarser" (defScope s_M_Clock_coarser) f cdv A outer s H E) (fun sp len h => F.ok sc_M_Clock_coarser len h) rfl rfl (by decide) (one_of rfl) (mdOf_ok rfl) (fun cdv A outer s H E => gd_cx sc_M_Clock_coarser.nd) (fun cdv A outer s H E F0 own mu g =>
  (b_cons (b_if (t_not (qChn iLe iLe c_int (c_var 1) (eFdv g (gInt T.i_COARSEST) (eFld g T.f_fineness (c_var 0))))) (b_one (b_raise g E_BadCount (a_cons (c_var 1) a_nil))) b_nil)
  (b_cons (b_asg 2 g (c_if (qIs g (eFld g T.f_bound (c_var 0)) c_non) c_non (eFdv g (eFld g T.f_bound (c_var 0)) (c_var 1))))
  (b_one (b_ret (c_own (c_makeNK g K_Clock_1_begin_bound (a_cons (eMul g (eFld g T.f_fineness (c_var 0)) (c_var 1)) a_nil) (k_cons (eFld g T.f_begin (c_var 0)) (k_cons (c_var 2) k_nil)))))))))
theorem sc__law_shows : FnScope ["hands", "ticks", "shown"] ["hands", "ticks"] (defScope s__law_shows) := ⟨rfl, rfl, rfl, by decide +kernel, rfl, by decide +kernel, by decide +kernel⟩
theorem ok__law_shows (T : Tx K mg) {f : Addr} {fd : FuncData} (F : FunD K "_law_shows" "_law_shows" (defArgs s__law_shows) (defBody s__law_shows) (defScope s__law_shows) [] [] f fd) : FnOk P w K mg base (L2.CX P w) 2 f fd ["hands", "ticks"] (spM K (cd K) [.p, .p] false S__law_shows) :=
  mk_def (md := mdOf [.p, .p, .p]) (XX := fun cdv A outer s H E => cxOf (L2.CX P w) P w K mg base ["hands", "ticks", "shown"] "_law_shows" (defScope s__law_shows) f cdv A outer s H E) (fun sp len h => F.ok sc__law_shows len h) rfl rfl (by decide) (one_of rfl) (mdOf_ok rfl) (fun cdv A outer s H E => gd_cx sc__law_shows.nd) (fun cdv A outer s H E F0 own mu g =>
  (b_cons (b_asg 2 g (eFdv g (eAdd g (eIx g (c_var 0) c_int) (c_var 1)) (eIx g (c_var 0) c_int)))
  (b_one (b_ret (c_if (w_and (qIsNot g (eIx g (c_var 0) c_int) c_non) (w_and1 (qGt g (c_var 2) (eIx g (c_var 0) c_int)))).pt (eIx g (c_var 0) c_int) (c_var 2))))))
theorem sc__law_coarser : FnScope ["clock", "many", "made", "e"] ["clock", "many"] (defScope s__law_coarser) := ⟨rfl, rfl, rfl, by decide +kernel, rfl, by decide +kernel, by decide +kernel⟩
theorem ok__law_coarser (T : Tx K mg) (M_M_Clock_coarser : MethOk P w K mg base (cd K) 5 2 "coarser" [.p] false [] S_M_Clock_coarser) {f : Addr} {fd : FuncData} (F : FunD K "_law_coarser" "_law_coarser" (defArgs s__law_coarser) (defBody s__law_coarser) (defScope s__law_coarser) [] [] f fd) : FnOk P w K mg base (L2.CX P w) 6 f fd ["clock", "many"] (spM K (cd K) [.p, .p] false S__law_coarser) :=
  mk_def (md := mdOf [.p, .p, .p, .p]) (XX := fun cdv A outer s H E => cxOf (L2.CX P w) P w K mg base ["clock", "many", "made", "e"] "_law_coarser" (defScope s__law_coarser) f cdv A outer s H E) (fun sp len h => F.ok sc__law_coarser len h) rfl rfl (by decide) (one_of rfl) (mdOf_ok rfl) (fun cdv A outer s H E => gd_cx sc__law_coarser.nd) (fun cdv A outer s H E F0 own mu g =>
  (b_cons (b_try_as 3 g ⟨rfl, by decide, .inl T.m_BadCount⟩ T.ct_BadCount (fun W' pn xe g => (b_one (b_asg 2 g (c_methR g M_M_Clock_coarser (by decide) rfl rfl rfl (c_var 0) (s_cons (c_var 1) s_nil))))) (fun a oe cls d pn c fs H0 F0 own np hc => (b_one (b_ret (c_tup (a_cons c_str (a_cons (c_xf 3 g.hK hc (by rfl) T.x_number) a_nil)))))))
  (b_one (b_ret (c_tup (a_cons (eFld g T.f_fineness (c_var 2)) (a_cons (eFld g T.f_begin (c_var 2)) (a_cons (eFld g T.f_bound (c_var 2)) a_nil))))))))
theorem sc_M_Clock___le__ : FnScope ["self", "other", "shown", "ticks"] ["self", "other"] (defScope s_M_Clock___le__) := ⟨rfl, rfl, rfl, by decide +kernel, rfl, by decide +kernel, by decide +kernel⟩
theorem ok_M_Clock___le__ (T : Tx K mg) (M_M_Clock_moves_at : MethOk P w K mg base (cd K) 2 2 "moves_at" [.p] false [] S_M_Clock_moves_at) {f : Addr} {fd : FuncData} (F : FunD K "__le__" "Clock.__le__" (defArgs s_M_Clock___le__) (defBody s_M_Clock___le__) (defScope s_M_Clock___le__) [] [] f fd) : FnOk P w K mg base (L2.CX P w) 3 f fd ["self", "other"] (spM K (cd K) [.p, .p] false S_M_Clock___le__) :=
  mk_def (md := mdOf [.p, .p, .p, .p]) (XX := fun cdv A outer s H E => cxOf (L2.CX P w) P w K mg base ["self", "other", "shown", "ticks"] "Clock.__le__" (defScope s_M_Clock___le__) f cdv A outer s H E) (fun sp len h => F.ok sc_M_Clock___le__ len h) rfl rfl (by decide) (one_of rfl) (mdOf_ok rfl) (fun cdv A outer s H E => gd_cx sc_M_Clock___le__.nd) (fun cdv A outer s H E F0 own mu g =>
  (b_cons (b_if (t_not (eVal g (fIsiC g T.z_isinstance T.m_Clock (T.ic_Clock _ rfl rfl) (c_var 1)))) (b_one b_no) b_nil)
  (b_cons (b_if (qIs g (eFld g T.f_bound (c_var 0)) c_non) (b_cons (b_if (qIsNot g (eFld g T.f_bound (c_var 1)) c_non) (b_one (b_ret c_bl)) b_nil)
  (b_one (b_ret (c_and (eEq g (eMod g (fInt' g T.z_int (a_cons (eFld g T.f_fineness (c_var 0)) a_nil)) (eFld g T.f_fineness (c_var 1))) c_int) (c_one (eEq g (eMod g (fInt' g T.z_int (a_cons (eSub g (eFld g T.f_begin (c_var 0)) (eFld g T.f_begin (c_var 1))) a_nil)) (eFld g T.f_fineness (c_var 1))) c_int)))))) b_nil)
  (b_cons (b_for (vs := [0, 1, 2, 3]) g (i_rng2 rfl T.z_range c_int (eAdd g (eFld g T.f_bound (c_var 0)) c_int)) (gt_name 2 g.nd) (b_cons (b_asg 3 g (eSub g (eMul g (c_var 2) (eFld g T.f_fineness (c_var 0))) (eFld g T.f_begin (c_var 0))))
  (b_one (b_if (w_and (qGt g (c_var 3) c_int) (w_and1 (t_not (eVal g (c_methR g M_M_Clock_moves_at (by decide) rfl rfl rfl (c_var 1) (s_cons (c_var 3) s_nil)))))).pt (b_one (b_ret c_bl)) b_nil))) (by intro _; rfl))
  (b_one (b_ret c_bl))))))
theorem sc_law : FnScope ["script", "box", "fine", "begun", "end", "hands", "clock", "plain", "asks", "k", "near", "ticks", "most", "due", "told", "many", "good", "wide", "coarse", "wrong", "counts", "t"] ["script"] (defScope s_law) := ⟨rfl, rfl, rfl, by decide +kernel, rfl, by decide +kernel, by decide +kernel⟩
theorem ok_law (T : Tx K mg) (D__law_asked : DefOk P w K mg base (cd K) 4 "_law_asked" [.p, .p] false [] S__law_asked) (D__law_box : DefOk P w K mg base (cd K) 2 "_law_box" [.p] true [] S__law_box) (D__law_coarser : DefOk P w K mg base (cd K) 6 "_law_coarser" [.p, .p] false [] S__law_coarser) (D__law_draw : DefOk P w K mg base (cd K) 2 "_law_draw" [.o, .p] false [] S__law_draw) (D__law_made : DefOk P w K mg base (cd K) 5 "_law_made" [.p, .p, .p] false [] S__law_made) (D__law_same : DefOk P w K mg base (cd K) 14 "_law_same" [.p, .p] false [] S__law_same) (D__law_shows : DefOk P w K mg base (cd K) 2 "_law_shows" [.p, .p] false [] S__law_shows) (I_M_Clock___call__ : CallOk P w K mg base (cd K) 3 2 2 S_M_Clock___call__) (K_Clock_0 : MakeOk P w K mg base (cd K) 3 "Clock" 2 0 [] gD_Clock_0 S_M_Clock___init__) (K_Clock_1 : MakeOk P w K mg base (cd K) 3 "Clock" 2 1 [] gD_Clock_1 S_M_Clock___init__) (K_Clock_1_begin_bound : MakeOk P w K mg base (cd K) 3 "Clock" 2 1 ["begin", "bound"] gD_Clock_1_begin_bound S_M_Clock___init__) (M_M_Clock_coarser : MethOk P w K mg base (cd K) 5 2 "coarser" [.p] false [] S_M_Clock_coarser) (M_M_Clock_turns : MethOk P w K mg base (cd K) 3 2 "turns" [.p] true [] S_M_Clock_turns) (O_M_Clock___le__ : OpOk P w K mg base (cd K) 3 .LtE 2 cs_Clock S_M_Clock___le__) {f : Addr} {fd : FuncData} (F : FunD K "law" "law" (defArgs s_law) (defBody s_law) (defScope s_law) [] [] f fd) : FnOk P w K mg base (L2.CX P w) 15 f fd ["script"] (spM K (cd K) [.p] false S_law) :=
  mk_def (md := mdOf [.p, .o, .p, .p, .p, .p, .p, .p, .p, .p, .p, .p, .p, .p, .o, .p, .p, .p, .p, .p, .p, .p]) (XX := fun cdv A outer s H E => cxOf (L2.CX P w) P w K mg base ["script", "box", "fine", "begun", "end", "hands", "clock", "plain", "asks", "k", "near", "ticks", "most", "due", "told", "many", "good", "wide", "coarse", "wrong", "counts", "t"] "law" (defScope s_law) f cdv A outer s H E) (fun sp len h => F.ok sc_law len h) rfl rfl (by decide) (one_of rfl) (mdOf_ok rfl) (fun cdv A outer s H E => gd_cx sc_law.nd) (fun cdv A outer s H E F0 own mu g =>
  (b_cons (b_asgO 1 g (c_callO g D__law_box (s_cons (c_var 0) s_nil)) (hnp := Nat.le_of_ble_eq_true rfl))
  (b_cons (b_asg 2 g (eAdd g c_int (c_call g D__law_draw (s_own 1 (s_cons c_int s_nil)))))
  (b_cons (b_asg 3 g (eIx g (c_lst (a_cons (c_call g D__law_draw (s_own 1 (s_cons c_int s_nil))) (a_cons (c_call g D__law_draw (s_own 1 (s_cons (ePow g c_int c_int) s_nil))) (a_cons (eSub g (ePow g c_int c_int) c_int) a_nil)))) (c_call g D__law_draw (s_own 1 (s_cons c_int s_nil)))))
  (b_cons (b_asg 4 g (eIx g (c_lst (a_cons c_non (a_cons (c_call g D__law_draw (s_own 1 (s_cons c_int s_nil))) a_nil))) (c_call g D__law_draw (s_own 1 (s_cons c_int s_nil)))))
  (b_cons (b_asg 5 g (c_tup (a_cons (c_var 2) (a_cons (c_var 3) (a_cons (c_var 4) a_nil)))))
  (b_cons (b_if (t_not (eVal g (c_call g D__law_same (s_cons (c_call g D__law_made (s_cons (c_var 2) (s_cons (c_var 3) (s_cons (c_var 4) s_nil)))) (s_cons (c_var 5) s_nil))))) (b_one (b_ret c_bl)) b_nil)
  (b_cons (b_asg 6 g (c_own (c_makeNK g K_Clock_1_begin_bound (a_cons (c_var 2) a_nil) (k_cons (c_var 3) (k_cons (c_var 4) k_nil)))))
  (b_cons (b_asg 7 g (c_own (c_make00 g K_Clock_0)))
  (b_cons (b_if (w_or (t_not (eVal g (c_call g D__law_same (s_cons (c_tup (a_cons (eFld g T.f_fineness (c_var 7)) (a_cons (eFld g T.f_begin (c_var 7)) (a_cons (eFld g T.f_bound (c_var 7)) a_nil)))) (s_cons (c_tup (a_cons c_int (a_cons c_int (a_cons c_non a_nil)))) s_nil))))) (w_or1 (t_not (eVal g (c_call g D__law_same (s_cons (c_inst g I_M_Clock___call__ (c_own (c_makeN g K_Clock_1 (a_cons c_int a_nil))) (a_cons c_int a_nil)) (s_cons c_int s_nil))))))).pt (b_one (b_ret c_bl)) b_nil)
  (b_cons (b_asg 8 g (eAdd g (eAdd g (e_lc [("k", 9)] g (i_rng1 rfl T.z_range c_int) (fun s H C cl fp H0 F0 ow np => (gt_name 9 g.nd)) (fun s H C cl fp H0 F0 ow np g => ts_nil) (fun s H C cl fp H0 F0 ow np g => (c_call g D__law_draw (s_own 1 (s_cons (ePow g c_int c_int) s_nil))))) (c_listR2 g c_int c_int (hm := T.z_list) (hm2 := T.z_range))) (c_lst (a_cons (ePow g c_int c_int) a_nil))))
  (b_cons (b_for (vs := [0, 1, 2, 3, 4, 5, 6, 7, 8, 9, 10, 11, 12, 13, 14, 15, 16, 17, 18, 19, 20, 21]) g (i_rng1 rfl T.z_range c_int) (gt_name 9 g.nd) (b_cons (b_asg 10 g (eSub g (eMul g (eAdd g (c_call g D__law_draw (s_own 1 (s_cons c_int s_nil))) c_int) (c_var 2)) (c_var 3)))
  (b_one (b_asg 8 g (eAdd g (c_var 8) (e_lc [("ticks", 11)] g (i_lst g.hK (c_lst (a_cons (eSub g (c_var 10) c_int) (a_cons (c_var 10) (a_cons (eAdd g (c_var 10) c_int) a_nil))))) (fun s H C cl fp H0 F0 ow np => (gt_name 11 g.nd)) (fun s H C cl fp H0 F0 ow np g => (ts_one (qGe g (c_var 11) c_int))) (fun s H C cl fp H0 F0 ow np g => (c_var 11))))))) (by intro _; rfl))
  (b_cons (b_for (vs := [0, 1, 2, 3, 4, 5, 6, 7, 8, 9, 10, 11, 12, 13, 14, 15, 16, 17, 18, 19, 20, 21]) g (i_lst g.hK (c_var 8)) (gt_name 11 g.nd) (b_one (b_if (w_or (t_not (eVal g (c_call g D__law_same (s_cons (c_inst g I_M_Clock___call__ (c_var 6) (a_cons (c_var 11) a_nil)) (s_cons (c_call g D__law_shows (s_cons (c_var 5) (s_cons (c_var 11) s_nil))) s_nil))))) (w_or1 (t_not (eVal g (c_call g D__law_same (s_cons (c_inst g I_M_Clock___call__ (c_var 7) (a_cons (c_var 11) a_nil)) (s_cons (c_var 11) s_nil))))))).pt (b_one (b_ret c_bl)) b_nil)) (by intro _; rfl))
  (b_cons (b_asg 12 g (eIx g (c_lst (a_cons (c_call g D__law_draw (s_own 1 (s_cons c_int s_nil))) (a_cons c_int (a_cons c_int a_nil)))) (c_call g D__law_draw (s_own 1 (s_cons c_int s_nil)))))
  (b_cons (b_asgLc 13 [("t", 21)] g (i_rng2 rfl T.z_range c_int (eAdd g (c_var 12) c_int)) (fun s H C cl fp H0 F0 ow np => (gt_name 21 g.nd)) (fun s H C cl fp H0 F0 ow np g => (ts_one (qGt g (c_call g D__law_shows (s_cons (c_var 5) (s_cons (c_var 21) s_nil))) (c_call g D__law_shows (s_cons (c_var 5) (s_cons (eSub g (c_var 21) c_int) s_nil)))))) (fun s H C cl fp H0 F0 ow np g => (c_var 21)))
  (b_cons (b_asgO 14 g (c_methR g M_M_Clock_turns (by decide) rfl rfl rfl (c_var 6) (s_cons (c_var 12) s_nil)) (hnp := Nat.le_of_ble_eq_true rfl))
  (b_cons (b_if (c_viewT g (fun H g => (t_not (eVal g (c_call g D__law_same (s_cons (c_var 14) (s_cons (c_var 13) s_nil))))))) (b_one (b_ret c_bl)) b_nil)
  (b_cons (b_app 14 g.hK rfl c_int)
  (b_cons (b_if (w_or (t_not (eVal g (c_call g D__law_same (s_cons (c_own (c_methR g M_M_Clock_turns (by decide) rfl rfl rfl (c_var 6) (s_cons (c_var 12) s_nil))) (s_cons (c_var 13) s_nil))))) (w_or1 (qNe g (c_call g D__law_asked (s_cons (c_var 6) (s_cons (eSub g c_int c_int) s_nil))) (c_tup (a_cons c_str (a_cons (eSub g c_int c_int) a_nil)))))).pt (b_one (b_ret c_bl)) b_nil)
  (b_cons (b_for (vs := [0, 1, 2, 3, 4, 5, 6, 7, 8, 9, 10, 11, 12, 13, 14, 15, 16, 17, 18, 19, 20, 21]) g (i_rng2 rfl T.z_range c_int c_int) (gt_name 15 g.nd) (b_cons (b_asg 16 g (c_and (eGt g (c_var 15) c_int) (c_one (eLe g (eMul g (c_var 2) (c_var 15)) c_int))))
  (b_cons (b_asg 17 g (c_if (eVal g (c_var 16)) (c_tup (a_cons (eMul g (c_var 2) (c_var 15)) (a_cons (c_var 3) (a_cons (c_if (qIs g (c_var 4) c_non) c_non (eFdv g (c_var 4) (c_var 15))) a_nil)))) (c_tup (a_cons c_str (a_cons (c_var 15) a_nil)))))
  (b_cons (b_if (t_not (eVal g (c_call g D__law_same (s_cons (c_call g D__law_coarser (s_cons (c_var 6) (s_cons (c_var 15) s_nil))) (s_cons (c_var 17) s_nil))))) (b_one (b_ret c_bl)) b_nil)
  (b_one (b_if (eVal g (c_var 16)) (b_cons (b_asg 18 g (c_methR g M_M_Clock_coarser (by decide) rfl rfl rfl (c_var 6) (s_cons (c_var 15) s_nil)))
  (b_one (b_if (w_or (t_not (t_cmpO g O_M_Clock___le__ (c_var 18) (c_var 6))) (w_or1 (t_not (eVal g (fAll' g T.z_all (a_cons (e_lc [("t", 21)] g (i_lst g.hK (c_var 8)) (fun s H C cl fp H0 F0 ow np => (gt_name 21 g.nd)) (fun s H C cl fp H0 F0 ow np g => ts_nil) (fun s H C cl fp H0 F0 ow np g => (c_call g D__law_same (s_cons (c_inst g I_M_Clock___call__ (c_var 18) (a_cons (c_var 21) a_nil)) (s_cons (c_call g D__law_shows (s_cons (c_var 17) (s_cons (c_var 21) s_nil))) s_nil))))) a_nil)))))).pt (b_one (b_ret c_bl)) b_nil))) b_nil))))) (by intro _; rfl))
  (b_cons (b_asg 19 g (c_lst (a_cons (c_tup (a_cons c_int (a_cons c_int (a_cons c_non a_nil)))) (a_cons (c_tup (a_cons c_int (a_cons c_int (a_cons c_non a_nil)))) (a_cons (c_tup (a_cons (eSub g c_int c_int) (a_cons (eSub g c_int c_int) (a_cons c_int a_nil)))) (a_cons (c_tup (a_cons c_int (a_cons (eSub g c_int c_int) (a_cons c_non a_nil)))) (a_cons (c_tup (a_cons c_int (a_cons (eSub g c_int c_int) (a_cons c_int a_nil)))) (a_cons (c_tup (a_cons c_int (a_cons c_int (a_cons (eSub g c_int c_int) a_nil)))) (a_cons (c_tup (a_cons c_int (a_cons c_int (a_cons c_int a_nil)))) a_nil)))))))))
  (b_cons (b_asg 20 g (c_lst (a_cons c_int (a_cons c_int (a_cons (eSub g c_int c_int) (a_cons (eSub g c_int c_int) (a_cons (eSub g c_int c_int) (a_cons (eSub g c_int c_int) (a_cons c_int a_nil)))))))))
  (b_cons (b_for (vs := [0, 1, 2, 3, 4, 5, 6, 7, 8, 9, 10, 11, 12, 13, 14, 15, 16, 17, 18, 19, 20, 21]) g (i_rng1 rfl T.z_range c_int) (gt_name 9 g.nd) (b_one (b_if (qNe g (c_call g D__law_made (s_cons (eIx g (eIx g (c_var 19) (c_var 9)) c_int) (s_cons (eIx g (eIx g (c_var 19) (c_var 9)) c_int) (s_cons (eIx g (eIx g (c_var 19) (c_var 9)) c_int) s_nil)))) (c_tup (a_cons c_str (a_cons (eIx g (c_var 20) (c_var 9)) a_nil)))) (b_one (b_ret c_bl)) b_nil)) (by intro _; rfl))
  (b_one (b_ret (c_and (c_call g D__law_same (s_cons (c_call g D__law_made (s_cons c_int (s_cons c_int (s_cons c_int s_nil)))) (s_cons (c_tup (a_cons c_int (a_cons c_int (a_cons c_int a_nil)))) s_nil))) (c_one (c_call g D__law_same (s_cons (c_call g D__law_made (s_cons c_int (s_cons c_int (s_cons c_int s_nil)))) (s_cons (c_tup (a_cons c_int (a_cons c_int (a_cons c_int a_nil)))) s_nil))))))))))))))))))))))))))))))
end
def d__law_box : He.DefD := ⟨("_law_box", none), "_law_box", "_law_box", defArgs s__law_box, defBody s__law_box, defScope s__law_box, [], []⟩
def d__turning : He.DefD := ⟨("_turning", none), "_turning", "_turning", defArgs s__turning, defBody s__turning, defScope s__turning, [], []⟩
def d_M_BadCount___init__ : He.DefD := ⟨("BadCount", some "__init__"), "__init__", "BadCount.__init__", defArgs s_M_BadCount___init__, defBody s_M_BadCount___init__, defScope s_M_BadCount___init__, [], []⟩
def d_M_Clock___init__ : He.DefD := ⟨("Clock", some "__init__"), "__init__", "Clock.__init__", defArgs s_M_Clock___init__, defBody s_M_Clock___init__, defScope s_M_Clock___init__, [.int (1)], [("begin", .int (0)), ("bound", .non)]⟩
def d_M_Clock_moves_at : He.DefD := ⟨("Clock", some "moves_at"), "moves_at", "Clock.moves_at", defArgs s_M_Clock_moves_at, defBody s_M_Clock_moves_at, defScope s_M_Clock_moves_at, [], []⟩
def d_M_Clock_turns : He.DefD := ⟨("Clock", some "turns"), "turns", "Clock.turns", defArgs s_M_Clock_turns, defBody s_M_Clock_turns, defScope s_M_Clock_turns, [], []⟩
def d__law_draw : He.DefD := ⟨("_law_draw", none), "_law_draw", "_law_draw", defArgs s__law_draw, defBody s__law_draw, defScope s__law_draw, [], []⟩
def d__law_same : He.DefD := ⟨("_law_same", none), "_law_same", "_law_same", defArgs s__law_same, defBody s__law_same, defScope s__law_same, [], []⟩
def d__law_made : He.DefD := ⟨("_law_made", none), "_law_made", "_law_made", defArgs s__law_made, defBody s__law_made, defScope s__law_made, [], []⟩
def d_M_Clock___call__ : He.DefD := ⟨("Clock", some "__call__"), "__call__", "Clock.__call__", defArgs s_M_Clock___call__, defBody s_M_Clock___call__, defScope s_M_Clock___call__, [], []⟩
def d__law_asked : He.DefD := ⟨("_law_asked", none), "_law_asked", "_law_asked", defArgs s__law_asked, defBody s__law_asked, defScope s__law_asked, [], []⟩
def d_M_Clock_coarser : He.DefD := ⟨("Clock", some "coarser"), "coarser", "Clock.coarser", defArgs s_M_Clock_coarser, defBody s_M_Clock_coarser, defScope s_M_Clock_coarser, [], []⟩
def d__law_shows : He.DefD := ⟨("_law_shows", none), "_law_shows", "_law_shows", defArgs s__law_shows, defBody s__law_shows, defScope s__law_shows, [], []⟩
def d__law_coarser : He.DefD := ⟨("_law_coarser", none), "_law_coarser", "_law_coarser", defArgs s__law_coarser, defBody s__law_coarser, defScope s__law_coarser, [], []⟩
def d_M_Clock___le__ : He.DefD := ⟨("Clock", some "__le__"), "__le__", "Clock.__le__", defArgs s_M_Clock___le__, defBody s_M_Clock___le__, defScope s_M_Clock___le__, [], []⟩
def d_law : He.DefD := ⟨("law", none), "law", "law", defArgs s_law, defBody s_law, defScope s_law, [], []⟩
def fn : List He.DefD := [d__law_box, d__turning, d_M_BadCount___init__, d_M_Clock___init__, d_M_Clock_moves_at, d_M_Clock_turns, d__law_draw, d__law_same, d__law_made, d_M_Clock___call__, d__law_asked, d_M_Clock_coarser, d__law_shows, d__law_coarser, d_M_Clock___le__, d_law]
def fa : List He.Fa := [.free "abs", .free "all", .free "bool", .free "divmod", .free "int", .free "isinstance", .free "len", .free "list", .free "range", .free "tuple", .int "COARSEST" (12), .int "LATEST" (12), .glo "BadCount", .glo "Clock", .glo "TellError", .cls "Clock", .noat "Clock" "begin", .noat "Clock" "bound", .noat "Clock" "fineness", .noat "Clock" "form", .exm "BadCount" "BadCount" true, .glo "law", .glo "_turning", .meth "Clock" "moves_at", .glo "_law_same", .mkr "Clock", .meth "Clock" "__call__", .meth "Clock" "coarser", .glo "_law_asked", .glo "_law_box", .glo "_law_coarser", .glo "_law_draw", .glo "_law_made", .glo "_law_shows", .meth "Clock" "turns", .meth "Clock" "__le__"]
def bs : List Bf := [bRead "TellError", bXf "BadCount", bNo "BadCount" "number", bInst "Clock", bKit "Clock" "Clock" true, bKitB "Clock", bIni "BadCount" "BadCount", bExc "BadCount", bCall "Clock", bFst "Clock" "Clock"]
theorem all {l : PySem.W.OpenLaw} {w : World} {K : PySem.W.Frag} {h : Heap} {mg : Str → Option Value} {f : Addr} (X : K.In h) (G : h.Ns mainGlobals mg) (hfa : mg ("law" : Str) = some (.ref f)) (c : SaysM fa bs fn K) :
    ∃ fd : FuncData, (∀ (s : Shared) (v : Value), BindsTo s fd ⟨[v], []⟩ [("script", v)]) ∧ ∀ base : Heap, K.In base → base.Ns mainGlobals mg → FnOk l.prog w K mg base (L2.CX l.prog w) 15 f fd ["script"] (spM K (cd K) [.p] false S_law) := by
  obtain ⟨fd__law_box, F__law_box⟩ := c.def_ 0 (d := d__law_box) rfl
  replace F__law_box : FunD K "_law_box" "_law_box" (defArgs s__law_box) (defBody s__law_box) (defScope s__law_box) [] [] (He.fAd K d__law_box.at_) fd__law_box := F__law_box
  have b__law_box := FunD.bindsN (ps := ["script"]) F__law_box fun _ _ _ _ _ _ us hl => match us, hl with | [_], _ => rfl
  obtain ⟨fd__turning, F__turning⟩ := c.def_ 1 (d := d__turning) rfl
  replace F__turning : FunD K "_turning" "_turning" (defArgs s__turning) (defBody s__turning) (defScope s__turning) [] [] (He.fAd K d__turning.at_) fd__turning := F__turning
  have b__turning := FunD.bindsN (ps := ["fineness", "begin", "bound"]) F__turning fun _ _ _ _ _ _ us hl => match us, hl with | [_, _, _], _ => rfl
  obtain ⟨fd_M_BadCount___init__, F_M_BadCount___init__⟩ := c.def_ 2 (d := d_M_BadCount___init__) rfl
  replace F_M_BadCount___init__ : FunD K "__init__" "BadCount.__init__" (defArgs s_M_BadCount___init__) (defBody s_M_BadCount___init__) (defScope s_M_BadCount___init__) [] [] (He.fAd K d_M_BadCount___init__.at_) fd_M_BadCount___init__ := F_M_BadCount___init__
  have b_M_BadCount___init__ := FunD.bindsN (ps := ["self", "number"]) F_M_BadCount___init__ fun _ _ _ _ _ _ us hl => match us, hl with | [_, _], _ => rfl
  obtain ⟨fd_M_Clock___init__, F_M_Clock___init__⟩ := c.def_ 3 (d := d_M_Clock___init__) rfl
  replace F_M_Clock___init__ : FunD K "__init__" "Clock.__init__" (defArgs s_M_Clock___init__) (defBody s_M_Clock___init__) (defScope s_M_Clock___init__) [V.int (1)] [("begin", V.int (0)), ("bound", V.non)] (He.fAd K d_M_Clock___init__.at_) fd_M_Clock___init__ := F_M_Clock___init__
  obtain ⟨fd_M_Clock_moves_at, F_M_Clock_moves_at⟩ := c.def_ 4 (d := d_M_Clock_moves_at) rfl
  replace F_M_Clock_moves_at : FunD K "moves_at" "Clock.moves_at" (defArgs s_M_Clock_moves_at) (defBody s_M_Clock_moves_at) (defScope s_M_Clock_moves_at) [] [] (He.fAd K d_M_Clock_moves_at.at_) fd_M_Clock_moves_at := F_M_Clock_moves_at
  have b_M_Clock_moves_at := FunD.bindsN (ps := ["self", "ticks"]) F_M_Clock_moves_at fun _ _ _ _ _ _ us hl => match us, hl with | [_, _], _ => rfl
  obtain ⟨fd_M_Clock_turns, F_M_Clock_turns⟩ := c.def_ 5 (d := d_M_Clock_turns) rfl
  replace F_M_Clock_turns : FunD K "turns" "Clock.turns" (defArgs s_M_Clock_turns) (defBody s_M_Clock_turns) (defScope s_M_Clock_turns) [] [] (He.fAd K d_M_Clock_turns.at_) fd_M_Clock_turns := F_M_Clock_turns
  have b_M_Clock_turns := FunD.bindsN (ps := ["self", "most"]) F_M_Clock_turns fun _ _ _ _ _ _ us hl => match us, hl with | [_, _], _ => rfl
  obtain ⟨fd__law_draw, F__law_draw⟩ := c.def_ 6 (d := d__law_draw) rfl
  replace F__law_draw : FunD K "_law_draw" "_law_draw" (defArgs s__law_draw) (defBody s__law_draw) (defScope s__law_draw) [] [] (He.fAd K d__law_draw.at_) fd__law_draw := F__law_draw
  have b__law_draw := FunD.bindsN (ps := ["box", "size"]) F__law_draw fun _ _ _ _ _ _ us hl => match us, hl with | [_, _], _ => rfl
  obtain ⟨fd__law_same, F__law_same⟩ := c.def_ 7 (d := d__law_same) rfl
  replace F__law_same : FunD K "_law_same" "_law_same" (defArgs s__law_same) (defBody s__law_same) (defScope s__law_same) [] [] (He.fAd K d__law_same.at_) fd__law_same := F__law_same
  have b__law_same := FunD.bindsN (ps := ["one", "two"]) F__law_same fun _ _ _ _ _ _ us hl => match us, hl with | [_, _], _ => rfl
  obtain ⟨fd__law_made, F__law_made⟩ := c.def_ 8 (d := d__law_made) rfl
  replace F__law_made : FunD K "_law_made" "_law_made" (defArgs s__law_made) (defBody s__law_made) (defScope s__law_made) [] [] (He.fAd K d__law_made.at_) fd__law_made := F__law_made
  have b__law_made := FunD.bindsN (ps := ["fine", "begun", "end"]) F__law_made fun _ _ _ _ _ _ us hl => match us, hl with | [_, _, _], _ => rfl
  obtain ⟨fd_M_Clock___call__, F_M_Clock___call__⟩ := c.def_ 9 (d := d_M_Clock___call__) rfl
  replace F_M_Clock___call__ : FunD K "__call__" "Clock.__call__" (defArgs s_M_Clock___call__) (defBody s_M_Clock___call__) (defScope s_M_Clock___call__) [] [] (He.fAd K d_M_Clock___call__.at_) fd_M_Clock___call__ := F_M_Clock___call__
  have b_M_Clock___call__ := FunD.bindsN (ps := ["self", "ticks"]) F_M_Clock___call__ fun _ _ _ _ _ _ us hl => match us, hl with | [_, _], _ => rfl
  obtain ⟨fd__law_asked, F__law_asked⟩ := c.def_ 10 (d := d__law_asked) rfl
  replace F__law_asked : FunD K "_law_asked" "_law_asked" (defArgs s__law_asked) (defBody s__law_asked) (defScope s__law_asked) [] [] (He.fAd K d__law_asked.at_) fd__law_asked := F__law_asked
  have b__law_asked := FunD.bindsN (ps := ["clock", "ticks"]) F__law_asked fun _ _ _ _ _ _ us hl => match us, hl with | [_, _], _ => rfl
  obtain ⟨fd_M_Clock_coarser, F_M_Clock_coarser⟩ := c.def_ 11 (d := d_M_Clock_coarser) rfl
  replace F_M_Clock_coarser : FunD K "coarser" "Clock.coarser" (defArgs s_M_Clock_coarser) (defBody s_M_Clock_coarser) (defScope s_M_Clock_coarser) [] [] (He.fAd K d_M_Clock_coarser.at_) fd_M_Clock_coarser := F_M_Clock_coarser
  have b_M_Clock_coarser := FunD.bindsN (ps := ["self", "many"]) F_M_Clock_coarser fun _ _ _ _ _ _ us hl => match us, hl with | [_, _], _ => rfl
  obtain ⟨fd__law_shows, F__law_shows⟩ := c.def_ 12 (d := d__law_shows) rfl
  replace F__law_shows : FunD K "_law_shows" "_law_shows" (defArgs s__law_shows) (defBody s__law_shows) (defScope s__law_shows) [] [] (He.fAd K d__law_shows.at_) fd__law_shows := F__law_shows
  have b__law_shows := FunD.bindsN (ps := ["hands", "ticks"]) F__law_shows fun _ _ _ _ _ _ us hl => match us, hl with | [_, _], _ => rfl
  obtain ⟨fd__law_coarser, F__law_coarser⟩ := c.def_ 13 (d := d__law_coarser) rfl
  replace F__law_coarser : FunD K "_law_coarser" "_law_coarser" (defArgs s__law_coarser) (defBody s__law_coarser) (defScope s__law_coarser) [] [] (He.fAd K d__law_coarser.at_) fd__law_coarser := F__law_coarser
  have b__law_coarser := FunD.bindsN (ps := ["clock", "many"]) F__law_coarser fun _ _ _ _ _ _ us hl => match us, hl with | [_, _], _ => rfl
  obtain ⟨fd_M_Clock___le__, F_M_Clock___le__⟩ := c.def_ 14 (d := d_M_Clock___le__) rfl
  replace F_M_Clock___le__ : FunD K "__le__" "Clock.__le__" (defArgs s_M_Clock___le__) (defBody s_M_Clock___le__) (defScope s_M_Clock___le__) [] [] (He.fAd K d_M_Clock___le__.at_) fd_M_Clock___le__ := F_M_Clock___le__
  have b_M_Clock___le__ := FunD.bindsN (ps := ["self", "other"]) F_M_Clock___le__ fun _ _ _ _ _ _ us hl => match us, hl with | [_, _], _ => rfl
  obtain ⟨fd_law, F_law⟩ := c.def_ 15 (d := d_law) rfl
  replace F_law : FunD K "law" "law" (defArgs s_law) (defBody s_law) (defScope s_law) [] [] (He.fAd K d_law.at_) fd_law := F_law
  have b_law := FunD.bindsA (ps := ["script"]) F_law fun _ _ _ _ _ _ us hl => match us, hl with | [_], _ => rfl
  have T : Tx K mg := {
    z_abs := He.free_ok X G (c.fact 0 (f := .free "abs") rfl)
    z_all := He.free_ok X G (c.fact 1 (f := .free "all") rfl)
    z_bool := He.free_ok X G (c.fact 2 (f := .free "bool") rfl)
    z_divmod := He.free_ok X G (c.fact 3 (f := .free "divmod") rfl)
    z_int := He.free_ok X G (c.fact 4 (f := .free "int") rfl)
    z_isinstance := He.free_ok X G (c.fact 5 (f := .free "isinstance") rfl)
    z_len := He.free_ok X G (c.fact 6 (f := .free "len") rfl)
    z_list := He.free_ok X G (c.fact 7 (f := .free "list") rfl)
    z_range := He.free_ok X G (c.fact 8 (f := .free "range") rfl)
    z_tuple := He.free_ok X G (c.fact 9 (f := .free "tuple") rfl)
    i_COARSEST := He.int_ok X G (c.fact 10 (f := .int "COARSEST" (12)) rfl)
    i_LATEST := He.int_ok X G (c.fact 11 (f := .int "LATEST" (12)) rfl)
    m_BadCount := He.glo_ok X G (c.fact 12 (f := .glo "BadCount") rfl)
    m_Clock := He.glo_ok X G (c.fact 13 (f := .glo "Clock") rfl)
    m_TellError := He.glo_ok X G (c.fact 14 (f := .glo "TellError") rfl)
    r_TellError := bRead_ok (c.test 0 (b := bRead "TellError") rfl)
    f_begin := (FldOk.cons rfl (He.cls_ok (c.fact 15 (f := .cls "Clock") rfl)) (He.noat_ok (c.fact 16 (f := .noat "Clock" "begin") rfl)) rfl nd_Clock FldOk.nil)
    f_bound := (FldOk.cons rfl (He.cls_ok (c.fact 15 (f := .cls "Clock") rfl)) (He.noat_ok (c.fact 17 (f := .noat "Clock" "bound") rfl)) rfl nd_Clock FldOk.nil)
    f_fineness := (FldOk.cons rfl (He.cls_ok (c.fact 15 (f := .cls "Clock") rfl)) (He.noat_ok (c.fact 18 (f := .noat "Clock" "fineness") rfl)) rfl nd_Clock FldOk.nil)
    x_number := (XfOk.cons rfl (bXf_ok (c.test 1 (b := bXf "BadCount") rfl)) (bNo_ok (c.test 2 (b := bNo "BadCount" "number") rfl)) rfl nd_BadCount XfOk.nil)
    o_Clock_begin := ⟨_, rfl, (He.cls_ok (c.fact 15 (f := .cls "Clock") rfl)), He.noat_ok (c.fact 16 (f := .noat "Clock" "begin") rfl), rfl, nd_Clock, rfl, nl_Clock⟩
    o_Clock_bound := ⟨_, rfl, (He.cls_ok (c.fact 15 (f := .cls "Clock") rfl)), He.noat_ok (c.fact 17 (f := .noat "Clock" "bound") rfl), rfl, nd_Clock, rfl, nl_Clock⟩
    o_Clock_fineness := ⟨_, rfl, (He.cls_ok (c.fact 15 (f := .cls "Clock") rfl)), He.noat_ok (c.fact 18 (f := .noat "Clock" "fineness") rfl), rfl, nd_Clock, rfl, nl_Clock⟩
    o_Clock_form := ⟨_, rfl, (He.cls_ok (c.fact 15 (f := .cls "Clock") rfl)), He.noat_ok (c.fact 19 (f := .noat "Clock" "form") rfl), rfl, nd_Clock, rfl, nl_Clock⟩
    ct_BadCount := (Caught.cons rfl (He.exm_ok (c.fact 20 (f := .exm "BadCount" "BadCount" true) rfl)) Caught.nil)
    ic_Clock := IcOk.isi (IcOk.cons rfl (bInst_ok (He.cls_ok (c.fact 15 (f := .cls "Clock") rfl)) (c.test 3 (b := bInst "Clock") rfl)) (bKit_ok (c.test 4 (b := bKit "Clock" "Clock" true) rfl)) IcOk.nil) (bKitB_ok (c.test 5 (b := bKitB "Clock") rfl))
  }
  obtain ⟨its_Clock_1_begin_bound, mv_Clock_1_begin_bound, kb_Clock_1_begin_bound⟩ := FunD.kbinds (ps := ["self", "fineness", "begin", "bound"]) F_M_Clock___init__ 2 ["begin", "bound"] [] (fun us ds mz ws => us ++ pk ws 0 ++ pk ws 1) (List.cons_ne_nil _ _) (List.cons_ne_nil _ _) (fun q hq => absurd hq List.not_mem_nil) (fun r1 r2 r3 r4 => ((r1.append (vals_pk r4 0)).append (vals_pk r4 1)))
    (fun T D doc pm an cdv ct us its mv ws h1 h2 h3 h4 => match us, its, mv, ws, h1, h2, h3, h4 with | [_, _], [_], [], [_, _], _, _, _, _ => ⟨_, rfl, rfl⟩)
  have kr_Clock_1_begin_bound : ∀ F (ds : List D) (vs zs : List V) (a : Addr), vs.length = 1 → zs.length = 2 → RepL K (cd K) F ds (vs ++ zs) → ∃ ws, (V.ref a :: vs) ++ pk zs 0 ++ pk zs 1 = .ref a :: ws ∧ RepL K (cd K) F (gD_Clock_1_begin_bound ds) ws ∧ ws.length = 3 := fun F ds vs zs a l1 l2 hr => by
    match vs, l1, zs, l2 with
    | [v0], _, [z0, z1], _ => exact ⟨_, rfl, (repL_append (repL_append (repL_take 1 hr) (repL_pk (repL_drop 1 hr) 0)) (repL_pk (repL_drop 1 hr) 1)), rfl⟩
  obtain ⟨its_Clock_0, mv_Clock_0, kb_Clock_0⟩ := FunD.kbinds (ps := ["self", "fineness", "begin", "bound"]) F_M_Clock___init__ 1 [] [("begin", V.int (0)), ("bound", V.non)] (fun us ds mz ws => us ++ pk ds 0 ++ pk mz 0 ++ pk mz 1) (List.cons_ne_nil _ _) (List.cons_ne_nil _ _) (List.forall_mem_cons.mpr ⟨by simp, (List.forall_mem_cons.mpr ⟨by simp, (fun q hq => absurd hq List.not_mem_nil)⟩)⟩) (fun r1 r2 r3 r4 => (((r1.append (vals_pk r2 0)).append (vals_pk r3 0)).append (vals_pk r3 1)))
    (fun T D doc pm an cdv ct us its mv ws h1 h2 h3 h4 => match us, its, mv, ws, h1, h2, h3, h4 with | [_], [_], [_, _], [], _, _, _, _ => ⟨_, rfl, ⟨_, _, _, _, _, _, rfl, rfl, ⟨_, _, _, _, _, _, rfl, rfl, rfl⟩⟩⟩)
  have kr_Clock_0 : ∀ F (ds : List D) (vs zs : List V) (a : Addr), vs.length = 0 → zs.length = 0 → RepL K (cd K) F ds (vs ++ zs) → ∃ ws, (V.ref a :: vs) ++ pk [V.int (1)] 0 ++ pk [V.int (0), V.non] 0 ++ pk [V.int (0), V.non] 1 = .ref a :: ws ∧ RepL K (cd K) F (gD_Clock_0 ds) ws ∧ ws.length = 3 := fun F ds vs zs a l1 l2 hr => by
    match vs, l1, zs, l2 with
    | [], _, [], _ => exact ⟨_, rfl, (repL_append (repL_append (repL_append (repL_take 0 hr) (repL_cons (v := V.int (1)) (F := F) (by simp only [Rep]) repL_nil)) (repL_cons (v := V.int (0)) (F := F) (by simp only [Rep]) repL_nil)) (repL_cons (v := V.non) (F := F) (by simp only [Rep]) repL_nil)), rfl⟩
  obtain ⟨its_Clock_1, mv_Clock_1, kb_Clock_1⟩ := FunD.kbinds (ps := ["self", "fineness", "begin", "bound"]) F_M_Clock___init__ 2 [] [("begin", V.int (0)), ("bound", V.non)] (fun us ds mz ws => us ++ pk mz 0 ++ pk mz 1) (List.cons_ne_nil _ _) (List.cons_ne_nil _ _) (List.forall_mem_cons.mpr ⟨by simp, (List.forall_mem_cons.mpr ⟨by simp, (fun q hq => absurd hq List.not_mem_nil)⟩)⟩) (fun r1 r2 r3 r4 => ((r1.append (vals_pk r3 0)).append (vals_pk r3 1)))
    (fun T D doc pm an cdv ct us its mv ws h1 h2 h3 h4 => match us, its, mv, ws, h1, h2, h3, h4 with | [_, _], [_], [_, _], [], _, _, _, _ => ⟨_, rfl, ⟨_, _, _, _, _, _, rfl, rfl, ⟨_, _, _, _, _, _, rfl, rfl, rfl⟩⟩⟩)
  have kr_Clock_1 : ∀ F (ds : List D) (vs zs : List V) (a : Addr), vs.length = 1 → zs.length = 0 → RepL K (cd K) F ds (vs ++ zs) → ∃ ws, (V.ref a :: vs) ++ pk [V.int (0), V.non] 0 ++ pk [V.int (0), V.non] 1 = .ref a :: ws ∧ RepL K (cd K) F (gD_Clock_1 ds) ws ∧ ws.length = 3 := fun F ds vs zs a l1 l2 hr => by
    match vs, l1, zs, l2 with
    | [v0], _, [], _ => exact ⟨_, rfl, (repL_append (repL_append (repL_take 1 hr) (repL_cons (v := V.int (0)) (F := F) (by simp only [Rep]) repL_nil)) (repL_cons (v := V.non) (F := F) (by simp only [Rep]) repL_nil)), rfl⟩
  have e := hfa.symm.trans (He.glo_ok X G (c.fact 21 (f := .glo "law") rfl))
  cases e
  refine ⟨fd_law, fun s v => b_law s [v] rfl, fun base _ _ => ?_⟩
  have G__law_box := ok__law_box (P := l.prog) (w := w) (base := base) T F__law_box
  have G__turning := ok__turning (P := l.prog) (w := w) (base := base) T F__turning
  have G_M_BadCount___init__ := ok_M_BadCount___init__ (P := l.prog) (w := w) (base := base) T F_M_BadCount___init__
  have D__turning : DefOk l.prog w K mg base (cd K) 2 "_turning" [.p, .p, .p] false [] S__turning := .of G__turning (He.glo_ok X G (c.fact 22 (f := .glo "_turning") rfl)) F__turning.kp b__turning
  have E_BadCount : ExcOk l.prog w K mg base (cd K) 1 "BadCount" 1 X_BadCount := ⟨_, _, _, _, 1, G_M_BadCount___init__, bExc_ok (c.test 7 (b := bExc "BadCount") rfl), (bIni_ok (c.test 6 (b := bIni "BadCount" "BadCount") rfl)).1, (bIni_ok (c.test 6 (b := bIni "BadCount" "BadCount") rfl)).2, T.m_BadCount, rfl, b_M_BadCount___init__, (fun f hf => by
    simp only [List.mem_cons, List.not_mem_nil, or_false] at hf
    subst hf
    exact bNo_ok (c.test 2 (b := bNo "BadCount" "number") rfl)), by decide, X1_len⟩
  have G_M_Clock___init__ := ok_M_Clock___init__ (P := l.prog) (w := w) (base := base) T D__turning E_BadCount F_M_Clock___init__
  have G_M_Clock_moves_at := ok_M_Clock_moves_at (P := l.prog) (w := w) (base := base) T F_M_Clock_moves_at
  have M_M_Clock_moves_at : MethOk l.prog w K mg base (cd K) 2 2 "moves_at" [.p] false [] S_M_Clock_moves_at := .of G_M_Clock_moves_at rfl (He.cls_ok (c.fact 15 (f := .cls "Clock") rfl)) (He.meth_ok (c.fact 23 (f := .meth "Clock" "moves_at") rfl)) (by show ¬ _ ∈ ns_Clock; decide) b_M_Clock_moves_at
  have G_M_Clock_turns := ok_M_Clock_turns (P := l.prog) (w := w) (base := base) T M_M_Clock_moves_at F_M_Clock_turns
  have G__law_draw := ok__law_draw (P := l.prog) (w := w) (base := base) T F__law_draw
  have G__law_same := okR__law_same (P := l.prog) (w := w) (base := base) T F__law_same (He.glo_ok X G (c.fact 24 (f := .glo "_law_same") rfl)) b__law_same 12
  have K_Clock_1_begin_bound : MakeOk l.prog w K mg base (cd K) 3 "Clock" 2 1 ["begin", "bound"] gD_Clock_1_begin_bound S_M_Clock___init__ := ⟨_, _, _, _, [.p, .p, .p], _, _, G_M_Clock___init__, (He.mkr_ok (c.fact 25 (f := .mkr "Clock") rfl)), T.m_Clock, rfl, kb_Clock_1_begin_bound, (fun i => by match i with | 0 => simp | 1 => simp | 2 => simp | i + 3 => simp), kr_Clock_1_begin_bound⟩
  have G__law_made := ok__law_made (P := l.prog) (w := w) (base := base) T K_Clock_1_begin_bound F__law_made
  have G_M_Clock___call__ := ok_M_Clock___call__ (P := l.prog) (w := w) (base := base) T E_BadCount F_M_Clock___call__
  have I_M_Clock___call__ : CallOk l.prog w K mg base (cd K) 3 2 2 S_M_Clock___call__ := ⟨_, _, _, _, _, G_M_Clock___call__, rfl, ⟨(He.meth_ok (c.fact 26 (f := .meth "Clock" "__call__") rfl)).at_, (He.meth_ok (c.fact 26 (f := .meth "Clock" "__call__") rfl)).fn, (c.test 8 (b := bCall "Clock") rfl)⟩, b_M_Clock___call__, (fun i => by match i with | 0 => simp | 1 => simp | 2 => simp | 3 => simp | i + 4 => simp), rfl⟩
  have G__law_asked := ok__law_asked (P := l.prog) (w := w) (base := base) T I_M_Clock___call__ F__law_asked
  have G_M_Clock_coarser := ok_M_Clock_coarser (P := l.prog) (w := w) (base := base) T E_BadCount K_Clock_1_begin_bound F_M_Clock_coarser
  have G__law_shows := ok__law_shows (P := l.prog) (w := w) (base := base) T F__law_shows
  have M_M_Clock_coarser : MethOk l.prog w K mg base (cd K) 5 2 "coarser" [.p] false [] S_M_Clock_coarser := .of G_M_Clock_coarser rfl (He.cls_ok (c.fact 15 (f := .cls "Clock") rfl)) (He.meth_ok (c.fact 27 (f := .meth "Clock" "coarser") rfl)) (by show ¬ _ ∈ ns_Clock; decide) b_M_Clock_coarser
  have G__law_coarser := ok__law_coarser (P := l.prog) (w := w) (base := base) T M_M_Clock_coarser F__law_coarser
  have G_M_Clock___le__ := ok_M_Clock___le__ (P := l.prog) (w := w) (base := base) T M_M_Clock_moves_at F_M_Clock___le__
  have D__law_asked : DefOk l.prog w K mg base (cd K) 4 "_law_asked" [.p, .p] false [] S__law_asked := .of G__law_asked (He.glo_ok X G (c.fact 28 (f := .glo "_law_asked") rfl)) F__law_asked.kp b__law_asked
  have D__law_box : DefOk l.prog w K mg base (cd K) 2 "_law_box" [.p] true [] S__law_box := .of G__law_box (He.glo_ok X G (c.fact 29 (f := .glo "_law_box") rfl)) F__law_box.kp b__law_box
  have D__law_coarser : DefOk l.prog w K mg base (cd K) 6 "_law_coarser" [.p, .p] false [] S__law_coarser := .of G__law_coarser (He.glo_ok X G (c.fact 30 (f := .glo "_law_coarser") rfl)) F__law_coarser.kp b__law_coarser
  have D__law_draw : DefOk l.prog w K mg base (cd K) 2 "_law_draw" [.o, .p] false [] S__law_draw := .of G__law_draw (He.glo_ok X G (c.fact 31 (f := .glo "_law_draw") rfl)) F__law_draw.kp b__law_draw
  have D__law_made : DefOk l.prog w K mg base (cd K) 5 "_law_made" [.p, .p, .p] false [] S__law_made := .of G__law_made (He.glo_ok X G (c.fact 32 (f := .glo "_law_made") rfl)) F__law_made.kp b__law_made
  have D__law_same : DefOk l.prog w K mg base (cd K) 14 "_law_same" [.p, .p] false [] S__law_same := .of G__law_same (He.glo_ok X G (c.fact 24 (f := .glo "_law_same") rfl)) F__law_same.kp b__law_same
  have D__law_shows : DefOk l.prog w K mg base (cd K) 2 "_law_shows" [.p, .p] false [] S__law_shows := .of G__law_shows (He.glo_ok X G (c.fact 33 (f := .glo "_law_shows") rfl)) F__law_shows.kp b__law_shows
  have K_Clock_0 : MakeOk l.prog w K mg base (cd K) 3 "Clock" 2 0 [] gD_Clock_0 S_M_Clock___init__ := ⟨_, _, _, _, [.p, .p, .p], _, _, G_M_Clock___init__, (He.mkr_ok (c.fact 25 (f := .mkr "Clock") rfl)), T.m_Clock, rfl, kb_Clock_0, (fun i => by match i with | 0 => simp | 1 => simp | 2 => simp | i + 3 => simp), kr_Clock_0⟩
  have K_Clock_1 : MakeOk l.prog w K mg base (cd K) 3 "Clock" 2 1 [] gD_Clock_1 S_M_Clock___init__ := ⟨_, _, _, _, [.p, .p, .p], _, _, G_M_Clock___init__, (He.mkr_ok (c.fact 25 (f := .mkr "Clock") rfl)), T.m_Clock, rfl, kb_Clock_1, (fun i => by match i with | 0 => simp | 1 => simp | 2 => simp | i + 3 => simp), kr_Clock_1⟩
  have M_M_Clock_turns : MethOk l.prog w K mg base (cd K) 3 2 "turns" [.p] true [] S_M_Clock_turns := .of G_M_Clock_turns rfl (He.cls_ok (c.fact 15 (f := .cls "Clock") rfl)) (He.meth_ok (c.fact 34 (f := .meth "Clock" "turns") rfl)) (by show ¬ _ ∈ ns_Clock; decide) b_M_Clock_turns
  have O_M_Clock___le__ : OpOk l.prog w K mg base (cd K) 3 .LtE 2 cs_Clock S_M_Clock___le__ := ⟨_, _, _, _, G_M_Clock___le__, rfl, (He.meth_ok (c.fact 35 (f := .meth "Clock" "__le__") rfl)).at_, (He.meth_ok (c.fact 35 (f := .meth "Clock" "__le__") rfl)).fn, b_M_Clock___le__, NfOk.cons (c := 2) rfl (c.test 9 (b := bFst "Clock" "Clock") rfl) NfOk.nil⟩
  exact ok_law T D__law_asked D__law_box D__law_coarser D__law_draw D__law_made D__law_same D__law_shows I_M_Clock___call__ K_Clock_0 K_Clock_1 K_Clock_1_begin_bound M_M_Clock_coarser M_M_Clock_turns O_M_Clock___le__ F_law
abbrev Ro : PySem.W.OpenRow := PySem.W.OpenLaw.row PySem.Challenge.rw_stepstell_k64_clocks
abbrev hk : PySem.W.Hook := hookM 5 fa bs fn
def ob (s : PySem.W.SharedT) : He.AlD := obsMG 5 fa bs fn (HandSHeadRun.getT s)
theorem ob_eq (s : PySem.W.SharedT) : ob s = hk.obs s.abs := obsMG_eq (HandSHeadRun.getT_eq s)
def loose : List Str := ["_wall", "TellError", "BadCount", "COARSEST", "LATEST", "_turning", "Clock", "_law_box", "_law_draw", "_law_same", "_law_shows", "_law_made", "_law_asked", "_law_coarser"]
theorem run (w : World) : HandSHeadRun.RunEq Ro (PySem.W.view Ro.prog [17]) hk ob 3000 loose w := by
  intro os
  kernel_rfl
end K64
open PySem PySem.W PySem.Calls PyProof.Rows
theorem K64.fin (hlaw : ∀ ns : List Int, ns.length ≤ 63 → ∃ out, K64.S_law [.scr ns] = .ok (.bl true) out) : PySem.Challenge.rw_stepstell_k64_clocks.Holds := by
  w_on; o_law
  refine HandSHeadRun.head_any (r := OpenLaw.row PySem.Challenge.rw_stepstell_k64_clocks) (q := view (OpenLaw.row PySem.Challenge.rw_stepstell_k64_clocks).prog [17]) (H := K64.hk) (ob := K64.ob) (M := 3000) (loose := K64.loose) (d := HandSHeadRun.topDef (OpenLaw.row PySem.Challenge.rw_stepstell_k64_clocks).prog 17) (kwd := []) K64.ob_eq
    (by kernel_rfl) (fun s => by kernel_rfl) K64.run (by kernel_rfl) (by kernel_rfl) (by kernel_rfl) (by rfl) (by first | assumption | decide +kernel) (by decide +kernel) ⟨rfl, rfl, rfl, rfl, rfl, by decide +kernel⟩ ?hw ?hc
  case hw => w_witness2
  case hc =>
    refine Mi.walk_ofM (l := PySem.Challenge.rw_stepstell_k64_clocks) (n := 63) (k := 15) (x := "script") (CX := fun w => L2.CX PySem.Challenge.rw_stepstell_k64_clocks.prog w) rfl (by decide) (by kernel_rfl) ⟨rfl, by decide, by decide⟩ ?F (fun _ _ _ _ _ z => Mi.noCX z)
    intro w mg fa h Y G hmg0
    obtain ⟨K, KX, c⟩ := Y
    have hmg : mg ("law" : PySem.Str) = some (.ref fa) := by
      have e : (HandSHeadRun.topDef (OpenLaw.row PySem.Challenge.rw_stepstell_k64_clocks).prog 17).name = ("law" : PySem.Str) := by kernel_rfl
      rw [← e]
      exact hmg0
    obtain ⟨fd, hb, hF⟩ := K64.all (l := PySem.Challenge.rw_stepstell_k64_clocks) (w := w) KX G hmg c
    exact ⟨K, fd, Mi.spM K (K64.cd K) [.p] false K64.S_law, KX, hb, fun H a ns hl _ hS => Mi.law_sp hlaw H a ns hl hS, hF⟩

set_option linter.all false
set_option maxRecDepth 100000
namespace K64
open PySem L2 Mi
theorem box_ok (ns : List Int) : S__law_box [.scr ns] = .ok (.lst [.lst (ns.map .int), .int 0, .int 0, .int 0, .int 0]) none := by
  simp [S__law_box, SB__law_box, runDef, start0, LIM]
def Box (b : D) : Prop := ∃ (xs : List Int) (i v c m : Int), 0 ≤ i ∧ b = .lst [.lst (xs.map .int), .int i, .int v, .int c, .int m]
theorem mulSm {i j : Int} (h : -(2 ^ 64) < j ∧ j < 2 ^ 64) : mulOk i j := .inl (.inr h)
theorem mulSm' {i j : Int} (h : -(2 ^ 64) < i ∧ i < 2 ^ 64) : mulOk i j := .inl (.inl h)
theorem draw_c (xs : List D) (i v c m n : Int) (hn : divOk n) (hc : c ≠ 0) : ∃ d v' c', S__law_draw [.lst [.lst xs, .int i, .int v, .int c, .int m], .int n] = .ok (.int d) (some (.lst [.lst xs, .int i, .int v', .int c', .int m])) ∧ 0 ≤ d ∧ d < n := by
  have hn0 : 0 < n := hn.1
  have m1 : ∀ x : Int, mulOk x 48271 := fun x => mulSm (by decide)
  have m2 : ∀ x : Int, mulOk x 69621 := fun x => mulSm (by decide)
  have m3 : ∀ x : Int, mulOk x 16807 := fun x => mulSm (by decide)
  have m4 : ∀ x : Int, mulOk x 40692 := fun x => mulSm (by decide)
  by_cases hm : m = 1
  · subst hm
    by_cases hv : v / n = 0
    · refine ⟨v % n, 0, 0, ?_, Int.emod_nonneg _ (by omega), Int.emod_lt_of_pos _ hn0⟩
      simp [S__law_draw, SB__law_draw, runDef, start0, hc, hn0, hn, hv]
    · refine ⟨v % n, v / n, c - 1, ?_, Int.emod_nonneg _ (by omega), Int.emod_lt_of_pos _ hn0⟩
      simp [S__law_draw, SB__law_draw, runDef, start0, hc, hn0, hn, hv]
  · refine ⟨(((v * 48271 + (c - 1) * 69621 + 13) % 2147483647) * 16807 + (c - 1) * 40692 + 7) % 2147483629 % n, v, c - 1, ?_, Int.emod_nonneg _ (by omega), Int.emod_lt_of_pos _ hn0⟩
    simp [S__law_draw, SB__law_draw, runDef, start0, hc, hm, m1, m2, m3, m4, hn0]
theorem draw_ok {b : D} (hb : Box b) {n : Int} (hn : divOk n) : ∃ d b', S__law_draw [b, .int n] = .ok (.int d) (some b') ∧ 0 ≤ d ∧ d < n ∧ Box b' := by
  obtain ⟨xs, i, v, c, m, hi, rfl⟩ := hb
  have hn0 : 0 < n := hn.1
  have m5 : ∀ x : Int, mulOk 48 x := fun x => mulSm' (by decide)
  have p1 : powOk 10 18 := by decide
  by_cases hc : c = 0
  · subst hc
    by_cases hx : (xs.length : Int) ≤ i
    · refine ⟨0, .lst [.lst (xs.map .int), .int i, .int v, .int 0, .int m], ?_, Int.le_refl _, hn0, xs, i, v, 0, m, hi, rfl⟩
      simp [S__law_draw, SB__law_draw, runDef, start0, hx]
    · obtain ⟨k, rfl⟩ := Int.eq_ofNat_of_zero_le hi
      have hk : k < xs.length := by omega
      by_cases h18 : 1000000000000000000 ≤ (if xs[k] < 0 then -xs[k] else xs[k])
      · have e : S__law_draw [.lst [.lst (xs.map .int), .int k, .int v, .int 0, .int m], .int n] = S__law_draw [.lst [.lst (xs.map .int), .int (k + 1), .int (if xs[k] < 0 then -xs[k] else xs[k]), .int 60, .int 1], .int n] := by
          simp [S__law_draw, SB__law_draw, runDef, start0, hx, Mi.atI_nat, hk, m5, p1, h18]
        rw [e]
        obtain ⟨d, v', c', h1, h2, h3⟩ := draw_c (xs.map .int) (k + 1) (if xs[k] < 0 then -xs[k] else xs[k]) 60 1 n hn (by decide)
        exact ⟨d, _, h1, h2, h3, xs, _, v', c', _, by omega, rfl⟩
      · have e : S__law_draw [.lst [.lst (xs.map .int), .int k, .int v, .int 0, .int m], .int n] = S__law_draw [.lst [.lst (xs.map .int), .int (k + 1), .int (if xs[k] < 0 then -xs[k] else xs[k]), .int 12, .int 0], .int n] := by
          simp [S__law_draw, SB__law_draw, runDef, start0, hx, Mi.atI_nat, hk, m5, p1, h18]
        rw [e]
        obtain ⟨d, v', c', h1, h2, h3⟩ := draw_c (xs.map .int) (k + 1) (if xs[k] < 0 then -xs[k] else xs[k]) 12 0 n hn (by decide)
        exact ⟨d, _, h1, h2, h3, xs, _, v', c', _, by omega, rfl⟩
  · obtain ⟨d, v', c', h1, h2, h3⟩ := draw_c (xs.map .int) i v c m n hn hc
    exact ⟨d, _, h1, h2, h3, xs, i, v', c', m, hi, rfl⟩
theorem same_scal {j : Nat} {d : D} (h : ScalD d) : SR__law_same (j + 1) [d, d] = .ok (.bl true) none := by
  cases d <;> simp only [ScalD] at h
  · simp [SR__law_same, SB__law_same, runDef, start0]
  · simp [SR__law_same, SB__law_same, runDef, start0]
  · simp [SR__law_same, SB__law_same, runDef, start0]
  · simp [SR__law_same, SB__law_same, runDef, start0, dEq_str h]
theorem same_seq {j : Nat} {xs : List D} (ih : ∀ x ∈ xs, SR__law_same j [x, x] = .ok (.bl true) none) (hl : xs.length < LIM) (c : Bool) :
    loopC (gtName 2) tYesM (eCall (SR__law_same j) [none, none] [.p, .p] [] (aCons (e2 dIx (eVar 0) (eVar 2)) (aCons (e2 dIx (eVar 1) (eVar 2)) (aNil)))) [2] (rngD 0 xs.length) [some (if c = true then .tup xs else .lst xs), some (if c = true then .tup xs else .lst xs), none] [] =
      .ok ((rngD 0 xs.length).map fun _ => .bl true) [some (if c = true then .tup xs else .lst xs), some (if c = true then .tup xs else .lst xs), none] := by
  refine loopC_map _ (fun d hd => ?_) (by rw [rngD_length]; omega)
  obtain ⟨i, hi, rfl⟩ := rngD_mem hd
  cases c
  · refine ⟨_, [some (.lst xs), some (.lst xs), some (.int (0 + i))], rfl, ?_, rfl⟩
    simp [Mi.atI_nat, hi, ih xs[i] (by simp)]
  · refine ⟨_, [some (.tup xs), some (.tup xs), some (.int (0 + i))], rfl, ?_, rfl⟩
    simp [Mi.atI_nat, hi, ih xs[i] (by simp)]
theorem blsOf_rep {α : Type} (l : List α) : blsOf (l.map fun _ => D.bl true) = some (l.map fun _ => true) := by
  induction l with
  | nil => rfl
  | cons a l ih => simp [blsOf, ih]
theorem same_tup {j : Nat} {xs : List D} (ih : ∀ x ∈ xs, SR__law_same j [x, x] = .ok (.bl true) none) (hl : xs.length < LIM) : SR__law_same (j + 1) [.tup xs, .tup xs] = .ok (.bl true) none := by
  have e := same_seq ih hl true
  simp only [if_true] at e
  rw [SR__law_same]
  simp [SB__law_same, runDef, start0, rgSm_len (Nat.le_of_lt hl), e, blsOf_rep]
theorem same_lst {j : Nat} {xs : List D} (ih : ∀ x ∈ xs, SR__law_same j [x, x] = .ok (.bl true) none) (hl : xs.length < LIM) : SR__law_same (j + 1) [.lst xs, .lst xs] = .ok (.bl true) none := by
  have e := same_seq ih hl false
  simp only [Bool.false_eq_true, if_false] at e
  rw [SR__law_same]
  simp [SB__law_same, runDef, start0, rgSm_len (Nat.le_of_lt hl), e, blsOf_rep]
theorem len_ok {n : Nat} (h : n < LIM) : -4611686018427387904 ≤ (n : Int) ∧ (n : Int) < 4611686018427387904 := by
  have e : LIM = 1000000 := rfl
  rw [e] at h
  omega
theorem same_good {j : Nat} : ∀ {d : D}, Good j d → SR__law_same (j + 1) [d, d] = .ok (.bl true) none := by
  induction j with
  | zero => exact fun h => same_scal h
  | succ j ih =>
    intro d h
    rcases h with h | ⟨xs, h, hl, hx⟩
    · exact same_scal h
    · rcases h with rfl | rfl
      · exact same_tup (fun x hx' => ih (hx x hx')) hl
      · exact same_lst (fun x hx' => ih (hx x hx')) hl
theorem same_ok {d : D} (h : Good 3 d) : S__law_same [d, d] = .ok (.bl true) none := by
  have up : ∀ {j : Nat} {d : D}, Good j d → Good (j + 1) d := by
    intro j
    induction j with
    | zero => intro d h; exact .inl h
    | succ j ih =>
      intro d h
      rcases h with h | ⟨xs, h, hl, hx⟩
      · exact .inl h
      · exact .inr ⟨xs, h, hl, fun x hx' => ih (hx x hx')⟩
  exact same_good (j := 11) (up (up (up (up (up (up (up (up h))))))))
def eD : Option Int → D
  | none => .non
  | some m => .int m
def EOk : Option Int → Prop
  | none => True
  | some m => 0 ≤ m ∧ m ≤ 12
structure VOk (f b : Int) (e : Option Int) : Prop where
  f1 : 1 ≤ f
  f2 : f ≤ 12
  b : 0 ≤ b
  e : EOk e
theorem sm_of {x : Int} (h1 : -100 ≤ x) (h2 : x ≤ 100) : -(2 ^ 64) < x ∧ x < 2 ^ 64 := by omega
theorem turning_ok {f b : Int} {e : Option Int} (h : VOk f b e) : ∃ form, S__turning [.int f, .int b, eD e] = .ok form none := by
  have f1 := h.f1
  have f2 := h.f2
  have hf : 0 < f := by omega
  cases e with
  | none => exact ⟨_, by simp [S__turning, SB__turning, runDef, start0, eD, hf, LIM]; rfl⟩
  | some m =>
    obtain ⟨h0, h12⟩ := h.e
    have hm : ∀ x : Int, mulOk x f := fun x => mulSm (sm_of (by omega) (by omega))
    have r1 : rgSm (m + 1) = true := rgSm_of (by omega)
    have key0 := loopC_filter (tg := gtName 3) (t := mBool (e2 dGt (e2 dMul (eVar 3) (eVar 0)) (eVar 1))) (m := e2 dSub (e2 dMul (eVar 3) (eVar 0)) (eVar 1)) (vs := [3]) (ρ := [some (.int f), some (.int b), some (.int m), none])
      (fun d => match d with | .int s => decide (b < s * f) | _ => false) (fun d => match d with | .int s => .int (s * f - b) | _ => .non) (ds := rngD 1 m.toNat) (acc := []) (fun d hd => by
        obtain ⟨i, hi, rfl⟩ := rngD_mem hd
        refine ⟨[some (.int f), some (.int b), some (.int m), some (.int (1 + i))], [some (.int f), some (.int b), some (.int m), some (.int (1 + i))], rfl, by simp [hm], ?_⟩
        by_cases hb : b < (1 + i) * f
        · exact .inl ⟨by simpa using hb, _, by simp [hm]; rfl, rfl⟩
        · exact .inr ⟨by simpa using hb, rfl⟩) (by rw [rngD_length]; simp [LIM]; omega)
    obtain ⟨X, key, hX⟩ : ∃ X : List D, loopC (gtName 3) (mBool (e2 dGt (e2 dMul (eVar 3) (eVar 0)) (eVar 1))) (e2 dSub (e2 dMul (eVar 3) (eVar 0)) (eVar 1)) [3] (rngD 1 m.toNat) [some (.int f), some (.int b), some (.int m), none] [] = .ok X [some (.int f), some (.int b), some (.int m), none] ∧ X.length ≤ 1000 := by
      refine ⟨_, key0, ?_⟩
      rw [List.nil_append, List.length_map]
      refine Nat.le_trans (List.length_filter_le _ _) ?_
      rw [rngD_length]; omega
    have hl : 1 + X.length ≤ LIM := by have : LIM = 1000000 := (rfl); omega
    have hl' : X.length + 1 ≤ LIM := by omega
    refine ⟨.tup (.str "bound" :: X), ?_⟩
    have l1 : 1 ≤ LIM := by decide
    simp [S__turning, SB__turning, runDef, start0, eD, l1, r1, key, hl, hl']
theorem init_ok {f b : Int} {e : Option Int} (h : VOk f b e) : ∃ form, S_M_Clock___init__ [.obj 2 [], .int f, .int b, eD e] = .ok .non (some (.obj 2 [.int f, .int b, eD e, form])) := by
  obtain ⟨form, ht⟩ := turning_ok h
  have f1 := h.f1
  have f2 := h.f2
  have hb := h.b
  refine ⟨form, ?_⟩
  cases e with
  | none =>
    simp only [eD] at ht ⊢
    simp [S_M_Clock___init__, SB_M_Clock___init__, runDef, start0, f1, f2, hb, ht, setA, Int.not_lt.mpr hb]
  | some m =>
    obtain ⟨h0, h12⟩ := h.e
    simp only [eD] at ht ⊢
    simp [S_M_Clock___init__, SB_M_Clock___init__, runDef, start0, f1, f2, hb, ht, h0, h12, setA, Int.not_lt.mpr hb]
theorem X_ok (n : Int) : X_BadCount [.int n] = some [.int n] := by simp [X_BadCount, T_BadCount]
theorem init_f {f b : Int} {e : D} (h : ¬ (1 ≤ f ∧ f ≤ 12)) : ∃ out, S_M_Clock___init__ [.obj 2 [], .int f, .int b, e] = .ex 1 [.int f] out := by
  refine ⟨some (.obj 2 []), ?_⟩
  by_cases h1 : 1 ≤ f
  · have h2 : ¬ f ≤ 12 := fun z => h ⟨h1, z⟩
    simp [S_M_Clock___init__, SB_M_Clock___init__, runDef, start0, h1, h2, X_ok]
  · simp [S_M_Clock___init__, SB_M_Clock___init__, runDef, start0, h1, X_ok]
theorem init_b {f b : Int} {e : D} (f1 : 1 ≤ f) (f2 : f ≤ 12) (h : b < 0) : ∃ out, S_M_Clock___init__ [.obj 2 [], .int f, .int b, e] = .ex 1 [.int b] out := by
  refine ⟨some (.obj 2 []), ?_⟩
  simp [S_M_Clock___init__, SB_M_Clock___init__, runDef, start0, f1, f2, h, X_ok]
theorem init_e {f b m : Int} (f1 : 1 ≤ f) (f2 : f ≤ 12) (hb : 0 ≤ b) (h : ¬ (0 ≤ m ∧ m ≤ 12)) : ∃ out, S_M_Clock___init__ [.obj 2 [], .int f, .int b, .int m] = .ex 1 [.int m] out := by
  refine ⟨some (.obj 2 []), ?_⟩
  by_cases h1 : 0 ≤ m
  · have h2 : ¬ m ≤ 12 := fun z => h ⟨h1, z⟩
    simp [S_M_Clock___init__, SB_M_Clock___init__, runDef, start0, f1, f2, Int.not_lt.mpr hb, h1, h2, X_ok]
  · simp [S_M_Clock___init__, SB_M_Clock___init__, runDef, start0, f1, f2, Int.not_lt.mpr hb, h1, X_ok]
theorem gD3 {a b c : D} : gD_Clock_1_begin_bound [a, b, c] = [a, b, c] := rfl
theorem made_ok {f b : Int} {e : Option Int} (h : VOk f b e) : S__law_made [.int f, .int b, eD e] = .ok (.tup [.int f, .int b, eD e]) none := by
  obtain ⟨form, hi⟩ := init_ok h
  have l3 : 3 ≤ LIM := by decide
  simp [S__law_made, SB__law_made, runDef, start0, gD3, hi, fx_fineness, fx_begin, fx_bound, Tab.at, l3]
theorem made_ex {f b n : Int} {e : D} (h : ∃ out, S_M_Clock___init__ [.obj 2 [], .int f, .int b, e] = .ex 1 [.int n] out) : S__law_made [.int f, .int b, e] = .ok (.tup [.str "count", .int n]) none := by
  obtain ⟨out, hi⟩ := h
  have l3 : 2 ≤ LIM := by decide
  simp [S__law_made, SB__law_made, runDef, start0, gD3, hi, ct_BadCount, xx_number, Tab.at, l3]
def shows (f b : Int) (e : Option Int) (t : Int) : Int := match e with
  | none => (b + t) / f
  | some m => if m < (b + t) / f then m else (b + t) / f
theorem call_ok {f b t : Int} {e : Option Int} {form : D} (h : VOk f b e) (ht : 0 ≤ t) : S_M_Clock___call__ [.obj 2 [.int f, .int b, eD e, form], .int t] = .ok (.int (shows f b e t)) none := by
  have f1 := h.f1
  have f2 := h.f2
  have hd : divOk f := ⟨by omega, by
    have : f.natAbs ≤ 12 := by omega
    exact Nat.lt_of_le_of_lt (Nat.log2_le_self _) (by omega)⟩
  cases e with
  | none => simp [S_M_Clock___call__, SB_M_Clock___call__, runDef, start0, Int.not_lt.mpr ht, fx_fineness, fx_begin, fx_bound, Tab.at, hd, eD, shows]
  | some m =>
    by_cases hm : m < (b + t) / f
    · simp [S_M_Clock___call__, SB_M_Clock___call__, runDef, start0, Int.not_lt.mpr ht, fx_fineness, fx_begin, fx_bound, Tab.at, hd, eD, shows, hm]
    · simp [S_M_Clock___call__, SB_M_Clock___call__, runDef, start0, Int.not_lt.mpr ht, fx_fineness, fx_begin, fx_bound, Tab.at, hd, eD, shows, hm]
theorem call_neg {t : Int} {c : D} (ht : t < 0) : ∃ out, S_M_Clock___call__ [c, .int t] = .ex 1 [.int t] out := by
  exact ⟨_, by simp [S_M_Clock___call__, SB_M_Clock___call__, runDef, start0, ht, X_ok]; rfl⟩
theorem asked_neg {t : Int} {c : List D} (ht : t < 0) : S__law_asked [.obj 2 c, .int t] = .ok (.tup [.str "count", .int t]) none := by
  obtain ⟨out, hi⟩ := call_neg (c := .obj 2 c) ht
  have l3 : 2 ≤ LIM := by decide
  simp [S__law_asked, SB__law_asked, runDef, start0, hi, ct_BadCount, xx_number, Tab.at, l3]
theorem lshows_ok {f b t : Int} {e : Option Int} (h : VOk f b e) : S__law_shows [.tup [.int f, .int b, eD e], .int t] = .ok (.int (shows f b e t)) none := by
  have f1 := h.f1
  have f2 := h.f2
  have hd : divOk f := ⟨by omega, by
    have : f.natAbs ≤ 12 := by omega
    exact Nat.lt_of_le_of_lt (Nat.log2_le_self _) (by omega)⟩
  cases e with
  | none => simp [S__law_shows, SB__law_shows, runDef, start0, hd, eD, shows]
  | some m =>
    by_cases hm : m < (b + t) / f
    · simp [S__law_shows, SB__law_shows, runDef, start0, hd, eD, shows, hm]
    · simp [S__law_shows, SB__law_shows, runDef, start0, hd, eD, shows, hm]
def mv (f b : Int) (e : Option Int) (t : Int) : Bool := decide ((b + t) % f = 0) && (decide (0 < t) && (match e with | none => true | some m => decide ((b + t) / f ≤ m)))
theorem moves_ok {f b t : Int} {e : Option Int} {form : D} (h : VOk f b e) : S_M_Clock_moves_at [.obj 2 [.int f, .int b, eD e, form], .int t] = .ok (.bl (mv f b e t)) none := by
  have f1 := h.f1
  have f2 := h.f2
  have hd : 0 < f ∧ f < 1073741824 := by omega
  by_cases h1 : (b + t) % f = 0
  · by_cases h2 : 0 < t
    · cases e with
      | none => simp [S_M_Clock_moves_at, SB_M_Clock_moves_at, runDef, start0, fx_fineness, fx_begin, fx_bound, Tab.at, hd, eD, mv, h1, h2]
      | some m => simp [S_M_Clock_moves_at, SB_M_Clock_moves_at, runDef, start0, fx_fineness, fx_begin, fx_bound, Tab.at, hd, eD, mv, h1, h2]
    · simp [S_M_Clock_moves_at, SB_M_Clock_moves_at, runDef, start0, fx_fineness, fx_begin, fx_bound, Tab.at, hd, eD, mv, h1, h2]
  · simp [S_M_Clock_moves_at, SB_M_Clock_moves_at, runDef, start0, fx_fineness, fx_begin, fx_bound, Tab.at, hd, eD, mv, h1]
def tkD (p : Int → Bool) : D → Bool
  | .int s => p s
  | _ => false
theorem turns_ok {f b most : Int} {e : Option Int} {form : D} (h : VOk f b e) (h0 : 0 ≤ most) (h4 : most ≤ 400) : S_M_Clock_turns [.obj 2 [.int f, .int b, eD e, form], .int most] = .ok (.lst ((rngD 1 most.toNat).filter (tkD (mv f b e)))) none := by
  have key := loopC_filter (tg := gtName 2) (t := mTruth (eMeth 2 (S_M_Clock_moves_at) [none] [.p] [] (eVar 0) (aCons (eVar 2) (aNil)))) (m := eVar 2) (vs := [2]) (ρ := [some (.obj 2 [.int f, .int b, eD e, form]), some (.int most), none])
      (tkD (mv f b e)) id (ds := rngD 1 most.toNat) (acc := []) (fun d hd => by
        obtain ⟨i, hi, rfl⟩ := rngD_mem hd
        refine ⟨[some (.obj 2 [.int f, .int b, eD e, form]), some (.int most), some (.int (1 + i))], [some (.obj 2 [.int f, .int b, eD e, form]), some (.int most), some (.int (1 + i))], rfl, by simp [moves_ok h, tkD], ?_⟩
        cases hb : mv f b e (1 + i) with
        | true => exact .inl ⟨hb, [some (.obj 2 [.int f, .int b, eD e, form]), some (.int most), some (.int (1 + i))], by simp, rfl⟩
        | false => exact .inr ⟨hb, rfl⟩) (by rw [rngD_length]; simp [LIM]; omega)
  have r1 : rgSm (most + 1) = true := rgSm_of (by omega)
  simp only [List.nil_append, List.map_id] at key
  simp [S_M_Clock_turns, SB_M_Clock_turns, runDef, start0, r1, key]
theorem div_eq {x f q r : Int} (hf : 0 < f) (h : r + f * q = x) (h0 : 0 ≤ r) (h1 : r < f) : x / f = q := ((Int.ediv_emod_unique hf).mpr ⟨h, h0, h1⟩).1
theorem step_div {x f : Int} (hf : 0 < f) : (x - 1) / f = if x % f = 0 then x / f - 1 else x / f := by
  have e := Int.emod_add_mul_ediv x f
  have r0 := Int.emod_nonneg x (show f ≠ 0 by omega)
  have r1 := Int.emod_lt_of_pos x hf
  split
  · rename_i h
    refine div_eq (r := f - 1) hf ?_ (by omega) (by omega)
    rw [Int.mul_sub]
    omega
  · refine div_eq (r := x % f - 1) hf (by omega) (by omega) (by omega)
theorem shows_step {f b t : Int} {e : Option Int} (h : VOk f b e) (ht : 1 ≤ t) : mv f b e t = decide (shows f b e (t - 1) < shows f b e t) := by
  have f1 := h.f1
  have hf : 0 < f := by omega
  have hs := step_div (x := b + t) hf
  have ea : b + (t - 1) = b + t - 1 := by omega
  have h0t : 0 < t := by omega
  unfold mv shows
  rw [ea, hs]
  by_cases hr : (b + t) % f = 0
  · rw [if_pos hr]
    cases e with
    | none => simp [hr, h0t]; omega
    | some m =>
      simp only [hr, h0t, decide_true, Bool.true_and]
      refine decide_eq_decide.mpr ?_
      generalize (b + t) / f = q
      split <;> split <;> omega
  · rw [if_neg hr]
    simp [hr]
theorem divOk_sm {f : Int} (h1 : 1 ≤ f) (h2 : f ≤ 1000) : divOk f := ⟨by omega, by
  have : f.natAbs ≤ 1000 := by omega
  exact Nat.lt_of_le_of_lt (Nat.log2_le_self _) (by omega)⟩
def coE (e : Option Int) (many : Int) : Option Int := e.map fun m => m / many
theorem co_ok {f b many : Int} {e : Option Int} (h : VOk f b e) (h1 : 0 < many) (h2 : f * many ≤ 12) : VOk (f * many) b (coE e many) := by
  have f1 := h.f1
  refine ⟨?_, h2, h.b, ?_⟩
  · have := Int.mul_le_mul f1 (show (1 : Int) ≤ many by omega) (by decide) (by omega)
    omega
  · cases e with
    | none => trivial
    | some m =>
      obtain ⟨a, c⟩ := h.e
      refine ⟨Int.ediv_nonneg a (by omega), ?_⟩
      exact Int.le_trans (Int.ediv_le_self many a) c
theorem coarser_ok {f b many : Int} {e : Option Int} {form : D} (h : VOk f b e) (h1 : 0 < many) (h2 : f * many ≤ 12) : ∃ form', S_M_Clock_coarser [.obj 2 [.int f, .int b, eD e, form], .int many] = .ok (.obj 2 [.int (f * many), .int b, eD (coE e many), form']) none := by
  obtain ⟨form', hi⟩ := init_ok (co_ok h h1 h2)
  have f1 := h.f1
  have hd : divOk f := divOk_sm f1 (by have := h.f2; omega)
  have c1 : 1 ≤ many := by omega
  have c2 : many ≤ 12 / f := (Int.le_ediv_iff_mul_le (by omega)).mpr (by rw [Int.mul_comm]; exact h2)
  have hm : many ≤ 12 := by
    have := Int.mul_le_mul f1 (Int.le_refl many) (by omega) (by omega)
    omega
  have hd2 : divOk many := divOk_sm c1 (by omega)
  have hmul : mulOk f many := mulSm (sm_of (by omega) (by omega))
  refine ⟨form', ?_⟩
  cases e with
  | none =>
    simp only [eD, coE, Option.map_none] at hi ⊢
    simp [S_M_Clock_coarser, SB_M_Clock_coarser, runDef, start0, fx_fineness, fx_begin, fx_bound, Tab.at, hd, c1, c2, hmul, gD3, hi]
  | some m =>
    simp only [eD, coE, Option.map_some] at hi ⊢
    simp [S_M_Clock_coarser, SB_M_Clock_coarser, runDef, start0, fx_fineness, fx_begin, fx_bound, Tab.at, hd, hd2, c1, c2, hmul, gD3, hi]
theorem coarser_bad {f b many : Int} {e : Option Int} {form : D} (h : VOk f b e) (h2 : ¬ (0 < many ∧ f * many ≤ 12)) : ∃ out, S_M_Clock_coarser [.obj 2 [.int f, .int b, eD e, form], .int many] = .ex 1 [.int many] out := by
  have f1 := h.f1
  have hd : divOk f := divOk_sm f1 (by have := h.f2; omega)
  refine ⟨none, ?_⟩
  by_cases c1 : 1 ≤ many
  · have c2 : ¬ many ≤ 12 / f := fun z => h2 ⟨by omega, by have := (Int.le_ediv_iff_mul_le (show 0 < f by omega)).mp z; rw [Int.mul_comm]; exact this⟩
    simp [S_M_Clock_coarser, SB_M_Clock_coarser, runDef, start0, fx_fineness, fx_begin, fx_bound, Tab.at, hd, c1, c2, X_ok]
  · simp [S_M_Clock_coarser, SB_M_Clock_coarser, runDef, start0, fx_fineness, fx_begin, fx_bound, Tab.at, hd, c1, X_ok]
theorem lcoarser_ok {f b many : Int} {e : Option Int} {form : D} (h : VOk f b e) (h1 : 0 < many) (h2 : f * many ≤ 12) : S__law_coarser [.obj 2 [.int f, .int b, eD e, form], .int many] = .ok (.tup [.int (f * many), .int b, eD (coE e many)]) none := by
  obtain ⟨form', hi⟩ := coarser_ok (form := form) h h1 h2
  have l3 : 3 ≤ LIM := by decide
  simp [S__law_coarser, SB__law_coarser, runDef, start0, hi, fx_fineness, fx_begin, fx_bound, Tab.at, l3]
theorem lcoarser_bad {f b many : Int} {e : Option Int} {form : D} (h : VOk f b e) (h2 : ¬ (0 < many ∧ f * many ≤ 12)) : S__law_coarser [.obj 2 [.int f, .int b, eD e, form], .int many] = .ok (.tup [.str "count", .int many]) none := by
  obtain ⟨out, hi⟩ := coarser_bad (form := form) h h2
  have l3 : 2 ≤ LIM := by decide
  simp [S__law_coarser, SB__law_coarser, runDef, start0, hi, ct_BadCount, xx_number, Tab.at, l3]
theorem le_ok {f b many : Int} {e : Option Int} {form form' : D} (h : VOk f b e) (h1 : 0 < many) (h2 : f * many ≤ 12) : S_M_Clock___le__ [.obj 2 [.int (f * many), .int b, eD (coE e many), form'], .obj 2 [.int f, .int b, eD e, form]] = .ok (.bl true) none := by
  have f1 := h.f1
  have hf : 0 < f := by omega
  have hm0 : f * many % f = 0 := Int.mul_emod_right f many
  cases e with
  | none =>
    simp only [eD, coE, Option.map_none]
    simp [S_M_Clock___le__, SB_M_Clock___le__, runDef, start0, fx_fineness, fx_begin, fx_bound, ic_Clock, isiC, Tab.at, hf, hm0]
  | some m =>
    obtain ⟨h0, h12⟩ := h.e
    have hq0 : 0 ≤ m / many := Int.ediv_nonneg h0 (by omega)
    have hq1 : m / many ≤ 12 := Int.le_trans (Int.ediv_le_self many h0) h12
    have r1 : rgSm (m / many + 1) = true := rgSm_of (by omega)
    have hmul : ∀ x : Int, mulOk x (f * many) := fun x => mulSm (sm_of (by have := (co_ok h h1 h2).f1; omega) (by omega))
    simp only [eD, coE, Option.map_some]
    have key := loopL_inv (tg := gtName 2) (m := mSeq (mAsg 3 (e2 dSub (e2 dMul (eVar 2) (e1 (dFld fx_fineness) (eVar 0))) (e1 (dFld fx_begin) (eVar 0)))) (mIf (mAnd (mBool (e2 dGt (eVar 3) (eC (.int 0)))) (mNot (mTruth (eMeth 2 (S_M_Clock_moves_at) [none] [.p] [] (eVar 1) (aCons (eVar 3) (aNil)))))) (mRet (eC (.bl false))) (mNx)))
      (fun ρ => ∃ s t, ρ = [some (.obj 2 [.int (f * many), .int b, .int (m / many), form']), some (.obj 2 [.int f, .int b, .int m, form]), s, t]) (ds := rngD 1 (m / many).toNat) (ρ := [some (.obj 2 [.int (f * many), .int b, .int (m / many), form']), some (.obj 2 [.int f, .int b, .int m, form]), none, none])
      (fun d hd ρ hρ => by
        obtain ⟨i, hi, rfl⟩ := rngD_mem hd
        obtain ⟨s, t, rfl⟩ := hρ
        have hi' : 1 + (i : Int) ≤ m / many := by omega
        generalize hsh : (1 + (i : Int)) = sh at hi' ⊢
        have hs1 : 1 ≤ sh := by omega
        have mok := moves_ok (f := f) (b := b) (t := sh * (f * many) - b) (e := some m) (form := form) h
        simp only [eD] at mok
        refine ⟨_, [some (.obj 2 [.int (f * many), .int b, .int (m / many), form']), some (.obj 2 [.int f, .int b, .int m, form]), some (.int sh), some (.int (sh * (f * many) - b))], rfl, ?_, _, _, rfl⟩
        by_cases ht : b < sh * (f * many)
        · have hmv : mv f b (some m) (sh * (f * many) - b) = true := by
            have e1 : b + (sh * (f * many) - b) = f * (sh * many) := by
              rw [Int.mul_left_comm]; omega
            unfold mv
            rw [e1, Int.mul_emod_right, Int.mul_ediv_cancel_left _ (by omega)]
            have e2 : sh * many ≤ m := by
              have := (Int.le_ediv_iff_mul_le (show 0 < many by omega)).mp hi'
              exact this
            simp [ht, e2]
          simp [fx_fineness, fx_begin, Tab.at, hmul, ht, mok, hmv]
        · simp [fx_fineness, fx_begin, Tab.at, hmul, ht]) ⟨none, none, rfl⟩
    obtain ⟨ρ', e, s, t, rfl⟩ := key
    simp [S_M_Clock___le__, SB_M_Clock___le__, runDef, start0, fx_fineness, fx_begin, fx_bound, ic_Clock, isiC, Tab.at, r1] at e ⊢
    simp [e]
def en (s b f g e h c p a k n t m d l y o w q r u z : Option D) : Mi.Env := [s, b, f, g, e, h, c, p, a, k, n, t, m, d, l, y, o, w, q, r, u, z]
theorem divOk_of {n : Int} (h0 : 0 < n) (h1 : n < 10 ^ 60) : divOk n := ⟨h0, by
  have h : n.natAbs < 10 ^ 60 := by omega
  have h2 : n.natAbs ≠ 0 := by omega
  refine (Nat.log2_lt h2).mpr (Nat.lt_trans h ?_)
  exact Nat.lt_of_lt_of_le (show 10 ^ 60 < 2 ^ 200 by decide) (Nat.pow_le_pow_right (by decide) (by decide))⟩
theorem q0 (ns : List Int) : ST_law_0 (en (some (.scr ns)) none none none none none none none none none none none none none none none none none none none none none) = .ok .nx (en (some (.scr ns)) (some (.lst [.lst (ns.map .int), .int 0, .int 0, .int 0, .int 0])) none none none none none none none none none none none none none none none none none none none none) := by
  simp [ST_law_0, en, box_ok]
theorem q1 (s b : D) (hb : Box b) : ∃ f b', ST_law_1 (en (some s) (some b) none none none none none none none none none none none none none none none none none none none none) = .ok .nx (en (some s) (some b') (some (.int f)) none none none none none none none none none none none none none none none none none none none) ∧ 1 ≤ f ∧ f ≤ 12 ∧ Box b' := by
  obtain ⟨d, b', h1, h2, h3, h4⟩ := draw_ok hb (n := 12) (divOk_of (by decide) (by decide))
  exact ⟨1 + d, b', by simp [ST_law_1, en, h1], by omega, by omega, h4⟩
theorem q2 (s b f : D) (hb : Box b) : ∃ g b', ST_law_2 (en (some s) (some b) (some f) none none none none none none none none none none none none none none none none none none none) = .ok .nx (en (some s) (some b') (some f) (some (.int g)) none none none none none none none none none none none none none none none none none none) ∧ 0 ≤ g ∧ g < 10 ^ 40 ∧ Box b' := by
  obtain ⟨d1, b1, h1, h2, h3, hb1⟩ := draw_ok hb (n := 41) (divOk_of (by decide) (by decide))
  obtain ⟨d2, b2, k1, k2, k3, hb2⟩ := draw_ok hb1 (n := 10000000000000000000000000000000000000000) (divOk_of (by decide) (by decide))
  obtain ⟨d3, b3, m1, m2, m3, hb3⟩ := draw_ok hb2 (n := 3) (divOk_of (by decide) (by decide))
  have p1 : powOk 10 40 := by decide
  have l3 : 3 ≤ LIM := by decide
  obtain ⟨k, rfl⟩ := Int.eq_ofNat_of_zero_le m2
  match k, m3 with
  | 0, _ => exact ⟨d1, b3, by simp [ST_law_2, en, h1, k1, m1, p1, l3], h2, by omega, hb3⟩
  | 1, _ => exact ⟨d2, b3, by simp [ST_law_2, en, h1, k1, m1, p1, l3], k2, by omega, hb3⟩
  | 2, _ => exact ⟨9999999999999999999999999999999999999999, b3, by simp [ST_law_2, en, h1, k1, m1, p1, l3], by decide, by decide, hb3⟩
  | k + 3, h => omega
theorem q3 (s b f g : D) (hb : Box b) : ∃ e b', ST_law_3 (en (some s) (some b) (some f) (some g) none none none none none none none none none none none none none none none none none none) = .ok .nx (en (some s) (some b') (some f) (some g) (some (eD e)) none none none none none none none none none none none none none none none none none) ∧ EOk e ∧ Box b' := by
  obtain ⟨d1, b1, h1, h2, h3, hb1⟩ := draw_ok hb (n := 13) (divOk_of (by decide) (by decide))
  obtain ⟨d3, b3, m1, m2, m3, hb3⟩ := draw_ok hb1 (n := 2) (divOk_of (by decide) (by decide))
  have l3 : 2 ≤ LIM := by decide
  obtain ⟨k, rfl⟩ := Int.eq_ofNat_of_zero_le m2
  match k, m3 with
  | 0, _ => exact ⟨none, b3, by simp [ST_law_3, en, h1, m1, l3, eD], trivial, hb3⟩
  | 1, _ => exact ⟨some d1, b3, by simp [ST_law_3, en, h1, m1, l3, eD], ⟨h2, by omega⟩, hb3⟩
  | k + 2, h => omega
theorem good_e {j : Nat} (e : Option Int) : Good j (eD e) := by cases e <;> exact .scal trivial
theorem good_hands {f b : Int} {e : Option Int} : Good 3 (.tup [.int f, .int b, eD e]) := by
  refine .inr ⟨_, .inl rfl, by show 3 < LIM; decide, fun x hx => ?_⟩
  simp only [List.mem_cons, List.not_mem_nil, or_false] at hx
  rcases hx with rfl | rfl | rfl
  · exact .scal trivial
  · exact .scal trivial
  · exact good_e e
theorem cnt_ok : PyData.canLay0 (.str "count") = true := by decide +kernel
theorem good_cnt {n : Int} : Good 3 (.tup [.str "count", .int n]) := by
  refine .inr ⟨_, .inl rfl, by show 2 < LIM; decide, fun x hx => ?_⟩
  simp only [List.mem_cons, List.not_mem_nil, or_false] at hx
  rcases hx with rfl | rfl
  · exact .scal cnt_ok
  · exact .scal trivial
theorem dNe_cnt {n : Int} : dEqB true (.tup [.str "count", .int n]) (.tup [.str "count", .int n]) = some (.bl false) := by
  have e : SeqAt.shaped (.tuple [.str "count", .int n]) = true := by
    have := cnt_ok
    simp only [PyData.canLay0] at this
    simp [SeqAt.shaped, PyData.canLay0, PyData.canLayAll0, PyData.depth, PyData.depthAll, this]
  simp [dEqB, toPy, toPyL, e, PyData.eqv, PyData.eqvAll]
section
variable {f g : Int} {e : Option Int} {form : D} (h : VOk f g e) (s b : D)
include h
theorem q5 : ST_law_5 (en (some s) (some b) (some (.int f)) (some (.int g)) (some (eD e)) (some (.tup [.int f, .int g, eD e])) none none none none none none none none none none none none none none none none) = .ok .nx (en (some s) (some b) (some (.int f)) (some (.int g)) (some (eD e)) (some (.tup [.int f, .int g, eD e])) none none none none none none none none none none none none none none none none) := by
  simp [ST_law_5, en, made_ok h, same_ok good_hands]
theorem q6 : ∃ form, ST_law_6 (en (some s) (some b) (some (.int f)) (some (.int g)) (some (eD e)) (some (.tup [.int f, .int g, eD e])) none none none none none none none none none none none none none none none none) = .ok .nx (en (some s) (some b) (some (.int f)) (some (.int g)) (some (eD e)) (some (.tup [.int f, .int g, eD e])) (some (.obj 2 [.int f, .int g, eD e, form])) none none none none none none none none none none none none none none none) := by
  obtain ⟨form, hi⟩ := init_ok h
  exact ⟨form, by simp [ST_law_6, en, gD3, hi]⟩
end
theorem v10 : VOk 1 0 none := ⟨by decide, by decide, by decide, trivial⟩
theorem v70 : VOk 7 0 none := ⟨by decide, by decide, by decide, trivial⟩
theorem q7 (s b f g e h c : D) : ∃ form, ST_law_7 (en (some s) (some b) (some f) (some g) (some e) (some h) (some c) none none none none none none none none none none none none none none none) = .ok .nx (en (some s) (some b) (some f) (some g) (some e) (some h) (some c) (some (.obj 2 [.int 1, .int 0, .non, form])) none none none none none none none none none none none none none none) := by
  obtain ⟨form, hi⟩ := init_ok v10
  simp only [eD] at hi
  exact ⟨form, by simp [ST_law_7, en, gD_Clock_0, hi]⟩
theorem q8 (s b f g e h c form : D) : ST_law_8 (en (some s) (some b) (some f) (some g) (some e) (some h) (some c) (some (.obj 2 [.int 1, .int 0, .non, form])) none none none none none none none none none none none none none none) = .ok .nx (en (some s) (some b) (some f) (some g) (some e) (some h) (some c) (some (.obj 2 [.int 1, .int 0, .non, form])) none none none none none none none none none none none none none none) := by
  obtain ⟨form', hi⟩ := init_ok v70
  have hc := call_ok (form := form') (t := 20) v70 (by decide)
  have hs : shows 7 0 none 20 = 2 := by decide
  rw [hs] at hc
  have hg := same_ok (good_hands (f := 1) (b := 0) (e := none))
  have h2 := same_ok (d := .int 2) (.scal trivial)
  simp only [eD] at hi hc hg
  have l3 : 3 ≤ LIM := by decide
  simp [ST_law_8, en, gD_Clock_1, hi, hc, hg, h2, fx_fineness, fx_begin, fx_bound, Tab.at, l3]
/-- the asks: numbers from 0 on, up to some bound -/
def PA (d : D) : Prop := ∃ i : Int, 0 ≤ i ∧ d = .int i
/-- the state behind the eighth statement -/
def es (s : D) (b : D) (f g : Int) (e : Option Int) (form form1 : D) (a k n t m d l y o w q r u z : Option D) : Mi.Env :=
  en (some s) (some b) (some (.int f)) (some (.int g)) (some (eD e)) (some (.tup [.int f, .int g, eD e])) (some (.obj 2 [.int f, .int g, eD e, form])) (some (.obj 2 [.int 1, .int 0, .non, form1])) a k n t m d l y o w q r u z
section
variable {f g : Int} {e : Option Int} {form form1 : D} (h : VOk f g e) (s : D)
theorem q9 (b : D) (hb : Box b) : ∃ A b', ST_law_9 (es s b f g e form form1 none none none none none none none none none none none none none none) = .ok .nx (es s b' f g e form form1 (some (.lst A)) none none none none none none none none none none none none none) ∧ (∀ x ∈ A, PA x) ∧ A.length = 34 ∧ Box b' := by
  have p1 : powOk 10 39 := by decide
  obtain ⟨xs, ρ', e1, hP, ⟨b', hb', rfl⟩, hl⟩ := loopC_inv (tg := gtName 9) (m := eCall (S__law_draw) [some 1, none] [.o, .p] [] (aSlot 1 (aCons (e2 dPow (eC (.int 10)) (eC (.int 39))) (aNil)))) (vs := [9])
    (fun ρ => ∃ b', Box b' ∧ ρ = es s b' f g e form form1 none none none none none none none none none none none none none none) PA (ds := rngD 0 3) (acc := []) (ρ := es s b f g e form form1 none none none none none none none none none none none none none none)
    (fun d hd ρ ⟨b1, hb1, hρ⟩ => by
      subst hρ
      obtain ⟨x, b2, h1, h2, h3, h4⟩ := draw_ok hb1 (n := 1000000000000000000000000000000000000000) (divOk_of (by decide) (by decide))
      exact ⟨_, .int x, es s b2 f g e form form1 none (some d) none none none none none none none none none none none none, rfl, by simp [es, en, p1, h1], ⟨x, h2, rfl⟩, b2, h4, by simp [es, en]⟩) (by rw [rngD_length]; decide) ⟨b, hb, rfl⟩ (fun x hx => by simp at hx)
  rw [rngD_length] at hl
  refine ⟨xs ++ rngD 0 30 ++ [.int (10 ^ 39)], b', ?_, fun x hx => ?_, ?_, hb'⟩
  · have l1 : 1 ≤ LIM := by decide
    have l2 : xs.length + (rngD 0 30).length ≤ LIM := by rw [hl, rngD_length]; decide
    have l3 : xs.length + (rngD 0 30).length + 1 ≤ LIM := by rw [hl, rngD_length]; decide
    have r1 : rgOk 0 30 = true := by decide
    simp only [es, en] at e1 ⊢
    simp [ST_law_9, dLRg, r1, e1, p1, l1, l2, l3]
  · rcases List.mem_append.mp hx with hx | hx
    · rcases List.mem_append.mp hx with hx | hx
      · exact hP x hx
      · obtain ⟨i, hi, rfl⟩ := rngD_mem hx
        exact ⟨_, by omega, rfl⟩
    · simp only [List.mem_singleton] at hx
      exact ⟨_, by decide, hx⟩
  · simp [hl, rngD_length]
theorem q10s (b : D) (hb : Box b) (A : List D) (hA : ∀ x ∈ A, PA x) (hl : A.length ≤ 100) (h : VOk f g e) (kk : D) (n t : Option D) : ∃ A' b' n', (mSeq (mAsg 10 (e2 dSub (e2 dMul (e2 dAdd (eCall (S__law_draw) [some 1, none] [.o, .p] [] (aSlot 1 (aCons (eC (.int 14)) (aNil)))) (eC (.int 1))) (eVar 2)) (eVar 3)))
  (mAsg 8 (e2 dAdd (eVar 8) (eLc [11] (iLst (eLst (aCons (e2 dSub (eVar 10) (eC (.int 1))) (aCons (eVar 10) (aCons (e2 dAdd (eVar 10) (eC (.int 1))) (aNil)))))) (gtName 11) (mBool (e2 dGe (eVar 11) (eC (.int 0)))) (eVar 11))))) (es s b f g e form form1 (some (.lst A)) (some kk) n t none none none none none none none none none none) =
    .ok .nx (es s b' f g e form form1 (some (.lst A')) (some kk) n' t none none none none none none none none none none) ∧ (∀ x ∈ A', PA x) ∧ A'.length ≤ A.length + 3 ∧ Box b' := by
  obtain ⟨x, b2, h1, h2, h3, h4⟩ := draw_ok hb (n := 14) (divOk_of (by decide) (by decide))
  have hm : mulOk (x + 1) f := mulSm (sm_of (by have := h.f1; omega) (by have := h.f2; omega))
  generalize hw : (x + 1) * f - g = w
  have key := loopC_filter (tg := gtName 11) (t := mBool (e2 dGe (eVar 11) (eC (.int 0)))) (m := eVar 11) (vs := [11]) (ρ := es s b2 f g e form form1 (some (.lst A)) (some kk) (some (.int w)) none none none none none none none none none none none)
    (tkD fun i => decide (0 ≤ i)) id (ds := [.int (w - 1), .int w, .int (w + 1)]) (acc := []) (fun d hd => by
      obtain ⟨i, rfl⟩ : ∃ i : Int, d = .int i := by
        simp only [List.mem_cons, List.not_mem_nil, or_false] at hd
        rcases hd with rfl | rfl | rfl <;> exact ⟨_, rfl⟩
      refine ⟨es s b2 f g e form form1 (some (.lst A)) (some kk) (some (.int w)) (some (.int i)) none none none none none none none none none none, es s b2 f g e form form1 (some (.lst A)) (some kk) (some (.int w)) (some (.int i)) none none none none none none none none none none, rfl, by simp [es, en, tkD], ?_⟩
      by_cases hi : 0 ≤ i
      · exact .inl ⟨by simpa [tkD] using hi, es s b2 f g e form form1 (some (.lst A)) (some kk) (some (.int w)) (some (.int i)) none none none none none none none none none none, by simp [es, en], by simp [es, en]⟩
      · exact .inr ⟨by simpa [tkD] using hi, by simp [es, en]⟩) (by show 0 + 3 ≤ LIM; decide)
  rw [List.nil_append, List.map_id] at key
  have hf : ((([.int (w - 1), .int w, .int (w + 1)] : List D).filter (tkD fun i => decide (0 ≤ i)))).length ≤ 3 := List.length_filter_le _ _
  refine ⟨A ++ ([.int (w - 1), .int w, .int (w + 1)] : List D).filter (tkD fun i => decide (0 ≤ i)), b2, some (.int w), ?_, fun y hy => ?_, by rw [List.length_append]; omega, h4⟩
  · have l3 : 3 ≤ LIM := by decide
    have l4 : A.length + (([.int (w - 1), .int w, .int (w + 1)] : List D).filter (tkD fun i => decide (0 ≤ i))).length ≤ LIM := by
      have : LIM = 1000000 := (rfl)
      omega
    generalize hX : (([.int (w - 1), .int w, .int (w + 1)] : List D).filter (tkD fun i => decide (0 ≤ i))) = X at key l4 ⊢
    simp only [es, en] at key ⊢
    simp [h1, hm, hw, l3, key, l4]
  · rcases List.mem_append.mp hy with hy | hy
    · exact hA y hy
    · obtain ⟨h5, h6⟩ := List.mem_filter.mp hy
      simp only [List.mem_cons, List.not_mem_nil, or_false] at h5
      rcases h5 with rfl | rfl | rfl <;> exact ⟨_, by simpa [tkD] using h6, rfl⟩
end
theorem rng3 : rngD 0 3 = [.int 0, .int 1, .int 2] := rfl
theorem rng7 : rngD 0 7 = [.int 0, .int 1, .int 2, .int 3, .int 4, .int 5, .int 6] := rfl
section
variable {f g : Int} {e : Option Int} {form form1 : D} (h : VOk f g e) (s : D)
theorem q10 (b : D) (hb : Box b) (A : List D) (hA : ∀ x ∈ A, PA x) (hl : A.length = 34) (h : VOk f g e) : ∃ A' b' k n t, ST_law_10 (es s b f g e form form1 (some (.lst A)) none none none none none none none none none none none none none) = .ok .nx (es s b' f g e form form1 (some (.lst A')) k n t none none none none none none none none none none) ∧ (∀ x ∈ A', PA x) ∧ A'.length ≤ 100 ∧ Box b' := by
  obtain ⟨A1, b1, n1, e1, p1, l1, hb1⟩ := q10s (form := form) (form1 := form1) s b hb A hA (by omega) h (.int 0) none none
  obtain ⟨A2, b2, n2, e2, p2, l2, hb2⟩ := q10s (form := form) (form1 := form1) s b1 hb1 A1 p1 (by omega) h (.int 1) n1 none
  obtain ⟨A3, b3, n3, e3, p3, l3, hb3⟩ := q10s (form := form) (form1 := form1) s b2 hb2 A2 p2 (by omega) h (.int 2) n2 none
  refine ⟨A3, b3, some (.int 2), n3, none, ?_, p3, by omega, hb3⟩
  have g1 : ∀ (a n t : Option D) (b d : D) (k : Option D), gtName 9 d (es s b f g e form form1 a k n t none none none none none none none none none none) = some (es s b f g e form form1 a (some d) n t none none none none none none none none none none) := fun a n t b d k => by simp [es, en]
  unfold ST_law_10
  rw [ev_for, ev_iR1, ev_c, R.bind_ok]
  simp only [rgSm_lit, decide_true, if_true, Nat.reduceLT, R.bind_ok, Int.reduceToNat, rng3, loopL_cons, g1, e1, e2, e3, loopL_nil]
theorem q11 (b : D) (A : List D) (hA : ∀ x ∈ A, PA x) (h : VOk f g e) (k n t : Option D) : ∃ t', ST_law_11 (es s b f g e form form1 (some (.lst A)) k n t none none none none none none none none none none) = .ok .nx (es s b f g e form form1 (some (.lst A)) k n t' none none none none none none none none none none) := by
  obtain ⟨ρ', e1, t', rfl⟩ := loopL_inv (tg := gtName 11) (m := mIf (mOr (mNot (mTruth (eCall (S__law_same) [none, none] [.p, .p] [] (aCons (eInst 2 2 (S_M_Clock___call__) (eVar 6) (aCons (eVar 11) (aNil))) (aCons (eCall (S__law_shows) [none, none] [.p, .p] [] (aCons (eVar 5) (aCons (eVar 11) (aNil)))) (aNil)))))) (mNot (mTruth (eCall (S__law_same) [none, none] [.p, .p] [] (aCons (eInst 2 2 (S_M_Clock___call__) (eVar 7) (aCons (eVar 11) (aNil))) (aCons (eVar 11) (aNil))))))) (mRet (eC (.bl false))) (mNx))
    (fun ρ => ∃ t, ρ = es s b f g e form form1 (some (.lst A)) k n t none none none none none none none none none none) (ds := A) (ρ := es s b f g e form form1 (some (.lst A)) k n t none none none none none none none none none none)
    (fun d hd ρ ⟨t, hρ⟩ => by
      subst hρ
      obtain ⟨i, hi, rfl⟩ := hA d hd
      have c1 := call_ok (form := form) h hi
      have c2 := call_ok (form := form1) v10 hi
      have s2 : shows 1 0 none i = i := by simp [shows]
      rw [s2] at c2
      simp only [eD] at c2
      have c3 := lshows_ok (t := i) h
      have c4 := same_ok (d := .int i) (.scal trivial)
      have c5 := same_ok (d := .int (shows f g e i)) (.scal trivial)
      exact ⟨_, _, rfl, by simp [es, en, c1, c2, c3, c4, c5]; rfl, some (.int i), by simp [es, en]⟩) ⟨t, rfl⟩
  refine ⟨t', ?_⟩
  simp only [es, en] at e1 ⊢
  simp [ST_law_11, e1]
theorem q12 (b : D) (hb : Box b) (a k n t : Option D) : ∃ most b', ST_law_12 (es s b f g e form form1 a k n t none none none none none none none none none none) = .ok .nx (es s b' f g e form form1 a k n t (some (.int most)) none none none none none none none none none) ∧ 0 ≤ most ∧ most ≤ 400 ∧ Box b' := by
  obtain ⟨d1, b1, h1, h2, h3, hb1⟩ := draw_ok hb (n := 60) (divOk_of (by decide) (by decide))
  obtain ⟨d3, b3, m1, m2, m3, hb3⟩ := draw_ok hb1 (n := 3) (divOk_of (by decide) (by decide))
  have l3 : 3 ≤ LIM := by decide
  obtain ⟨j, rfl⟩ := Int.eq_ofNat_of_zero_le m2
  match j, m3 with
  | 0, _ => exact ⟨d1, b3, by simp [ST_law_12, es, en, h1, m1, l3], h2, by omega, hb3⟩
  | 1, _ => exact ⟨400, b3, by simp [ST_law_12, es, en, h1, m1, l3], by decide, by decide, hb3⟩
  | 2, _ => exact ⟨0, b3, by simp [ST_law_12, es, en, h1, m1, l3], by decide, by decide, hb3⟩
  | j + 3, hh => omega
def due (f g : Int) (e : Option Int) (most : Int) : List D := (rngD 1 most.toNat).filter (tkD (mv f g e))
theorem q13 (h : VOk f g e) (b : D) (a k n t : Option D) (most : Int) (h0 : 0 ≤ most) (h4 : most ≤ 400) : ST_law_13 (es s b f g e form form1 a k n t (some (.int most)) none none none none none none none none none) = .ok .nx (es s b f g e form form1 a k n t (some (.int most)) (some (.lst (due f g e most))) none none none none none none none none) := by
  have key := loopC_filter (tg := gtName 21) (t := mBool (e2 dGt (eCall (S__law_shows) [none, none] [.p, .p] [] (aCons (eVar 5) (aCons (eVar 21) (aNil)))) (eCall (S__law_shows) [none, none] [.p, .p] [] (aCons (eVar 5) (aCons (e2 dSub (eVar 21) (eC (.int 1))) (aNil)))))) (m := eVar 21) (vs := [21]) (ρ := es s b f g e form form1 a k n t (some (.int most)) none none none none none none none none none)
    (tkD (mv f g e)) id (ds := rngD 1 most.toNat) (acc := []) (fun d hd => by
      obtain ⟨i, hi, rfl⟩ := rngD_mem hd
      have c1 := lshows_ok (t := 1 + i) h
      have c2 := lshows_ok (t := 1 + i - 1) h
      have c3 := shows_step (t := 1 + i) h (by omega)
      refine ⟨es s b f g e form form1 a k n t (some (.int most)) none none none none none none none none (some (.int (1 + i))), es s b f g e form form1 a k n t (some (.int most)) none none none none none none none none (some (.int (1 + i))), rfl, ?_, ?_⟩
      · generalize (1 + (i : Int)) = z at c1 c2 c3 ⊢
        simp [es, en, c1, c2, tkD, c3]
      · cases hb : mv f g e (1 + i) with
        | true => exact .inl ⟨hb, es s b f g e form form1 a k n t (some (.int most)) none none none none none none none none (some (.int (1 + i))), by simp [es, en], by simp [es, en]⟩
        | false => exact .inr ⟨hb, by simp [es, en]⟩) (by rw [rngD_length]; simp [LIM]; omega)
  rw [List.nil_append, List.map_id] at key
  have r1 : rgSm (most + 1) = true := rgSm_of (by omega)
  simp only [es, en] at key ⊢
  simp [ST_law_13, r1, key, due]
theorem due_len (most : Int) (h0 : 0 ≤ most) (h4 : most ≤ 400) : (due f g e most).length ≤ 400 := by
  unfold due
  refine Nat.le_trans (List.length_filter_le _ _) ?_
  rw [rngD_length]; omega
theorem due_good (most : Int) (h0 : 0 ≤ most) (h4 : most ≤ 400) : Good 3 (.lst (due f g e most)) := by
  refine .inr ⟨_, .inr rfl, ?_, fun x hx => ?_⟩
  · have := due_len (f := f) (g := g) (e := e) most h0 h4
    have e : LIM = 1000000 := (rfl)
    omega
  · unfold due at hx
    obtain ⟨i, _, rfl⟩ := rngD_mem (List.mem_filter.mp hx).1
    exact .scal trivial
theorem q14 (h : VOk f g e) (b : D) (a k n t d : Option D) (most : Int) (h0 : 0 ≤ most) (h4 : most ≤ 400) : ST_law_14 (es s b f g e form form1 a k n t (some (.int most)) d none none none none none none none none) = .ok .nx (es s b f g e form form1 a k n t (some (.int most)) d (some (.lst (due f g e most))) none none none none none none none) := by
  have c := turns_ok (form := form) h h0 h4
  simp [ST_law_14, es, en, c, due]
theorem q15 (b : D) (a k n t : Option D) (most : Int) (h0 : 0 ≤ most) (h4 : most ≤ 400) : ST_law_15 (es s b f g e form form1 a k n t (some (.int most)) (some (.lst (due f g e most))) (some (.lst (due f g e most))) none none none none none none none) = .ok .nx (es s b f g e form form1 a k n t (some (.int most)) (some (.lst (due f g e most))) (some (.lst (due f g e most))) none none none none none none none) := by
  have c := same_ok (due_good (f := f) (g := g) (e := e) most h0 h4)
  simp [ST_law_15, es, en, c]
theorem q16 (b : D) (a k n t : Option D) (most : Int) (h0 : 0 ≤ most) (h4 : most ≤ 400) : ST_law_16 (es s b f g e form form1 a k n t (some (.int most)) (some (.lst (due f g e most))) (some (.lst (due f g e most))) none none none none none none none) = .ok .nx (es s b f g e form form1 a k n t (some (.int most)) (some (.lst (due f g e most))) (some (.lst (due f g e most ++ [.int 0]))) none none none none none none none) := by
  have l : (due f g e most).length < LIM := by
    have := due_len (f := f) (g := g) (e := e) most h0 h4
    have e : LIM = 1000000 := (rfl)
    omega
  simp [ST_law_16, es, en, l]
theorem q17 (h : VOk f g e) (b : D) (a k n t l : Option D) (most : Int) (h0 : 0 ≤ most) (h4 : most ≤ 400) : ST_law_17 (es s b f g e form form1 a k n t (some (.int most)) (some (.lst (due f g e most))) l none none none none none none none) = .ok .nx (es s b f g e form form1 a k n t (some (.int most)) (some (.lst (due f g e most))) l none none none none none none none) := by
  have c := turns_ok (form := form) h h0 h4
  have c1 := same_ok (due_good (f := f) (g := g) (e := e) most h0 h4)
  have c2 := asked_neg (t := -1) (c := [.int f, .int g, eD e, form]) (by decide)
  have l2 : 2 ≤ LIM := by decide
  have c3 := dNe_cnt (n := -1)
  unfold due at c1 ⊢
  simp [ST_law_17, es, en, c, c1, c2, l2, c3]
end
section
variable {f g : Int} {e : Option Int} {form form1 : D} (s : D)
theorem blsOf_true {α : Type} (l : List α) : blsOf (l.map fun _ => D.bl true) = some (l.map fun _ => true) := blsOf_rep l
theorem q18 (h : VOk f g e) (b : D) (A : List D) (hA : ∀ x ∈ A, PA x) (hlA : A.length ≤ 100) (k n t m d l : Option D) : ∃ y o w q, ST_law_18 (es s b f g e form form1 (some (.lst A)) k n t m d l none none none none none none none) = .ok .nx (es s b f g e form form1 (some (.lst A)) k n t m d l y o w q none none none) := by
  obtain ⟨ρ', e1, y, o, w, q, rfl⟩ := loopL_inv (tg := gtName 15) (m := mSeq (mAsg 16 (eAnd (e2 dGt (eVar 15) (eC (.int 0))) (e2 dLe (e2 dMul (eVar 2) (eVar 15)) (eC (.int 12)))))
  (mSeq (mAsg 17 (eIf (mTruth (eVar 16)) (eTup (aCons (e2 dMul (eVar 2) (eVar 15)) (aCons (eVar 3) (aCons (eIf (mBool (e2 dIs (eVar 4) (eC .non))) (eC .non) (e2 dFdv (eVar 4) (eVar 15))) (aNil))))) (eTup (aCons (eC (.str "count")) (aCons (eVar 15) (aNil))))))
  (mSeq (mIf (mNot (mTruth (eCall (S__law_same) [none, none] [.p, .p] [] (aCons (eCall (S__law_coarser) [none, none] [.p, .p] [] (aCons (eVar 6) (aCons (eVar 15) (aNil)))) (aCons (eVar 17) (aNil)))))) (mRet (eC (.bl false))) (mNx))
  (mIf (mTruth (eVar 16)) (mSeq (mAsg 18 (eMeth 2 (S_M_Clock_coarser) [none] [.p] [] (eVar 6) (aCons (eVar 15) (aNil))))
  (mIf (mOr (mNot (mBool (e2 (dOwn 2 cs_Clock S_M_Clock___le__) (eVar 18) (eVar 6)))) (mNot (mTruth (eB fAll (aCons (eLc [21] (iLst (eVar 8)) (gtName 21) (tYesM) (eCall (S__law_same) [none, none] [.p, .p] [] (aCons (eInst 2 2 (S_M_Clock___call__) (eVar 18) (aCons (eVar 21) (aNil))) (aCons (eCall (S__law_shows) [none, none] [.p, .p] [] (aCons (eVar 17) (aCons (eVar 21) (aNil)))) (aNil))))) (aNil)))))) (mRet (eC (.bl false))) (mNx))) (mNx)))))
    (fun ρ => ∃ y o w q, ρ = es s b f g e form form1 (some (.lst A)) k n t m d l y o w q none none none) (ds := rngD 0 14) (ρ := es s b f g e form form1 (some (.lst A)) k n t m d l none none none none none none none)
    (fun dd hd ρ ⟨y, o, w, q, hρ⟩ => by
      subst hρ
      obtain ⟨i, hi, rfl⟩ := rngD_mem hd
      have hj1 : (0 : Int) ≤ 0 + i := by omega
      have hj2 : (0 : Int) + i < 14 := by omega
      generalize (0 : Int) + (i : Nat) = j at hj1 hj2 ⊢
      have hmul : mulOk f j := mulSm (sm_of (by omega) (by omega))
      have l3 : 3 ≤ LIM := by decide
      have l2 : 2 ≤ LIM := by decide
      by_cases h1 : 0 < j
      · by_cases h2 : f * j ≤ 12
        · have hc := co_ok h h1 h2
          have c1 := lcoarser_ok (form := form) h h1 h2
          obtain ⟨form2, c2⟩ := coarser_ok (form := form) h h1 h2
          have c3 := le_ok (form := form) (form' := form2) h h1 h2
          have c4 := same_ok (good_hands (f := f * j) (b := g) (e := coE e j))
          have hdj : divOk j := divOk_sm (by omega) (by omega)
          have key := loopC_map (tg := gtName 21) (m := eCall (S__law_same) [none, none] [.p, .p] [] (aCons (eInst 2 2 (S_M_Clock___call__) (eVar 18) (aCons (eVar 21) (aNil))) (aCons (eCall (S__law_shows) [none, none] [.p, .p] [] (aCons (eVar 17) (aCons (eVar 21) (aNil)))) (aNil)))) (vs := [21])
            (ρ := es s b f g e form form1 (some (.lst A)) k n t m d l (some (.int j)) (some (.bl true)) (some (.tup [.int (f * j), .int g, eD (coE e j)])) (some (.obj 2 [.int (f * j), .int g, eD (coE e j), form2])) none none none) (fun _ => .bl true) (ds := A) (fun x hx => by
              obtain ⟨z, hz, rfl⟩ := hA x hx
              have k1 := call_ok (form := form2) hc hz
              have k2 := lshows_ok (t := z) hc
              have k3 := same_ok (d := .int (shows (f * j) g (coE e j) z)) (.scal trivial)
              exact ⟨_, es s b f g e form form1 (some (.lst A)) k n t m d l (some (.int j)) (some (.bl true)) (some (.tup [.int (f * j), .int g, eD (coE e j)])) (some (.obj 2 [.int (f * j), .int g, eD (coE e j), form2])) none none (some (.int z)), rfl, by simp [es, en, k1, k2, k3], by simp [es, en]⟩) (by have : LIM = 1000000 := (rfl); omega)
          refine ⟨_, es s b f g e form form1 (some (.lst A)) k n t m d l (some (.int j)) (some (.bl true)) (some (.tup [.int (f * j), .int g, eD (coE e j)])) (some (.obj 2 [.int (f * j), .int g, eD (coE e j), form2])) none none none, rfl, ?_, _, _, _, _, rfl⟩
          cases e with
          | none =>
            simp only [es, en, eD, coE, Option.map_none] at key c1 c2 c3 c4 ⊢
            simp [hmul, h1, h2, l3, c1, c2, c3, c4, key, dOwn, cs_Clock, blsOf_true]
          | some mm =>
            simp only [es, en, eD, coE, Option.map_some] at key c1 c2 c3 c4 ⊢
            simp [hmul, h1, h2, l3, hdj, c1, c2, c3, c4, key, dOwn, cs_Clock, blsOf_true]
        · have c1 := lcoarser_bad (form := form) (many := j) h (fun z => h2 z.2)
          have c4 := same_ok (good_cnt (n := j))
          exact ⟨_, es s b f g e form form1 (some (.lst A)) k n t m d l (some (.int j)) (some (.bl false)) (some (.tup [.str "count", .int j])) q none none none, rfl, by simp [es, en, hmul, h1, h2, l2, c1, c4], _, _, _, _, rfl⟩
      · have c1 := lcoarser_bad (form := form) (many := j) h (fun z => h1 z.1)
        have c4 := same_ok (good_cnt (n := j))
        exact ⟨_, es s b f g e form form1 (some (.lst A)) k n t m d l (some (.int j)) (some (.bl false)) (some (.tup [.str "count", .int j])) q none none none, rfl, by simp [es, en, hmul, h1, l2, c1, c4], _, _, _, _, rfl⟩) ⟨none, none, none, none, rfl⟩
  refine ⟨y, o, w, q, ?_⟩
  simp only [es, en] at e1 ⊢
  simp [ST_law_18, e1]
abbrev wrongs : D := .lst [.tup [.int 0, .int 0, .non], .tup [.int 13, .int 0, .non], .tup [.int (-2), .int (-1), .int 13], .tup [.int 1, .int (-1), .non], .tup [.int 12, .int (-7), .int 13], .tup [.int 5, .int 0, .int (-1)], .tup [.int 5, .int 0, .int 13]]
abbrev countl : D := .lst [.int 0, .int 13, .int (-2), .int (-1), .int (-7), .int (-1), .int 13]
theorem q19 (b : D) (a k n t m d l y o w q : Option D) : ST_law_19 (es s b f g e form form1 a k n t m d l y o w q none none none) = .ok .nx (es s b f g e form form1 a k n t m d l y o w q (some wrongs) none none) := by
  have l3 : 3 ≤ LIM := by decide
  have l7 : 7 ≤ LIM := by decide
  simp [ST_law_19, es, en, l3, l7]
theorem q20 (b : D) (a k n t m d l y o w q r : Option D) : ST_law_20 (es s b f g e form form1 a k n t m d l y o w q r none none) = .ok .nx (es s b f g e form form1 a k n t m d l y o w q r (some countl) none) := by
  have l7 : 7 ≤ LIM := by decide
  simp [ST_law_20, es, en, l7]
theorem q21 (b : D) (a k n t m d l y o w q : Option D) : ∃ k', ST_law_21 (es s b f g e form form1 a k n t m d l y o w q (some wrongs) (some countl) none) = .ok .nx (es s b f g e form form1 a k' n t m d l y o w q (some wrongs) (some countl) none) := by
  have c0 := made_ex (init_f (f := 0) (b := 0) (e := .non) (by decide))
  have c1 := made_ex (init_f (f := 13) (b := 0) (e := .non) (by decide))
  have c2 := made_ex (init_f (f := -2) (b := -1) (e := .int 13) (by decide))
  have c3 := made_ex (init_b (f := 1) (b := -1) (e := .non) (by decide) (by decide) (by decide))
  have c4 := made_ex (init_b (f := 12) (b := -7) (e := .int 13) (by decide) (by decide) (by decide))
  have c5 := made_ex (init_e (f := 5) (b := 0) (m := -1) (by decide) (by decide) (by decide) (by decide))
  have c6 := made_ex (init_e (f := 5) (b := 0) (m := 13) (by decide) (by decide) (by decide) (by decide))
  have l2 : 2 ≤ LIM := by decide
  refine ⟨some (.int 6), ?_⟩
  simp [ST_law_21, es, en, rng7, loopL_cons, c0, c1, c2, c3, c4, c5, c6, l2, dNe_cnt]
theorem q22 (ρ : Mi.Env) : ST_law_22 ρ = .ok (.rt (.bl true)) ρ := by
  have c1 := made_ok (f := 12) (b := 0) (e := some 12) ⟨by decide, by decide, by decide, by decide, by decide⟩
  have c2 := made_ok (f := 1) (b := 0) (e := some 0) ⟨by decide, by decide, by decide, by decide, by decide⟩
  have c3 := same_ok (good_hands (f := 12) (b := 0) (e := some 12))
  have c4 := same_ok (good_hands (f := 1) (b := 0) (e := some 0))
  have l3 : 3 ≤ LIM := by decide
  simp only [eD] at c1 c2 c3 c4
  simp [ST_law_22, c1, c2, c3, c4, l3]
end
theorem plain (ns : List Int) : ∃ out, S_law [.scr ns] = .ok (.bl true) out := by
  obtain ⟨f, b1, e1, f1, f2, hb1⟩ := q1 (.scr ns) _ ⟨ns, 0, 0, 0, 0, by decide, rfl⟩
  obtain ⟨g, b2, e2, g1, _, hb2⟩ := q2 (.scr ns) b1 (.int f) hb1
  obtain ⟨e, b3, e3, he, hb3⟩ := q3 (.scr ns) b2 (.int f) (.int g) hb2
  have h : VOk f g e := ⟨f1, f2, g1, he⟩
  have e4 : ST_law_4 (en (some (.scr ns)) (some b3) (some (.int f)) (some (.int g)) (some (eD e)) none none none none none none none none none none none none none none none none none) = .ok .nx (en (some (.scr ns)) (some b3) (some (.int f)) (some (.int g)) (some (eD e)) (some (.tup [.int f, .int g, eD e])) none none none none none none none none none none none none none none none none) := by
    have l3 : 3 ≤ LIM := by decide
    simp [ST_law_4, en, l3]
  have e5 := q5 h (.scr ns) b3
  obtain ⟨form, e6⟩ := q6 h (.scr ns) b3
  obtain ⟨form1, e7⟩ := q7 (.scr ns) b3 (.int f) (.int g) (eD e) (.tup [.int f, .int g, eD e]) (.obj 2 [.int f, .int g, eD e, form])
  have e8 := q8 (.scr ns) b3 (.int f) (.int g) (eD e) (.tup [.int f, .int g, eD e]) (.obj 2 [.int f, .int g, eD e, form]) form1
  obtain ⟨A, b9, e9, hA, lA, hb9⟩ := q9 (f := f) (g := g) (e := e) (form := form) (form1 := form1) (.scr ns) b3 hb3
  obtain ⟨A', b10, k, n, t, e10, hA', lA', hb10⟩ := q10 (form := form) (form1 := form1) (.scr ns) b9 hb9 A hA lA h
  obtain ⟨t', e11⟩ := q11 (form := form) (form1 := form1) (.scr ns) b10 A' hA' h k n t
  obtain ⟨most, b12, e12, m0, m4, hb12⟩ := q12 (f := f) (g := g) (e := e) (form := form) (form1 := form1) (.scr ns) b10 hb10 (some (.lst A')) k n t'
  have e13 := q13 (form := form) (form1 := form1) (.scr ns) h b12 (some (.lst A')) k n t' most m0 m4
  have e14 := q14 (form := form) (form1 := form1) (.scr ns) h b12 (some (.lst A')) k n t' (some (.lst (due f g e most))) most m0 m4
  have e15 := q15 (f := f) (g := g) (e := e) (form := form) (form1 := form1) (.scr ns) b12 (some (.lst A')) k n t' most m0 m4
  have e16 := q16 (f := f) (g := g) (e := e) (form := form) (form1 := form1) (.scr ns) b12 (some (.lst A')) k n t' most m0 m4
  have e17 := q17 (form := form) (form1 := form1) (.scr ns) h b12 (some (.lst A')) k n t' (some (.lst (due f g e most ++ [.int 0]))) most m0 m4
  obtain ⟨y, o, w, q, e18⟩ := q18 (form := form) (form1 := form1) (.scr ns) h b12 A' hA' lA' k n t' (some (.int most)) (some (.lst (due f g e most))) (some (.lst (due f g e most ++ [.int 0])))
  have e19 := q19 (f := f) (g := g) (e := e) (form := form) (form1 := form1) (.scr ns) b12 (some (.lst A')) k n t' (some (.int most)) (some (.lst (due f g e most))) (some (.lst (due f g e most ++ [.int 0]))) y o w q
  have e20 := q20 (f := f) (g := g) (e := e) (form := form) (form1 := form1) (.scr ns) b12 (some (.lst A')) k n t' (some (.int most)) (some (.lst (due f g e most))) (some (.lst (due f g e most ++ [.int 0]))) y o w q (some wrongs)
  obtain ⟨k', e21⟩ := q21 (f := f) (g := g) (e := e) (form := form) (form1 := form1) (.scr ns) b12 (some (.lst A')) k n t' (some (.int most)) (some (.lst (due f g e most))) (some (.lst (due f g e most ++ [.int 0]))) y o w q
  have e0 := q0 ns
  simp only [es] at e9 e10 e11 e12 e13 e14 e15 e16 e17 e18 e19 e20 e21
  refine ⟨none, ?_⟩
  have st : start0 22 [.scr ns] = en (some (.scr ns)) none none none none none none none none none none none none none none none none none none none none none := rfl
  unfold S_law runDef
  rw [st]
  unfold SB_law
  simp only [ev_seq, e0, e1, e2, e3, e4, e5, e6, e7, e8, e9, e10, e11, e12, e13, e14, e15, e16, e17, e18, e19, e20, e21, q22, R.bind_ok]
  simp [en]
end K64

theorem PySem.Challenge.cw_stepstell_k64_clocks_holds : PySem.Challenge.rw_stepstell_k64_clocks.Holds := by
  exact K64.fin fun ns _ => K64.plain ns

